import PyProof.Rows.All
import Wide.All
import OpenK.AllK
import Wide.FinOn
import KE.KStateDown
import HandS.ForMost
import HandS.IsInst
import HandS.Codes
import HandS.Walk
import HandS.Conv
import HandS.Set
import HandS.Strs
import HandS.SetKeys
import HandS.SetBool
import HandS.Style
import HandS.StrMore
import HandS.DictComp
import HandS.Lambda
import HandS.EndTab
import HandS.Defaults
import HandS.Head0
import HandS.Head1
import HandS.Head2
import HandS.HeadEnd
import HandS.HeadHook1
import HandS.HeadHook2
import HandS.HeadHook3
import HandS.HeadHook4
import HandS.HeadWalk
import KE.KDictKeyed
import KE.SortData
import PyProof.ReprRoads
import HandS.SetFor
import PyProof.Rows.SortShellAny
import KE.DataMinKey
import KE.LtData
import KE.KDictDisplayH
import KE.GoesEnum
import KE.GoesMore
import HandS.Small
import PySem.Challenge.RW_backinstep_k29_whole_no_row_keeps_longer
set_option Elab.async false
set_option linter.all false
set_option maxRecDepth 100000
set_option autoImplicit true
set_option maxHeartbeats 4000000
namespace K29
open PySem PySem.Spec PyProof.Rows L2
def topS (i : Nat) : Stmt := PySem.Challenge.pw_backinstep_k29_whole_no_row_keeps_longer.main.body.getD i (.Pass ⟨0, 0, 0, 0⟩)
abbrev s_is_integer : Stmt := topS 13
theorem sc_is_integer : FnScope ["value"] ["value"] (defScope s_is_integer) := ⟨rfl, rfl, rfl, by decide +kernel, rfl, by decide +kernel, by decide +kernel⟩
abbrev s_is_number : Stmt := topS 14
theorem sc_is_number : FnScope ["value"] ["value"] (defScope s_is_number) := ⟨rfl, rfl, rfl, by decide +kernel, rfl, by decide +kernel, by decide +kernel⟩
abbrev s_is_text : Stmt := topS 15
theorem sc_is_text : FnScope ["value"] ["value"] (defScope s_is_text) := ⟨rfl, rfl, rfl, by decide +kernel, rfl, by decide +kernel, by decide +kernel⟩
abbrev s_is_sequence : Stmt := topS 16
theorem sc_is_sequence : FnScope ["value"] ["value"] (defScope s_is_sequence) := ⟨rfl, rfl, rfl, by decide +kernel, rfl, by decide +kernel, by decide +kernel⟩
abbrev s_is_lot_of : Stmt := topS 17
theorem sc_is_lot_of : FnScope ["value", "signals", "signal"] ["value", "signals"] (defScope s_is_lot_of) := ⟨rfl, rfl, rfl, by decide +kernel, rfl, by decide +kernel, by decide +kernel⟩
abbrev s_lot_within : Stmt := topS 18
theorem sc_lot_within : FnScope ["lot", "other", "signal"] ["lot", "other"] (defScope s_lot_within) := ⟨rfl, rfl, rfl, by decide +kernel, rfl, by decide +kernel, by decide +kernel⟩
abbrev s_dev_init : Stmt := inClass (topS 20) 0
theorem sc_dev_init : FnScope ["self", "tables", "at", "table"] ["self", "tables"] (defScope s_dev_init) := ⟨rfl, rfl, rfl, by decide +kernel, rfl, by decide +kernel, by decide +kernel⟩
abbrev s_is_table : Stmt := topS 21
theorem sc_is_table : FnScope ["value", "many", "state"] ["value", "many"] (defScope s_is_table) := ⟨rfl, rfl, rfl, by decide +kernel, rfl, by decide +kernel, by decide +kernel⟩
abbrev s_need_pair : Stmt := topS 23
theorem sc_need_pair : FnScope ["device", "pair"] ["device", "pair"] (defScope s_need_pair) := ⟨rfl, rfl, rfl, by decide +kernel, rfl, by decide +kernel, by decide +kernel⟩
abbrev s_check_family : Stmt := topS 27
theorem sc_check_family : FnScope ["device", "family", "met", "at", "lot"] ["device", "family"] (defScope s_check_family) := ⟨rfl, rfl, rfl, by decide +kernel, rfl, by decide +kernel, by decide +kernel⟩
abbrev s_joined_lot : Stmt := topS 28
theorem sc_joined_lot : FnScope ["one", "other", "signal"] ["one", "other"] (defScope s_joined_lot) := ⟨rfl, rfl, rfl, by decide +kernel, rfl, by decide +kernel, by decide +kernel⟩
abbrev s_has_full : Stmt := topS 29
theorem sc_has_full : FnScope ["lots", "lot", "other"] ["lots", "lot"] (defScope s_has_full) := ⟨rfl, rfl, rfl, by decide +kernel, rfl, by decide +kernel, by decide +kernel⟩
abbrev s_pair_of : Stmt := topS 31
theorem sc_pair_of : FnScope ["one", "other"] ["one", "other"] (defScope s_pair_of) := ⟨rfl, rfl, rfl, by decide +kernel, rfl, by decide +kernel, by decide +kernel⟩
abbrev s_next_node : Stmt := topS 32
theorem sc_next_node : FnScope ["device", "kind", "node", "number", "table"] ["device", "kind", "node", "number"] (defScope s_next_node) := ⟨rfl, rfl, rfl, by decide +kernel, rfl, by decide +kernel, by decide +kernel⟩
abbrev s_joined_classes : Stmt := topS 34
theorem sc_joined_classes : FnScope ["states", "pairs", "home", "one", "other", "low", "high", "at", "found", "state"] ["states", "pairs"] (defScope s_joined_classes) := ⟨rfl, rfl, rfl, by decide +kernel, rfl, by decide +kernel, by decide +kernel⟩
abbrev s_need_many : Stmt := topS 37
theorem sc_need_many : FnScope ["value"] ["value"] (defScope s_need_many) := ⟨rfl, rfl, rfl, by decide +kernel, rfl, by decide +kernel, by decide +kernel⟩
abbrev s_round_rows : Stmt := topS 38
theorem sc_round_rows : FnScope ["device", "lots", "start", "lot", "follow", "rows", "waiting", "found", "at", "here", "heard", "row", "number", "signal", "after", "more"] ["device", "lots", "start", "lot", "follow"] (defScope s_round_rows) := ⟨rfl, rfl, rfl, by decide +kernel, rfl, by decide +kernel, by decide +kernel⟩
abbrev s_pair_rows : Stmt := topS 39
theorem sc_pair_rows : FnScope ["device", "lots", "pair", "lot"] ["device", "lots", "pair", "lot"] (defScope s_pair_rows) := ⟨rfl, rfl, rfl, by decide +kernel, rfl, by decide +kernel, by decide +kernel⟩
abbrev s_pairs_of : Stmt := topS 40
theorem sc_pairs_of : FnScope ["device", "i", "j"] ["device"] (defScope s_pairs_of) := ⟨rfl, rfl, rfl, by decide +kernel, rfl, by decide +kernel, by decide +kernel⟩
abbrev s_pair_web : Stmt := topS 41
theorem sc_pair_web : FnScope ["device", "lots", "pair"] ["device", "lots"] (defScope s_pair_web) := ⟨rfl, rfl, rfl, by decide +kernel, rfl, by decide +kernel, by decide +kernel⟩
abbrev s_levels_of : Stmt := topS 42
theorem sc_levels_of : FnScope ["web", "found", "last", "alive", "node", "after"] ["web"] (defScope s_levels_of) := ⟨rfl, rfl, rfl, by decide +kernel, rfl, by decide +kernel, by decide +kernel⟩
abbrev s_ranks_of : Stmt := topS 43
theorem sc_ranks_of : FnScope ["web", "levels", "found", "number", "alive", "node"] ["web"] (defScope s_ranks_of) := ⟨rfl, rfl, rfl, by decide +kernel, rfl, by decide +kernel, by decide +kernel⟩
abbrev s_groupings_of : Stmt := topS 44
theorem sc_groupings_of : FnScope ["states", "web", "found", "alive", "kept", "pair"] ["states", "web"] (defScope s_groupings_of) := ⟨rfl, rfl, rfl, by decide +kernel, rfl, by decide +kernel, by decide +kernel⟩
abbrev s_tower_groupings : Stmt := topS 45
theorem sc_tower_groupings : FnScope ["device", "family"] ["device", "family"] (defScope s_tower_groupings) := ⟨rfl, rfl, rfl, by decide +kernel, rfl, by decide +kernel, by decide +kernel⟩
abbrev s_rounds_table : Stmt := topS 46
theorem sc_rounds_table : FnScope ["device", "family", "ranks", "pair"] ["device", "family"] (defScope s_rounds_table) := ⟨rfl, rfl, rfl, by decide +kernel, rfl, by decide +kernel, by decide +kernel⟩
abbrev s_first_of : Stmt := topS 47
theorem sc_first_of : FnScope ["rows"] ["rows"] (defScope s_first_of) := ⟨rfl, rfl, rfl, by decide +kernel, rfl, by decide +kernel, by decide +kernel⟩
abbrev s_first_chains : Stmt := topS 48
theorem sc_first_chains : FnScope ["web", "many", "found", "node", "turn", "after", "rows", "later"] ["web", "many"] (defScope s_first_chains) := ⟨rfl, rfl, rfl, by decide +kernel, rfl, by decide +kernel, by decide +kernel⟩
abbrev s_apart_row : Stmt := topS 49
theorem sc_apart_row : FnScope ["device", "family", "pair", "many", "lots"] ["device", "family", "pair", "many"] (defScope s_apart_row) := ⟨rfl, rfl, rfl, by decide +kernel, rfl, by decide +kernel, by decide +kernel⟩
abbrev s_law_box : Stmt := topS 51
theorem sc_law_box : FnScope ["_law_script", "_law_k", "_law_cell", "_law_great"] ["_law_script", "_law_k"] (defScope s_law_box) := ⟨rfl, rfl, rfl, by decide +kernel, rfl, by decide +kernel, by decide +kernel⟩
abbrev s_law_take : Stmt := topS 52
theorem sc_law_take : FnScope ["_law_box_here", "_law_many", "_law_digit", "_law_raw"] ["_law_box_here", "_law_many"] (defScope s_law_take) := ⟨rfl, rfl, rfl, by decide +kernel, rfl, by decide +kernel, by decide +kernel⟩
abbrev s_law_pick : Stmt := topS 53
theorem sc_law_pick : FnScope ["_law_box_here", "_law_some"] ["_law_box_here", "_law_some"] (defScope s_law_pick) := ⟨rfl, rfl, rfl, by decide +kernel, rfl, by decide +kernel, by decide +kernel⟩
abbrev s_law_falling : Stmt := topS 54
theorem sc_law_falling : FnScope ["_law_box_here", "_law_many", "_law_s"] ["_law_box_here", "_law_many"] (defScope s_law_falling) := ⟨rfl, rfl, rfl, by decide +kernel, rfl, by decide +kernel, by decide +kernel⟩
abbrev s_law_table : Stmt := topS 55
theorem sc_law_table : FnScope ["_law_box_here", "_law_many", "_law_style", "_law_s"] ["_law_box_here", "_law_many"] (defScope s_law_table) := ⟨rfl, rfl, rfl, by decide +kernel, rfl, by decide +kernel, by decide +kernel⟩
abbrev s_law_named : Stmt := topS 56
theorem sc_law_named : FnScope ["_law_table_here", "_law_turn", "_law_back", "_law_many", "_law_name", "_law_s"] ["_law_table_here", "_law_turn", "_law_back"] (defScope s_law_named) := ⟨rfl, rfl, rfl, by decide +kernel, rfl, by decide +kernel, by decide +kernel⟩
abbrev s_law_tables : Stmt := topS 57
theorem sc_law_tables : FnScope ["_law_box_here", "_law_sizes", "_law_kinds", "_law_many", "_law_mode", "_law_turn", "_law_found", "_law_k", "_law_table_here", "_law_at"] ["_law_box_here", "_law_sizes", "_law_kinds"] (defScope s_law_tables) := ⟨rfl, rfl, rfl, by decide +kernel, rfl, by decide +kernel, by decide +kernel⟩
abbrev s_law_lots : Stmt := topS 58
theorem sc_law_lots : FnScope ["_law_signals", "_law_found", "_law_signal", "_law_lot"] ["_law_signals"] (defScope s_law_lots) := ⟨rfl, rfl, rfl, by decide +kernel, rfl, by decide +kernel, by decide +kernel⟩
abbrev s_law_family : Stmt := topS 59
theorem sc_law_family : FnScope ["_law_box_here", "_law_signals", "_law_found", "_law_turn", "_law_lot"] ["_law_box_here", "_law_signals"] (defScope s_law_family) := ⟨rfl, rfl, rfl, by decide +kernel, rfl, by decide +kernel, by decide +kernel⟩
abbrev s_law_full : Stmt := topS 60
theorem sc_law_full : FnScope ["_law_lots_here", "_law_heard", "_law_lot", "_law_sign"] ["_law_lots_here", "_law_heard"] (defScope s_law_full) := ⟨rfl, rfl, rfl, by decide +kernel, rfl, by decide +kernel, by decide +kernel⟩
abbrev s_law_more : Stmt := topS 61
theorem sc_law_more : FnScope ["_law_heard", "_law_signal", "_law_sign"] ["_law_heard", "_law_signal"] (defScope s_law_more) := ⟨rfl, rfl, rfl, by decide +kernel, rfl, by decide +kernel, by decide +kernel⟩
abbrev s_law_next : Stmt := topS 62
theorem sc_law_next : FnScope ["_law_tables_here", "_law_pair", "_law_signal", "_law_table_here", "_law_one", "_law_other"] ["_law_tables_here", "_law_pair", "_law_signal"] (defScope s_law_next) := ⟨rfl, rfl, rfl, by decide +kernel, rfl, by decide +kernel, by decide +kernel⟩
abbrev s_law_cuts : Stmt := topS 63
theorem sc_law_cuts : FnScope ["_law_lots_here", "_law_row", "_law_found", "_law_heard", "_law_k"] ["_law_lots_here", "_law_row"] (defScope s_law_cuts) := ⟨rfl, rfl, rfl, by decide +kernel, rfl, by decide +kernel, by decide +kernel⟩
abbrev s_law_behind : Stmt := topS 64
theorem sc_law_behind : FnScope ["_law_tables_here", "_law_pair", "_law_row", "_law_here", "_law_signal"] ["_law_tables_here", "_law_pair", "_law_row"] (defScope s_law_behind) := ⟨rfl, rfl, rfl, by decide +kernel, rfl, by decide +kernel, by decide +kernel⟩
abbrev s_law_pairs : Stmt := topS 65
theorem sc_law_pairs : FnScope ["_law_many", "_law_found", "_law_i", "_law_j"] ["_law_many"] (defScope s_law_pairs) := ⟨rfl, rfl, rfl, by decide +kernel, rfl, by decide +kernel, by decide +kernel⟩
abbrev s_law_within : Stmt := topS 66
theorem sc_law_within : FnScope ["_law_classes", "_law_pair", "_law_states"] ["_law_classes", "_law_pair"] (defScope s_law_within) := ⟨rfl, rfl, rfl, by decide +kernel, rfl, by decide +kernel, by decide +kernel⟩
abbrev s_law_shown : Stmt := topS 67
theorem sc_law_shown : FnScope ["_law_device", "_law_tables_here", "_law_lots_here", "_law_told", "_law_some", "_law_many", "_law_pair", "_law_wanted", "_law_row", "_law_sign"] ["_law_device", "_law_tables_here", "_law_lots_here", "_law_told", "_law_some", "_law_many"] (defScope s_law_shown) := ⟨rfl, rfl, rfl, by decide +kernel, rfl, by decide +kernel, by decide +kernel⟩
abbrev s_law : Stmt := topS 68
theorem sc_law : FnScope ["_law_script", "_law_box_here", "_law_tables_here", "_law_many", "_law_signals", "_law_lots_here", "_law_device", "_law_table_here", "_law_tower", "_law_pair", "_law_most", "_law_told", "_law_now", "_law_one", "_law_at", "_law_classes", "_law_great", "_law_i", "_law_j", "_law_k", "_law_sides", "_law_row", "_law_heard", "_law_cuts_here", "_law_turn", "_law_states", "_law_places", "_law_signal", "_law_s", "_law_some"] ["_law_script"] (defScope s_law) := ⟨rfl, rfl, rfl, by decide +kernel, rfl, by decide +kernel, by decide +kernel⟩
end K29
set_option autoImplicit true
set_option maxHeartbeats 0
namespace K29.Hd0
open PySem PySem.Spec PyProof.Rows L2
def d_is_integer : He.DefD := ⟨("is_integer", none), "is_integer", "is_integer", defArgs s_is_integer, defBody s_is_integer, defScope s_is_integer, [], []⟩
def d_is_number : He.DefD := ⟨("is_number", none), "is_number", "is_number", defArgs s_is_number, defBody s_is_number, defScope s_is_number, [], []⟩
def d_is_text : He.DefD := ⟨("is_text", none), "is_text", "is_text", defArgs s_is_text, defBody s_is_text, defScope s_is_text, [], []⟩
def d_is_sequence : He.DefD := ⟨("is_sequence", none), "is_sequence", "is_sequence", defArgs s_is_sequence, defBody s_is_sequence, defScope s_is_sequence, [], []⟩
def d_is_lot_of : He.DefD := ⟨("is_lot_of", none), "is_lot_of", "is_lot_of", defArgs s_is_lot_of, defBody s_is_lot_of, defScope s_is_lot_of, [], []⟩
def d_lot_within : He.DefD := ⟨("lot_within", none), "lot_within", "lot_within", defArgs s_lot_within, defBody s_lot_within, defScope s_lot_within, [], []⟩
def d_dev_init : He.DefD := ⟨("Device", some "__init__"), "__init__", "Device.__init__", defArgs s_dev_init, defBody s_dev_init, defScope s_dev_init, [], []⟩
def d_is_table : He.DefD := ⟨("is_table", none), "is_table", "is_table", defArgs s_is_table, defBody s_is_table, defScope s_is_table, [], []⟩
def d_need_pair : He.DefD := ⟨("need_pair", none), "need_pair", "need_pair", defArgs s_need_pair, defBody s_need_pair, defScope s_need_pair, [], []⟩
def d_check_family : He.DefD := ⟨("check_family", none), "check_family", "check_family", defArgs s_check_family, defBody s_check_family, defScope s_check_family, [], []⟩
def d_joined_lot : He.DefD := ⟨("joined_lot", none), "joined_lot", "joined_lot", defArgs s_joined_lot, defBody s_joined_lot, defScope s_joined_lot, [], []⟩
def d_has_full : He.DefD := ⟨("has_full", none), "has_full", "has_full", defArgs s_has_full, defBody s_has_full, defScope s_has_full, [], []⟩
def d_pair_of : He.DefD := ⟨("pair_of", none), "pair_of", "pair_of", defArgs s_pair_of, defBody s_pair_of, defScope s_pair_of, [], []⟩
def d_next_node : He.DefD := ⟨("next_node", none), "next_node", "next_node", defArgs s_next_node, defBody s_next_node, defScope s_next_node, [], []⟩
def d_joined_classes : He.DefD := ⟨("joined_classes", none), "joined_classes", "joined_classes", defArgs s_joined_classes, defBody s_joined_classes, defScope s_joined_classes, [], []⟩
def d_need_many : He.DefD := ⟨("need_many", none), "need_many", "need_many", defArgs s_need_many, defBody s_need_many, defScope s_need_many, [], []⟩
def d_round_rows : He.DefD := ⟨("round_rows", none), "round_rows", "round_rows", defArgs s_round_rows, defBody s_round_rows, defScope s_round_rows, [], []⟩
def d_pair_rows : He.DefD := ⟨("pair_rows", none), "pair_rows", "pair_rows", defArgs s_pair_rows, defBody s_pair_rows, defScope s_pair_rows, [], []⟩
def d_pairs_of : He.DefD := ⟨("pairs_of", none), "pairs_of", "pairs_of", defArgs s_pairs_of, defBody s_pairs_of, defScope s_pairs_of, [], []⟩
def d_pair_web : He.DefD := ⟨("pair_web", none), "pair_web", "pair_web", defArgs s_pair_web, defBody s_pair_web, defScope s_pair_web, [], []⟩
def d_levels_of : He.DefD := ⟨("levels_of", none), "levels_of", "levels_of", defArgs s_levels_of, defBody s_levels_of, defScope s_levels_of, [], []⟩
def d_ranks_of : He.DefD := ⟨("ranks_of", none), "ranks_of", "ranks_of", defArgs s_ranks_of, defBody s_ranks_of, defScope s_ranks_of, [], []⟩
def d_groupings_of : He.DefD := ⟨("groupings_of", none), "groupings_of", "groupings_of", defArgs s_groupings_of, defBody s_groupings_of, defScope s_groupings_of, [], []⟩
def d_tower_groupings : He.DefD := ⟨("tower_groupings", none), "tower_groupings", "tower_groupings", defArgs s_tower_groupings, defBody s_tower_groupings, defScope s_tower_groupings, [], []⟩
def d_rounds_table : He.DefD := ⟨("rounds_table", none), "rounds_table", "rounds_table", defArgs s_rounds_table, defBody s_rounds_table, defScope s_rounds_table, [], []⟩
def d_first_of : He.DefD := ⟨("first_of", none), "first_of", "first_of", defArgs s_first_of, defBody s_first_of, defScope s_first_of, [], []⟩
def d_first_chains : He.DefD := ⟨("first_chains", none), "first_chains", "first_chains", defArgs s_first_chains, defBody s_first_chains, defScope s_first_chains, [], []⟩
def d_apart_row : He.DefD := ⟨("apart_row", none), "apart_row", "apart_row", defArgs s_apart_row, defBody s_apart_row, defScope s_apart_row, [], []⟩
def d_law_box : He.DefD := ⟨("_law_box", none), "_law_box", "_law_box", defArgs s_law_box, defBody s_law_box, defScope s_law_box, [], []⟩
def d_law_take : He.DefD := ⟨("_law_take", none), "_law_take", "_law_take", defArgs s_law_take, defBody s_law_take, defScope s_law_take, [], []⟩
def d_law_pick : He.DefD := ⟨("_law_pick", none), "_law_pick", "_law_pick", defArgs s_law_pick, defBody s_law_pick, defScope s_law_pick, [], []⟩
def d_law_falling : He.DefD := ⟨("_law_falling", none), "_law_falling", "_law_falling", defArgs s_law_falling, defBody s_law_falling, defScope s_law_falling, [], []⟩
def d_law_table : He.DefD := ⟨("_law_table", none), "_law_table", "_law_table", defArgs s_law_table, defBody s_law_table, defScope s_law_table, [], []⟩
def d_law_named : He.DefD := ⟨("_law_named", none), "_law_named", "_law_named", defArgs s_law_named, defBody s_law_named, defScope s_law_named, [], []⟩
def d_law_tables : He.DefD := ⟨("_law_tables", none), "_law_tables", "_law_tables", defArgs s_law_tables, defBody s_law_tables, defScope s_law_tables, [], []⟩
def d_law_lots : He.DefD := ⟨("_law_lots", none), "_law_lots", "_law_lots", defArgs s_law_lots, defBody s_law_lots, defScope s_law_lots, [], []⟩
def d_law_family : He.DefD := ⟨("_law_family", none), "_law_family", "_law_family", defArgs s_law_family, defBody s_law_family, defScope s_law_family, [], []⟩
def d_law_full : He.DefD := ⟨("_law_full", none), "_law_full", "_law_full", defArgs s_law_full, defBody s_law_full, defScope s_law_full, [], []⟩
def d_law_more : He.DefD := ⟨("_law_more", none), "_law_more", "_law_more", defArgs s_law_more, defBody s_law_more, defScope s_law_more, [], []⟩
def d_law_next : He.DefD := ⟨("_law_next", none), "_law_next", "_law_next", defArgs s_law_next, defBody s_law_next, defScope s_law_next, [], []⟩
def d_law_cuts : He.DefD := ⟨("_law_cuts", none), "_law_cuts", "_law_cuts", defArgs s_law_cuts, defBody s_law_cuts, defScope s_law_cuts, [], []⟩
def d_law_behind : He.DefD := ⟨("_law_behind", none), "_law_behind", "_law_behind", defArgs s_law_behind, defBody s_law_behind, defScope s_law_behind, [], []⟩
def d_law_pairs : He.DefD := ⟨("_law_pairs", none), "_law_pairs", "_law_pairs", defArgs s_law_pairs, defBody s_law_pairs, defScope s_law_pairs, [], []⟩
def d_law_within : He.DefD := ⟨("_law_within", none), "_law_within", "_law_within", defArgs s_law_within, defBody s_law_within, defScope s_law_within, [], []⟩
def d_law_shown : He.DefD := ⟨("_law_shown", none), "_law_shown", "_law_shown", defArgs s_law_shown, defBody s_law_shown, defScope s_law_shown, [], []⟩
def d_law : He.DefD := ⟨("law", none), "law", "law", defArgs s_law, defBody s_law, defScope s_law, [], []⟩
def fn : List He.DefD := [d_is_integer, d_is_number, d_is_text, d_is_sequence, d_is_lot_of, d_lot_within, d_dev_init, d_is_table, d_need_pair, d_check_family, d_joined_lot, d_has_full, d_pair_of, d_next_node, d_joined_classes, d_need_many, d_round_rows, d_pair_rows, d_pairs_of, d_pair_web, d_levels_of, d_ranks_of, d_groupings_of, d_tower_groupings, d_rounds_table, d_first_of, d_first_chains, d_apart_row, d_law_box, d_law_take, d_law_pick, d_law_falling, d_law_table, d_law_named, d_law_tables, d_law_lots, d_law_family, d_law_full, d_law_more, d_law_next, d_law_cuts, d_law_behind, d_law_pairs, d_law_within, d_law_shown, d_law]
def fa : List He.Fa := [.glo "is_integer", .glo "is_number", .glo "is_text", .glo "is_sequence", .glo "is_lot_of", .glo "lot_within", .glo "is_table", .glo "need_pair", .glo "check_family", .glo "joined_lot", .glo "has_full", .glo "pair_of", .glo "next_node", .glo "joined_classes", .glo "need_many", .glo "round_rows", .glo "pair_rows", .glo "pairs_of", .glo "pair_web", .glo "levels_of", .glo "ranks_of", .glo "groupings_of", .glo "tower_groupings", .glo "rounds_table", .glo "first_of", .glo "first_chains", .glo "apart_row", .glo "_law_box", .glo "_law_take", .glo "_law_pick", .glo "_law_falling", .glo "_law_table", .glo "_law_named", .glo "_law_tables", .glo "_law_lots", .glo "_law_family", .glo "_law_full", .glo "_law_more", .glo "_law_next", .glo "_law_cuts", .glo "_law_behind", .glo "_law_pairs", .glo "_law_within", .glo "_law_shown", .glo "law", .free "abs", .free "all", .free "any", .free "bool", .free "enumerate", .free "int", .free "isinstance", .free "len", .free "list", .free "max", .free "min", .free "range", .free "repr", .free "set", .free "sorted", .free "str", .free "tuple", .str "SIGNALS" "abcde", .int "MOST_STATES" 60, .int "MOST_LOTS" 31, .int "MOST_ROUNDS" 60, .glo "Device", .cls "Device", .mkr "Device", .noat "Device" "states", .noat "Device" "signals", .noat "Device" "tables"]
def tf : List He.Defn := [("pair_rows", none), ("first_of", none)]
def exB (K : PySem.W.Frag) : Bool := !decide ((He.cT K ("pair_rows", none)).2 = (He.cT K ("first_of", none)).2)
abbrev Rw : PySem.W.OpenRow := PySem.W.OpenLaw.row PySem.Challenge.rw_backinstep_k29_whole_no_row_keeps_longer
abbrev hk : PySem.W.Hook := He.hookX 5 fa fn [] tf exB
def ob (s : PySem.W.SharedT) : He.AlX := He.obsX 5 fa fn [] tf exB (HandSHeadRun.getT s)
theorem ob_eq (s : PySem.W.SharedT) : ob s = hk.obs s.abs := He.obsX_eq (HandSHeadRun.getT_eq s)
def loose1 : List PySem.Str := ["_wall", "BackError", "BadDevice", "BadRow", "BadFamily", "Refused", "NoState", "NoPair", "SIGNALS", "MOST_STATES", "MOST_SIGNS", "is_integer", "is_number", "is_text", "is_sequence", "is_lot_of", "lot_within", "Device", "is_table", "need_state", "need_pair", "check_row", "MOST_LOTS", "check_family", "joined_lot", "has_full", "pair_of", "next_node", "joined_classes", "MOST_ROUNDS"]
def loose2 : List PySem.Str := ["need_many", "round_rows", "pair_rows", "pairs_of", "pair_web", "levels_of", "ranks_of", "groupings_of", "tower_groupings", "rounds_table", "first_of", "first_chains", "apart_row", "_law_box", "_law_take", "_law_pick", "_law_falling", "_law_table", "_law_named", "_law_tables", "_law_lots", "_law_family", "_law_full", "_law_more", "_law_next", "_law_cuts", "_law_behind", "_law_pairs", "_law_within", "_law_shown"]
def loose : List PySem.Str := loose1 ++ loose2
theorem headRun (w : World) : HandSHeadRun.RunEq Rw (PySem.W.view Rw.prog [68]) hk ob 8000 loose w := by
  intro os
  kernel_rfl
end K29.Hd0
set_option autoImplicit true
set_option maxHeartbeats 8000000
/-! rules that the layer lacks, 1: repr of data, sorted of rows of ints, set of a list of ints -/
namespace K29
open PySem PySem.Spec PyProof.Rows L2
section
variable {X : Cx}
/-- repr(x) of a list or tuple of data, where no repr runs around -/
def rRepr (K : PySem.W.Frag) : List V → Hp → VK → Prop := fun xs H Q => ∃ (a : Addr) (d : PyData), xs = [.ref a] ∧ Dp K H (.ref a) d ∧ d.showable = true ∧ d.hasDict = false ∧ d.depth ≤ 8 ∧ d.shown.length ≤ sizeLine ∧ Q (.str d.shown) H
theorem cr_repr (hg : X.A.guards = some []) (hu : X.A.units + 64 < cLine) : CallR X (.builtin "repr") (rRepr X.K) := by
  intro pins s σ H xs us Q I r h
  obtain ⟨a, d, rfl, hd, h1, h2, h3, h4, q⟩ := h
  obtain ⟨u, rfl, ru⟩ := vals1 r
  cases ru
  obtain ⟨as, rd⟩ := Dp.reads I d (.ref a) (.ref a) hd rfl
  refine repr_of_reads' rd h1 (fun z => ?_) hg (by omega) (fun _ _ e => e) (fun h' u tk k => ?_) h4
  · rw [h2] at z
    cases z
  · exact ⟨.str d.shown, H, I.kept k, ⟨u, rfl⟩, q⟩
/-- rows: a list whose items are tuples of ints, each with an item -/
def RowsAt (K : PySem.W.Frag) (H : Hp) (zs : List (Addr × List Int)) : Prop := ∀ z ∈ zs, SqT K H z.1 (z.2.map V.int) ∧ z.2 ≠ []
def encR (z : Addr × List Int) : PyData := .tuple (z.2.map PyData.int)
theorem row_reads {K : PySem.W.Frag} {H : Hp} : ∀ (ns : List Int), DpAll K H (ns.map V.int) (ns.map PyData.int)
  | [] => .nil
  | n :: r => .cons (.int n) (row_reads r)
/-- sorted(xs): some arrangement -/
def rSortedRows (K : PySem.W.Frag) : List V → Hp → VK → Prop := fun xs H Q => ∃ (a : Addr) (zs : List (Addr × List Int)), xs = [.ref a] ∧ SqL K H a (zs.map fun z => V.ref z.1) ∧ (∀ z ∈ zs, SqT K H z.1 (z.2.map V.int) ∧ z.2 ≠ []) ∧ zs.length ≤ 1000 ∧
  ∀ (ys : List (Addr × List Int)) (p : Addr), ys.Perm zs → H p = none → Q (.ref p) (upd H p (.lst (ys.map fun z => V.ref z.1)))
theorem rows_each {pins : List (Addr × Obj)} {σ : L2.St} {H : Hp} {s : Shared} (I : Inv X pins σ H s) : ∀ (zs : List (Addr × List Int)) (its : List Value), Vals (zs.map fun z => V.ref z.1) its → (∀ z ∈ zs, SqT X.K H z.1 (z.2.map V.int) ∧ z.2 ≠ []) →
    PySem.W.EachIs (fun (v : Value) (z : Addr × List Int) => v = .ref z.1 ∧ ∃ as, Reads s.heap v (encR z) as) its zs
  | [], _, .nil, _ => .nil
  | z :: zs, _, .cons r t, h => by
    cases r
    obtain ⟨as, q⟩ := Dp.reads I (encR z) (.ref z.1) (.ref z.1) (.tup (h z List.mem_cons_self).1 (row_reads z.2)) rfl
    exact .cons ⟨rfl, as, q⟩ (rows_each I zs _ t fun y hy => h y (List.mem_cons_of_mem _ hy))
theorem rows_back : ∀ (out : List Value) (ys : List (Addr × List Int)) {h : Heap}, PySem.W.EachIs (fun (v : Value) (z : Addr × List Int) => v = .ref z.1 ∧ ∃ as, Reads h v (encR z) as) out ys → Vals (ys.map fun z => V.ref z.1) out
  | _, _, _, .nil => .nil
  | _, _, _, .cons r t => .cons r.1 (rows_back _ _ t)
theorem cr_sortedRows (hu : X.A.units + 64 < cLine) : CallR X (.builtin "sorted") (rSortedRows X.K) := by
  intro pins s σ H xs us Q I r h
  obtain ⟨a, zs, rfl, hl, hz, hn, q⟩ := h
  obtain ⟨u, rfl, ru⟩ := vals1 r
  cases ru
  obtain ⟨its, rv, pl, _⟩ := I.list hl
  have e := rows_each I zs its rv hz
  refine PySem.W.sorted_data (enc := encR) pl.isList e (e.mono fun _ _ x => x.2) (fun d hd d' hd' => ?_) (.inl fun d hd => ?_) (Nat.le_trans hn (by decide)) (fun b hb => ?_) fun out ho eo => ?_
  · obtain ⟨b, _, rfl⟩ := List.mem_map.mp hd
    obtain ⟨b', _, rfl⟩ := List.mem_map.mp hd'
    exact PySem.W.alike_ints _ _
  · obtain ⟨b, hb, rfl⟩ := List.mem_map.mp hd
    obtain ⟨_, hne⟩ := hz b hb
    unfold encR
    cases q : b.2 with
    | nil => exact absurd q hne
    | cons x l => exact ⟨_, _, rfl⟩
  · unfold encR
    rw [PyData.depth, PySem.W.depth_ints]
    omega
  · have hlen : (zs.mergeSort (PySem.W.dataLe false encR)).length = zs.length := (List.mergeSort_perm _ _).length_eq
    obtain ⟨c, hc⟩ := sortedAll_at s.heap its out.toArray
    have nF : H (s.heap.objs.size + 1) = none := I.hok.fresh (Nat.le_succ _)
    refine ⟨.ref _, upd H (s.heap.objs.size + 1) (.lst ((zs.mergeSort (PySem.W.dataLe false encR)).map fun z => V.ref z.1)), I.laid (t' := s.toks) (fun b o q => sortedAll_old q) (Nat.le_succ _) ⟨?_, out, c, rows_back out _ eo, hc⟩, rfl, q _ _ (List.mergeSort_perm _ _) nF⟩
    rw [List.length_map, hlen]
    exact Nat.le_trans hn (by decide)
end
end K29
set_option autoImplicit true
set_option maxHeartbeats 8000000
/-! rules, 2: set(xs) of a list of ints -/
namespace K29
open PySem PySem.Spec PyProof.Rows L2
section
variable {P : Program} {w : World} {A : Around} {E : Value → Shared → Prop} {s : Shared}
abbrev newSet (w : World) : Obj := { cls := .type "set", dict := none, data := .set #[] 0 (.fresh 0 0 (!w.params.followText "set-order")) }
theorem call_set_lst {l : Addr} {items : Array Value} (ns : List Int) {Q : Value → Shared → Prop} (hh : A.handled = none) (hl : s.heap.IsList l items) (hit : IntsAre items.toList ns) (hb : ns.length + 1 < scanBound)
    (h : ∀ (h' : Heap) (tk c : Nat), SetR w h' s.heap.objs.size (fun j => decide (j ∈ ns)) c → c ≤ ns.length → (∀ b o, s.heap.get? b = some o → h'.get? b = some o) → Q (.ref s.heap.objs.size) { s with heap := h', toks := tk }) :
    wpAny (model P w) A (call (.type "set") [.ref l]) Q E s := by
  have isz : items.size = ns.length := by
    have z := IntsAre.length hit
    rwa [Array.length_toList] at z
  obtain ⟨c, tl, hmro⟩ := F.called_set.mro
  have hmade := F.called_set.made
  have hsub := F.called_set.sub
  refine wpAny_call (codeAny_of_tree ?_)
  show wpAny _ _ (callAny (.type "set") _) _ _ _
  refine wpAny_pure ⟨Code.quiet_builtin _ (by decide +kernel), codeAny_builtin F.entry_type_call ?_⟩
  rw [Around.under_plain (weight_type_call_type "set" [.ref l] []) rfl]
  have h1 := F.called_set.notType
  have h2 := F.called_set.canCreate
  have hct := F.typeCall_set_1 (.ref l)
  repeat (any_goals (first | assumption | wp_step))
  refine codeAny_mono (code_set_led1 (.ref l) (E := E) (Q₁ := fun obj t => obj = .ref s.heap.objs.size ∧ t = { s with heap := s.heap.push (newSet w) }) ⟨rfl, rfl⟩) fun r t hr => ?_
  cases r with
  | error e => exact hr
  | ok fl =>
    cases fl with
    | ret obj =>
      obtain ⟨rfl, rfl⟩ := hr
      have hS : (s.heap.push (newSet w)).get? s.heap.objs.size = some (newSet w) := Heap.get?_push_size _ rfl
      have hT : Shared.TypeIs { s with heap := s.heap.push (newSet w) } (.ref s.heap.objs.size) "set" := ⟨_, hS, rfl⟩
      have hli := F.called_set.init.lookup
      have hbi := F.called_set.init.bind (.ref s.heap.objs.size)
      repeat (any_goals (first | assumption | wp_step))
      refine codeAny_mono (codeAny_call_builtin (R := wants (fun r t => r = .none ∧ ∃ h' tk c, t = { s with heap := h', toks := tk } ∧ SetR w h' s.heap.objs.size (fun j => decide (j ∈ ns)) c ∧ c ≤ ns.length ∧
          (∀ b o, s.heap.get? b = some o → h'.get? b = some o)) E) F.called_set.init.plain F.entry_set_init (check_set_init_1 hT ?_)) fun r t hr => ?_
      · obtain ⟨ol, hol, hcl, nl, hdl⟩ := hl
        obtain ⟨ocls, odict, odata, oslots⟩ := ol
        simp only at hcl hdl
        subst hcl; subst hdl
        have hol1 : (s.heap.push (newSet w)).get? l = some { cls := .type "list", dict := odict, data := .seq items nl, slots := oslots } := Heap.get?_push_of_some _ hol
        have hsls := F.sub_list_set
        have hslf := F.sub_list_frozenset
        have hne : (Value.type "list" == Value.type "dict") = false := by decide
        have hl1 : (s.heap.push (newSet w)).IsList l items := ⟨_, hol1, rfl, nl, rfl⟩
        have ltl : l < s.heap.objs.size := Heap.lt_size hol
        have hz1 : (s.heap.push (newSet w)).objs.size = s.heap.objs.size + 1 := Heap.size_push ..
        unfold Builtin.«set.__init__» noKeywords Builtin.Frozenset.updateFrom
        generalize hPI : pyIter = PI
        wp_walk
        subst hPI
        refine wpAny_pyIter_list hl1 ?_
        refine wpAny_bind (wpAny_runValue ?_)
        have hh3 : A.in1.in1.in1.handled = none := by simp [hh]
        have hneI : l ≠ (s.heap.push (newSet w)).objs.size := by rw [hz1]; exact Nat.ne_of_lt (Nat.lt_succ_of_lt ltl)
        have hSf : s.heap.objs.size ∉ [(s.heap.push (newSet w)).objs.size, l] := by
          rw [hz1]
          simp only [List.mem_cons, List.not_mem_nil, or_false, not_or]
          exact ⟨Nat.ne_of_lt (Nat.lt_succ_self _), Nat.ne_of_gt ltl⟩
        have hval : ∀ (i : Nat) (v : Value), items[i]? = some v → ∃ k t, ns[i]? = some k ∧ v = .int k t := fun i v hv => by
          have hi : i < ns.length := by rw [← isz]; exact (Array.getElem?_eq_some_iff.mp hv).1
          obtain ⟨t, e⟩ := IntsAre.int_at hit i v (by rw [Array.getElem?_toList]; exact hv)
          refine ⟨ns[i], t, List.getElem?_eq_getElem hi, ?_⟩
          rw [e, List.getD_eq_getElem?_getD, List.getElem?_eq_getElem hi] <;> rfl
        refine set_update_ints ((Walks.list hh3 _ l hneI items).toS) s.heap.objs.size hSf ns isz hb hval (items.size - 0) 0 _ (by omega) (Nat.zero_le _) ⟨⟨_, Heap.get?_push_size _ rfl, rfl, rfl⟩, (hl1.push _)⟩
          ⟨0, Nat.le_refl 0, setR_new_at (Heap.get?_push_of_some _ hS)⟩ fun s' c' hm hc' hS' => ?_
        obtain ⟨h', g2, d', tk', os'⟩ := s'
        obtain rfl : g2 = s.gens := hm.gens
        obtain rfl : d' = s.drawn := hm.drawn
        obtain rfl : os' = s.os := hm.os
        show wpAny _ _ _ _ _ _
        refine wpAny_pure ?_
        show wpAny _ _ (ret Value.none) _ _ _
        rw [isz] at hc'
        refine wpAny_pure ⟨rfl, h', tk', c', rfl, hS', hc', fun b o e => ?_⟩
        have hb0 : b < s.heap.objs.size := Heap.lt_size e
        refine hm.heap b o ?_ (Heap.get?_push_of_some _ (Heap.get?_push_of_some _ e))
        rw [hz1]
        simp only [List.mem_cons, List.not_mem_nil, or_false, not_or]
        exact ⟨Nat.ne_of_lt hb0, Nat.ne_of_lt (Nat.lt_succ_of_lt hb0)⟩
      · cases r with
        | error e => exact hr
        | ok fl₂ =>
          cases fl₂ with
          | ret r =>
            obtain ⟨rfl, h', tk, c', rfl, hS', hc', hk'⟩ := hr
            repeat (any_goals (first | assumption | wp_step))
            exact h _ _ _ hS' hc' hk'
          | _ => exact hr.elim
    | _ => exact hr.elim
end
section
variable {X : Cx}
/-- set(xs) of a list of ints -/
def rSetL (K : PySem.W.Frag) (w : World) : List V → Hp → VK → Prop := fun xs H Q => ∃ (l : Addr) (ns : List Int), xs = [.ref l] ∧ SqL K H l (ns.map V.int) ∧ ns.length ≤ 1000 ∧
  ∀ (p : Addr) (c : Nat), H p = none → c ≤ ns.length → Q (.ref p) (upd H p (SetO w p (fun j => decide (j ∈ ns)) c))
theorem cr_setL (hc : X.calm = true) : CallR X (.type "set") (rSetL X.K X.w) := by
  intro pins s σ H xs us Q I r h
  obtain ⟨l, ns, rfl, hl, hn, q⟩ := h
  obtain ⟨u, rfl, ru⟩ := vals1 r
  cases ru
  obtain ⟨its, rv, pl, _⟩ := I.list hl
  refine call_set_lst ns (I.ok.hd hc) pl.isList (by simpa using intsAre_of rv) (Nat.lt_of_le_of_lt (Nat.succ_le_succ hn) (by decide)) fun h' tk c hS hle k => ?_
  exact ⟨.ref _, upd H s.heap.objs.size (SetO X.w s.heap.objs.size (fun j => decide (j ∈ ns)) c), I.laid k (Nat.le_refl _) (setO_new hS), rfl, q _ c (I.hok.fresh (Nat.le_refl _)) hle⟩
end
end K29
set_option autoImplicit true
set_option maxHeartbeats 8000000
/-! rules, 3: a comprehension of any kind: what it gathers into is a parameter -/
namespace K29
open PySem PySem.Spec PyProof.Rows L2
/-- a piece of code that gives nothing back, by its reading -/
abbrev TU := L2.St → Hp → (Hp → Prop) → Prop
def PU (Y : Cx) (c : Sem Unit) (t : TU) : Prop := ∀ (pins : List (Addr × Obj)) (s : Shared) (σ : L2.St) (H : Hp) (N : Hp → Prop), Inv Y pins σ H s → t σ H N →
  wpAny (model Y.prog Y.w) Y.A c (fun _ z => ∃ G, Inv Y pins σ G z ∧ N G) (fun _ _ => False) s
/-- the clause's tests, as the machine runs them -/
abbrev tstC (ifs : List Expr) (env : Env) : Sem Bool := forIn ifs true fun c r => if r = true then do let ok ← isTrue c env (eval c env); pure (ForInStep.yield ok) else pure (ForInStep.yield r)
/-- how a kind of comprehension (one clause) runs: its gathering step is gather env acc -/
structure Gath (comp tg iter : Expr) (ifs : List Expr) (gather : Env → Addr → Sem Unit) : Prop where
  clauses : clausesOf comp = [⟨tg, iter, ifs, 0⟩]
  loop : ∀ {p : Program} {w : World} {A : Around} {R : Result → Shared → Prop} {s : Shared} {it : Value} {D : Addr} {env : Env} (I : Nat → Shared → Prop),
    (∀ n z, I n z → wpAny (model p w) A (pyNext it) (fun r z1 => match r with
      | none => R (.ok .next) z1
      | some v => wpAny (model p w) A (letOwnedTupleGo tg it v) (fun _ z2 => wpAny (model p w) A (assign tg env v) (fun _ z3 => wpAny (model p w) A (tstC ifs env) (fun ok z4 =>
          if ok = true then wpAny (model p w) A (gather env D) (fun _ z5 => ∃ m, m < n ∧ I m z5) (notedBy (model p w) A env fun e q => R (.error e) q) z4 else ∃ m, m < n ∧ I m z4)
            (notedBy (model p w) A env fun e q => R (.error e) q) z3) (notedBy (model p w) A env fun e q => R (.error e) q) z2) (notedBy (model p w) A env fun e q => R (.error e) q) z1) (notedBy (model p w) A env fun e q => R (.error e) q) z) →
    ∀ n, I n s → codeAny (model p w) A (.compLoop comp 0 it (.ref D) env) R s
  start : ∀ {p : Program} {w : World} {A : Around} {R : Result → Shared → Prop} {s : Shared} {it acc : Value} {env : Env}, codeAny (model p w) A (.compLoop comp 0 it acc env) R s →
    wpAny (model p w) A (pyIter it) (fun j z => codeAny (model p w) A (.compLoop comp 0 j acc env) R z) (notedBy (model p w) A env fun x z => R (.error x) z) s → codeAny (model p w) A (.compStart comp 0 it acc env) R s
section
variable {X : Cx}
/-- the reading: oD is what is tracked at the new thing's address -/
def tGc (wi : TI) (g : TG) (tt : TT) (oD : Addr → HO) (tb : Addr → TU) (vs : List Nat) : TE := fun σ H Q => wi σ H fun J H1 => ∀ D, H1 D = none → ∃ W : Nat → Nat → Hp → Prop, (∃ m, W 0 m (upd H1 D (oD D))) ∧ ∀ i m G, W i m G →
  (J.stop i G ∧ Q (.ref D) G) ∨ (J.go i G ∧ ∃ N : Hp → Prop, (∀ G', N G' → ∃ m', m' < m ∧ W (i + 1) m' G') ∧ ∀ x G', J.yld i G x G' → g x (wipe σ vs) G' fun τ G2 => wipe τ vs = wipe σ vs ∧ tt τ G2 fun b G3 => if b = true then tb D τ G3 N else N G3)
theorem gc_core {pins : List (Addr × Obj)} {s : Shared} {σ : L2.St} {H : Hp} {Q : VK} {comp tg iter : Expr} {ifs : List Expr} {gather : Env → Addr → Sem Unit} {scope : Scope} {own : List (Str × Nat)} {pos : Pos} {wi : TI} {g : TG} {tt : TT} {mk : Sem Value} {o0 : Obj} {oD : Addr → HO} {tb : Addr → TU}
    (hc : X.calm = true) (hN : X.N.Nodup) (I : Inv X pins σ H s) (hi : PI X tg iter wi) (ok : BlkOk X.N X.env.scope scope own) (hG : Gath comp tg iter ifs gather)
    (hmk : ∀ (z : Shared) (E : Value → Shared → Prop) (K : Value → Shared → Prop), K (.ref z.heap.objs.size) { z with heap := z.heap.push o0 } → wpAny (model X.prog X.w) X.A mk K E z) (hfr : o0.isFreed = false)
    (hnew : ∀ (G : Hp) (h : Heap), sysModules < h.objs.size → ObjOk X.prog X.w G (h.push o0) h.objs.size (oD h.objs.size))
    (hg : ∀ (s : Shared) (H : Hp) (C : Addr) (cl : List (Str × Addr)) (fp : List Addr), PG (X.blk s H scope (compEnvC scope cl C X.env) fp) tg g)
    (ht : ∀ (s : Shared) (H : Hp) (C : Addr) (cl : List (Str × Addr)) (fp : List Addr), PTs (X.blk s H scope (compEnvC scope cl C X.env) fp) ifs tt)
    (hb : ∀ (s : Shared) (H : Hp) (C : Addr) (cl : List (Str × Addr)) (fp : List Addr) (D : Addr), PU (X.blk s H scope (compEnvC scope cl C X.env) fp) (gather (compEnvC scope cl C X.env) D) (tb D))
    (hs : ∀ x, foldedSetIterable iter X.env x = pure x) (h : tGc wi g tt oD tb (own.map (·.2)) σ H Q) :
    wpAny (model X.prog X.w) X.A (comprehension comp scope X.env pos mk false (eval iter X.env) none) (EP X pins σ Q) X.xe s := by
  have hfree : ∀ y ∈ scope.names, y.2 = .free → ∃ c, X.env.cells.lookup y.1 = some c := fun y hy e => (ok.free y hy e).elim (fun k => I.ok.has _ (.inl k)) fun k => I.ok.has _ (.inr k)
  refine wpAny_comprehension_free (use := none) hG.clauses hs (closure_ok hfree) ok.kind (fun y hy e => by rw [ok.uniq y hy, e]) (thn (hi.run pins s σ H _ I h) fun xv s1 hx => thn hx fun itv s2 h2 => ?_)
  obtain ⟨it, fp, tn, J, H2, e, I2, T, st2, f2, q⟩ := h2
  subst e
  refine hmk _ _ _ (newEnv_comp ?_)
  generalize hD : s2.heap.objs.size = D
  obtain ⟨W, ⟨m0, w0⟩, turn⟩ := q D (I2.hok.fresh (Nat.le_of_eq hD))
  have grow : ∀ b o, s2.heap.get? b = some o → (s2.heap.push o0).get? b = some o := fun b o e => Heap.get?_push_of_some _ e
  have I3 : Inv X pins σ (upd H2 D (oD D)) { s2 with heap := s2.heap.push o0 } := by
    refine I2.laid (t' := s2.toks) grow (Nat.le_of_eq hD) ?_
    rw [← hD]
    exact hnew _ _ I2.big
  have szD : (s2.heap.push o0).objs.size = D + 1 := by rw [Heap.size_push, hD]
  have lowD : ∀ b ∈ fp, b < D := fun b hb => by
    obtain ⟨o, e, _⟩ := T.obj _ _ st2 b hb
    rw [← hD]
    exact Heap.lt_size e
  have f3 : ∀ b ∈ fp, FpOk X pins (upd H2 D (oD D)) b ∧ b < (s2.heap.push o0).objs.size := fun b hb => by
    refine ⟨⟨?_, (f2 b hb).2⟩, by rw [szD]; exact Nat.lt_succ_of_lt (lowD b hb)⟩
    rw [upd_ne (Nat.ne_of_lt (lowD b hb))]
    exact (f2 b hb).1
  have st3 : tn 0 (s2.heap.push o0) := T.keep _ _ _ st2 fun b _ o e => grow b o e
  generalize hs3 : ({ s2 with heap := s2.heap.push o0 } : Shared) = s3 at I3 ⊢
  have hh3 : s2.heap.push o0 = s3.heap := by rw [← hs3]
  rw [hh3] at f3 st3
  have I4 := block_start I3 ok hN f3
  generalize hH3 : upd H2 D (oD D) = H3 at I3 I4 w0 f3
  have nf3 : ∀ b ∈ fp, H3 b = none := fun b hb => (f3 b hb).1.1
  have pg := hg s3 H3 s3.heap.objs.size (cellsFrom (s3.heap.objs.size + 1) scope.names (cloFrom X.env.cells scope.names [])) fp
  have pt := ht s3 H3 s3.heap.objs.size (cellsFrom (s3.heap.objs.size + 1) scope.names (cloFrom X.env.cells scope.names [])) fp
  have pb := hb s3 H3 s3.heap.objs.size (cellsFrom (s3.heap.objs.size + 1) scope.names (cloFrom X.env.cells scope.names [])) fp D
  show codeAny _ _ (.compStart comp 0 (.ref it) (.ref D) (compEnvC scope (cellsFrom (s3.heap.objs.size + 1) scope.names (cloFrom X.env.cells scope.names [])) s3.heap.objs.size X.env))
    (compPost (model X.prog X.w) X.A X.xe none (EP X pins σ Q) (.ref D) s3.heap.objs.size) { s3 with heap := pushCells (s3.heap.push { cls := .type "dict", data := .dict #[] }) scope.names }
  generalize hce : compEnvC scope (cellsFrom (s3.heap.objs.size + 1) scope.names (cloFrom X.env.cells scope.names [])) s3.heap.objs.size X.env = ce at I4 pg pt pb ⊢
  have cL : ce.locals = s3.heap.objs.size := by rw [← hce]; rfl
  generalize hs4 : ({ s3 with heap := pushCells (s3.heap.push { cls := .type "dict", data := .dict #[] }) scope.names } : Shared) = s4 at I4 ⊢
  have st4 : tn 0 s4.heap := T.keep _ _ _ st3 fun b _ o e => by rw [← hs4]; exact pushCells_keeps _ _ _ _ (Heap.get?_push_of_some _ e)
  -- the iterator's records, seen from within the block
  have stat : ∀ {τ : L2.St} {G : Hp} {z : Shared}, Inv (X.blk s3 H3 scope ce fp) [] τ G z → (∀ b ∈ fp, G b = none) → ∀ b ∈ fp, FpOk (X.blk s3 H3 scope ce fp) [] G b := fun J hn b hb =>
    ⟨hn b hb, (J.ok.exf b hb).1, J.ok.exfs b hb, .inl hb, fun x c e => (J.ok.exf b hb).2 x c e, fun p hp => absurd (show p ∈ ([] : List (Addr × Obj)) ++ [] from hp) (by simp)⟩
  have run : codeAny (model X.prog X.w) X.A (.compLoop comp 0 (.ref it) (.ref D) ce) (compPost (model X.prog X.w) X.A X.xe none (EP X pins σ Q) (.ref D) s3.heap.objs.size) s4 := by
    refine hG.loop (fun n z => ∃ i G, Inv (X.blk s3 H3 scope ce fp) [] (wipe σ (own.map (·.2))) G z ∧ tn i z.heap ∧ (∀ b ∈ fp, G b = none) ∧ W i n G) ?_ m0 ⟨0, H3, I4, st4, nf3, w0⟩
    rintro n z ⟨i, G, J, stz, nz, wz⟩
    rcases turn i n G wz with ⟨hstop, hq⟩ | ⟨hgo, N, hN', step⟩
    · refine thnF (T.done (X.blk s3 H3 scope ce fp) rfl rfl rfl hc i [] z _ G (fun _ _ => False) J (stat J nz) stz hstop) fun r z1 ⟨hr, J1⟩ => ?_
      subst hr
      -- out of the block again
      have K1 : Inv X pins σ G z1 := I3.call' (ch := fp) J1.os J1.base J1.hok J1.bare fun b hb => ⟨(f3 b hb).1.2.2.2.1, (f3 b hb).1.2.1, (f3 b hb).1.2.2.2.2.1, (f3 b hb).1.2.2.2.2.2⟩
      obtain ⟨m, hm, _⟩ := J1.loc
      have hm : z1.heap.Ns ce.locals m := hm
      have hn : G ce.locals = none := J1.free
      rw [cL] at hm hn
      obtain ⟨a0, a1, a2, a3, a4, a5⟩ := I3.fpOk (H' := G) (Nat.le_refl _) hn
      exact ⟨m, hm, fun h'' sb => ⟨.ref D, G, K1.turned (t' := z1.toks) (fun b o hb e => (sb.2 b hb).trans e) a0 a1 a3 a4 a5, rfl, hq⟩⟩
    · refine thnF (T.item (X.blk s3 H3 scope ce fp) rfl rfl rfl hc i [] z _ G (fun _ _ => False) J (stat J nz) stz hgo) fun r z1 ⟨u, hr, h1⟩ => ?_
      subst hr
      refine thnF h1 fun _ z2 ⟨x, G2, J2, r2, y2, st2', n2⟩ => ?_
      refine thnF (pg.run _ z2 _ G2 x u _ (J2.pinned (stat J2 n2) (T.obj _ _ st2')) r2 (step x G2 y2)) fun _ z3 ⟨τ, G3, J3, hw3, q3⟩ => ?_
      refine thnF (pt.run _ z3 τ G3 _ J3 q3) fun b z4 ⟨G4, J4, q4⟩ => ?_
      have fin : ∀ {z' : Shared} {G' : Hp}, Inv (X.blk s3 H3 scope ce fp) ([] ++ pinsAt fp z2.heap) τ G' z' → N G' → ∃ m, m < n ∧ ∃ i G, Inv (X.blk s3 H3 scope ce fp) [] (wipe σ (own.map (·.2))) G z' ∧ tn i z'.heap ∧ (∀ b ∈ fp, G b = none) ∧ W i m G := fun {z' G'} J' hn' => by
        obtain ⟨m', hm', w'⟩ := hN' G' hn'
        have pin : ∀ b ∈ fp, ∀ o, z2.heap.get? b = some o → z'.heap.get? b = some o ∧ G' b = none := fun b hb o e =>
          let p := J'.pin (b, o) (List.mem_append_right _ (List.mem_append_right _ (mem_pinsAt hb e)))
          ⟨p.1, p.2.1⟩
        refine ⟨m', hm', i + 1, G', (J'.unpinned (pins := [])).weak (by rw [← hw3, wipe_length]) (fun j v e => ?_), T.keep _ _ _ st2' fun b hb o e => (pin b hb o e).1, fun b hb => ?_, w'⟩
        · rw [← hw3] at e
          exact (wipe_some e).1
        · obtain ⟨o, e, _⟩ := T.obj _ _ st2' b hb
          exact (pin b hb o e).2
      cases b with
      | false =>
        simp only [Bool.false_eq_true, if_false] at q4 ⊢
        exact fin J4 q4
      | true =>
        simp only [if_true] at q4 ⊢
        exact thnF (pb _ z4 τ G4 _ J4 q4) fun _ z5 ⟨G5, J5, n5⟩ => fin J5 n5
  exact hG.start run (T.self X.A 0 _ _ _ st4 run)
end
end K29
set_option autoImplicit true
set_option maxHeartbeats 8000000
/-! rules, 4: sets of texts: made by a comprehension, sorted -/
namespace K29
open PySem PySem.Spec PyProof.Rows L2
/-! ### what such a set is -/
def ktx (e : Int × Value) : Str := match e.2 with
  | .str k _ => k
  | _ => Str.empty
def EntT (w : World) (e : Int × Value) : Prop := ∃ k t, e.2 = Value.str k t ∧ e.1 = hashStr w k
/-- the texts ks stand in the set at a, each once, in some order; its table can be walked -/
def SetT (w : World) (h : Heap) (a : Addr) (ks : List Str) : Prop :=
  ∃ o es ep t, h.get? a = some o ∧ o.ExactSet ∧ o.data = .set es ep t ∧ (∀ e ∈ es.toList, EntT w e) ∧ (es.toList.map ktx).Perm ks ∧ ks.Nodup ∧
    es.size < scanBound ∧ t.fits es.size = true ∧ Ris t.place.toList ∧ (w.params.followText "set-order" = true ∨ t.led = true)
section
variable {P : Program} {w : World} {A : Around} {E : Value → Shared → Prop} {s : Shared} {a : Addr} {ks : List Str}
theorem SetT.at {h h' : Heap} (R : SetT w h a ks) (k : ∀ o, h.get? a = some o → h'.get? a = some o) : SetT w h' a ks := by
  obtain ⟨o, es, ep, t, ho, r⟩ := R
  exact ⟨o, es, ep, t, k o ho, r⟩
theorem entT_el {l : List (Int × Value)} (g : ∀ e ∈ l, EntT w e) : ElemsOf (strKind P w) l := fun e he => by
  obtain ⟨k, t, h1, h2⟩ := g e he
  exact ⟨⟨k, by rw [h1]; exact strKind_is P w k t, h2⟩, by rw [h1] <;> rfl⟩
theorem entT_is {e : Int × Value} (g : EntT w e) (k : Str) : (strKind P w).is k e.2 = true ↔ ktx e = k := by
  obtain ⟨k0, t, h1, _⟩ := g
  unfold ktx
  rw [h1]
  show ((k0 == k) = true) ↔ k0 = k
  exact beq_iff_eq
/-- the table is written, and grown where it is full -/
theorem addT_tail {g : Bool → Sem Unit} (hg : ∀ (b : Bool) (z : Shared) (Q : Unit → Shared → Prop), Q () z → wpAny (model P w) A (g b) Q E z)
    {o : Obj} {es : Array (Int × Value)} {ep : Nat} {t : SetTable} (ho : s.heap.get? a = some o) (hex : o.ExactSet) (hd : o.data = .set es ep t)
    {es1 : Array (Int × Value)} {t2 : SetTable} {ls : List Str} (g1 : ∀ e ∈ es1.toList, EntT w e) (p1 : (es1.toList.map ktx).Perm ls) (nd1 : ls.Nodup)
    (hb1 : es1.size < scanBound) (hf2 : t2.fits es1.size = true) (hr : Ris t2.place.toList) (hl : w.params.followText "set-order" = true ∨ t2.led = true) {wasDummy : Bool} {R : Option Bool → Shared → Prop}
    (hR : ∀ h', Heap.SameBut a s.heap h' → SetT w h' a ls → R (some true) { s with heap := h' }) :
    wpAny (model P w) A (do
        storeSet a es1 t2
        if (!wasDummy && t2.tooFull) = true then do
            g (relayAll t2 es1 (SetTable.grown es1.size)).2.2
            storeSet a (relayAll t2 es1 (SetTable.grown es1.size)).1 (relayAll t2 es1 (SetTable.grown es1.size)).2.1
            pure (some true)
          else pure (some true)) R E s := by
  refine wpAny_bind (wpAny_storeSet_of ho hd ?_ (fits_of_scanBound hb1))
  have at1 := store_at (es' := es1) (t' := t2) ho hd
  have sb1 := Heap.SameBut.update s.heap a (Obj.putSet es1 t2)
  by_cases full : (!wasDummy && t2.tooFull) = true
  · rw [if_pos full]
    have pm := relayAll_perm t2 es1 (SetTable.grown es1.size)
    have hf3 := relayAll_fits t2 es1 (SetTable.grown es1.size)
    have hr3 := relayAll_ris t2 es1 (SetTable.grown es1.size)
    have hl3 := relayAll_led t2 es1 (SetTable.grown es1.size)
    generalize relayAll t2 es1 (SetTable.grown es1.size) = Z at pm hf3 hr3 hl3 ⊢
    obtain ⟨es2, t3, gave⟩ := Z
    dsimp only at pm hf3 hr3 hl3 ⊢
    have hb2 : es2.size < scanBound := by rw [← Array.length_toList, pm.length_eq, Array.length_toList]; exact hb1
    refine wpAny_bind (hg _ _ _ (wpAny_bind (wpAny_storeSet_of at1 rfl (wpAny_pure (hR _ (sb1.trans (Heap.SameBut.update _ a _)) ?_)) (fits_of_scanBound hb2))))
    exact ⟨_, es2, _, t3, store_at (es' := es2) (t' := t3) at1 rfl, hex, rfl, fun e he => g1 e (pm.mem_iff.mp he), (pm.map ktx).trans p1, nd1, hb2, hf3, hr3, hl.imp id fun z => by rw [hl3]; exact z⟩
  · rw [if_neg full]
    exact wpAny_pure (hR _ sb1 ⟨_, es1, _, t2, at1, hex, rfl, g1, p1, nd1, hb1, hf2, hr, hl⟩)
/-- the members, one more -/
def putT (ks : List Str) (k : Str) : List Str := if k ∈ ks then ks else k :: ks
theorem addT_hashed {k : Str} {u : Tok} {Q : Bool → Shared → Prop} (R : SetT w s.heap a ks) (room : ks.length + 1 < scanBound)
    (hQ : ∀ h' b, Heap.SameBut a s.heap h' → SetT w h' a (putT ks k) → Q b { s with heap := h' }) :
    wpAny (model P w) A (setAddHashed a (.str k u) ((strKind P w).hash k)) Q E s := by
  obtain ⟨o, es, ep, t, ho, hex, hd, g, pm0, nd, hb, hf, hr, hl⟩ := R
  have hkey : (strKind P w).is k (.str k u) = true := strKind_is P w k u
  have hsc : (Value.str k u).scannable = true := rfl
  have hel : ElemsOf (strKind P w) es.toList := entT_el g
  have hlen : es.size = ks.length := by rw [← Array.length_toList, ← List.length_map (f := ktx), pm0.length_eq]
  unfold setAddHashed setAddHashedIn
  refine wpAny_holding (wpAny_bind (wpAny_setState_of ho hd hf ?_))
  dsimp only
  rw [byScan_of hsc hb hel]
  simp only [↓reduceIte]
  unfold setAddByScan
  refine wpAny_bind (wpAny_bind (wpAny_rule (wpAny_bind (wpAny_setScan_of hkey ho hd hf hel ?_))))
  cases hfi : List.findIdx? (fun e => (strKind P w).is k e.2) es.toList with
  | some j =>
    dsimp only
    obtain ⟨hj, pj, _⟩ := List.findIdx?_eq_some_iff_getElem.mp hfi
    have hin : k ∈ ks := pm0.mem_iff.mp (List.mem_map.mpr ⟨es.toList[j], List.getElem_mem hj, (entT_is (P := P) (g _ (List.getElem_mem hj)) k).1 pj⟩)
    refine wpAny_pure (wpAny_pure (hQ s.heap _ (Heap.SameBut.refl a s.heap) ?_))
    unfold putT
    rw [if_pos hin]
    exact ⟨o, es, ep, t, ho, hex, hd, g, pm0, nd, hb, hf, hr, hl⟩
  | none =>
    dsimp only
    have hout : k ∉ ks := fun z => by
      obtain ⟨e, he, q⟩ := List.mem_map.mp (pm0.mem_iff.mpr z)
      have c := List.findIdx?_eq_none_iff.mp hfi e he
      rw [(entT_is (P := P) (g e he) k).2 q] at c
      cases c
    have hgw : ∀ (b : Bool) {z : Shared} {Q' : Unit → Shared → Prop}, Q' () z → wpAny (model P w) A (match b with | true => rule "set.scan.the-table-gave-way" | false => pure ()) Q' E z :=
      fun b z Q' q => by cases b <;> first | exact wpAny_pure q | exact wpAny_rule q
    have pm := layNew_perm t es ((strKind P w).hash k) (.str k u)
    have hf1 := layNew_fits t es ((strKind P w).hash k) (.str k u)
    have hr1 := layNew_ris t es ((strKind P w).hash k) (.str k u) hr
    have hl1 := layNew_led t es ((strKind P w).hash k) (.str k u)
    generalize layNew t es ((strKind P w).hash k) (.str k u) = Z at pm hf1 hr1 hl1 ⊢
    obtain ⟨es1, t1, wasDummy, gave⟩ := Z
    dsimp only at pm hf1 hr1 hl1 ⊢
    rw [Array.toList_push] at pm
    have pc : es1.toList.Perm (((strKind P w).hash k, Value.str k u) :: es.toList) := pm.trans (List.perm_append_singleton _ _)
    have pk : (es1.toList.map ktx).Perm (putT ks k) := by
      unfold putT
      rw [if_neg hout]
      exact (pc.map ktx).trans (pm0.cons k)
    have g1 : ∀ e ∈ es1.toList, EntT w e := fun e he => (List.mem_cons.mp (pc.mem_iff.mp he)).elim (fun z => by rw [z]; exact ⟨k, u, rfl, rfl⟩) (g e)
    have nd1 : (putT ks k).Nodup := by
      unfold putT
      rw [if_neg hout]
      exact List.nodup_cons.mpr ⟨hout, nd⟩
    have hb1 : es1.size < scanBound := by rw [← Array.length_toList, pc.length_eq, List.length_cons, Array.length_toList, hlen]; exact room
    have hled : w.params.followText "set-order" = true ∨ t1.led = true := hl.imp id fun z => by rw [hl1]; exact z
    refine wpAny_bind (hgw _ ?_)
    split
    · refine wpAny_bind ?_
      rw [hashByValue_scannable 8 hsc]
      refine wpAny_pure (addT_tail ?_ ho hex hd g1 pk nd1 hb1 ?_ ?_ ?_ ?_)
      · intro b z Q' q; cases b <;> first | exact wpAny_pure q | exact wpAny_rule q
      · first | (split <;> first | exact hf1 | exact SetTable.fits_plain_off hf1) | exact hf1
      · first | (split <;> exact hr1) | exact hr1
      · first | (split <;> exact hled) | exact hled
      · intro h' sb r; dsimp only; exact wpAny_pure (hQ h' _ sb r)
    · refine wpAny_bind (wpAny_pure ?_)
      simp only [↓reduceIte]
      refine addT_tail ?_ ho hex hd g1 pk nd1 hb1 hf1 hr1 hled ?_
      · intro b z Q' q; cases b <;> first | exact wpAny_pure q | exact wpAny_rule q
      · intro h' sb r; dsimp only; exact wpAny_pure (hQ h' _ sb r)
/-- found.add(k) -/
theorem addT {k : Str} {u : Tok} {Q : Value → Shared → Prop} (R : SetT w s.heap a ks) (room : ks.length + 1 < scanBound)
    (hQ : ∀ h', Heap.SameBut a s.heap h' → SetT w h' a (putT ks k) → Q .none { s with heap := h', toks := s.toks + 1 }) :
    wpAny (model P w) A (call (.builtin "set.add") [.ref a, .str k u]) Q E s := by
  have ⟨o, _, _, _, ho, hex, _⟩ := R
  refine wpAny_call_entry F.slot_set_add ⟨o, ho, hex.1⟩ F.entry_set_add ?_ (F.args_set_add_2 _ _)
  unfold Builtin.«set.add» Builtin.Frozenset.oneOther
  simp only [List.isEmpty_nil, bind_assoc]
  unfold Builtin.Frozenset.addrOf setAdd
  refine wpAny_bind (wpAny_pure ?_)
  try dsimp only
  refine wpAny_bind (wpAny_pure ?_)
  try dsimp only
  refine wpAny_bind (wpAny_holding (wpAny_bind ((strKind P w).pyHash (strKind_is P w k u) ?_)))
  refine addT_hashed (s := { s with toks := s.toks + 1 }) R room fun h' b sb r => ?_
  show wpAny _ _ (ret Value.none) _ _ _
  exact wpAny_pure ⟨_, rfl, hQ h' sb r⟩
theorem setT_fresh {h : Heap} (w : World) : SetT w (h.push (newSet w)) h.objs.size [] :=
  ⟨_, #[], 0, _, Heap.get?_push_size _ rfl, ⟨rfl, rfl, rfl⟩, rfl, (fun e he => by simp at he), (by simp), List.nodup_nil, (by decide), (by rfl), List.Pairwise.nil, by
    show _ ∨ (!w.params.followText "set-order") = true
    cases w.params.followText "set-order"
    · exact .inr rfl
    · exact .inl rfl⟩
end
end K29
set_option autoImplicit true
set_option maxHeartbeats 8000000
/-! rules, 5: {sign for sign in text}, sorted of it; {k: v for ..} with keys that are tuples -/
namespace K29
open PySem PySem.Spec PyProof.Rows L2
def SetX (w : World) (a : Addr) (ks : List Str) : HO := .ext fun h => SetT w h a ks
theorem setX_new {w : World} {P : Program} {H : Hp} {h : Heap} {a : Addr} {ks : List Str} (R : SetT w h a ks) : ObjOk P w H h a (SetX w a ks) := by
  have ⟨o, _, _, _, ho, _⟩ := R
  exact ⟨R, ⟨o, ho⟩, fun h1 h2 p k => SetT.at p k⟩
section
variable {X : Cx}
theorem setX_get {pins : List (Addr × Obj)} {σ : L2.St} {H : Hp} {s : Shared} {a : Addr} {ks : List Str} (I : Inv X pins σ H s) (ha : H a = some (SetX X.w a ks)) : SetT X.w s.heap a ks := (I.hok a _ ha).1
theorem addX {pins : List (Addr × Obj)} {σ : L2.St} {H : Hp} {s : Shared} {E : Value → Shared → Prop} {D : Addr} {ks : List Str} {y : Str} {u : Tok} {Q : Value → Shared → Prop} (I : Inv X pins σ H s) (hD : H D = some (SetX X.w D ks)) (room : ks.length + 1 < scanBound)
    (h : ∀ z, Inv X pins σ (upd H D (SetX X.w D (putT ks y))) z → Q .none z) : wpAny (model X.prog X.w) X.A (call (.builtin "set.add") [.ref D, .str y u]) Q E s := by
  refine addT (setX_get I hD) room fun h' sb new => ?_
  have he : ∃ u, h'.get? D = some u := by
    have ⟨o, _, _, _, ho, _⟩ := new
    exact ⟨o, ho⟩
  exact h _ (I.write (e := D) (t' := s.toks + 1) (by rw [hD]; trivial) (.inl rfl) (fun b u hb hu => (sb.2 b hb).trans hu) he (setX_new new))
/-! ### the set comprehension -/
def gatS (elt : Expr) (env : Env) (D : Addr) : Sem Unit := do let v ← eval elt env; standAt elt.pos; let _ ← call (.builtin "set.add") [.ref D, v]
theorem gath_set {elt tg iter : Expr} {ifs : List Expr} {scope : Scope} {pos : Pos} : Gath (.SetComp elt [⟨tg, iter, ifs, 0⟩] scope pos) tg iter ifs (gatS elt) where
  clauses := rfl
  loop := by
    intro p w A R s it D env I turn n h
    refine codeAny_loop rfl I (fun n s hI => ?_) n h
    show wpAny _ A ((compTurn (.SetComp elt [⟨tg, iter, ifs, 0⟩] scope pos) 0 it (.ref D) env).onRaise (fun x => do noteFrame x env; theTreesLotGoes x)) _ _ s
    refine wpAny_noted ?_
    rw [PpSet.compTurn_set]
    refine wpAny_bind (wpAny_standAt (wpAny_bind (wpAny_mono (turn n s hI) (fun r z1 h1 => ?_) fun _ _ q => q)))
    cases r with
    | none => exact wpAny_pure h1
    | some v =>
      refine wpAny_bind (wpAny_mono h1 (fun _ z2 h2 => wpAny_bind (wpAny_mono h2 (fun _ z3 h3 => wpAny_bind (wpAny_mono h3 (fun ok z4 h4 => ?_) fun _ _ q => q)) fun _ _ q => q)) fun _ _ q => q)
      cases ok with
      | false => exact wpAny_pure ⟨rfl, h4⟩
      | true => exact wpAny_bind (wpAny_mono (show wpAny (model p w) A (gatS elt env D) _ _ z4 from h4) (fun _ z5 h5 => wpAny_pure ⟨rfl, h5⟩) fun _ _ q => q)
  start := PpSet.codeAny_compStart_set
def tScT (w : World) (wi : TI) (g : TG) (tt : TT) (te : TE) (vs : List Nat) : TE :=
  tGc wi g tt (fun D => SetX w D []) (fun D σ H N => te σ H fun y G => ∃ c ks, y = .str c ∧ G D = some (SetX w D ks) ∧ ks.length ≤ 1000 ∧ N (upd G D (SetX w D (putT ks c)))) vs
theorem pe_scT {elt tg iter : Expr} {ifs : List Expr} {scope : Scope} {own : List (Str × Nat)} {pos : Pos} {wi : TI} {g : TG} {tt : TT} {te : TE} (hc : X.calm = true) (hN : X.N.Nodup) (hi : PI X tg iter wi) (ok : BlkOk X.N X.env.scope scope own)
    (hg : ∀ (s : Shared) (H : Hp) (C : Addr) (cl : List (Str × Addr)) (fp : List Addr), PG (X.blk s H scope (compEnvC scope cl C X.env) fp) tg g) (ht : ∀ (s : Shared) (H : Hp) (C : Addr) (cl : List (Str × Addr)) (fp : List Addr), PTs (X.blk s H scope (compEnvC scope cl C X.env) fp) ifs tt)
    (he : ∀ (s : Shared) (H : Hp) (C : Addr) (cl : List (Str × Addr)) (fp : List Addr), PE (X.blk s H scope (compEnvC scope cl C X.env) fp) elt te) (hs : ∀ x, foldedSetIterable iter X.env x = pure x := by intro _; rfl) :
    PE X (.SetComp elt [⟨tg, iter, ifs, 0⟩] scope pos) (tScT X.w wi g tt te (own.map (·.2))) := by
  refine ⟨fun pins s σ H Q I h => ?_⟩
  rw [PpSet.eval_SetComp]
  refine gc_core (o0 := newSet X.w) hc hN I hi ok gath_set (fun z E K k => PpSet.newSet_ok k) rfl (fun G h _ => setX_new (setT_fresh X.w)) hg ht (fun s H C cl fp D pins z τ G N J q => ?_) hs h
  refine wpAny_bind (thnF ((he s H C cl fp).run pins z τ G _ J q) fun v z1 ⟨y, G1, J1, r1, c, ks, ey, hD, hk, q1⟩ => wpAny_bind (wpAny_standAt (wpAny_bind ?_)))
  subst ey
  obtain ⟨u, rfl⟩ := r1
  exact addX (X := X.blk s H scope (compEnvC scope cl C X.env) fp) J1 hD (Nat.lt_of_le_of_lt (Nat.succ_le_succ hk) (by decide)) fun z2 J2 => wpAny_pure ⟨_, J2, q1⟩
/-! ### sorted -/
theorem strs_ktx {w : World} : ∀ (l : List Value), (∀ v ∈ l, ∃ k u, v = Value.str k u) → StrsAre l (l.map strOf)
  | [], _ => .nil
  | v :: l, h => by
    obtain ⟨k, u, rfl⟩ := h v List.mem_cons_self
    exact .cons k u (strs_ktx (w := w) l fun y hy => h y (List.mem_cons_of_mem _ hy))
theorem sorted_setT {P : Program} {w : World} {A : Around} {E : Value → Shared → Prop} {s : Shared} {a : Addr} {ks : List Str} {Q : Value → Shared → Prop} (R : SetT w s.heap a ks) (hh : A.handled = none) (hn : ks.length ≤ 1000)
    (hQ : ∀ z p (out : Array Value) (c : Nat) (ys : List Str), (∀ b o, s.heap.get? b = some o → z.heap.get? b = some o) → z.gens = s.gens → z.os = s.os → s.heap.objs.size ≤ p →
      z.heap.get? p = some (seqObj "list" out c) → StrsAre out.toList ys → ys.Perm ks → sortedS ys = true → Q (.ref p) z) :
    wpAny (model P w) A (call (.builtin "sorted") [.ref a]) Q E s := by
  obtain ⟨o, es, ep, t, ho, hex, hd, g, pm0, nd, hb, hf, hr, hl⟩ := R
  refine Calls.call_function_entry kind_sorted plain_sorted entry_sorted (args_sorted1 _) ?_
  unfold Builtin.«sorted»
  refine wpAny_bind (m := checkCount "sorted" 1 1 _) (wpAny_pure ?_)
  refine wpAny_bind (collect_set (A := A.in1) hh ⟨o, ho, hex.1, hd⟩ hf hb hr hl fun s1 vs k1 hz g1 o1 pm => ?_)
  have hI : StrsAre vs (vs.map strOf) := strs_ktx (w := w) vs fun v hv => by
    obtain ⟨e, he, q⟩ := List.mem_map.mp (pm.mem_iff.mp hv)
    obtain ⟨k, u, h1, _⟩ := g e he
    exact ⟨k, u, by rw [← q]; exact h1⟩
  have pk : (vs.map strOf).Perm ks := by
    refine (pm.map strOf).trans ?_
    rw [List.map_map]
    refine (List.Perm.of_eq (List.map_congr_left fun e he => ?_)).trans pm0
    obtain ⟨k, u, h1, _⟩ := g e he
    show strOf e.2 = ktx e
    unfold ktx
    rw [h1] <;> rfl
  have hvl : vs.length ≤ sizeLine := by
    rw [← List.length_map (f := strOf), pk.length_eq]
    exact Nat.le_trans hn (by decide)
  refine wpAny_bind (wpAny_newList ?_ hvl)
  have hoL : (s1.heap.push (seqObj "list" vs.toArray 0)).get? s1.heap.objs.size = some (seqObj "list" vs.toArray 0) := Heap.get?_push_size _ rfl
  refine wpAny_bind (wpAny_holding (wpAny_call_entry slot_list_sort ⟨_, hoL, rfl⟩ entry_list_sort (list_sort_treeKAny strKind_oneLt hoL hI.keysOf (fun v1 v2 rest e => keyKind_strs (by rw [← e]; exact hI)) hvl fun st' hp hs => ?_) (args_list_sort _)))
  obtain ⟨ys, a1, a2, a3⟩ := sorted_out_str hI hp hs
  refine ⟨_, rfl, ?_⟩
  obtain ⟨c, hc⟩ := sortedHeap_at (vs := vs) (out := (arrOf st').map (·.2)) hoL
  refine wpAny_pure ⟨_, rfl, hQ _ s1.heap.objs.size _ c ys (fun b u e => ?_) g1 o1 hz hc a1 (a2.trans pk) a3⟩
  have q := k1 b u e
  have hlt := Heap.lt_size q
  show (sortedHeap (s1.heap.push (seqObj "list" vs.toArray 0)) s1.heap.objs.size vs _).get? b = some u
  rw [sortedHeap_old (Nat.ne_of_lt hlt) (by rw [size_push']; exact Nat.lt_succ_of_lt hlt)]
  exact Heap.get?_push_of_some _ q
/-- sorted of a set of texts -/
def rSortedX (w : World) : List V → Hp → VK → Prop := fun xs H Q => ∃ (a : Addr) (ks : List Str), xs = [V.ref a] ∧ H a = some (SetX w a ks) ∧ ks.length ≤ 1000 ∧
  ∀ (ys : List Str) (p : Addr), ys.Perm ks → sortedS ys = true → H p = none → Q (.ref p) (upd H p (.lst (ys.map V.str)))
theorem cr_sortedX (hc : X.calm = true) : CallR X (.builtin "sorted") (rSortedX X.w) := by
  intro pins s σ H xs us Q I r h
  obtain ⟨a, ks, rfl, ha, hn, q⟩ := h
  obtain ⟨u, rfl, ru⟩ := vals1 r
  cases ru
  refine sorted_setT (setX_get I ha) (I.ok.hd hc) hn fun z p out c ys k g o hp hg hi pm hs => ?_
  have hlen : (ys.map V.str).length ≤ sizeLine := by rw [List.length_map, pm.length_eq]; exact Nat.le_trans hn (by decide)
  have hf : H p = none := I.hok.fresh hp
  obtain ⟨zh, zg, zd, zt, zo⟩ := z
  obtain rfl : zo = s.os := o
  have new : ObjOk X.prog X.w (upd H p (.lst (ys.map V.str))) zh p (.lst (ys.map V.str)) := ⟨hlen, out.toList, c, vals_of_strs hi, hg⟩
  exact ⟨.ref p, _, I.call (ch := []) (h' := zh) (Un.laid k hp hf) (I.hok.laid k hp new) (by rw [show zg = s.gens from g]; exact I.bare) (fun _ z => nomatch z), rfl, q ys p pm hs hf⟩
/-! ### the dict comprehension -/
def gatD (kx vx : Expr) (env : Env) (D : Addr) : Sem Unit := do
  let kv ← eval kx env
  let vv ← holding [kv] (eval vx env)
  standAt { kx.pos with endLine := vx.pos.endLine, endCol := vx.pos.endCol }
  holding [kv, vv] (dictSet D kv vv)
theorem gath_dict {kx vx tg iter : Expr} {ifs : List Expr} {scope : Scope} {pos : Pos} : Gath (.DictComp kx vx [⟨tg, iter, ifs, 0⟩] scope pos) tg iter ifs (gatD kx vx) where
  clauses := rfl
  loop := by
    intro p w A R s it D env I turn n h
    refine codeAny_loop rfl I (fun n s hI => ?_) n h
    show wpAny _ A ((compTurn (.DictComp kx vx [⟨tg, iter, ifs, 0⟩] scope pos) 0 it (.ref D) env).onRaise (fun x => do noteFrame x env; theTreesLotGoes x)) _ _ s
    refine wpAny_noted ?_
    rw [compTurn_dict]
    refine wpAny_bind (wpAny_standAt (wpAny_bind (wpAny_mono (turn n s hI) (fun r z1 h1 => ?_) fun _ _ q => q)))
    cases r with
    | none => exact wpAny_pure h1
    | some v =>
      refine wpAny_bind (wpAny_mono h1 (fun _ z2 h2 => wpAny_bind (wpAny_mono h2 (fun _ z3 h3 => wpAny_bind (wpAny_mono h3 (fun ok z4 h4 => ?_) fun _ _ q => q)) fun _ _ q => q)) fun _ _ q => q)
      cases ok with
      | false => exact wpAny_pure ⟨rfl, h4⟩
      | true => exact wpAny_bind (wpAny_mono (show wpAny (model p w) A (gatD kx vx env D) _ _ z4 from h4) (fun _ z5 h5 => wpAny_pure ⟨rfl, h5⟩) fun _ _ q => q)
  start := codeAny_compStart_dict
/-- d[k] = v in such a block, k a tuple -/
theorem dSetT {pins : List (Addr × Obj)} {σ : L2.St} {H : Hp} {s : Shared} {E : Value → Shared → Prop} {D b : Addr} {kvs : List (List Key × V)} {k : List Key} {v : V} {r : Value} {Q : Unit → Shared → Prop} (hu : X.A.units + 1 < cLine) (I : Inv X pins σ H s)
    (e : H D = some (.dT kvs)) (eb : H b = some (.tup (k.map kV))) (l : kvs.length < sizeLine) (rv : RelV v r) (h : ∀ z, Inv X pins σ (upd H D (.dT (putK kvs k v))) z → Q () z) : wpAny (model X.prog X.w) X.A (dictSet D (.ref b) r) Q E s := by
  obtain ⟨z, hd, xs, rel, dd⟩ := dt_of I.hok e
  have hz : xs.length ≤ sizeLine := by rw [← Paired.length rel]; exact z
  have hl : (putK kvs k v).length ≤ sizeLine := by have := length_putK kvs k v; omega
  refine wpAny_dictSet_heap (hsz := hz) (show X.A.units < cLine by omega) (key_of I.hok eb) dd fun h' dd' hs => h _ ?_
  obtain ⟨q, es, ep, hq, h2, h3, h4, _, h5⟩ := dd'
  refine d_write I (by rw [e]; exact True.intro) hs ⟨q, hq⟩ ⟨hl, hd, _, (rel.put k eb rv).keeps fun c ys ec => ?_, q, es, ep, hq, h2, h3, h4, h5⟩
  rw [upd_ne (ne_of ec e (fun z => nomatch z))]
  exact ec
def tDcT (wi : TI) (g : TG) (tt : TT) (tk tv : TE) (vs : List Nat) : TE :=
  tGc wi g tt (fun _ => .dT []) (fun D σ H N => tk σ H fun y G => tv σ G fun z G2 => ∃ kvs k b, y = .ref b ∧ G2 D = some (.dT kvs) ∧ G2 b = some (.tup (k.map kV)) ∧ kvs.length ≤ 1000 ∧ N (upd G2 D (.dT (putK kvs k z)))) vs
theorem pe_dcT {kx vx tg iter : Expr} {ifs : List Expr} {scope : Scope} {own : List (Str × Nat)} {pos : Pos} {wi : TI} {g : TG} {tt : TT} {tk tv : TE} (hu : X.A.units + 1 < cLine) (hc : X.calm = true) (hN : X.N.Nodup) (hi : PI X tg iter wi) (ok : BlkOk X.N X.env.scope scope own)
    (hg : ∀ (s : Shared) (H : Hp) (C : Addr) (cl : List (Str × Addr)) (fp : List Addr), PG (X.blk s H scope (compEnvC scope cl C X.env) fp) tg g) (ht : ∀ (s : Shared) (H : Hp) (C : Addr) (cl : List (Str × Addr)) (fp : List Addr), PTs (X.blk s H scope (compEnvC scope cl C X.env) fp) ifs tt)
    (hk : ∀ (s : Shared) (H : Hp) (C : Addr) (cl : List (Str × Addr)) (fp : List Addr), PE (X.blk s H scope (compEnvC scope cl C X.env) fp) kx tk)
    (he : ∀ (s : Shared) (H : Hp) (C : Addr) (cl : List (Str × Addr)) (fp : List Addr), PE (X.blk s H scope (compEnvC scope cl C X.env) fp) vx tv) (hs : ∀ x, foldedSetIterable iter X.env x = pure x := by intro _; rfl) :
    PE X (.DictComp kx vx [⟨tg, iter, ifs, 0⟩] scope pos) (tDcT wi g tt tk tv (own.map (·.2))) := by
  refine ⟨fun pins s σ H Q I h => ?_⟩
  rw [arm_eval_DictComp]
  refine gc_core (o0 := { cls := .type "dict", data := .dict #[] }) hc hN I hi ok gath_dict (fun z E K k => wpAny_newObj_type k) rfl (fun G h b => dt_empty h b) hg ht (fun s H C cl fp D pins z τ G N J q => ?_) hs h
  refine wpAny_bind (thnF ((hk s H C cl fp).run pins z τ G _ J q) fun v z1 ⟨y, G1, J1, r1, q1⟩ => wpAny_bind (wpAny_holding (thnF ((he s H C cl fp).run pins z1 τ G1 _ J1 q1) fun v2 z2 ⟨y2, G2, J2, r2, kvs, k, b, ey, hD, hb, hl, q2⟩ => wpAny_bind (wpAny_standAt (wpAny_holding ?_)))))
  subst ey
  obtain rfl : v = Value.ref b := r1
  exact dSetT (X := X.blk s H scope (compEnvC scope cl C X.env) fp) hu J2 hD hb (Nat.lt_of_le_of_lt hl (by decide)) r2 fun z3 J3 => ⟨_, J3, q2⟩
end
end K29
set_option autoImplicit true
set_option maxHeartbeats 4000000
namespace K29
open PySem PySem.Spec PyProof.Rows L2
/-! What an expression of the walked program comes to: values told by relations that outlive every later step. -/
theorem pr_get {α β : Type} {F : α → β → Prop} : ∀ {xs : List α} {ys : List β} {i : Nat} {y : β}, Paired F xs ys → ys[i]? = some y → ∃ x, xs[i]? = some x ∧ F x y
  | _, _, _, _, .nil, e => by simp at e
  | _, _, 0, _, .cons r _, e => by simp at e; subst e; exact ⟨_, rfl, r⟩
  | _, _, i + 1, y, .cons _ t, e => by
    obtain ⟨u, h1, h2⟩ := pr_get (i := i) (y := y) t (by simpa using e)
    exact ⟨u, by simpa using h1, h2⟩
theorem pr_snoc {α β : Type} {F : α → β → Prop} {x : α} {y : β} : ∀ {xs : List α} {ys : List β}, Paired F xs ys → F x y → Paired F (xs ++ [x]) (ys ++ [y])
  | _, _, .nil, r => .cons r .nil
  | _, _, .cons a t, r => .cons a (pr_snoc t r)
theorem pr_app {α β : Type} {F : α → β → Prop} : ∀ {xs us : List α} {ys ws : List β}, Paired F xs ys → Paired F us ws → Paired F (xs ++ us) (ys ++ ws)
  | _, _, _, _, .nil, r => r
  | _, _, _, _, .cons a t, r => .cons a (pr_app t r)
theorem pr_map {α β γ : Type} {F : α → β → Prop} {G : α → γ → Prop} {f : β → γ} (h : ∀ a b, F a b → G a (f b)) : ∀ {xs : List α} {ys : List β}, Paired F xs ys → Paired G xs (ys.map f)
  | _, _, .nil => .nil
  | _, _, .cons a t => .cons (h _ _ a) (pr_map h t)
theorem pr_set {α β : Type} {F : α → β → Prop} {x : α} {y : β} : ∀ {xs : List α} {ys : List β} (i : Nat), Paired F xs ys → F x y → Paired F (xs.set i x) (ys.set i y)
  | _, _, _, .nil, _ => .nil
  | _, _, 0, .cons _ t, r => .cons r t
  | _, _, i + 1, .cons a t, r => .cons a (pr_set i t r)
theorem pr_rev {α β : Type} {F : α → β → Prop} : ∀ {xs : List α} {ys : List β}, Paired F xs ys → Paired F xs.reverse ys.reverse
  | _, _, .nil => .nil
  | _, _, .cons a t => by rw [List.reverse_cons, List.reverse_cons]; exact pr_snoc (pr_rev t) a
theorem pr_eq {α β : Type} {g : β → α} : ∀ {xs : List α} {ys : List β}, Paired (fun a b => a = g b) xs ys → xs = ys.map g
  | _, _, .nil => rfl
  | _, _, .cons a t => by rw [List.map_cons, ← a, ← pr_eq t]
theorem pr_of {α β : Type} {g : β → α} : ∀ (ys : List β), Paired (fun a b => a = g b) (ys.map g) ys
  | [] => .nil
  | _ :: ys => .cons rfl (pr_of ys)

/-! ### heaps that grow -/
structure Es (T : List (Addr × Str)) (H H' : Hp) : Prop where
  k : LamX.ExtN H H'
  t : LamX.Tabs T H → LamX.Tabs T H'
def IsDc (o : HO) : Prop := (∃ kvs, o = .dT kvs) ∨ ∃ kvs, o = .dK kvs
def Kr (H H' : Hp) : Prop := ∀ a o, H a = some o → (∀ ps, o ≠ .tbl ps) → H' a = some o ∨ (IsDc o ∧ ∃ od, H' a = some (.frz od o)) ∨ ∃ od u, o = .frz od u ∧ IsDc u ∧ H' a = some u
section
variable {T : List (Addr × Str)} {H H0 H1 H2 H' : Hp} {p : Addr} {o o' : HO}
theorem Es.refl (H : Hp) : Es T H H := ⟨LamX.ExtN.refl H, fun t => t⟩
theorem Es.trans (a : Es T H H1) (b : Es T H1 H2) : Es T H H2 := ⟨a.k.trans b.k, fun t => b.t (a.t t)⟩
theorem Es.of (e : ∀ b o, H b = some o → H' b = some o) : Es T H H' := ⟨LamX.ExtN.of e, fun t => t.ext e⟩
theorem new_sub (n : H p = none) : ∀ b u, H b = some u → upd H p o b = some u := fun b u e => by rw [upd_ne (ne_of_none e n)]; exact e
theorem Es.new (n : H p = none) : Es T H (upd H p o) := .of (new_sub n)
theorem Es.put (e : Es T H0 H) (n : H p = none) : Es T H0 (upd H p o) := e.trans (.new n)
theorem Es.kr (e : Es T H H') : Kr H H' := fun a o h n => .inl (e.k a o h n)
theorem Kr.refl (H : Hp) : Kr H H := fun _ _ h _ => .inl h
/-- no table, no code object -/
structure Ok (o : HO) : Prop where
  a : ∀ ps, o ≠ .tbl ps
  b : ∀ c q, o ≠ LamX.CodeO c q
  c : ∀ xs, o ≠ .tup xs
theorem Ok.lst (xs : List V) : Ok (.lst xs) := ⟨fun _ z => (by cases z), fun _ _ z => (by unfold LamX.CodeO at z; cases z), fun _ z => (by cases z)⟩
theorem Ok.dT (xs : List (List Key × V)) : Ok (.dT xs) := ⟨fun _ z => (by cases z), fun _ _ z => (by unfold LamX.CodeO at z; cases z), fun _ z => (by cases z)⟩
theorem Ok.dK (xs : List (Key × V)) : Ok (.dK xs) := ⟨fun _ z => (by cases z), fun _ _ z => (by unfold LamX.CodeO at z; cases z), fun _ z => (by cases z)⟩
theorem Ok.frz (od : Obj) (u : HO) : Ok (.frz od u) := ⟨fun _ z => (by cases z), fun _ _ z => (by unfold LamX.CodeO at z; cases z), fun _ z => (by cases z)⟩
theorem Ok.ins (C dx : Addr) (fs : List (Str × V)) : Ok (.ins C dx fs) := ⟨fun _ z => (by cases z), fun _ _ z => (by unfold LamX.CodeO at z; cases z), fun _ z => (by cases z)⟩
/-- an object that H0 does not know may change -/
theorem Es.mut (e : Es T H0 H) (n : H0 p = none) (hp : H p = some o') (ok : Ok o') : Es T H0 (upd H p o) := by
  refine ⟨fun b u h q => ?_, fun t x hx => ?_⟩
  · rw [upd_ne (ne_of_none h n)]
    exact e.k b u h q
  · obtain ⟨ps, h1, h2, h3⟩ := e.t t x hx
    refine ⟨ps, ?_, h2, fun pos cv hc => ?_⟩
    · rw [upd_ne fun z => ok.a ps (Option.some.inj (hp.symm.trans (by rw [← z]; exact h1)))]
      exact h1
    · obtain ⟨c, e1, e2⟩ := h3 pos cv hc
      refine ⟨c, e1, ?_⟩
      rw [upd_ne fun z => ok.b _ _ (Option.some.inj (hp.symm.trans (by rw [← z]; exact e2)))]
      exact e2
theorem Es.mutL {xs : List V} (e : Es T H0 H) (n : H0 p = none) (hp : H p = some (.lst xs)) : Es T H0 (upd H p o) := e.mut n hp (.lst _)
theorem Es.mutT {kvs : List (List Key × V)} (e : Es T H0 H) (n : H0 p = none) (hp : H p = some (.dT kvs)) : Es T H0 (upd H p o) := e.mut n hp (.dT _)
theorem Es.mutK {kvs : List (Key × V)} (e : Es T H0 H) (n : H0 p = none) (hp : H p = some (.dK kvs)) : Es T H0 (upd H p o) := e.mut n hp (.dK _)
theorem Es.free (e : Es T H H') (n : H' p = none) (nt : ∀ ps, H p ≠ some (.tbl ps)) : H p = none := by
  cases q : H p with
  | none => rfl
  | some u =>
    have := e.k p u q fun ps z => nt ps (by rw [q, z])
    rw [n] at this
    cases this
theorem Es.lst {xs : List V} (e : Es T H H') (h : H p = some (.lst xs)) : H' p = some (.lst xs) := e.k _ _ h fun _ z => by cases z
theorem Es.tup {xs : List V} (e : Es T H H') (h : H p = some (.tup xs)) : H' p = some (.tup xs) := e.k _ _ h fun _ z => by cases z
theorem Es.dT {xs : List (List Key × V)} (e : Es T H H') (h : H p = some (.dT xs)) : H' p = some (.dT xs) := e.k _ _ h fun _ z => by cases z
theorem Es.dK {xs : List (Key × V)} (e : Es T H H') (h : H p = some (.dK xs)) : H' p = some (.dK xs) := e.k _ _ h fun _ z => by cases z
theorem Es.frz {od : Obj} {u : HO} (e : Es T H H') (h : H p = some (.frz od u)) : H' p = some (.frz od u) := e.k _ _ h fun _ z => by cases z
theorem Es.seq {K : PySem.W.Frag} {xs : List V} (e : Es T H H') (h : SqL K H p xs) : SqL K H' p xs := by
  rcases h with (h | ⟨od, h⟩) | h
  · exact .inl (.inl (e.lst h))
  · exact .inl (.inr ⟨od, e.frz h⟩)
  · exact .inr h
theorem Es.sqt {K : PySem.W.Frag} {xs : List V} (e : Es T H H') (h : SqT K H p xs) : SqT K H' p xs := by
  rcases h with (h | ⟨od, h⟩) | h
  · exact .inl (.inl (e.tup h))
  · exact .inl (.inr ⟨od, e.frz h⟩)
  · exact .inr h
theorem Kr.lst {xs : List V} (e : Kr H H') (h : H p = some (.lst xs)) : H' p = some (.lst xs) := by
  rcases e _ _ h (fun _ z => by cases z) with q | ⟨⟨_, z⟩ | ⟨_, z⟩, _⟩ | ⟨_, _, z, _⟩
  · exact q
  · cases z
  · cases z
  · cases z
theorem Kr.tup {xs : List V} (e : Kr H H') (h : H p = some (.tup xs)) : H' p = some (.tup xs) := by
  rcases e _ _ h (fun _ z => by cases z) with q | ⟨⟨_, z⟩ | ⟨_, z⟩, _⟩ | ⟨_, _, z, _⟩
  · exact q
  · cases z
  · cases z
  · cases z
theorem Kr.ins {C dx : Addr} {fs : List (Str × V)} (e : Kr H H') (h : H p = some (.ins C dx fs)) : H' p = some (.ins C dx fs) := by
  rcases e _ _ h (fun _ z => by cases z) with q | ⟨⟨_, z⟩ | ⟨_, z⟩, _⟩ | ⟨_, _, z, _⟩
  · exact q
  · cases z
  · cases z
  · cases z
theorem Kr.rdT {kvs : List (List Key × V)} (e : Kr H H') (h : Rd H p (.dT kvs)) : Rd H' p (.dT kvs) := by
  rcases h with h | ⟨od, h⟩
  · rcases e _ _ h (fun _ z => by cases z) with q | ⟨_, od, q⟩ | ⟨_, _, z, _⟩
    · exact .inl q
    · exact .inr ⟨od, q⟩
    · cases z
  · rcases e _ _ h (fun _ z => by cases z) with q | ⟨⟨_, z⟩ | ⟨_, z⟩, _⟩ | ⟨_, _, z, _, q⟩
    · exact .inr ⟨od, q⟩
    · cases z
    · cases z
    · cases z
      exact .inl q
theorem Kr.rdK {kvs : List (Key × V)} (e : Kr H H') (h : Rd H p (.dK kvs)) : Rd H' p (.dK kvs) := by
  rcases h with h | ⟨od, h⟩
  · rcases e _ _ h (fun _ z => by cases z) with q | ⟨_, od, q⟩ | ⟨_, _, z, _⟩
    · exact .inl q
    · exact .inr ⟨od, q⟩
    · cases z
  · rcases e _ _ h (fun _ z => by cases z) with q | ⟨⟨_, z⟩ | ⟨_, z⟩, _⟩ | ⟨_, _, z, _, q⟩
    · exact .inr ⟨od, q⟩
    · cases z
    · cases z
    · cases z
      exact .inl q
/-- a dict is locked -/
theorem Kr.lock {od : Obj} {u : HO} (hp : H p = some u) (d : IsDc u) : Kr H (upd H p (.frz od u)) := fun a o h _ => by
  by_cases e : a = p
  · rw [e] at h ⊢
    rw [hp] at h
    cases h
    exact .inr (.inl ⟨d, od, upd_same⟩)
  · exact .inl (by rw [upd_ne e]; exact h)
theorem Kr.unlock {od : Obj} {u : HO} (hp : H p = some (.frz od u)) (d : IsDc u) : Kr H (upd H p u) := fun a o h _ => by
  by_cases e : a = p
  · rw [e] at h ⊢
    rw [hp] at h
    cases h
    exact .inr (.inr ⟨od, u, rfl, d, upd_same⟩)
  · exact .inl (by rw [upd_ne e]; exact h)
theorem tabs_upd {od : Obj} {u : HO} (hp : H p = some u) (d : IsDc u) (t : LamX.Tabs T H) : LamX.Tabs T (upd H p (.frz od u)) := by
  have nt : ∀ ps, u ≠ .tbl ps := fun ps z => by rcases d with ⟨_, q⟩ | ⟨_, q⟩ <;> rw [z] at q <;> cases q
  have nx : ∀ c q, u ≠ LamX.CodeO c q := fun c q' z => by rcases d with ⟨_, q⟩ | ⟨_, q⟩ <;> rw [z] at q <;> unfold LamX.CodeO at q <;> cases q
  intro y hy
  obtain ⟨ps, h1, h2, h3⟩ := t y hy
  refine ⟨ps, ?_, h2, fun pos cv hc => ?_⟩
  · rw [upd_ne fun z => nt ps (Option.some.inj (hp.symm.trans (by rw [← z]; exact h1)))]
    exact h1
  · obtain ⟨c, e1, e2⟩ := h3 pos cv hc
    refine ⟨c, e1, ?_⟩
    rw [upd_ne fun z => nx _ _ (Option.some.inj (hp.symm.trans (by rw [← z]; exact e2)))]
    exact e2
theorem tabs_dnu {od : Obj} {u : HO} (hp : H p = some u) (t : LamX.Tabs T (upd H p (.frz od u))) : LamX.Tabs T H := by
  intro y hy
  obtain ⟨ps, h1, h2, h3⟩ := t y hy
  have at_ : ∀ a o, upd H p (.frz od u) a = some o → (∀ od' u', o ≠ .frz od' u') → H a = some o := fun a o ha hn => by
    by_cases e : a = p
    · rw [e, upd_same] at ha
      exact absurd (Option.some.inj ha).symm (hn _ _)
    · rw [upd_ne e] at ha
      exact ha
  refine ⟨ps, at_ _ _ h1 (fun _ _ z => by cases z), h2, fun pos cv hc => ?_⟩
  obtain ⟨c, e1, e2⟩ := h3 pos cv hc
  exact ⟨c, e1, at_ _ _ e2 fun _ _ z => by unfold LamX.CodeO at z; cases z⟩
theorem Es.lock {od : Obj} {u : HO} (hp : H p = some u) (d : IsDc u) (e : Es T H H') : Es T (upd H p (.frz od u)) (upd H' p (.frz od u)) := by
  have nt : ∀ ps, u ≠ .tbl ps := fun ps z => by rcases d with ⟨_, q⟩ | ⟨_, q⟩ <;> rw [z] at q <;> cases q
  refine ⟨fun b o h n => ?_, fun t => tabs_upd (e.k _ _ hp nt) d (e.t (tabs_dnu hp t))⟩
  by_cases eb : b = p
  · rw [eb, upd_same] at h ⊢
    exact h
  · rw [upd_ne eb] at h ⊢
    exact e.k b o h n
/-- .. and let go -/
theorem Es.unlock {od : Obj} {u : HO} (hp : H p = some u) (d : IsDc u) (e : Es T (upd H p (.frz od u)) H') (h : H' p = some (.frz od u)) : Es T H (upd H' p u) := by
  have nt : ∀ ps, u ≠ .tbl ps := fun ps z => by rcases d with ⟨_, q⟩ | ⟨_, q⟩ <;> rw [z] at q <;> cases q
  have nx : ∀ c q, u ≠ LamX.CodeO c q := fun c q' z => by rcases d with ⟨_, q⟩ | ⟨_, q⟩ <;> rw [z] at q <;> unfold LamX.CodeO at q <;> cases q
  refine ⟨fun b o hb n => ?_, fun t x hx => ?_⟩
  · by_cases eb : b = p
    · rw [eb] at hb ⊢
      rw [upd_same]
      exact hp.symm.trans hb
    · rw [upd_ne eb]
      exact e.k b o (by rw [upd_ne eb]; exact hb) n
  · have t1 : LamX.Tabs T (upd H p (.frz od u)) := fun y hy => by
      obtain ⟨ps, h1, h2, h3⟩ := t y hy
      refine ⟨ps, ?_, h2, fun pos cv hc => ?_⟩
      · rw [upd_ne fun z => nt ps (Option.some.inj (hp.symm.trans (by rw [← z]; exact h1)))]
        exact h1
      · obtain ⟨c, e1, e2⟩ := h3 pos cv hc
        refine ⟨c, e1, ?_⟩
        rw [upd_ne fun z => nx _ _ (Option.some.inj (hp.symm.trans (by rw [← z]; exact e2)))]
        exact e2
    obtain ⟨ps, h1, h2, h3⟩ := e.t t1 x hx
    refine ⟨ps, ?_, h2, fun pos cv hc => ?_⟩
    · rw [upd_ne fun z => by rw [z, h] at h1; cases h1]
      exact h1
    · obtain ⟨c, e1, e2⟩ := h3 pos cv hc
      refine ⟨c, e1, ?_⟩
      rw [upd_ne fun z => by rw [z, h] at e2; exact (Ok.frz od u).b _ _ (Option.some.inj e2)]
      exact e2
end

/-! ### hidden addresses -/
def vis (N : List Addr) (H : Hp) : Hp := fun a => if a ∈ N then none else H a
def Nok (N : List Addr) (H : Hp) : Prop := ∀ n ∈ N, ∃ o, H n = some o ∧ Ok o
section
variable {T : List (Addr × Str)} {N : List Addr} {H H0 H1 H2 : Hp} {p D a : Addr} {o o' : HO}
theorem vis_sub (h : vis N H a = some o) : H a = some o := by
  unfold vis at h
  by_cases q : a ∈ N
  · rw [if_pos q] at h; cases h
  · rw [if_neg q] at h; exact h
theorem vis_ne (h : a ∉ N) : vis N H a = H a := if_neg h
theorem vis_nil : vis [] H = H := by funext a; exact if_neg (by simp)
theorem Es.sub (N : List Addr) (H : Hp) : Es T (vis N H) H := .of fun _ _ h => vis_sub h
theorem Nok.nil : Nok [] H := fun n h => by simp at h
theorem Nok.step (k : Nok N H1) (e : Es T H1 H2) : Nok N H2 := fun n h => by
  obtain ⟨o, h1, h2⟩ := k n h
  exact ⟨o, e.k n o h1 h2.a, h2⟩
theorem Nok.fresh (k : Nok N H) (n : H p = none) : p ∉ N := fun h => by
  obtain ⟨o, h1, _⟩ := k p h
  rw [n] at h1
  cases h1
theorem Nok.tabs (k : Nok N H) (t : LamX.Tabs T H) : LamX.Tabs T (vis N H) := fun x hx => by
  obtain ⟨ps, h1, h2, h3⟩ := t x hx
  refine ⟨ps, ?_, h2, fun pos cv hc => ?_⟩
  · rw [vis_ne fun z => ?_]
    · exact h1
    · obtain ⟨o, a1, a2⟩ := k _ z
      exact a2.a ps (Option.some.inj (a1.symm.trans h1))
  · obtain ⟨c, e1, e2⟩ := h3 pos cv hc
    refine ⟨c, e1, ?_⟩
    rw [vis_ne fun z => ?_]
    · exact e2
    · obtain ⟨o, a1, a2⟩ := k _ z
      exact a2.b _ _ (Option.some.inj (a1.symm.trans e2))
theorem Es.vis (k : Nok N H1) (e : Es T H1 H2) : Es T (vis N H1) (vis N H2) := ⟨fun b u h q => by
    by_cases hb : b ∈ N
    · rw [K29.vis, if_pos hb] at h; cases h
    · rw [vis_ne hb] at h ⊢
      exact e.k b u h q, fun t => (k.step e).tabs (e.t (t.ext fun _ _ h => vis_sub h))⟩
theorem Nok.tup {xs : List V} (k : Nok N H) (h : H a = some (.tup xs)) : K29.vis N H a = some (.tup xs) := by
  rw [vis_ne fun z => ?_]
  · exact h
  · obtain ⟨o, a1, a2⟩ := k _ z
    exact a2.c xs (Option.some.inj (a1.symm.trans h))
theorem Kr.es {H0 : Hp} (a : Kr H0 H1) (e : Es T H1 H2) : Kr H0 H2 := fun b o h n => by
  rcases a b o h n with q | ⟨d, od, q⟩ | ⟨od, u, z, d, q⟩
  · exact .inl (e.k _ _ q n)
  · exact .inr (.inl ⟨d, od, e.frz q⟩)
  · exact .inr (.inr ⟨od, u, z, d, e.k _ _ q fun ps z => by rcases d with ⟨_, w⟩ | ⟨_, w⟩ <;> rw [z] at w <;> cases w⟩)
/-- H1, but for what is hidden, has grown from H0 -/
structure At (T : List (Addr × Str)) (N : List Addr) (H0 H1 : Hp) : Prop where
  ok : Nok N H1
  e : Es T H0 (K29.vis N H1)
theorem At.refl (H : Hp) : At T [] H H := ⟨.nil, by rw [vis_nil]; exact .refl _⟩
theorem At.full (a : At T N H0 H1) : Es T H0 H1 := a.e.trans (.sub N H1)
theorem At.step (a : At T N H0 H1) (e : Es T H1 H2) : At T N H0 H2 := ⟨a.ok.step e, a.e.trans (e.vis a.ok)⟩
theorem At.base (a : At T N H1 H2) (e : Es T H0 H1) : At T N H0 H2 := ⟨a.ok, e.trans a.e⟩
theorem At.self (k : Nok N H) : At T N (K29.vis N H) H := ⟨k, .refl _⟩
theorem vis_hide : K29.vis (D :: N) (upd H D o) = K29.vis (D :: N) H := by
  funext b
  unfold K29.vis
  by_cases hb : b ∈ D :: N
  · rw [if_pos hb, if_pos hb]
  · rw [if_neg hb, if_neg hb, upd_ne fun z => hb (by rw [z]; exact List.mem_cons_self ..)]
theorem vis_none (n : H D = none) : K29.vis (D :: N) H = K29.vis N H := by
  funext b
  unfold K29.vis
  by_cases e : b = D
  · rw [e, if_pos (List.mem_cons_self ..), n]
    by_cases hb : D ∈ N
    · rw [if_pos hb]
    · rw [if_neg hb]
  · by_cases hb : b ∈ N
    · rw [if_pos (List.mem_cons_of_mem _ hb), if_pos hb]
    · rw [if_neg hb, if_neg (fun z => (List.mem_cons.mp z).elim e hb)]
/-- a new object, hidden -/
theorem At.hide (a : At T N H0 H1) (n : H1 D = none) (k : Ok o) : At T (D :: N) H0 (upd H1 D o) := ⟨fun m hm => by
    rcases List.mem_cons.mp hm with z | z
    · rw [z]; exact ⟨o, upd_same, k⟩
    · obtain ⟨u, h1, h2⟩ := a.ok m z
      exact ⟨u, new_sub n _ _ h1, h2⟩, by rw [vis_hide, vis_none n]; exact a.e⟩
/-- a hidden one changes -/
theorem At.put (a : At T (D :: N) H0 H1) (k : Ok o) : At T (D :: N) H0 (upd H1 D o) := ⟨fun m hm => by
    by_cases z : m = D
    · rw [z]; exact ⟨o, upd_same, k⟩
    · rw [upd_ne z]; exact a.ok m hm, by rw [vis_hide]; exact a.e⟩
theorem vis_back (D : Addr) : Kr (K29.vis (D :: N) H) (K29.vis N H) := fun b u h _ => .inl (by
  unfold K29.vis at h ⊢
  by_cases hb : b ∈ D :: N
  · rw [if_pos hb] at h; cases h
  · rw [if_neg hb] at h
    rw [if_neg fun z => hb (List.mem_cons_of_mem _ z)]
    exact h)
theorem vis_new (k : Nok N H) (n : H p = none) : K29.vis N (upd H p o) p = some o := by rw [vis_ne (k.fresh n), upd_same]
theorem vis_upd (h : D ∉ N) : K29.vis N (upd H D o) = upd (K29.vis N H) D o := by
  funext b
  by_cases e : b = D
  · rw [e, upd_same, vis_ne h, upd_same]
  · rw [upd_ne e]
    unfold K29.vis
    by_cases hb : b ∈ N
    · rw [if_pos hb, if_pos hb]
    · rw [if_neg hb, if_neg hb, upd_ne e]
theorem vis_in (h : K29.vis N H D = some o) : D ∉ N := fun z => by
  unfold K29.vis at h
  rw [if_pos z] at h
  cases h
/-- a visible dict is locked -/
theorem At.lock {od : Obj} {u : HO} (a : At T N H0 H1) (hp : H0 D = some u) (d : IsDc u) : H1 D = some u ∧ At T N (upd H0 D (.frz od u)) (upd H1 D (.frz od u)) := by
  have nt : ∀ ps, u ≠ .tbl ps := fun ps z => by rcases d with ⟨_, q⟩ | ⟨_, q⟩ <;> rw [z] at q <;> cases q
  have h1 : K29.vis N H1 D = some u := a.e.k _ _ hp nt
  have nD := vis_in h1
  refine ⟨vis_sub h1, fun m hm => ?_, ?_⟩
  · by_cases z : m = D
    · exact absurd (z ▸ hm) nD
    · rw [upd_ne z]
      exact a.ok m hm
  · rw [vis_upd nD]
    exact a.e.lock hp d
/-- a hidden object is shown -/
theorem vis_open (h : H D = some o) (n : D ∉ N) : K29.vis N H D = some o := by rw [vis_ne n]; exact h
end

/-! ### relations between values and what they stand for -/
structure Rel (α : Type) where
  r : Hp → V → α → Prop
  st : ∀ {H H' : Hp} {v : V} {x : α}, Kr H H' → r H v x → r H' v x
def rInt : Rel Int := ⟨fun _ v i => v = .int i, fun _ h => h⟩
def rNat : Rel Nat := ⟨fun _ v i => v = .int (i : Int), fun _ h => h⟩
def rB : Rel Bool := ⟨fun _ v b => v = .bl b, fun _ h => h⟩
def rS : Rel Str := ⟨fun _ v s => v = .str s, fun _ h => h⟩
def rO {α : Type} (R : Rel α) : Rel (Option α) := ⟨fun H v x => match x with | none => v = .non | some y => R.r H v y, fun {H H' v x} e h => by
  cases x with
  | none => exact h
  | some y => exact R.st e h⟩
theorem pr_st {α : Type} {R : Rel α} {H H' : Hp} (e : Kr H H') {vs : List V} {xs : List α} (h : Paired (R.r H) vs xs) : Paired (R.r H') vs xs := Paired.mapP h fun _ _ q => R.st e q
/-- a list, a tuple of such -/
def rL {α : Type} (R : Rel α) : Rel (List α) := ⟨fun H v xs => ∃ p vs, v = .ref p ∧ H p = some (.lst vs) ∧ Paired (R.r H) vs xs, fun e ⟨p, vs, h1, h2, h3⟩ => ⟨p, vs, h1, e.lst h2, pr_st e h3⟩⟩
def rT {α : Type} (R : Rel α) : Rel (List α) := ⟨fun H v xs => ∃ p vs, v = .ref p ∧ H p = some (.tup vs) ∧ Paired (R.r H) vs xs, fun e ⟨p, vs, h1, h2, h3⟩ => ⟨p, vs, h1, e.tup h2, pr_st e h3⟩⟩
/-- a pair of numbers -/
abbrev Pr := Nat × Nat
def rP : Rel Pr := ⟨fun H v x => ∃ p, v = .ref p ∧ H p = some (.tup [.int (x.1 : Int), .int (x.2 : Int)]), fun e ⟨p, h1, h2⟩ => ⟨p, h1, e.tup h2⟩⟩
def rPair {α β : Type} (R : Rel α) (S : Rel β) : Rel (α × β) := ⟨fun H v x => ∃ p a b, v = .ref p ∧ H p = some (.tup [a, b]) ∧ R.r H a x.1 ∧ S.r H b x.2, fun e ⟨p, a, b, h1, h2, h3, h4⟩ => ⟨p, a, b, h1, e.tup h2, R.st e h3, S.st e h4⟩⟩
/-- a word over 'a', 'b', ..: its letters by number -/
abbrev Wd := List Nat
def wS (l : Wd) : Str := ⟨(l.map (97 + ·)).toArray⟩
def rW : Rel Wd := ⟨fun _ v l => v = .str (wS l), fun _ h => h⟩
/-- a dict whose keys are pairs -/
def pK (x : Pr) : List Key := [.inl (x.1 : Int), .inl (x.2 : Int)]
def DpR {α : Type} (R : Rel α) (H : Hp) (kvs : List (List Key × V)) (xs : List (Pr × α)) : Prop := Paired (fun (kv : List Key × V) (x : Pr × α) => kv.1 = pK x.1 ∧ R.r H kv.2 x.2) kvs xs
theorem DpR.st {α : Type} {R : Rel α} {H H' : Hp} {kvs : List (List Key × V)} {xs : List (Pr × α)} (e : Kr H H') (h : DpR R H kvs xs) : DpR R H' kvs xs := Paired.mapP h fun _ _ q => ⟨q.1, R.st e q.2⟩
def rD {α : Type} (R : Rel α) : Rel (List (Pr × α)) := ⟨fun H v xs => ∃ p kvs, v = .ref p ∧ Rd H p (.dT kvs) ∧ DpR R H kvs xs, fun e ⟨p, kvs, h1, h2, h3⟩ => ⟨p, kvs, h1, e.rdT h2, h3.st e⟩⟩
theorem rP_key {H : Hp} {v : V} {x : Pr} (h : rP.r H v x) : ∃ p, v = .ref p ∧ H p = some (.tup ((pK x).map kV)) := h
theorem pK_inj {x y : Pr} (h : pK x = pK y) : x = y := by
  obtain ⟨a, b⟩ := x
  obtain ⟨c, d⟩ := y
  simp only [pK, List.cons.injEq, Sum.inl.injEq, and_true] at h
  obtain ⟨h1, h2⟩ := h
  have h1 : (a : Int) = (c : Int) := h1
  have h2 : (b : Int) = (d : Int) := h2
  congr 1 <;> omega
def getD {α : Type} (xs : List (Pr × α)) (k : Pr) : Option α := (xs.find? fun kv => decide (kv.1 = k)).map (·.2)
theorem dpr_get {α : Type} {R : Rel α} {H : Hp} {k : Pr} : ∀ {kvs : List (List Key × V)} {xs : List (Pr × α)}, DpR R H kvs xs → match getD xs k with | none => valV kvs (pK k) = none | some x => ∃ v, valV kvs (pK k) = some v ∧ R.r H v x
  | _, _, .nil => rfl
  | kv :: kvs, x :: xs, .cons ⟨r1, r2⟩ t => by
    by_cases e : x.1 = k
    · have e1 : kv.1 = pK k := by rw [r1, e]
      simp only [getD, List.find?_cons, e, decide_true, Option.map_some]
      exact ⟨kv.2, valV_pos e1, r2⟩
    · have e1 : ¬ kv.1 = pK k := fun z => e (pK_inj (r1.symm.trans z))
      have ih := dpr_get (k := k) t
      have g : getD (x :: xs) k = getD xs k := by simp [getD, List.find?_cons, e]
      have g2 : valV (kv :: kvs) (pK k) = valV kvs (pK k) := by simp [valV, List.find?_cons, e1]
      rw [g, g2]
      exact ih

end K29
set_option autoImplicit false
set_option maxHeartbeats 4000000
namespace K29
open PySem PySem.Spec PyProof.Rows L2
/-! Expressions: what they come to. -/
section
variable {T : List (Addr × Str)} {K : PySem.W.Frag} {α β γ : Type}
def Ev (T : List (Addr × Str)) {α : Type} (te : TE) (σ : L2.St) (H : Hp) (R : Rel α) (x : α) : Prop := ∀ N H1, At T N H H1 → ∀ Q : VK, (∀ v H2, Es T H1 H2 → R.r (vis N H2) v x → Q v H2) → te σ H1 Q
def EvT (T : List (Addr × Str)) (tt : TT) (σ : L2.St) (H : Hp) (b : Bool) : Prop := ∀ N H1, At T N H H1 → ∀ Q : Bool → Hp → Prop, (∀ H2, Es T H1 H2 → Q b H2) → tt σ H1 Q
def EvA (T : List (Addr × Str)) (ta : TA) (σ : L2.St) (H : Hp) (P : Hp → List V → Prop) : Prop := ∀ N H1, At T N H H1 → ∀ Q : List V → Hp → Prop, (∀ vs H2, Es T H1 H2 → P (vis N H2) vs → Q vs H2) → ta σ H1 Q
def EvO (T : List (Addr × Str)) (to : TO) (σ : L2.St) (H : Hp) (o : Option Int) : Prop := ∀ N H1, At T N H H1 → ∀ Q : Option Int → Hp → Prop, (∀ H2, Es T H1 H2 → Q o H2) → to σ H1 Q
/-- a two-place operation on values -/
def RV (T : List (Addr × Str)) {α β γ : Type} (r : R2) (R : Rel α) (x : α) (S : Rel β) (y : β) (U : Rel γ) (z : γ) : Prop :=
  ∀ N H a b, Nok N H → R.r (vis N H) a x → S.r (vis N H) b y → ∀ Q : VK, (∀ v H2, Es T H H2 → U.r (vis N H2) v z → Q v H2) → r a b H Q
/-- what a walk gives, turn by turn -/
def EvI (T : List (Addr × Str)) {α : Type} (wi : TI) (σ : L2.St) (H : Hp) (R : Rel α) (xs : List α) : Prop := ∀ N H1, At T N H H1 → ∀ Q : It → Hp → Prop,
  (∀ J H2 G Y, Es T H1 H2 → (∀ M G1, At T M (vis N H2) G1 → G G1) → Walk J xs.length G Y → (∀ i G1 v G2 M, i < xs.length → At T M (vis N H2) G1 → Y i G1 v G2 → Es T G1 G2 ∧ ∃ y, xs[i]? = some y ∧ R.r (vis M G2) v y) → Q J H2) → wi σ H1 Q
variable {σ : L2.St} {H H' : Hp} {R : Rel α} {S : Rel β} {U : Rel γ} {x : α} {y : β} {z : γ} {ta tb tc te : TE} {tt tu : TT} {b c : Bool} {i j : Int} {n m : Nat}
theorem Rel.es {R : Rel α} {v : V} {x : α} (h : R.r H v x) (e : Es T H H') : R.r H' v x := R.st e.kr h
theorem Rel.up {R : Rel α} {v : V} {x : α} {N : List Addr} (h : R.r (vis N H) v x) (k : Nok N H) (e : Es T H H') : R.r (vis N H') v x := R.st (e.vis k).kr h
theorem Rel.out {R : Rel α} {v : V} {x : α} {N : List Addr} (h : R.r (vis N H) v x) : R.r H v x := R.st (Es.sub (T := []) N H).kr h
theorem Ev.mono (h : Ev T te σ H R x) (e : Es T H H') : Ev T te σ H' R x := fun N H1 e1 => h N H1 (e1.base e)
theorem EvT.mono (h : EvT T tt σ H b) (e : Es T H H') : EvT T tt σ H' b := fun N H1 e1 => h N H1 (e1.base e)
theorem Ev.to {x' : α} (h : Ev T te σ H R x) (e : x = x') : Ev T te σ H R x' := e ▸ h
theorem EvT.to (h : EvT T tt σ H b) (e : b = c) : EvT T tt σ H c := e ▸ h
/-- another reading of the same value -/
theorem Ev.as (h : Ev T te σ H R x) (k : ∀ G v, R.r G v x → S.r G v y) : Ev T te σ H S y := fun N H1 e Q q => h N H1 e Q fun v H2 e2 r => q v H2 e2 (k _ _ r)
theorem Ev.nat (h : Ev T te σ H rInt (n : Int)) : Ev T te σ H rNat n := h.as fun _ _ r => r
theorem Ev.int (h : Ev T te σ H rNat n) : Ev T te σ H rInt (n : Int) := h.as fun _ _ r => r
theorem Ev.some_ (h : Ev T te σ H R x) : Ev T te σ H (rO R) (some x) := h.as fun _ _ r => r
theorem Ev.natI (h : Ev T te σ H rInt i) (e : i = (n : Int)) : Ev T te σ H rNat n := (h.to e).nat
theorem e_var {k : Nat} {v : V} (h : σ[k]? = some (some v)) (r : R.r H v x) : Ev T (tVar k) σ H R x := fun N H1 e Q q => ⟨v, h, q v H1 (.refl _) (Rel.es r e.e)⟩
theorem e_c {v : V} (r : R.r H v x) : Ev T (tC v) σ H R x := fun N H1 e Q q => q v H1 (.refl _) (Rel.es r e.e)
theorem e_int (i : Int) : Ev T (tC (.int i)) σ H rInt i := e_c rfl
theorem e_nat (n : Nat) : Ev T (tC (.int (n : Int))) σ H rNat n := e_c rfl
theorem e_str (s : Str) : Ev T (tC (.str s)) σ H rS s := e_c rfl
theorem e_bl (b : Bool) : Ev T (tC (.bl b)) σ H rB b := e_c rfl
theorem e_non : Ev T (tC .non) σ H (rO R) none := e_c rfl
theorem e_op {r : R2} (ha : Ev T ta σ H R x) (hb : Ev T tb σ H S y) (hr : RV T r R x S y U z) : Ev T (tOp r ta tb) σ H U z := fun N H1 e Q q =>
  ha N H1 e _ fun a H2 e2 ra => hb N H2 (e.step e2) _ fun b H3 e3 rb => hr N H3 a b ((e.step e2).step e3).ok (Rel.up ra (e.step e2).ok e3) rb Q fun v H4 e4 rv => q v H4 ((e2.trans e3).trans e4) rv
theorem RV.pure {r : R2} {V' : V} (h : ∀ H a b, R.r H a x → S.r H b y → ∀ Q : VK, Q V' H → r a b H Q) (u : ∀ H, U.r H V' z) : RV T r R x S y U z := fun N H a b _ ra rb Q q => h H a b (Rel.out ra) (Rel.out rb) Q (q _ H (.refl _) (u _))
theorem o_I0 {g : Int → Int → Int} : RV T (rI0 fun i j => .int (g i j)) rInt i rInt j rInt (g i j) := .pure (fun H a b ra rb Q q => ⟨i, j, ra, rb, q⟩) fun _ => rfl
theorem o_I {C : Int → Int → Prop} {g : Int → Int → Int} (hc : C i j) : RV T (rI C fun i j => .int (g i j)) rInt i rInt j rInt (g i j) := .pure (fun H a b ra rb Q q => ⟨i, j, ra, rb, hc, q⟩) fun _ => rfl
theorem o_B0 {g : Int → Int → Bool} : RV T (rI0 fun i j => .bl (g i j)) rInt i rInt j rB (g i j) := .pure (fun H a b ra rb Q q => ⟨i, j, ra, rb, q⟩) fun _ => rfl
theorem o_eqI : RV T rEq rInt i rInt j rB (decide (i = j)) := .pure (fun H a b ra rb Q q => by
  cases ra
  cases rb
  exact ⟨rfl, q⟩) fun _ => by show V.bl (decide (V.int i = V.int j)) = _; rw [show decide (V.int i = V.int j) = decide (i = j) from by by_cases e : i = j <;> simp [e]]
theorem o_eqS {s t : Str} : RV T rEq rS s rS t rB (decide (s = t)) := .pure (fun H a b ra rb Q q => by
  cases ra
  cases rb
  exact ⟨rfl, q⟩) fun _ => by show V.bl (decide (V.str s = V.str t)) = _; rw [show decide (V.str s = V.str t) = decide (s = t) from by by_cases e : s = t <;> simp [e]]
theorem o_neI : RV T rNe rInt i rInt j rB (!decide (i = j)) := .pure (fun H a b ra rb Q q => by
  cases ra
  cases rb
  exact ⟨rfl, q⟩) fun _ => by show V.bl (!decide (V.int i = V.int j)) = _; rw [show decide (V.int i = V.int j) = decide (i = j) from by by_cases e : i = j <;> simp [e]]
theorem o_neS {s t : Str} : RV T rNe rS s rS t rB (!decide (s = t)) := .pure (fun H a b ra rb Q q => by
  cases ra
  cases rb
  exact ⟨rfl, q⟩) fun _ => by show V.bl (!decide (V.str s = V.str t)) = _; rw [show decide (V.str s = V.str t) = decide (s = t) from by by_cases e : s = t <;> simp [e]]
theorem o_addS {s t : Str} (h : s.length + t.length ≤ sizeLine) : RV T (fun x y H Q => ∃ i j, x = .str i ∧ y = .str j ∧ i.length + j.length ≤ sizeLine ∧ Q (.str (i ++ j)) H) rS s rS t rS (s ++ t) := .pure (fun H a b ra rb Q q => ⟨s, t, ra, rb, h, q⟩) fun _ => rfl
theorem o_inS {k : Nat} {t : Str} : RV T (fun x y H Q => ∃ (c : Nat) (z : Str), x = .str ⟨#[c]⟩ ∧ y = .str z ∧ Q (.bl (decide (c ∈ z.cps.toList))) H) rS ⟨#[k]⟩ rS t rB (decide (k ∈ t.cps.toList)) := .pure (fun H a b ra rb Q q => ⟨k, t, ra, rb, q⟩) fun _ => rfl
theorem o_niS {k : Nat} {t : Str} : RV T (fun x y H Q => ∃ (c : Nat) (z : Str), x = .str ⟨#[c]⟩ ∧ y = .str z ∧ Q (.bl (!decide (c ∈ z.cps.toList))) H) rS ⟨#[k]⟩ rS t rB (!decide (k ∈ t.cps.toList)) := .pure (fun H a b ra rb Q q => ⟨k, t, ra, rb, q⟩) fun _ => rfl
/-- an item of a list, of a tuple, of a text -/
theorem o_ixL {xs : List α} {i : Int} (h : atI xs i = some x) : RV T (rIxL K) (rL R) xs rInt i R x := fun N H a b ok ra rb Q q => by
  obtain ⟨p, vs, rfl, hp, hv⟩ := ra
  have hl : vs.length = xs.length := Paired.length hv
  unfold atI at h
  cases hx : ixN xs.length i with
  | none => rw [hx] at h; cases h
  | some k =>
    rw [hx] at h
    obtain ⟨v, h1, h2⟩ := pr_get hv h
    exact ⟨p, vs, i, v, rfl, rb, SqL.of (vis_sub hp), by unfold atI; rw [hl, hx]; exact h1, q v H (.refl _) h2⟩
theorem o_ixT {xs : List α} {i : Int} (h : atI xs i = some x) : RV T (rIxT K) (rT R) xs rInt i R x := fun N H a b ok ra rb Q q => by
  obtain ⟨p, vs, rfl, hp, hv⟩ := ra
  have hl : vs.length = xs.length := Paired.length hv
  unfold atI at h
  cases hx : ixN xs.length i with
  | none => rw [hx] at h; cases h
  | some k =>
    rw [hx] at h
    obtain ⟨v, h1, h2⟩ := pr_get hv h
    exact ⟨p, vs, i, v, rfl, rb, SqT.of (vis_sub hp), by unfold atI; rw [hl, hx]; exact h1, q v H (.refl _) h2⟩
theorem o_ixP0 {x : Pr} : RV T (rIxT K) rP x rInt 0 rNat x.1 := fun N H a b ok ra rb Q q => by
  obtain ⟨p, rfl, hp⟩ := ra
  exact ⟨p, _, 0, _, rfl, rb, SqT.of (vis_sub hp), rfl, q _ H (.refl _) rfl⟩
theorem o_ixP1 {x : Pr} : RV T (rIxT K) rP x rInt 1 rNat x.2 := fun N H a b ok ra rb Q q => by
  obtain ⟨p, rfl, hp⟩ := ra
  exact ⟨p, _, 1, _, rfl, rb, SqT.of (vis_sub hp), rfl, q _ H (.refl _) rfl⟩
theorem o_ixS {s : Str} {k : Nat} {i : Int} (hl : s.length ≤ sizeLine) (h : atI s.cps.toList i = some k) : RV T rIxS rS s rInt i rS ⟨#[k]⟩ := fun N H a b ok ra rb Q q => ⟨s, i, k, ra, rb, hl, h, q _ H (.refl _) rfl⟩
/-! ### truth -/
theorem t_of (h : Ev T te σ H rB b) : EvT T (tTest te) σ H b := fun N H1 e Q q => h N H1 e _ fun v H2 e2 r => ⟨b, r, q H2 e2⟩
theorem t_B (h : Ev T te σ H rB b) : EvT T (tB te) σ H b := fun N H1 e Q q => h N H1 e _ fun v H2 e2 r => ⟨b, r, q H2 e2⟩
theorem t_and (h1 : EvT T tt σ H b) (h2 : b = true → EvT T tu σ H c) : EvT T (tAnd tt tu) σ H (b && c) := fun N H1 e Q q => h1 N H1 e _ fun H2 e2 => by
  cases b with
  | true => exact h2 rfl N H2 (e.step e2) Q fun H3 e3 => q H3 (e2.trans e3)
  | false => exact q H2 e2
theorem t_or (h1 : EvT T tt σ H b) (h2 : b = false → EvT T tu σ H c) : EvT T (tOr tt tu) σ H (b || c) := fun N H1 e Q q => h1 N H1 e _ fun H2 e2 => by
  cases b with
  | true => exact q H2 e2
  | false => exact h2 rfl N H2 (e.step e2) Q fun H3 e3 => q H3 (e2.trans e3)
theorem t_not (h1 : EvT T tt σ H b) : EvT T (tNot tt) σ H (!b) := fun N H1 e Q q => h1 N H1 e _ fun H2 e2 => q H2 e2
theorem t_yes : EvT T tYes σ H true := fun N H1 e Q q => q H1 (.refl _)
theorem e_and (h1 : Ev T ta σ H rB b) (h2 : b = true → Ev T tb σ H rB c) : Ev T (tAndV ta tb) σ H rB (b && c) := fun N H1 e Q q => h1 N H1 e _ fun v H2 e2 r => ⟨b, r, by
  cases b with
  | true => exact h2 rfl N H2 (e.step e2) Q fun v H3 e3 r3 => q v H3 (e2.trans e3) r3
  | false => exact q _ H2 e2 rfl⟩
theorem e_or (h1 : Ev T ta σ H rB b) (h2 : b = false → Ev T tb σ H rB c) : Ev T (tOrV ta tb) σ H rB (b || c) := fun N H1 e Q q => h1 N H1 e _ fun v H2 e2 r => ⟨b, r, by
  cases b with
  | true => exact q _ H2 e2 rfl
  | false => exact h2 rfl N H2 (e.step e2) Q fun v H3 e3 r3 => q v H3 (e2.trans e3) r3⟩
theorem e_not (h1 : Ev T ta σ H rB b) : Ev T (tNotV ta) σ H rB (!b) := fun N H1 e Q q => h1 N H1 e _ fun v H2 e2 r => ⟨b, r, q _ H2 e2 rfl⟩
theorem e_if (h : EvT T tt σ H b) (h1 : b = true → Ev T ta σ H R x) (h2 : b = false → Ev T tb σ H R x) : Ev T (tIf tt ta tb) σ H R x := fun N H1 e Q q => h N H1 e _ fun H2 e2 => by
  cases b with
  | true => exact h1 rfl N H2 (e.step e2) Q fun v H3 e3 r => q v H3 (e2.trans e3) r
  | false => exact h2 rfl N H2 (e.step e2) Q fun v H3 e3 r => q v H3 (e2.trans e3) r
theorem e_isN {u : Option α} (nv : ∀ G v y, R.r G v y → v ≠ .non) (h : Ev T ta σ H (rO R) u) : Ev T (tIsN ta) σ H rB u.isNone := fun N H1 e Q q => h N H1 e _ fun v H2 e2 r => by
  refine q _ H2 e2 ?_
  cases u with
  | none => rw [show v = .non from r]; rfl
  | some y => show V.bl _ = V.bl _; rw [decide_eq_false (nv _ _ _ r)]; rfl
theorem e_notN {u : Option α} (nv : ∀ G v y, R.r G v y → v ≠ .non) (h : Ev T ta σ H (rO R) u) : Ev T (tNotN ta) σ H rB u.isSome := fun N H1 e Q q => h N H1 e _ fun v H2 e2 r => by
  refine q _ H2 e2 ?_
  cases u with
  | none => rw [show v = .non from r]; rfl
  | some y => show V.bl _ = V.bl _; rw [decide_eq_false (nv _ _ _ r)]; rfl
theorem nv_nat : ∀ (G : Hp) (v : V) (y : Nat), rNat.r G v y → v ≠ .non := fun _ _ _ r z => by rw [z] at r; cases r
theorem nv_P : ∀ (G : Hp) (v : V) (y : Pr), rP.r G v y → v ≠ .non := fun _ _ _ ⟨_, r, _⟩ z => by rw [z] at r; cases r
theorem nv_W : ∀ (G : Hp) (v : V) (y : Wd), rW.r G v y → v ≠ .non := fun _ _ _ r z => by rw [z] at r; cases r
/-! ### argument lists, calls, new things -/
theorem a_nil : EvA T tNil σ H (fun _ vs => vs = []) := fun N H1 e Q q => q [] H1 (.refl _) rfl
theorem a_cons {tr : TA} {P : Hp → List V → Prop} (h : Ev T ta σ H R x) (hr : EvA T tr σ H P) : EvA T (tCons ta tr) σ H (fun G vs => ∃ v r, vs = v :: r ∧ R.r G v x ∧ P G r) := fun N H1 e Q q =>
  h N H1 e _ fun v H2 e2 r => hr N H2 (e.step e2) _ fun vs H3 e3 p => q _ H3 (e2.trans e3) ⟨v, vs, rfl, Rel.up r (e.step e2).ok e3, p⟩
theorem e_cb {r : List V → Hp → VK → Prop} {tr : TA} {P : Hp → List V → Prop} (h : EvA T tr σ H P) (hr : ∀ N H1 vs, At T N H H1 → P (vis N H1) vs → ∀ Q : VK, (∀ v H2, Es T H1 H2 → R.r (vis N H2) v x → Q v H2) → r vs H1 Q) : Ev T (tCB r tr) σ H R x := fun N H1 e Q q =>
  h N H1 e _ fun vs H2 e2 p => hr N H2 vs (e.step e2) p Q fun v H3 e3 r3 => q v H3 (e2.trans e3) r3
/-- a def's promise: of what is shown, the answer, all else kept -/
def SpG (T : List (Addr × Str)) {α β : Type} (A : Hp → List V → α → Prop) (R : Rel β) (Post : α → β → Prop) : Sp := fun vs H Q _ => ∃ N x, Nok N H ∧ A (vis N H) vs x ∧ ∀ v H' y, Es T H H' → Post x y → R.r (vis N H') v y → Q v H'
theorem e_call {A : Hp → List V → γ → Prop} {Post : γ → α → Prop} {E : XK} {tr : TA} {P : Hp → List V → Prop} (z : γ) (h : EvA T tr σ H P) (hr : ∀ H1 vs, Es T H H1 → P H1 vs → A H1 vs z) (hp : ∀ y, Post z y → y = x) : Ev T (tCall (SpG T A R Post) [] E tr) σ H R x := fun N H1 e Q q =>
  h N H1 e _ fun vs H2 e2 p => by
    show SpG T A R Post (vs ++ []) H2 Q E
    rw [List.append_nil]
    exact ⟨N, z, (e.step e2).ok, hr _ vs (e.step e2).e p, fun v H3 y e3 hy r3 => q v H3 (e2.trans e3) (hp y hy ▸ r3)⟩
/-- the same, the answer told by a property -/
theorem q_call {A : Hp → List V → γ → Prop} {Post : γ → α → Prop} {E : XK} {tr : TA} {P : Hp → List V → Prop} {N : List Addr} {H1 : Hp} {Q : VK} (z : γ) (h : EvA T tr σ H P) (hr : ∀ H1 vs, Es T H H1 → P H1 vs → A H1 vs z) (e : At T N H H1) (q : ∀ v H2 y, Es T H1 H2 → Post z y → R.r (vis N H2) v y → Q v H2) : tCall (SpG T A R Post) [] E tr σ H1 Q :=
  h N H1 e _ fun vs H2 e2 p => by
    show SpG T A R Post (vs ++ []) H2 Q E
    rw [List.append_nil]
    exact ⟨N, z, (e.step e2).ok, hr _ vs (e.step e2).e p, fun v H3 y e3 hy r3 => q v H3 y (e2.trans e3) hy r3⟩
theorem e_pair {x : α} {y : β} (ha : Ev T ta σ H R x) (hb : Ev T tb σ H S y) : Ev T (tTup (tCons ta (tCons tb tNil))) σ H (rPair R S) (x, y) := fun N H1 e Q q =>
  ha N H1 e _ fun a H2 e2 ra => hb N H2 (e.step e2) _ fun b H3 e3 rb => ⟨by show 2 ≤ sizeLine; decide, fun p hp => q _ _ ((e2.trans e3).put hp) ⟨p, a, b, rfl, vis_new ((e.step e2).step e3).ok hp, Rel.up (T := T) ra (e.step e2).ok (e3.put hp), Rel.up (T := T) rb ((e.step e2).step e3).ok (.new hp)⟩⟩
theorem e_pr {x : Pr} (ha : Ev T ta σ H rNat x.1) (hb : Ev T tb σ H rNat x.2) : Ev T (tTup (tCons ta (tCons tb tNil))) σ H rP x := (e_pair ha hb).as fun G v ⟨p, a, b, h1, h2, h3, h4⟩ => ⟨p, h1, by rw [h2, show a = V.int _ from h3, show b = V.int _ from h4]⟩
/-- the list of them all -/
theorem a_all {tr : TA} {xs : List α} {P : Hp → List V → Prop} (h : EvA T tr σ H P) (k : ∀ G vs, P G vs → Paired (R.r G) vs xs) : EvA T tr σ H (fun G vs => Paired (R.r G) vs xs) := fun N H1 e Q q => h N H1 e Q fun vs H2 e2 p => q vs H2 e2 (k _ _ p)
theorem a_nilP : EvA T tNil σ H (fun G vs => Paired (R.r G) vs []) := fun N H1 e Q q => q [] H1 (.refl _) .nil
theorem a_consP {tr : TA} {xs : List α} (h : Ev T ta σ H R x) (hr : EvA T tr σ H (fun G vs => Paired (R.r G) vs xs)) : EvA T (tCons ta tr) σ H (fun G vs => Paired (R.r G) vs (x :: xs)) := fun N H1 e Q q =>
  h N H1 e _ fun v H2 e2 r => hr N H2 (e.step e2) _ fun vs H3 e3 p => q _ H3 (e2.trans e3) (.cons (Rel.up r (e.step e2).ok e3) p)
theorem e_lst {tr : TA} {xs : List α} (h : EvA T tr σ H (fun G vs => Paired (R.r G) vs xs)) (hl : xs.length ≤ 100000) : Ev T (tLst tr) σ H (rL R) xs := fun N H1 e Q q =>
  h N H1 e _ fun vs H2 e2 r => ⟨by rw [Paired.length r]; exact Nat.le_trans hl (by decide), fun p hp => q _ _ (e2.put hp) ⟨p, vs, rfl, vis_new (e.step e2).ok hp, pr_st ((Es.new (T := T) hp).vis (e.step e2).ok).kr r⟩⟩
theorem e_tup {tr : TA} {xs : List α} (h : EvA T tr σ H (fun G vs => Paired (R.r G) vs xs)) (hl : xs.length ≤ 100000) : Ev T (tTup tr) σ H (rT R) xs := fun N H1 e Q q =>
  h N H1 e _ fun vs H2 e2 r => ⟨by rw [Paired.length r]; exact Nat.le_trans hl (by decide), fun p hp => q _ _ (e2.put hp) ⟨p, vs, rfl, vis_new (e.step e2).ok hp, pr_st ((Es.new (T := T) hp).vis (e.step e2).ok).kr r⟩⟩
/-! ### built-ins -/
theorem e_lenL {xs : List α} (h : Ev T ta σ H (rL R) xs) : Ev T (tCB (fun xs H Q => ∃ x n, xs = [x] ∧ LenV K x H n ∧ Q (.int n) H) (tCons ta tNil)) σ H rNat xs.length := fun N H1 e Q q =>
  h N H1 e _ fun v H2 e2 ⟨p, vs, h1, h2, h3⟩ => ⟨v, vs.length, rfl, by rw [h1]; exact .inl ⟨vs, SqL.of (vis_sub h2), rfl⟩, q _ _ e2 (by rw [Paired.length h3]; rfl)⟩
theorem e_lenT {xs : List α} (h : Ev T ta σ H (rT R) xs) : Ev T (tCB (fun xs H Q => ∃ x n, xs = [x] ∧ LenV K x H n ∧ Q (.int n) H) (tCons ta tNil)) σ H rNat xs.length := fun N H1 e Q q =>
  h N H1 e _ fun v H2 e2 ⟨p, vs, h1, h2, h3⟩ => ⟨v, vs.length, rfl, by rw [h1]; exact .inr ⟨vs, SqT.of (vis_sub h2), rfl⟩, q _ _ e2 (by rw [Paired.length h3]; rfl)⟩
theorem e_lenP {x : Pr} (h : Ev T ta σ H rP x) : Ev T (tCB (fun xs H Q => ∃ x n, xs = [x] ∧ LenV K x H n ∧ Q (.int n) H) (tCons ta tNil)) σ H rNat 2 := fun N H1 e Q q =>
  h N H1 e _ fun v H2 e2 ⟨p, h1, h2⟩ => ⟨v, 2, rfl, by rw [h1]; exact .inr ⟨_, SqT.of (vis_sub h2), rfl⟩, q _ _ e2 rfl⟩
theorem e_lenS {s : Str} (h : Ev T ta σ H rS s) (hl : s.length ≤ sizeLine) : Ev T (tCB (fun xs H Q => ∃ x n, xs = [x] ∧ LenV K x H n ∧ Q (.int n) H) (tCons ta tNil)) σ H rNat s.length := fun N H1 e Q q =>
  h N H1 e _ fun v H2 e2 r => ⟨v, s.length, rfl, by rw [show v = .str s from r]; exact ⟨hl, rfl⟩, q _ _ e2 rfl⟩
theorem e_any {bs : List Bool} (h : Ev T ta σ H (rL rB) bs) : Ev T (tCB (rAny K) (tCons ta tNil)) σ H rB (bs.any id) := fun N H1 e Q q =>
  h N H1 e _ fun v H2 e2 ⟨p, vs, h1, h2, h3⟩ => ⟨p, bs, by rw [h1], by rw [← pr_eq h3]; exact SqL.of (vis_sub h2), q _ _ e2 rfl⟩
theorem e_all {bs : List Bool} (h : Ev T ta σ H (rL rB) bs) : Ev T (tCB (rAll K) (tCons ta tNil)) σ H rB (bs.all id) := fun N H1 e Q q =>
  h N H1 e _ fun v H2 e2 ⟨p, vs, h1, h2, h3⟩ => ⟨p, bs, by rw [h1], by rw [← pr_eq h3]; exact SqL.of (vis_sub h2), q _ _ e2 rfl⟩
theorem e_max2 (ha : Ev T ta σ H rInt i) (hb : Ev T tb σ H rInt j) : Ev T (tCB (fun xs H Q => ∃ i j, xs = [.int i, .int j] ∧ Q (.int (if j > i then j else i)) H) (tCons ta (tCons tb tNil))) σ H rInt (if j > i then j else i) := fun N H1 e Q q =>
  ha N H1 e _ fun a H2 e2 ra => hb N H2 (e.step e2) _ fun b H3 e3 rb => ⟨i, j, by rw [show a = .int i from ra, show b = .int j from rb], q _ H3 (e2.trans e3) rfl⟩
theorem e_min2 (ha : Ev T ta σ H rInt i) (hb : Ev T tb σ H rInt j) : Ev T (tCB (fun xs H Q => ∃ i j, xs = [.int i, .int j] ∧ Q (.int (if j < i then j else i)) H) (tCons ta (tCons tb tNil))) σ H rInt (if j < i then j else i) := fun N H1 e Q q =>
  ha N H1 e _ fun a H2 e2 ra => hb N H2 (e.step e2) _ fun b H3 e3 rb => ⟨i, j, by rw [show a = .int i from ra, show b = .int j from rb], q _ H3 (e2.trans e3) rfl⟩
theorem e_abs (ha : Ev T ta σ H rInt i) : Ev T (tCB (fun xs H Q => ∃ i, xs = [.int i] ∧ Q (.int (if i < 0 then -i else i)) H) (tCons ta tNil)) σ H rInt (if i < 0 then -i else i) := fun N H1 e Q q =>
  ha N H1 e _ fun a H2 e2 ra => ⟨i, by rw [show a = .int i from ra], q _ H2 e2 rfl⟩
theorem e_intC (ha : Ev T ta σ H rInt i) : Ev T (tCB (fun xs H Q => (∃ i, xs = [.int i] ∧ Q (.int i) H) ∨ ∃ k, xs = [.bl k] ∧ Q (.int (if k then 1 else 0)) H) (tCons ta tNil)) σ H rInt i := fun N H1 e Q q =>
  ha N H1 e _ fun a H2 e2 ra => .inl ⟨i, by rw [show a = .int i from ra], q _ H2 e2 rfl⟩
theorem e_tupL {xs : List α} (h : Ev T ta σ H (rL R) xs) : Ev T (tCB (fun xs H Q => ∃ p ys, xs = [.ref p] ∧ ((SqL K H p ys ∧ ∀ l, H l = none → Q (.ref l) (upd H l (.tup ys))) ∨ (SqT K H p ys ∧ Q (.ref p) H))) (tCons ta tNil)) σ H (rT R) xs := fun N H1 e Q q =>
  h N H1 e _ fun v H2 e2 ⟨p, vs, h1, h2, h3⟩ => ⟨p, vs, by rw [h1], .inl ⟨SqL.of (vis_sub h2), fun l hl => q _ _ (e2.put hl) ⟨l, vs, rfl, vis_new (e.step e2).ok hl, pr_st ((Es.new (T := T) hl).vis (e.step e2).ok).kr h3⟩⟩⟩
theorem e_join {ss : List Str} {s : Str} (ha : Ev T ta σ H rS s) (h : Ev T tb σ H (rL rS) ss) (hz : (ss.map (·.length)).sum + ss.length * s.length ≤ 16777216) :
    Ev T (tM1 (fun x xs H Q => ∃ a p, ∃ ys : List Str, x = .str a ∧ xs = [.ref p] ∧ (SqL K H p (ys.map V.str) ∨ SqT K H p (ys.map V.str)) ∧ (ys.map (·.length)).sum + ys.length * a.length ≤ 16777216 ∧ Q (.str (Txt.join a ys)) H) ta tb) σ H rS (Txt.join s ss) := fun N H1 e Q q =>
  ha N H1 e _ fun a H2 e2 ra => ⟨⟨s, ra⟩, h N H2 (e.step e2) _ fun v H3 e3 ⟨p, vs, h1, h2, h3⟩ => ⟨s, p, ss, ra, by rw [h1], .inl (SqL.of (by rw [← pr_eq h3]; exact vis_sub h2)), hz, q _ _ (e2.trans e3) rfl⟩⟩
/-! ### slices, attributes -/
theorem s_none : EvO T tNoPart σ H none := fun N H1 e Q q => q H1 (.refl _)
theorem s_some (h : Ev T te σ H rInt i) : EvO T (tPart te) σ H (some i) := fun N H1 e Q q => h N H1 e _ fun v H2 e2 r => ⟨i, r, q H2 e2⟩
theorem e_slS {tl th : TO} {s : Str} {lo hi : Option Int} (h : Ev T te σ H rS s) (h1 : EvO T tl σ H lo) (h2 : EvO T th σ H hi) (hl : s.length ≤ sizeLine) : Ev T (tSl rSlS te tl th) σ H rS (cutS s lo hi) := fun N H1 e Q q =>
  h N H1 e _ fun v H2 e2 r => h1 N H2 (e.step e2) _ fun H3 e3 => h2 N H3 ((e.step e2).step e3) _ fun H4 e4 => ⟨s, r, hl, q _ _ ((e2.trans e3).trans e4) rfl⟩
theorem pr_drop {F : V → α → Prop} : ∀ (a : Nat) {vs : List V} {xs : List α}, Paired F vs xs → Paired F (vs.drop a) (xs.drop a)
  | 0, _, _, h => h
  | _ + 1, _, _, .nil => .nil
  | a + 1, _, _, .cons _ t => pr_drop a t
theorem pr_take {F : V → α → Prop} : ∀ (k : Nat) {vs : List V} {xs : List α}, Paired F vs xs → Paired F (vs.take k) (xs.take k)
  | 0, _, _, _ => .nil
  | _ + 1, _, _, .nil => .nil
  | k + 1, _, _, .cons r t => .cons r (pr_take k t)
theorem pr_cut {F : V → α → Prop} {vs : List V} {xs : List α} (h : Paired F vs xs) (a k : Nat) : Paired F ((vs.drop a).take k) ((xs.drop a).take k) := pr_take k (pr_drop a h)
theorem e_slL {tl th : TO} {xs : List α} {lo hi : Option Int} (h : Ev T te σ H (rL R) xs) (h1 : EvO T tl σ H lo) (h2 : EvO T th σ H hi) :
    Ev T (tSl (rSlL K) te tl th) σ H (rL R) ((xs.drop (HT.sIx xs.length 0 lo)).take (HT.sIx xs.length xs.length hi - HT.sIx xs.length 0 lo)) := fun N H1 e Q q =>
  h N H1 e _ fun v H2 e2 r => h1 N H2 (e.step e2) _ fun H3 e3 => h2 N H3 ((e.step e2).step e3) _ fun H4 e4 => by
    obtain ⟨p, vs, rfl, hp, hv⟩ := Rel.up r (e.step e2).ok (e3.trans e4)
    have hl : vs.length = xs.length := Paired.length hv
    refine ⟨p, vs, rfl, SqL.of (vis_sub hp), fun l hl2 => q _ _ (((e2.trans e3).trans e4).put hl2) ⟨l, _, rfl, vis_new (((e.step e2).step e3).step e4).ok hl2, ?_⟩⟩
    unfold cutV
    rw [hl]
    exact pr_st ((Es.new (T := T) hl2).vis (((e.step e2).step e3).step e4).ok).kr (pr_cut hv _ _)
/-! ### walks -/
theorem i_list {xs : List α} (h : Ev T te σ H (rL R) xs) : EvI T (iList K te) σ H R xs := fun N H1 e Q q =>
  h N H1 e _ fun v H2 e2 ⟨p, vs, h1, h2, h3⟩ => by
    have hl : vs.length = xs.length := Paired.length h3
    refine ⟨p, h1, ⟨vs, SqL.of (vis_sub h2)⟩, q _ H2 _ (YAt vs) e2 (fun M G1 a => SqL.of (a.full.lst h2)) (hl ▸ walk_list) fun i G1 v G2 M hi a y => ?_⟩
    obtain ⟨rfl, hy⟩ := y
    have hi' : i < xs.length := hi
    obtain ⟨u, hu, ru⟩ := pr_get h3 (y := xs[i]) (List.getElem?_eq_getElem hi')
    rw [hu] at hy
    cases hy
    exact ⟨.refl _, xs[i], List.getElem?_eq_getElem hi', Rel.es ru a.e⟩
theorem i_tup {xs : List α} (h : Ev T te σ H (rT R) xs) : EvI T (iTup K te) σ H R xs := fun N H1 e Q q =>
  h N H1 e _ fun v H2 e2 ⟨p, vs, h1, h2, h3⟩ => by
    have hl : vs.length = xs.length := Paired.length h3
    refine ⟨p, h1, ⟨vs, SqT.of (vis_sub h2)⟩, q _ H2 _ (YAt vs) e2 (fun M G1 a => SqT.of (a.full.tup h2)) (hl ▸ walk_tup) fun i G1 v G2 M hi a y => ?_⟩
    obtain ⟨rfl, hy⟩ := y
    have hi' : i < xs.length := hi
    obtain ⟨u, hu, ru⟩ := pr_get h3 (y := xs[i]) (List.getElem?_eq_getElem hi')
    rw [hu] at hy
    cases hy
    exact ⟨.refl _, xs[i], List.getElem?_eq_getElem hi', Rel.es ru a.e⟩
/-- one sign -/
def rC : Rel Nat := ⟨fun _ v c => v = .str ⟨#[c]⟩, fun _ h => h⟩
theorem i_str {s : Str} (h : Ev T te σ H rS s) : EvI T (iStr te) σ H rC s.cps.toList := fun N H1 e Q q =>
  h N H1 e _ fun v H2 e2 r => by
    have hl : s.cps.toList.length = s.cps.size := by simp
    refine ⟨s, r, q _ H2 _ _ e2 (fun _ _ _ => trivial) (by rw [hl]; exact walk_str) fun i G1 v G2 M hi a y => ?_⟩
    obtain ⟨rfl, c, hc, rfl⟩ := y
    exact ⟨.refl _, c, by simpa using hc, rfl⟩
theorem i_rng1 {n : Nat} (hn : n ≤ 1000000) (h : Ev T te σ H rNat n) : EvI T (iRng1 (tCons te tNil)) σ H rNat (List.range n) := fun N H1 e Q q =>
  h N H1 e _ fun v H2 e2 r => by
    refine ⟨n, by rw [show v = .int (n : Int) from r], by omega, by omega, q _ H2 _ _ e2 (fun _ _ _ => trivial) (by rw [List.length_range]; exact walk_range) fun i G1 v G2 M hi a y => ?_⟩
    obtain ⟨rfl, rfl⟩ := y
    rw [List.length_range] at hi
    exact ⟨.refl _, i, by simp [hi], by show V.int _ = V.int _; congr 1 <;> omega⟩
theorem i_rng2 {l n : Nat} (hl : l ≤ 1000000) (hn : n ≤ 1000000) (h : Ev T ta σ H rNat l) (h2 : Ev T tb σ H rNat n) : EvI T (iRng2 (tCons ta (tCons tb tNil))) σ H rNat (List.range' l (n - l)) := fun N H1 e Q q =>
  h N H1 e _ fun v H2 e2 r => h2 N H2 (e.step e2) _ fun v2 H3 e3 r3 => by
    refine ⟨l, n, by rw [show v = .int (l : Int) from r, show v2 = .int (n : Int) from r3], by omega, q _ H3 _ _ (e2.trans e3) (fun _ _ _ => trivial) (by rw [List.length_range', show ((n : Int) - (l : Int)).toNat = n - l by omega]; exact walk_range) fun i G1 v G2 M hi a y => ?_⟩
    obtain ⟨rfl, rfl⟩ := y
    rw [List.length_range'] at hi
    exact ⟨.refl _, l + i, by simp [hi], by show V.int _ = V.int _; congr 1 <;> omega⟩
/-- [e for x in xs if t], x one name -/
theorem e_lcG {wi : TI} {g : TG} {ks : List Nat} {xs : List α} {f : α → β} {p : α → Bool} {Sl : α → Hp → L2.St → Prop} (h : EvI T wi σ H R xs) (hl : xs.length ≤ 1000000) (hw : ∀ x G σ2, Sl x G σ2 → wipe σ2 ks = wipe σ ks)
    (hg : ∀ M G v x, Nok M G → R.r (vis M G) v x → ∀ Qg : L2.St → Hp → Prop, (∀ σ2, Sl x (vis M G) σ2 → Qg σ2 G) → g v (wipe σ ks) G Qg)
    (hb : ∀ H1 x σ2, Es T H H1 → x ∈ xs → Sl x H1 σ2 → EvT T tt σ2 H1 (p x) ∧ (p x = true → Ev T te σ2 H1 S (f x))) :
    Ev T (tLc wi g tt te ks) σ H (rL S) ((xs.filter p).map f) := fun N H1 e Q q =>
  h N H1 e _ fun J H2 G Y e2 gs w hy D hD => by
    have a2 := e.step e2
    refine lc_it w (Pv := fun i G' => Es T H2 G' ∧ At T (D :: N) (vis N H2) G' ∧ ∃ acc, G' D = some (.lst acc) ∧ acc.length ≤ i ∧ Paired (S.r (vis (D :: N) G')) acc (((xs.take i).filter p).map f)) ⟨.new hD, (At.self a2.ok).hide hD (.lst _), [], upd_same, Nat.le_refl _, .nil⟩ (fun i G' _ ⟨_, a, _⟩ => gs _ _ a) (fun i v G1 G2 hi ⟨eg, a, acc, ha, hal, hp⟩ y => ?_) fun G' ⟨eg, a, acc, ha, _, hp⟩ => ?_
    · obtain ⟨e12, x, hx, rx⟩ := hy i G1 v G2 _ hi a y
      have hxs : xs.take (i + 1) = xs.take i ++ [x] := by rw [List.take_add_one, hx]; rfl
      have a3 := a.step e12
      refine hg (D :: N) G2 v x a3.ok rx _ fun σ2 sl => ⟨hw x _ σ2 sl, ?_⟩
      obtain ⟨ht, hv⟩ := hb (vis (D :: N) G2) x σ2 (a2.e.trans a3.e) (List.mem_of_getElem? hx) sl
      refine ht (D :: N) G2 (.self a3.ok) _ fun G3 e3 => ?_
      have a4 := a3.step e3
      cases hpx : p x with
      | false =>
        refine ⟨(eg.trans e12).trans e3, a4, acc, e3.lst (e12.lst ha), Nat.le_succ_of_le hal, ?_⟩
        rw [hxs, List.filter_append, List.filter_cons_of_neg (by rw [hpx]; exact Bool.false_ne_true), List.filter_nil, List.append_nil]
        exact pr_st ((e12.trans e3).vis a.ok).kr hp
      | true =>
        refine hv hpx (D :: N) G3 ((At.self a3.ok).step e3) _ fun u G4 e4 ru => ⟨acc, e4.lst (e3.lst (e12.lst ha)), Nat.lt_of_le_of_lt hal (Nat.lt_of_lt_of_le hi (Nat.le_trans hl (by decide))), ?_⟩
        have hD4 : G4 D = some (.lst acc) := e4.lst (e3.lst (e12.lst ha))
        refine ⟨(((eg.trans e12).trans e3).trans e4).mutL hD hD4, (a4.step e4).put (.lst _), _, upd_same, by rw [List.length_append]; exact Nat.succ_le_succ hal, ?_⟩
        rw [hxs, List.filter_append, List.filter_cons_of_pos hpx, List.filter_nil, List.map_append, vis_hide]
        exact pr_snoc (pr_st (((e12.trans e3).trans e4).vis a.ok).kr hp) ru
    · rw [List.take_length] at hp
      have nD : D ∉ N := a2.ok.fresh hD
      exact q _ G' (e2.trans eg) ⟨D, acc, rfl, vis_open ha nD, pr_st (vis_back D) hp⟩
theorem e_lc {wi : TI} {k : Nat} {xs : List α} {f : α → β} {p : α → Bool} (h : EvI T wi σ H R xs) (hw : ∀ v, wipe ((wipe σ [k]).set k (some v)) [k] = wipe σ [k]) (hl : xs.length ≤ 1000000)
    (hb : ∀ H1 v x, Es T H H1 → x ∈ xs → R.r H1 v x → EvT T tt ((wipe σ [k]).set k (some v)) H1 (p x) ∧ (p x = true → Ev T te ((wipe σ [k]).set k (some v)) H1 S (f x))) :
    Ev T (tLc wi (gName k) tt te [k]) σ H (rL S) ((xs.filter p).map f) :=
  e_lcG (Sl := fun x G σ2 => ∃ v, σ2 = (wipe σ [k]).set k (some v) ∧ R.r G v x) h hl (fun x G σ2 ⟨v, e, _⟩ => by rw [e]; exact hw v) (fun M G v x _ r Qg q => q _ ⟨v, rfl, r⟩) fun H1 x σ2 e hx ⟨v, es, r⟩ => by rw [es]; exact hb H1 v x e hx r
end

end K29
set_option autoImplicit false
set_option maxHeartbeats 4000000
namespace K29
open PySem PySem.Spec PyProof.Rows L2
/-! Defs and their promises; statements. -/
/-- a def of the module, callable, with its promise -/
structure Cl (P : Program) (w : World) (K : PySem.W.Frag) (mg : Str → Option Value) (base : Heap) (k : Nat) (x : Str) (sp : Sp) : Prop where
  ex : ∃ (f : Addr) (fd : FuncData) (ps : List Str), FnOk P w K mg base L2.CX0 k f fd ps sp ∧ mg x = some (.ref f) ∧ PySem.W.keepIn K (.ref f) = true ∧ Binds K fd ps []
structure Dx (K : PySem.W.Frag) (mg : Str → Option Value) (x : Str) (st : Stmt) (ps : List Str) : Prop where
  ex : ∃ (f : Addr) (fd : FuncData), FunD K x x (defArgs st) (defBody st) (defScope st) [] [] f fd ∧ mg x = some (.ref f) ∧ Binds K fd ps []
section
variable {P : Program} {w : World} {K : PySem.W.Frag} {mg : Str → Option Value} {base : Heap}
theorem pe_cl {X : Cx} {k : Nat} {x : Str} {sp : Sp} {e : Expr} {es : List Expr} {p pos : Pos} {t : TA} (c : Cl X.prog X.w X.K X.mg X.base k x sp) (hr : Room k X.A) (hg : Gl X x) (ha : PA X (e :: es) t)
    (hdb : (x == ("__debug__" : Str)) = false := by decide) (he : starEach (e :: es) X.env = (false, eval e X.env) :: starEach es X.env := by rfl) (hpl : (backTo pos (starEach es X.env)).any (·.1) = false := by rfl) :
    PE X (.Call (.Name x p) (e :: es) [] pos) (tCall sp [] L2.E0 t) := by
  obtain ⟨f, fd, ps, F, hm, kp, b⟩ := c.ex
  exact pe_call F hr hg hm kp b .nil L2.pass0 ha hdb he hpl
/-- a name of the module that holds a written text, a written number -/
theorem pe_gs {X : Cx} {x z : Str} {pos : Pos} (h : ∃ t, X.mg x = some (.str z t)) (hg : Gl X x) (hd : (x == ("__debug__" : Str)) = false := by decide) : PE X (.Name x pos) (tC (.str z)) := by
  obtain ⟨t, h⟩ := h
  exact pe_glob hg h ⟨t, rfl⟩ hd
theorem pe_gi {X : Cx} {x : Str} {i : Int} {pos : Pos} (h : ∃ t, X.mg x = some (.int i t)) (hg : Gl X x) (hd : (x == ("__debug__" : Str)) = false := by decide) : PE X (.Name x pos) (tC (.int i)) := by
  obtain ⟨t, h⟩ := h
  exact pe_glob hg h ⟨t, rfl⟩ hd
theorem cl_any {x : Str} {st : Stmt} {N ps : List Str} {k : Nat} {sp : Sp} (D : Dx K mg x st ps) (S : FnScope N ps (defScope st)) (len : ∀ vs H Q E, sp vs H Q E → vs.length = ps.length)
    (hbody : ∀ (f : Addr) (cdv : Value) (A : Around) (outer : List Env) (s : Shared) (H : Hp) (vs : List V) (Q : VK) (E : XK), Room k (A.deeper (envOfC x (defScope st) s.heap.objs.size f cdv)) → sp vs H Q E →
      ∃ t, PSs (cxOf L2.CX0 P w K mg base N x (defScope st) f cdv A outer s H E).nox (defBody st) t ∧ t { nx := fun _ H' => Q .non H', rt := Q } (L2.start N vs) H) : Cl P w K mg base (k + 1) x sp := by
  obtain ⟨f, fd, F, hm, b⟩ := D.ex
  refine ⟨f, fd, ps, F.ok S len fun cdv A outer s H vs Q E hr h => ?_, hm, F.kp, b⟩
  obtain ⟨t, h1, h2⟩ := hbody f cdv A outer s H vs Q E hr h
  exact ⟨t, h1.nox, h2⟩
theorem cl_spG {T : List (Addr × Str)} {α β : Type} {A : Hp → List V → α → Prop} {R : Rel β} {Post : α → β → Prop} {x : Str} {st : Stmt} {N ps : List Str} {k : Nat} (D : Dx K mg x st ps) (S : FnScope N ps (defScope st)) (len : ∀ G vs z, A G vs z → vs.length = ps.length)
    (hbody : ∀ (f : Addr) (cdv : Value) (Ar : Around) (outer : List Env) (s : Shared) (H : Hp) (vs : List V) (E : XK) (M : List Addr) (z : α), Room k (Ar.deeper (envOfC x (defScope st) s.heap.objs.size f cdv)) → Nok M H → A (vis M H) vs z →
      ∃ t, PSs (cxOf L2.CX0 P w K mg base N x (defScope st) f cdv Ar outer s H E).nox (defBody st) t ∧ ∀ Q : VK, (∀ v H' y, Es T H H' → Post z y → R.r (vis M H') v y → Q v H') → t { nx := fun _ H' => Q .non H', rt := Q } (L2.start N vs) H) :
    Cl P w K mg base (k + 1) x (SpG T A R Post) := by
  refine cl_any D S (fun vs H Q E ⟨M, z, _, h, _⟩ => len _ _ _ h) fun f cdv Ar outer s H vs Q E hr ⟨M, z, ok, h, q⟩ => ?_
  obtain ⟨t, h1, h2⟩ := hbody f cdv Ar outer s H vs E M z hr ok h
  exact ⟨t, h1, h2 Q q⟩
end
section
variable {T : List (Addr × Str)} {K : PySem.W.Frag} {α β : Type} {σ : L2.St} {H : Hp} {N : List Addr} {R : Rel α} {S : Rel β} {x : α} {te : TE} {tt : TT} {b : Bool} {D : Ends} {ts us : TS} {i : Nat}
theorem q_seq (h : ts { D with nx := us D } σ H) : tSeq ts us D σ H := h
theorem q_ret (ok : Nok N H) (h : Ev T te σ (vis N H) R x) (k : ∀ v H', Es T H H' → R.r (vis N H') v x → D.rt v H') : tRet te D σ H := h N H (.self ok) _ k
theorem q_set (ok : Nok N H) (h : Ev T te σ (vis N H) R x) (k : ∀ v H', Es T H H' → R.r (vis N H') v x → D.nx (σ.set i (some v)) H') : tAsg te (gName i) D σ H := h N H (.self ok) _ k
theorem q_drop (ok : Nok N H) (h : Ev T te σ (vis N H) R x) (k : ∀ H', Es T H H' → D.nx σ H') : tDrop te D σ H := h N H (.self ok) _ fun _ H' e _ => k H' e
theorem q_if (ok : Nok N H) (h : EvT T tt σ (vis N H) b) (k1 : b = true → ∀ H', Es T H H' → ts D σ H') (k2 : b = false → ∀ H', Es T H H' → us D σ H') : tIfS tt ts us D σ H := h N H (.self ok) _ fun H' e => by
  cases b with
  | true => exact k1 rfl H' e
  | false => exact k2 rfl H' e
theorem q_yes (ok : Nok N H) (h : EvT T tt σ (vis N H) true) (k : ∀ H', Es T H H' → ts D σ H') : tIfS tt ts us D σ H := h N H (.self ok) _ fun H' e => k H' e
theorem q_no (ok : Nok N H) (h : EvT T tt σ (vis N H) false) (k : ∀ H', Es T H H' → us D σ H') : tIfS tt ts us D σ H := h N H (.self ok) _ fun H' e => k H' e
/-- a for: Pv by the turn, the slots, the heap; it starts at some H2 that has grown from H -/
theorem q_for {wi : TI} {g : TG} {xs : List α} (ok : Nok N H) (h : EvI T wi σ (vis N H) R xs)
    (k : ∀ H2, Es T H H2 → ∃ Pv : Nat → L2.St → Hp → Prop, Pv 0 σ H2 ∧ (∀ i σ G, Pv i σ G → ∃ M, At T M (vis N H2) G) ∧
      (∀ i v x σ G G', i < xs.length → xs[i]? = some x → Pv i σ G → Es T G G' → (∀ M, At T M (vis N H2) G → R.r (vis M G') v x) → g v σ G' fun σ2 G2 => ts { D with nx := Pv (i + 1), ct := Pv (i + 1), bk := D.nx } σ2 G2) ∧
      (∀ σ G, Pv xs.length σ G → D.nx σ G)) : tFor wi g ts D σ H := h N H (.self ok) _ fun J H2 G Y e2 gs w hy => by
  obtain ⟨Pv, h0, hA, hs, hd⟩ := k H2 e2
  refine for_it w Pv h0 (fun i σ G' _ p => ?_) (fun i v σ G1 G2 hi p y => ?_) hd
  · obtain ⟨M, a⟩ := hA i σ G' p
    exact gs M G' a
  · obtain ⟨M, a⟩ := hA i σ G1 p
    obtain ⟨e12, x, hx, _⟩ := hy i G1 v G2 M hi a y
    refine hs i v x σ G1 G2 hi hx p e12 fun M' a' => ?_
    obtain ⟨_, x', hx', rx⟩ := hy i G1 v G2 M' hi a' y
    rw [hx] at hx'
    cases hx'
    exact rx
/-- what isinstance answers of built-in types -/
theorem e_isi {ta : TE} {c t : String} {r : Bool} (h : Ev T ta σ H R x) (ty : ∀ (G : Hp) (v : V) (x : α), R.r G v x → TyX K G v (.type t)) (hk : kitB t c = some r) : Ev T (tCB (rIsi K) (tCons ta (tCons (tC (.ty c)) tNil))) σ H rB r := fun N H1 e Q q =>
  h N H1 e _ fun v H2 e2 rv => ⟨v, .ty c, .type t, .type c, r, rfl, .ty c, ty H2 v x (Rel.out rv), kit_ty hk, q _ H2 e2 rfl⟩
theorem e_isi2 {ta : TE} {c1 c2 t : String} {r1 r2 : Bool} (h : Ev T ta σ H R x) (ty : ∀ (G : Hp) (v : V) (x : α), R.r G v x → TyX K G v (.type t)) (hk1 : kitB t c1 = some r1) (hk2 : kitB t c2 = some r2) :
    Ev T (tCB (rIsiT K) (tCons ta (tCons (tTup (tCons (tC (.ty c1)) (tCons (tC (.ty c2)) tNil))) tNil))) σ H rB (r1 || r2) := fun N H1 e Q q =>
  h N H1 e _ fun v H2 e2 rv => ⟨by show 2 ≤ sizeLine; decide, fun p hp => ⟨v, p, [.ty c1, .ty c2], .type t, [.type c1, .type c2], r1 || r2, rfl, upd_same, .cons (.ty _) (.cons (.ty _) .nil), ty _ v x (R.st (Es.new (T := T) hp).kr (Rel.out rv)), by
    refine kitAny_cons (kit_ty hk1) (fun e => ?_) fun e => by rw [e]; rfl
    rw [e]
    refine kitAny_cons (kit_ty hk2) (fun e => ?_) fun e => by rw [e]; rfl
    rw [e]
    exact kitAny_nil, q _ _ (e2.put hp) rfl⟩⟩
theorem ty_int : ∀ (G : Hp) (v : V) (i : Int), rInt.r G v i → TyX K G v (.type "int") := fun _ _ i r => by rw [show _ = V.int i from r]; exact .base (.int i)
theorem ty_nat : ∀ (G : Hp) (v : V) (i : Nat), rNat.r G v i → TyX K G v (.type "int") := fun _ _ i r => by rw [show _ = V.int (i : Int) from r]; exact .base (.int _)
theorem ty_S : ∀ (G : Hp) (v : V) (i : Str), rS.r G v i → TyX K G v (.type "str") := fun _ _ i r => by rw [show _ = V.str i from r]; exact .base (.str _)
theorem ty_W : ∀ (G : Hp) (v : V) (i : Wd), rW.r G v i → TyX K G v (.type "str") := fun _ _ i r => by rw [show _ = V.str (wS i) from r]; exact .base (.str _)
theorem ty_L {R : Rel α} : ∀ (G : Hp) (v : V) (i : List α), (rL R).r G v i → TyX K G v (.type "list") := fun _ _ i ⟨p, vs, r, h, _⟩ => by rw [r]; exact .base (.lst h)
theorem ty_T {R : Rel α} : ∀ (G : Hp) (v : V) (i : List α), (rT R).r G v i → TyX K G v (.type "tuple") := fun _ _ i ⟨p, vs, r, h, _⟩ => by rw [r]; exact .base (.tup h)
theorem ty_P : ∀ (G : Hp) (v : V) (i : Pr), rP.r G v i → TyX K G v (.type "tuple") := fun _ _ i ⟨p, r, h⟩ => by rw [r]; exact .base (.tup h)
end

end K29
set_option autoImplicit false
set_option maxHeartbeats 4000000
namespace K29
open PySem PySem.Spec PyProof.Rows L2
/-! The rules with the written part named, so that they stand within comprehensions too. -/
section
variable {X : Cx} (K : PySem.W.Frag)
theorem wLen (h : X.K = K := by rfl) : CallR X (.builtin "len") (fun xs H Q => ∃ x n, xs = [x] ∧ LenV K x H n ∧ Q (.int n) H) := by subst h; exact call_len
theorem wAny (h : X.K = K := by rfl) (hc : X.calm = true := by rfl) : CallR X (.builtin "any") (rAny K) := by subst h; exact cr_any hc
theorem wAll (h : X.K = K := by rfl) (hc : X.calm = true := by rfl) : CallR X (.builtin "all") (rAll K) := by subst h; exact cr_all hc
theorem wIsi (h : X.K = K := by rfl) : CallR X (.builtin "isinstance") (rIsi K) := by subst h; exact call_isi
theorem wIsiT (h : X.K = K := by rfl) : CallR X (.builtin "isinstance") (rIsiT K) := by subst h; exact call_isiT
theorem wTup (h : X.K = K := by rfl) : CallR X (.type "tuple") (fun xs H Q => ∃ p ys, xs = [.ref p] ∧ ((SqL K H p ys ∧ ∀ l, H l = none → Q (.ref l) (upd H l (.tup ys))) ∨ (SqT K H p ys ∧ Q (.ref p) H))) := by subst h; exact call_tuple_of
theorem wIxL (h : X.K = K := by rfl) : IxR X (rIxL K) := by subst h; exact ix_list
theorem wIxT (h : X.K = K := by rfl) : IxR X (rIxT K) := by subst h; exact ix_tup
theorem wSlL (h : X.K = K := by rfl) : SlR X (rSlL K) := by subst h; exact sl_list
theorem wIn (h : X.K = K := by rfl) : OpR X (compareOp .In) (rIn K false) := by subst h; exact op_in_seq
theorem wNi (h : X.K = K := by rfl) : OpR X (compareOp .NotIn) (rIn K true) := by subst h; exact op_notIn_seq
theorem wEqD (hu : X.A.units + 64 < cLine) (h : X.K = K := by rfl) : OpR X (compareOp .Eq) (rEqD K) := by subst h; exact op_eqD hu
theorem wNeD (hu : X.A.units + 64 < cLine) (h : X.K = K := by rfl) : OpR X (compareOp .NotEq) (rNeD K) := by subst h; exact op_neD hu
theorem wIndex (h : X.K = K := by rfl) : MtR X "list.index" (rIndex K) := by subst h; exact mt_index
theorem wFld {e : Expr} {f : Str} {pos : Pos} {ta : TE} (he : PE X e ta) (h : X.K = K := by rfl) (hb : attributeBase e f X.env (eval e X.env) = eval e X.env := by rfl) : PE X (.Attribute e f pos) (tFld K ta f) := by subst h; exact pe_fld he hb
theorem wList {tg l : Expr} {tl : TE} (hl : PE X l tl) (h : X.K = K := by rfl) : PI X tg l (iList K tl) := by subst h; exact pi_list hl
theorem wTupI {tg l : Expr} {tl : TE} (hl : PE X l tl) (h : X.K = K := by rfl) : PI X tg l (iTup K tl) := by subst h; exact pi_tup hl
theorem wPg2 {es : List Expr} {k : Nat} {t : TGs} {n : Nat} {pos : Pos} (hp : PGs X es t) (h : X.K = K := by rfl) (hc : X.calm = true := by rfl) (hn : (assignEach es X.env).length = n := by rfl) (hst : (assignEach es X.env).findIdx? (·.1) = none := by rfl) :
    PG X (.Tuple es k pos) (gTup K n t) := by subst h; exact pg_tup hc hp hn hst
theorem wJoin {apos pos : Pos} {o e : Expr} {to te : TE} (ho : PE X o to) (he : PE X e te) (h : X.K = K := by rfl) (hs : starEach [e] X.env = [(false, eval e X.env)] := by rfl) (hbase : attributeBase o "join" X.env (eval o X.env) = eval o X.env := by rfl) (hline : (apos.endLine == pos.line) = true := by rfl) :
    PE X (.Call (.Attribute o "join" apos) [e] [] pos) (tM1 (fun x xs H Q => ∃ a p, ∃ ys : List Str, x = .str a ∧ xs = [.ref p] ∧ (SqL K H p (ys.map V.str) ∨ SqT K H p (ys.map V.str)) ∧ (ys.map (·.length)).sum + ys.length * a.length ≤ 16777216 ∧ Q (.str (Txt.join a ys)) H) to te) := by subst h; exact pe_join ho he hs hbase hline
theorem wAppend : MtM X "list.append" rAppend := mt_append
end
theorem st_ {X : Cx} (i : Nat) (nd : X.N.Nodup) {x : Str} {e : Expr} {te : TE} {pos pos' : Pos} (he : PE X e te) (hi : X.N[i]? = some x := by rfl) (hx : Loc X.env.scope x := by first | exact Or.inl rfl | exact Or.inr rfl) (hs : swapsWith e (some (.Name x pos')) pos.line X.env = pure false := by rfl) (hf : X.fn x = true ∨ X.env.scope.names.lookup x = some .local := by first | exact .inl rfl | exact .inr rfl) :
    PS X (.Assign [.Name x pos'] e pos) (tAsg te (gName i)) := ps_set nd hi hx he hs hf
theorem gn_ {X : Cx} (i : Nat) (nd : X.N.Nodup) {x : Str} {pos : Pos} (hi : X.N[i]? = some x := by rfl) (hx : Loc X.env.scope x := by first | exact Or.inl rfl | exact Or.inr rfl) (hf : X.fn x = true ∨ X.env.scope.names.lookup x = some .local := by first | exact .inl rfl | exact .inr rfl) : PG X (.Name x pos) (gName i) := pg_name nd hi hx hf
theorem bo_len : bootBuiltins "len" = some (.builtin "len") := by decide +kernel
theorem bo_abs : bootBuiltins "abs" = some (.builtin "abs") := by decide +kernel
theorem bo_all : bootBuiltins "all" = some (.builtin "all") := by decide +kernel
theorem bo_any : bootBuiltins "any" = some (.builtin "any") := by decide +kernel
theorem bo_bool : bootBuiltins "bool" = some (.type "bool") := by decide +kernel
theorem bo_enumerate : bootBuiltins "enumerate" = some (.type "enumerate") := by decide +kernel
theorem bo_int : bootBuiltins "int" = some (.type "int") := by decide +kernel
theorem bo_isinstance : bootBuiltins "isinstance" = some (.builtin "isinstance") := by decide +kernel
theorem bo_list : bootBuiltins "list" = some (.type "list") := by decide +kernel
theorem bo_max : bootBuiltins "max" = some (.builtin "max") := by decide +kernel
theorem bo_min : bootBuiltins "min" = some (.builtin "min") := by decide +kernel
theorem bo_range : bootBuiltins "range" = some (.type "range") := by decide +kernel
theorem bo_repr : bootBuiltins "repr" = some (.builtin "repr") := by decide +kernel
theorem bo_set : bootBuiltins "set" = some (.type "set") := by decide +kernel
theorem bo_sorted : bootBuiltins "sorted" = some (.builtin "sorted") := by decide +kernel
theorem bo_str : bootBuiltins "str" = some (.type "str") := by decide +kernel
theorem bo_tuple : bootBuiltins "tuple" = some (.type "tuple") := by decide +kernel
/-- what the head has left: the defs, the names that are still built in, the constants, the class -/
structure Tx (K : PySem.W.Frag) (mg : Str → Option Value) (C : Addr) : Prop where
  d_is_integer : Dx K mg "is_integer" s_is_integer ["value"]
  d_is_number : Dx K mg "is_number" s_is_number ["value"]
  d_is_text : Dx K mg "is_text" s_is_text ["value"]
  d_is_sequence : Dx K mg "is_sequence" s_is_sequence ["value"]
  d_is_lot_of : Dx K mg "is_lot_of" s_is_lot_of ["value", "signals"]
  d_lot_within : Dx K mg "lot_within" s_lot_within ["lot", "other"]
  d_is_table : Dx K mg "is_table" s_is_table ["value", "many"]
  d_need_pair : Dx K mg "need_pair" s_need_pair ["device", "pair"]
  d_check_family : Dx K mg "check_family" s_check_family ["device", "family"]
  d_joined_lot : Dx K mg "joined_lot" s_joined_lot ["one", "other"]
  d_has_full : Dx K mg "has_full" s_has_full ["lots", "lot"]
  d_pair_of : Dx K mg "pair_of" s_pair_of ["one", "other"]
  d_next_node : Dx K mg "next_node" s_next_node ["device", "kind", "node", "number"]
  d_joined_classes : Dx K mg "joined_classes" s_joined_classes ["states", "pairs"]
  d_need_many : Dx K mg "need_many" s_need_many ["value"]
  d_round_rows : Dx K mg "round_rows" s_round_rows ["device", "lots", "start", "lot", "follow"]
  d_pair_rows : Dx K mg "pair_rows" s_pair_rows ["device", "lots", "pair", "lot"]
  d_pairs_of : Dx K mg "pairs_of" s_pairs_of ["device"]
  d_pair_web : Dx K mg "pair_web" s_pair_web ["device", "lots"]
  d_levels_of : Dx K mg "levels_of" s_levels_of ["web"]
  d_ranks_of : Dx K mg "ranks_of" s_ranks_of ["web"]
  d_groupings_of : Dx K mg "groupings_of" s_groupings_of ["states", "web"]
  d_tower_groupings : Dx K mg "tower_groupings" s_tower_groupings ["device", "family"]
  d_rounds_table : Dx K mg "rounds_table" s_rounds_table ["device", "family"]
  d_first_of : Dx K mg "first_of" s_first_of ["rows"]
  d_first_chains : Dx K mg "first_chains" s_first_chains ["web", "many"]
  d_apart_row : Dx K mg "apart_row" s_apart_row ["device", "family", "pair", "many"]
  d_law_box : Dx K mg "_law_box" s_law_box ["_law_script", "_law_k"]
  d_law_take : Dx K mg "_law_take" s_law_take ["_law_box_here", "_law_many"]
  d_law_pick : Dx K mg "_law_pick" s_law_pick ["_law_box_here", "_law_some"]
  d_law_falling : Dx K mg "_law_falling" s_law_falling ["_law_box_here", "_law_many"]
  d_law_table : Dx K mg "_law_table" s_law_table ["_law_box_here", "_law_many"]
  d_law_named : Dx K mg "_law_named" s_law_named ["_law_table_here", "_law_turn", "_law_back"]
  d_law_tables : Dx K mg "_law_tables" s_law_tables ["_law_box_here", "_law_sizes", "_law_kinds"]
  d_law_lots : Dx K mg "_law_lots" s_law_lots ["_law_signals"]
  d_law_family : Dx K mg "_law_family" s_law_family ["_law_box_here", "_law_signals"]
  d_law_full : Dx K mg "_law_full" s_law_full ["_law_lots_here", "_law_heard"]
  d_law_more : Dx K mg "_law_more" s_law_more ["_law_heard", "_law_signal"]
  d_law_next : Dx K mg "_law_next" s_law_next ["_law_tables_here", "_law_pair", "_law_signal"]
  d_law_cuts : Dx K mg "_law_cuts" s_law_cuts ["_law_lots_here", "_law_row"]
  d_law_behind : Dx K mg "_law_behind" s_law_behind ["_law_tables_here", "_law_pair", "_law_row"]
  d_law_pairs : Dx K mg "_law_pairs" s_law_pairs ["_law_many"]
  d_law_within : Dx K mg "_law_within" s_law_within ["_law_classes", "_law_pair"]
  d_law_shown : Dx K mg "_law_shown" s_law_shown ["_law_device", "_law_tables_here", "_law_lots_here", "_law_told", "_law_some", "_law_many"]
  d_law : Dx K mg "law" s_law ["_law_script"]
  f_abs : mg "abs" = none
  f_all : mg "all" = none
  f_any : mg "any" = none
  f_bool : mg "bool" = none
  f_enumerate : mg "enumerate" = none
  f_int : mg "int" = none
  f_isinstance : mg "isinstance" = none
  f_len : mg "len" = none
  f_list : mg "list" = none
  f_max : mg "max" = none
  f_min : mg "min" = none
  f_range : mg "range" = none
  f_repr : mg "repr" = none
  f_set : mg "set" = none
  f_sorted : mg "sorted" = none
  f_str : mg "str" = none
  f_tuple : mg "tuple" = none
  g_SIGNALS : ∃ t, mg "SIGNALS" = some (.str "abcde" t)
  g_MOST_STATES : ∃ t, mg "MOST_STATES" = some (.int 60 t)
  g_MOST_LOTS : ∃ t, mg "MOST_LOTS" = some (.int 31 t)
  g_MOST_ROUNDS : ∃ t, mg "MOST_ROUNDS" = some (.int 60 t)
  mgC : mg "Device" = some (.ref C)
  cl : Cls K C
  nStates : NoAttr K C "states"
  nSignals : NoAttr K C "signals"
  nTables : NoAttr K C "tables"
  made : ∃ (f : Addr) (fd : FuncData), FunD K "__init__" "Device.__init__" (defArgs s_dev_init) (defBody s_dev_init) (defScope s_dev_init) [] [] f fd ∧ Mk K C f ∧ Binds K fd ["self", "tables"] []

end K29
set_option autoImplicit false
set_option maxHeartbeats 4000000
namespace K29
open PySem PySem.Spec PyProof.Rows L2
/-! Words; promises by their arguments. -/
def A1 {α : Type} (R1 : Rel α) (Pre : α → Prop) : Hp → List V → α → Prop := fun G vs x => ∃ v1, vs = [v1] ∧ R1.r G v1 x ∧ Pre x
def A2 {α β : Type} (R1 : Rel α) (R2 : Rel β) (Pre : α → β → Prop) : Hp → List V → α × β → Prop := fun G vs x => ∃ v1 v2, vs = [v1, v2] ∧ R1.r G v1 x.1 ∧ R2.r G v2 x.2 ∧ Pre x.1 x.2
def A3 {α β γ : Type} (R1 : Rel α) (R2 : Rel β) (R3 : Rel γ) (Pre : α → β → γ → Prop) : Hp → List V → α × β × γ → Prop := fun G vs x => ∃ v1 v2 v3, vs = [v1, v2, v3] ∧ R1.r G v1 x.1 ∧ R2.r G v2 x.2.1 ∧ R3.r G v3 x.2.2 ∧ Pre x.1 x.2.1 x.2.2
def A4 {α β γ δ : Type} (R1 : Rel α) (R2 : Rel β) (R3 : Rel γ) (R4 : Rel δ) (Pre : α → β → γ → δ → Prop) : Hp → List V → α × β × γ × δ → Prop := fun G vs x => ∃ v1 v2 v3 v4, vs = [v1, v2, v3, v4] ∧ R1.r G v1 x.1 ∧ R2.r G v2 x.2.1 ∧ R3.r G v3 x.2.2.1 ∧ R4.r G v4 x.2.2.2 ∧ Pre x.1 x.2.1 x.2.2.1 x.2.2.2
theorem A1.len {α : Type} {R1 : Rel α} {Pre : α → Prop} (G : Hp) (vs : List V) (z : α) (h : A1 R1 Pre G vs z) : vs.length = 1 := by obtain ⟨_, rfl, _⟩ := h; rfl
theorem A2.len {α β : Type} {R1 : Rel α} {R2 : Rel β} {Pre : α → β → Prop} (G : Hp) (vs : List V) (z : α × β) (h : A2 R1 R2 Pre G vs z) : vs.length = 2 := by obtain ⟨_, _, rfl, _⟩ := h; rfl
theorem A3.len {α β γ : Type} {R1 : Rel α} {R2 : Rel β} {R3 : Rel γ} {Pre : α → β → γ → Prop} (G : Hp) (vs : List V) (z : α × β × γ) (h : A3 R1 R2 R3 Pre G vs z) : vs.length = 3 := by obtain ⟨_, _, _, rfl, _⟩ := h; rfl
theorem A4.len {α β γ δ : Type} {R1 : Rel α} {R2 : Rel β} {R3 : Rel γ} {R4 : Rel δ} {Pre : α → β → γ → δ → Prop} (G : Hp) (vs : List V) (z : α × β × γ × δ) (h : A4 R1 R2 R3 R4 Pre G vs z) : vs.length = 4 := by obtain ⟨_, _, _, _, rfl, _⟩ := h; rfl
section
variable {T : List (Addr × Str)} {K : PySem.W.Frag} {α β γ δ ε : Type} {σ : L2.St} {H : Hp} {N : List Addr} {R : Rel ε} {R1 : Rel α} {R2 : Rel β} {R3 : Rel γ} {R4 : Rel δ} {x : α} {y : β} {u : γ} {t : δ} {z : ε} {ta tb tc td te : TE} {b : Bool}
theorem e_c1 {Pre : α → Prop} {Post : α → ε → Prop} {E : XK} (h1 : Ev T ta σ H R1 x) (pre : Pre x) (hp : ∀ r, Post x r → r = z) : Ev T (tCall (SpG T (A1 R1 Pre) R Post) [] E (tCons ta tNil)) σ H R z :=
  e_call x (a_cons h1 a_nil) (fun _ _ _ ⟨v, _, e, r1, e2⟩ => ⟨v, by rw [e, e2], r1, pre⟩) hp
theorem e_c2 {Pre : α → β → Prop} {Post : α × β → ε → Prop} {E : XK} (h1 : Ev T ta σ H R1 x) (h2 : Ev T tb σ H R2 y) (pre : Pre x y) (hp : ∀ r, Post (x, y) r → r = z) : Ev T (tCall (SpG T (A2 R1 R2 Pre) R Post) [] E (tCons ta (tCons tb tNil))) σ H R z :=
  e_call (x, y) (a_cons h1 (a_cons h2 a_nil)) (fun _ _ _ ⟨v, _, e, r1, w, _, e2, r2, e3⟩ => ⟨v, w, by rw [e, e2, e3], r1, r2, pre⟩) hp
theorem e_c3 {Pre : α → β → γ → Prop} {Post : α × β × γ → ε → Prop} {E : XK} (h1 : Ev T ta σ H R1 x) (h2 : Ev T tb σ H R2 y) (h3 : Ev T tc σ H R3 u) (pre : Pre x y u) (hp : ∀ r, Post (x, y, u) r → r = z) : Ev T (tCall (SpG T (A3 R1 R2 R3 Pre) R Post) [] E (tCons ta (tCons tb (tCons tc tNil)))) σ H R z :=
  e_call (x, y, u) (a_cons h1 (a_cons h2 (a_cons h3 a_nil))) (fun _ _ _ ⟨v, _, e, r1, w, _, e2, r2, o, _, e3, r3, e4⟩ => ⟨v, w, o, by rw [e, e2, e3, e4], r1, r2, r3, pre⟩) hp
theorem e_c4 {Pre : α → β → γ → δ → Prop} {Post : α × β × γ × δ → ε → Prop} {E : XK} (h1 : Ev T ta σ H R1 x) (h2 : Ev T tb σ H R2 y) (h3 : Ev T tc σ H R3 u) (h4 : Ev T td σ H R4 t) (pre : Pre x y u t) (hp : ∀ r, Post (x, y, u, t) r → r = z) : Ev T (tCall (SpG T (A4 R1 R2 R3 R4 Pre) R Post) [] E (tCons ta (tCons tb (tCons tc (tCons td tNil))))) σ H R z :=
  e_call (x, y, u, t) (a_cons h1 (a_cons h2 (a_cons h3 (a_cons h4 a_nil)))) (fun _ _ _ ⟨v, _, e, r1, w, _, e2, r2, o, _, e3, r3, s, _, e4, r4, e5⟩ => ⟨v, w, o, s, by rw [e, e2, e3, e4, e5], r1, r2, r3, r4, pre⟩) hp
/-! ### words -/
theorem wS_codes (l : Wd) : (wS l).cps.toList = l.map (97 + ·) := by unfold wS; simp
theorem wS_len (l : Wd) : (wS l).length = l.length := by show (wS l).cps.size = _; unfold wS; simp
theorem map97_inj : ∀ {l m : Wd}, l.map (97 + ·) = m.map (97 + ·) → l = m
  | [], [], _ => rfl
  | [], _ :: _, h => by simp at h
  | _ :: _, [], h => by simp at h
  | a :: l, b :: m, h => by
    simp only [List.map_cons, List.cons.injEq] at h
    rw [map97_inj h.2, show a = b by omega]
theorem wS_inj {l m : Wd} (h : wS l = wS m) : l = m := map97_inj (by rw [← wS_codes, ← wS_codes, h])
theorem wS_app (l m : Wd) : wS l ++ wS m = wS (l ++ m) := by
  show (⟨(wS l).cps ++ (wS m).cps⟩ : Str) = _
  unfold wS
  simp
theorem mem97 {n : Nat} {l : Wd} : (97 + n ∈ l.map (97 + ·)) ↔ n ∈ l := by
  rw [List.mem_map]
  constructor
  · rintro ⟨a, h1, h2⟩
    rw [show n = a by omega]
    exact h1
  · exact fun h => ⟨n, h, rfl⟩
/-- one letter -/
def rLt : Rel Nat := ⟨fun _ v n => v = .str (wS [n]), fun _ h => h⟩
theorem Ev.word {n : Nat} (h : Ev T te σ H rLt n) : Ev T te σ H rW [n] := h.as fun _ _ r => r
theorem e_word {l : Wd} {s : Str} (h : s = wS l) : Ev T (tC (.str s)) σ H rW l := e_c (by rw [h]; rfl)
theorem o_inW {n : Nat} {l : Wd} : RV T (fun x y H Q => ∃ (c : Nat) (z : Str), x = .str ⟨#[c]⟩ ∧ y = .str z ∧ Q (.bl (decide (c ∈ z.cps.toList))) H) rLt n rW l rB (decide (n ∈ l)) :=
  .pure (V' := .bl (decide (n ∈ l))) (fun H a b ra rb Q q => ⟨97 + n, wS l, ra, rb, by rw [wS_codes, show decide (97 + n ∈ l.map (97 + ·)) = decide (n ∈ l) from by simp only [mem97]]; exact q⟩) fun _ => rfl
theorem o_niW {n : Nat} {l : Wd} : RV T (fun x y H Q => ∃ (c : Nat) (z : Str), x = .str ⟨#[c]⟩ ∧ y = .str z ∧ Q (.bl (!decide (c ∈ z.cps.toList))) H) rLt n rW l rB (!decide (n ∈ l)) :=
  .pure (V' := .bl (!decide (n ∈ l))) (fun H a b ra rb Q q => ⟨97 + n, wS l, ra, rb, by rw [wS_codes, show decide (97 + n ∈ l.map (97 + ·)) = decide (n ∈ l) from by simp only [mem97]]; exact q⟩) fun _ => rfl
theorem o_addW {l m : Wd} (h : l.length + m.length ≤ 16000000) : RV T (fun x y H Q => ∃ i j, x = .str i ∧ y = .str j ∧ i.length + j.length ≤ sizeLine ∧ Q (.str (i ++ j)) H) rW l rW m rW (l ++ m) :=
  .pure (V' := .str (wS (l ++ m))) (fun H a b ra rb Q q => ⟨wS l, wS m, ra, rb, by rw [wS_len, wS_len]; exact Nat.le_trans h (by decide), by rw [wS_app]; exact q⟩) fun _ => rfl
theorem o_eqW {l m : Wd} : RV T rEq rW l rW m rB (decide (l = m)) := .pure (V' := .bl (decide (l = m))) (fun H a b ra rb Q q => by
  cases ra
  cases rb
  refine ⟨rfl, ?_⟩
  rw [show decide (V.str (wS l) = V.str (wS m)) = decide (l = m) from by
    by_cases e : l = m
    · simp [e]
    · rw [decide_eq_false e, decide_eq_false fun z => e (wS_inj (V.str.inj z))]]
  exact q) fun _ => rfl
theorem o_neW {l m : Wd} : RV T rNe rW l rW m rB (!decide (l = m)) := .pure (V' := .bl (!decide (l = m))) (fun H a b ra rb Q q => by
  cases ra
  cases rb
  refine ⟨rfl, ?_⟩
  rw [show decide (V.str (wS l) = V.str (wS m)) = decide (l = m) from by
    by_cases e : l = m
    · simp [e]
    · rw [decide_eq_false e, decide_eq_false fun z => e (wS_inj (V.str.inj z))]]
  exact q) fun _ => rfl
theorem o_eqL {l : Nat} {m : Nat} : RV T rEq rLt l rLt m rB (decide (l = m)) := .pure (V' := .bl (decide (l = m))) (fun H a b ra rb Q q => by
  cases ra
  cases rb
  refine ⟨rfl, ?_⟩
  rw [show decide (V.str (wS [l]) = V.str (wS [m])) = decide (l = m) from by
    by_cases e : l = m
    · simp [e]
    · rw [decide_eq_false e, decide_eq_false fun z => e (List.cons.inj (wS_inj (V.str.inj z))).1]]
  exact q) fun _ => rfl
theorem e_lenW {l : Wd} (h : Ev T ta σ H rW l) (hl : l.length ≤ 16000000) : Ev T (tCB (fun xs H Q => ∃ x n, xs = [x] ∧ LenV K x H n ∧ Q (.int n) H) (tCons ta tNil)) σ H rNat l.length :=
  (e_lenS (h.as (S := rS) (y := wS l) fun _ _ r => r) (by rw [wS_len]; exact Nat.le_trans hl (by decide))).to (wS_len l)
theorem i_word {l : Wd} (h : Ev T te σ H rW l) : EvI T (iStr te) σ H rLt l := fun N H1 e Q q => by
  refine i_str (s := wS l) (h.as (S := rS) fun _ _ r => r) N H1 e Q fun J H2 G Y e2 g w hy => ?_
  have hl : (wS l).cps.toList.length = l.length := by rw [wS_codes, List.length_map]
  refine q J H2 G Y e2 g (hl ▸ w) fun i G1 v G2 M hi a y => ?_
  obtain ⟨e12, c, hc, r⟩ := hy i G1 v G2 M (by rw [hl]; exact hi) a y
  refine ⟨e12, ?_⟩
  rw [wS_codes, List.getElem?_map] at hc
  cases hx : l[i]? with
  | none => rw [hx] at hc; cases hc
  | some n =>
    rw [hx] at hc
    cases hc
    exact ⟨n, rfl, r⟩
theorem join_wS0 : ∀ ls : List Wd, Str.join (wS []) (ls.map wS) = wS ls.flatten
  | [] => rfl
  | [a] => by
    show wS a = wS (a ++ [])
    rw [List.append_nil]
  | a :: b :: r => by
    have ih := join_wS0 (b :: r)
    show wS a ++ wS [] ++ Str.join (wS []) ((b :: r).map wS) = wS (a ++ (b :: r).flatten)
    rw [ih, wS_app, List.append_nil, wS_app]
theorem join_wS (ls : List Wd) : Txt.join (wS []) (ls.map wS) = wS ls.flatten := by rw [TL.join_eq, join_wS0]
theorem flat1 : ∀ l : Wd, (l.map fun n => [n]).flatten = l
  | [] => rfl
  | a :: l => by rw [List.map_cons, List.flatten_cons, flat1 l]; rfl
theorem sum1 : ∀ l : List Wd, ((l.map wS).map (·.length)).sum = l.flatten.length
  | [] => rfl
  | a :: l => by rw [List.map_cons, List.map_cons, List.sum_cons, sum1 l, List.flatten_cons, List.length_append, wS_len]
theorem e_joinW {l : Wd} {s : Str} (hs : s = wS []) (h : Ev T tb σ H (rL rLt) l) (hz : l.length ≤ 16000000) :
    Ev T (tM1 (fun x xs H Q => ∃ a p, ∃ ys : List Str, x = .str a ∧ xs = [.ref p] ∧ (SqL K H p (ys.map V.str) ∨ SqT K H p (ys.map V.str)) ∧ (ys.map (·.length)).sum + ys.length * a.length ≤ 16777216 ∧ Q (.str (Txt.join a ys)) H) (tC (.str s)) tb) σ H rW l := by
  have h2 : Ev T tb σ H (rL rS) ((l.map fun n => [n]).map wS) := h.as fun G v ⟨p, vs, h1, h2, h3⟩ => ⟨p, vs, h1, h2, by rw [List.map_map]; exact pr_map (G := rS.r G) (f := wS ∘ fun n => [n]) (fun _ _ r => r) h3⟩
  refine ((e_join (K := K) (e_str s) h2 ?_).as (S := rW) (y := l) fun G v r => ?_)
  · rw [sum1, flat1, hs, wS_len, List.length_nil, Nat.mul_zero]
    exact Nat.le_trans hz (by decide)
  · rw [hs] at r
    show v = .str (wS l)
    rw [show v = .str (Txt.join (wS []) ((l.map fun n => [n]).map wS)) from r, join_wS, flat1]
/-- the lot told by its word among others -/
theorem e_ix0 {i : Int} {n : Nat} (h : Ev T te σ H rNat n) (e : (n : Int) = i) : Ev T te σ H rInt i := h.int.to e
end
theorem hu64_of {k : Nat} {A : Around} (r : Room k A) : A.units + 64 < cLine := by have := r.un; omega

end K29
set_option autoImplicit false
set_option maxHeartbeats 4000000
namespace K29
open PySem PySem.Spec PyProof.Rows L2
/-! More of expressions: chains, pairs taken apart, enumerate, sets of letters. -/
theorem ok_ext {φ : Heap → Prop} (h : ∀ hp : Heap, (∀ a o, hp.get? a = some o → ∃ vs, o.data = .fields vs) → ¬ φ hp) : Ok (.ext φ) := by
  refine ⟨fun _ z => (by cases z), fun c q z => ?_, fun _ z => (by cases z)⟩
  unfold LamX.CodeO at z
  have e := HO.ext.inj z
  let ob : Obj := { cls := .none, data := .fields #[.none, .str q default] }
  let hp : Heap := { objs := (List.replicate (c + 1) ob).toArray }
  have g : ∀ a o, hp.get? a = some o → o = ob := fun a o ha => by
    unfold Heap.get? at ha
    have hx : hp.objs[a]? = if a < c + 1 then some ob else none := by
      show (List.replicate (c + 1) ob).toArray[a]? = _
      rw [List.getElem?_toArray, List.getElem?_replicate]
    rw [hx] at ha
    by_cases hl : a < c + 1
    · rw [if_pos hl] at ha
      exact (Option.some.inj ha).symm
    · rw [if_neg hl] at ha
      cases ha
  have gc : hp.get? c = some ob := by
    unfold Heap.get?
    have hx : hp.objs[c]? = some ob := by
      show (List.replicate (c + 1) ob).toArray[c]? = _
      rw [List.getElem?_toArray, List.getElem?_replicate, if_pos (Nat.lt_succ_self c)]
    rw [hx]
  refine h hp (fun a o ha => ⟨#[.none, .str q default], by rw [g a o ha]⟩) ?_
  rw [e]
  exact ⟨ob, _, default, gc, rfl, rfl⟩
theorem ok_setX (w : World) (a : Addr) (ks : List Str) : Ok (SetX w a ks) := ok_ext fun hp hf ⟨o, es, ep, t, h1, _, h2, _⟩ => by
  obtain ⟨vs, hv⟩ := hf _ _ h1
  rw [hv] at h2
  cases h2
section
variable {T : List (Addr × Str)} {K : PySem.W.Frag} {w : World} {α β γ : Type} {σ : L2.St} {H : Hp} {N : List Addr} {R : Rel α} {S : Rel β} {U : Rel γ} {x : α} {y : β} {z : γ} {ta tb tc te : TE} {b1 b2 : Bool} {i j k : Nat} {D : Ends}
theorem e_chain {r r' : R2} (ha : Ev T ta σ H R x) (hb : Ev T tb σ H S y) (hc : Ev T tc σ H U z) (h1 : RV T r R x S y rB b1) (h2 : RV T r' S y U z rB b2) : Ev T (tChain r r' ta tb tc) σ H rB (b1 && b2) := fun N H1 e Q q =>
  ha N H1 e _ fun a H2 e2 ra => hb N H2 (e.step e2) _ fun b H3 e3 rb => h1 N H3 a b ((e.step e2).step e3).ok (Rel.up ra (e.step e2).ok e3) rb _ fun v H4 e4 rv => ⟨b1, rv, by
    have a4 := ((e.step e2).step e3).step e4
    cases b1 with
    | false => exact q _ H4 ((e2.trans e3).trans e4) rfl
    | true => exact hc N H4 a4 _ fun c H5 e5 rc => h2 N H5 b c (a4.step e5).ok (Rel.up (Rel.up rb ((e.step e2).step e3).ok e4) a4.ok e5) rc Q fun v H6 e6 rv => q v H6 ((((e2.trans e3).trans e4).trans e5).trans e6) rv⟩
/-- a, b = a pair -/
theorem g_pair {v : V} {x : α × β} {Qg : L2.St → Hp → Prop} (r : (rPair R S).r (vis N H) v x) (q : ∀ a b, R.r (vis N H) a x.1 → S.r (vis N H) b x.2 → Qg ((σ.set i (some a)).set j (some b)) H) : gTup K 2 (gCons (gName i) (gCons (gName j) gNil)) v σ H Qg := by
  obtain ⟨p, a, b, rfl, hp, ra, rb⟩ := r
  exact ⟨p, [a, b], rfl, SqT.of (vis_sub hp), rfl, a, [b], rfl, b, [], rfl, rfl, q a b ra rb⟩
theorem rP_pair {H : Hp} {v : V} {x : Pr} (h : rP.r H v x) : (rPair rNat rNat).r H v x := by
  obtain ⟨p, h1, h2⟩ := h
  exact ⟨p, _, _, h1, h2, rfl, rfl⟩
/-- enumerate of a list -/
def enumL {α : Type} (xs : List α) : List (Nat × α) := (List.range xs.length).zip xs
theorem enumL_len (xs : List α) : (enumL xs).length = xs.length := by unfold enumL; rw [List.length_zip, List.length_range, Nat.min_self]
theorem enumL_get {xs : List α} (h : xs[i]? = some x) : (enumL xs)[i]? = some (i, x) := by
  have hi := (List.getElem?_eq_some_iff.mp h).1
  unfold enumL
  rw [List.getElem?_zip_eq_some]
  exact ⟨by simp [hi], h⟩
theorem i_enum {xs : List α} (h : Ev T te σ H (rL R) xs) : EvI T (iEnum K (tCons te tNil)) σ H (rPair rNat R) (enumL xs) := fun N H1 e Q q =>
  h N H1 e _ fun v H2 e2 ⟨p, vs, h1, h2, h3⟩ => by
    have hl : vs.length = xs.length := Paired.length h3
    refine ⟨p, vs, by rw [h1], SqL.of (vis_sub h2), q _ H2 _ _ e2 (fun M G1 a => SqL.of (a.full.lst h2)) (by rw [enumL_len, ← hl]; exact walk_enum) fun i G1 v G2 M hi a y => ?_⟩
    obtain ⟨t, a1, b1, rfl, hn, rfl, ha, hb⟩ := y
    rw [enumL_len] at hi
    obtain ⟨u, hu, ru⟩ := pr_get h3 (y := xs[i]) (List.getElem?_eq_getElem hi)
    have hb : vs[i]? = some b1 := hb
    rw [hu] at hb
    cases hb
    cases ha
    exact ⟨.new hn, (i, xs[i]), enumL_get (List.getElem?_eq_getElem hi), t, _, _, rfl, vis_new a.ok hn, rfl, Rel.es (T := T) ru (a.e.trans ((Es.new hn).vis a.ok))⟩
/-! ### sorted({letter for letter in word}) -/
def putN (ks : List Nat) (c : Nat) : List Nat := if c ∈ ks then ks else c :: ks
theorem putT_wS (ks : List Nat) (c : Nat) : putT (ks.map fun n => wS [n]) (wS [c]) = (putN ks c).map fun n => wS [n] := by
  unfold putT putN
  have e : wS [c] ∈ ks.map (fun n => wS [n]) ↔ c ∈ ks := by
    rw [List.mem_map]
    constructor
    · rintro ⟨a, h1, h2⟩
      rw [← (List.cons.inj (wS_inj h2)).1]
      exact h1
    · exact fun h => ⟨c, h, rfl⟩
  by_cases h : c ∈ ks
  · rw [if_pos h, if_pos (e.mpr h)]
  · rw [if_neg h, if_neg fun z => h (e.mp z), List.map_cons]
theorem putN_fold (l : List Nat) : ∀ ks : List Nat, ks.Nodup → (l.foldl putN ks).Nodup ∧ (∀ c, c ∈ l.foldl putN ks ↔ c ∈ ks ∨ c ∈ l) := by
  induction l with
  | nil => exact fun ks h => ⟨h, fun c => by simp⟩
  | cons a l ih =>
    intro ks h
    have hp : (putN ks a).Nodup := by
      unfold putN
      by_cases e : a ∈ ks
      · rw [if_pos e]; exact h
      · rw [if_neg e]; exact List.nodup_cons.mpr ⟨e, h⟩
    obtain ⟨i1, i2⟩ := ih _ hp
    refine ⟨i1, fun c => ?_⟩
    show c ∈ l.foldl putN (putN ks a) ↔ _
    rw [i2]
    unfold putN
    by_cases e : a ∈ ks
    · rw [if_pos e, List.mem_cons]
      constructor
      · rintro (h | h)
        · exact .inl h
        · exact .inr (.inr h)
      · rintro (h | rfl | h)
        · exact .inl h
        · exact .inl e
        · exact .inr h
    · rw [if_neg e, List.mem_cons, List.mem_cons]
      constructor
      · rintro ((rfl | h) | h)
        · exact .inr (.inl rfl)
        · exact .inl h
        · exact .inr (.inr h)
      · rintro (h | rfl | h)
        · exact .inl (.inr h)
        · exact .inl (.inl rfl)
        · exact .inr h
theorem putN_len : ∀ (l ks : List Nat), (l.foldl putN ks).length ≤ ks.length + l.length
  | [], ks => Nat.le_refl _
  | a :: l, ks => by
    have h := putN_len l (putN ks a)
    have : (putN ks a).length ≤ ks.length + 1 := by
      unfold putN
      split
      · omega
      · simp
    simp only [List.length_cons, List.foldl_cons]
    omega
/-- rising letters, each once: they are known by what they hold -/
theorem asc_ext : ∀ {l m : List Nat}, l.Pairwise (· < ·) → m.Pairwise (· < ·) → (∀ c, c ∈ l ↔ c ∈ m) → l = m
  | [], [], _, _, _ => rfl
  | [], b :: m, _, _, h => absurd ((h b).mpr (List.mem_cons_self ..)) (by simp)
  | a :: l, [], _, _, h => absurd ((h a).mp (List.mem_cons_self ..)) (by simp)
  | a :: l, b :: m, hl, hm, h => by
    obtain ⟨l1, l2⟩ := List.pairwise_cons.mp hl
    obtain ⟨m1, m2⟩ := List.pairwise_cons.mp hm
    have e : a = b := by
      rcases List.mem_cons.mp ((h a).mp (List.mem_cons_self ..)) with q | q
      · exact q
      · rcases List.mem_cons.mp ((h b).mpr (List.mem_cons_self ..)) with q2 | q2
        · exact q2.symm
        · have := m1 a q
          have := l1 b q2
          omega
    subst e
    rw [asc_ext l2 m2 fun c => ?_]
    constructor
    · intro hc
      rcases List.mem_cons.mp ((h c).mp (List.mem_cons_of_mem _ hc)) with q | q
      · have := l1 c hc
        omega
      · exact q
    · intro hc
      rcases List.mem_cons.mp ((h c).mpr (List.mem_cons_of_mem _ hc)) with q | q
      · have := m1 c hc
        omega
      · exact q
theorem sortedS_asc : ∀ {l : List Nat}, l.Nodup → sortedS (l.map fun n => wS [n]) = true → l.Pairwise (· < ·)
  | [], _, _ => .nil
  | a :: l, nd, h => by
    obtain ⟨n1, n2⟩ := List.nodup_cons.mp nd
    have ris : ∀ {l : List Nat} {a : Nat}, (a :: l).Nodup → risingS (wS [a]) (l.map fun n => wS [n]) = true → (a :: l).Pairwise (· < ·) := by
      intro l
      induction l with
      | nil => exact fun _ _ => List.pairwise_singleton _ _
      | cons b l ih =>
        intro a nd h
        rw [List.map_cons] at h
        have h2 : (!ltCps (wS [b]).cps.toList (wS [a]).cps.toList && risingS (wS [b]) (l.map fun n => wS [n])) = true := h
        rw [Bool.and_eq_true] at h2
        obtain ⟨h3, h4⟩ := h2
        have nd2 := (List.nodup_cons.mp nd).2
        have ih2 := ih nd2 h4
        have hab : a < b := by
          have hne : a ≠ b := fun z => (List.nodup_cons.mp nd).1 (by rw [z]; exact List.mem_cons_self ..)
          have h5 : ltCps [97 + b] [97 + a] = false := by
            rw [wS_codes, wS_codes] at h3
            simpa using h3
          have : ¬ (97 + b < 97 + a) := fun z => by
            simp [ltCps, z] at h5
          omega
        refine List.pairwise_cons.mpr ⟨fun c hc => ?_, ih2⟩
        rcases List.mem_cons.mp hc with q | q
        · rw [q]; exact hab
        · exact Nat.lt_trans hab ((List.pairwise_cons.mp ih2).1 c q)
    exact ris nd h
theorem e_sortedL {wi : TI} {l m : Wd} (h : EvI T wi σ H rLt l) (hw : ∀ v, wipe ((wipe σ [k]).set k (some v)) [k] = wipe σ [k]) (hk : ∀ v, ((wipe σ [k]).set k (some v))[k]? = some (some v)) (hl : l.length ≤ 900) (hm : m.Pairwise (· < ·)) (he : ∀ c, c ∈ l ↔ c ∈ m) :
    Ev T (tCB (rSortedX w) (tCons (tScT w wi (gName k) tYes (tVar k) [k]) tNil)) σ H (rL rLt) m := fun N H1 e Q q =>
  h N H1 e _ fun J H2 G Y e2 gs wk hy D hD => by
    have a2 := e.step e2
    have nD : D ∉ N := a2.ok.fresh hD
    refine ⟨fun i m' G' => m' = l.length - i ∧ i ≤ l.length ∧ Es T H2 G' ∧ At T (D :: N) (vis N H2) G' ∧ G' D = some (SetX w D (((l.take i).foldl putN []).map fun n => wS [n])), ⟨l.length, by simp, Nat.zero_le _, .new hD, (At.self a2.ok).hide hD (ok_setX _ _ _), upd_same⟩, ?_⟩
    rintro i m' G' ⟨rfl, hi, eg, a, hG⟩
    by_cases hlt : i < l.length
    · refine .inr ⟨wk.goes i G' hlt (gs _ _ a), fun G2 => i + 1 ≤ l.length ∧ Es T H2 G2 ∧ At T (D :: N) (vis N H2) G2 ∧ G2 D = some (SetX w D (((l.take (i + 1)).foldl putN []).map fun n => wS [n])), fun G2 p => ⟨l.length - (i + 1), by omega, rfl, p⟩, fun v G2 y => ?_⟩
      obtain ⟨e12, x, hx, rx⟩ := hy i G' v G2 _ hlt a (wk.yields i G' v G2 hlt (gs _ _ a) y)
      refine ⟨hw v, v, hk v, wS [x], _, rx, e12.k _ _ hG (fun ps z => by cases z), ?_, ?_⟩
      · rw [List.length_map]
        have h2 := putN_len (l.take i) []
        rw [List.length_take] at h2
        simp only [List.length_nil] at h2
        omega
      · rw [putT_wS]
        have hxs : l.take (i + 1) = l.take i ++ [x] := by rw [List.take_add_one, hx]; rfl
        rw [hxs, List.foldl_append]
        exact ⟨hlt, (eg.trans e12).mut hD (e12.k _ _ hG fun ps z => by cases z) (ok_setX _ _ _), (a.step e12).put (ok_setX _ _ _), upd_same⟩
    · have ei : i = l.length := by omega
      subst ei
      rw [List.take_length] at hG
      obtain ⟨nd, mem⟩ := putN_fold l [] List.nodup_nil
      refine .inl ⟨wk.stops G' (gs _ _ a), D, _, rfl, hG, ?_, fun ys p hp hs hn => ?_⟩
      · have := putN_len l []
        rw [List.length_map]
        simp only [List.length_nil] at this
        omega
      · obtain ⟨zs, hz⟩ : ∃ zs : List Nat, ys = zs.map fun n => wS [n] := by
          have hall : ∀ y ∈ ys, ∃ n, y = wS [n] := fun y hy => by
            obtain ⟨n, _, h⟩ := List.mem_map.mp (hp.mem_iff.mp hy)
            exact ⟨n, h.symm⟩
          clear hp hs
          induction ys with
          | nil => exact ⟨[], rfl⟩
          | cons y ys ih =>
            obtain ⟨n, rfl⟩ := hall y (List.mem_cons_self ..)
            obtain ⟨zs, rfl⟩ := ih fun z hz => hall z (List.mem_cons_of_mem _ hz)
            exact ⟨n :: zs, rfl⟩
        subst hz
        have nd2 : zs.Nodup := by
          have h1 : ((l.foldl putN []).map fun n => wS [n]).Nodup := by
            exact List.pairwise_map.mpr (List.Pairwise.imp (fun {a b} hn hab => hn (List.cons.inj (wS_inj hab)).1) nd)
          have h3 : (zs.map fun n => wS [n]).Nodup := hp.nodup_iff.mpr h1
          exact List.Pairwise.imp (fun {a b} hn hab => hn (by rw [hab])) (List.pairwise_map.mp h3)
        have hz : zs = m := asc_ext (sortedS_asc nd2 hs) hm fun c => by
          have h1 : wS [c] ∈ zs.map (fun n => wS [n]) ↔ c ∈ zs := by
            rw [List.mem_map]
            exact ⟨fun ⟨a, h1, h2⟩ => by rw [← (List.cons.inj (wS_inj h2)).1]; exact h1, fun h => ⟨c, h, rfl⟩⟩
          have h2 : wS [c] ∈ (l.foldl putN []).map (fun n => wS [n]) ↔ c ∈ l.foldl putN [] := by
            rw [List.mem_map]
            exact ⟨fun ⟨a, h1, h2⟩ => by rw [← (List.cons.inj (wS_inj h2)).1]; exact h1, fun h => ⟨c, h, rfl⟩⟩
          rw [← h1, hp.mem_iff, h2, mem, ← he]
          simp
        subst hz
        refine q _ _ (e2.trans (eg.put hn)) ⟨p, (zs.map fun n => wS [n]).map V.str, rfl, ?_, ?_⟩
        · exact vis_new (N := N) (fun n hn2 => by
            obtain ⟨o, h1, h2⟩ := a.ok n (List.mem_cons_of_mem _ hn2)
            exact ⟨o, h1, h2⟩) hn
        · rw [List.map_map]
          exact pr_of (g := fun n => V.str (wS [n])) zs
end

end K29
set_option autoImplicit false
set_option maxHeartbeats 4000000
namespace K29
open PySem PySem.Spec PyProof.Rows L2
/-! Dicts: read, written, walked. -/
/-- a dict's walk, whether it stands free or is held by a walk further out -/
def tLockR (t : TE) : TE := fun σ H Q => tLockE t σ H Q ∨ t σ H Q
def tLockS (t : TS) : TS := fun D σ H => tLock t D σ H ∨ t D σ H
theorem pe_lockR {X : Cx} {e : Expr} {t : TE} (h : PE X e t) : PE X e (tLockR t) := ⟨fun pins s σ H Q I hw => hw.elim ((pe_lock h).run pins s σ H Q I) (h.run pins s σ H Q I)⟩
theorem ps_lockR {X : Cx} {st : Stmt} {t : TS} (h : PS X st t) : PS X st (tLockS t) := ⟨fun pins s σ H D I hw => hw.elim ((ps_lock h).run pins s σ H D I) (h.run pins s σ H D I)⟩
section
variable {α : Type}
def putP (xs : List (Pr × α)) (k : Pr) (x : α) : List (Pr × α) := if (xs.any fun kv => decide (kv.1 = k)) = true then xs.map (fun kv => if kv.1 = k then (kv.1, x) else kv) else xs ++ [(k, x)]
theorem putP_new {xs : List (Pr × α)} {k : Pr} {x : α} (h : k ∉ xs.map (·.1)) : putP xs k x = xs ++ [(k, x)] := by
  unfold putP
  rw [if_neg]
  intro z
  rw [List.any_eq_true] at z
  obtain ⟨a, h1, h2⟩ := z
  exact h (List.mem_map.mpr ⟨a, h1, of_decide_eq_true h2⟩)
theorem getD_none {xs : List (Pr × α)} {k : Pr} : getD xs k = none ↔ k ∉ xs.map (·.1) := by
  unfold getD
  rw [Option.map_eq_none_iff, List.find?_eq_none]
  constructor
  · intro h z
    obtain ⟨a, h1, h2⟩ := List.mem_map.mp z
    exact h a h1 (decide_eq_true h2)
  · intro h a h1 h2
    exact h (List.mem_map.mpr ⟨a, h1, of_decide_eq_true h2⟩)
theorem getD_mem {xs : List (Pr × α)} {k : Pr} {x : α} (h : getD xs k = some x) : (k, x) ∈ xs := by
  unfold getD at h
  rw [Option.map_eq_some_iff] at h
  obtain ⟨⟨a, b⟩, h1, h2⟩ := h
  have h3 := List.mem_of_find?_eq_some h1
  have h4 := List.find?_some h1
  have h4 : a = k := of_decide_eq_true h4
  have h2 : b = x := h2
  rw [← h4, ← h2]
  exact h3
theorem getD_of_mem {k : Pr} {x : α} : ∀ {xs : List (Pr × α)}, (xs.map (·.1)).Nodup → (k, x) ∈ xs → getD xs k = some x
  | [], _, h => by simp at h
  | a :: xs, nd, h => by
    rw [List.map_cons, List.nodup_cons] at nd
    rcases List.mem_cons.mp h with q | q
    · rw [← q]
      simp [getD, List.find?_cons]
    · have hne : ¬ a.1 = k := fun z => nd.1 (by rw [z]; exact List.mem_map.mpr ⟨_, q, rfl⟩)
      have g : getD (a :: xs) k = getD xs k := by simp [getD, List.find?_cons, hne]
      rw [g]
      exact getD_of_mem nd.2 q
theorem getD_some {xs : List (Pr × α)} {k : Pr} : (getD xs k).isSome = decide (k ∈ xs.map (·.1)) := by
  cases h : getD xs k with
  | none => rw [decide_eq_false (getD_none.mp h)]; rfl
  | some x => rw [decide_eq_true (List.mem_map.mpr ⟨_, getD_mem h, rfl⟩)]; rfl
theorem dpr_keys {R : Rel α} {H : Hp} : ∀ {kvs : List (List Key × V)} {xs : List (Pr × α)}, DpR R H kvs xs → kvs.map (·.1) = xs.map fun x => pK x.1
  | _, _, .nil => rfl
  | _, _, .cons r t => by rw [List.map_cons, List.map_cons, r.1, dpr_keys t]
theorem dpr_any {R : Rel α} {H : Hp} {k : Pr} : ∀ {kvs : List (List Key × V)} {xs : List (Pr × α)}, DpR R H kvs xs → (kvs.any fun kv => decide (kv.1 = pK k)) = xs.any fun kv => decide (kv.1 = k)
  | _, _, .nil => rfl
  | kv :: _, x :: _, .cons r t => by
    rw [List.any_cons, List.any_cons, dpr_any t]
    have : decide (kv.1 = pK k) = decide (x.1 = k) := by
      rw [r.1]
      by_cases e : x.1 = k
      · rw [decide_eq_true e, decide_eq_true (by rw [e])]
      · rw [decide_eq_false e, decide_eq_false fun z => e (pK_inj z)]
    rw [this]
theorem dpr_put {R : Rel α} {H : Hp} {k : Pr} {v : V} {x : α} {kvs : List (List Key × V)} {xs : List (Pr × α)} (h : DpR R H kvs xs) (r : R.r H v x) : DpR R H (putK kvs (pK k) v) (putP xs k x) := by
  unfold putK putP
  rw [dpr_any h]
  by_cases e : (xs.any fun kv => decide (kv.1 = k)) = true
  · rw [if_pos e, if_pos e]
    clear e
    induction h with
    | nil => exact .nil
    | @cons kv x' _ _ r0 t ih =>
      refine .cons ?_ ih
      show (if kv.1 = pK k then (kv.1, v) else kv).1 = pK (if x'.1 = k then (x'.1, x) else x').1 ∧ R.r H (if kv.1 = pK k then (kv.1, v) else kv).2 (if x'.1 = k then (x'.1, x) else x').2
      by_cases e : x'.1 = k
      · rw [if_pos e, if_pos (by rw [r0.1, e])]
        exact ⟨r0.1, r⟩
      · rw [if_neg e, if_neg fun z => e (pK_inj (r0.1.symm.trans z))]
        exact r0
  · rw [if_neg e, if_neg e]
    exact pr_snoc h ⟨rfl, r⟩
end
/-- a dict whose keys are words, its values not told -/
def rDW : Rel (List Wd) := ⟨fun H v xs => ∃ p kvs, v = .ref p ∧ Rd H p (.dK kvs) ∧ kvs.map (·.1) = xs.map fun l => (Sum.inr (wS l) : Key), fun e ⟨p, kvs, h1, h2, h3⟩ => ⟨p, kvs, h1, e.rdK h2, h3⟩⟩
/-- e comes to v, the heap as it was, in every heap that has kept what H knows -/
def Fx (te : TE) (σ : L2.St) (H : Hp) (v : V) : Prop := ∀ H1, Kr H H1 → ∀ Q : VK, Q v H1 → te σ H1 Q
section
variable {T : List (Addr × Str)} {K : PySem.W.Frag} {α β γ : Type} {σ : L2.St} {H : Hp} {N : List Addr} {R : Rel α} {S : Rel β} {U : Rel γ} {x : α} {y : β} {z : γ} {ta tb tc te td ty tv : TE} {tt : TT} {i j k : Nat} {D : Ends} {d : Addr} {v : V}
theorem sub_kr (N : List Addr) (H : Hp) : Kr (vis N H) H := (Es.sub (T := []) N H).kr
theorem rd_sub {N : List Addr} {H : Hp} {a : Addr} {u : HO} (h : Rd (vis N H) a u) : Rd H a u := by
  rcases h with h | ⟨od, h⟩
  · exact .inl (vis_sub h)
  · exact .inr ⟨od, vis_sub h⟩
theorem e_dinW {l : Wd} {xs : List Wd} (hk : Ev T ty σ H rW l) (hd : Ev T td σ H rDW xs) : EvT T (tB (tDIn ty td)) σ H (decide (l ∈ xs)) := fun N H1 e Q q =>
  hk N H1 e _ fun a H2 e2 ra => hd N H2 (e.step e2) _ fun b H3 e3 ⟨p, kvs, h1, h2, h3⟩ => by
    refine ⟨p, _, h1, .inl ⟨kvs, .inr (wS l), rd_sub h2, ra, rfl⟩, _, rfl, ?_⟩
    have hb : (valV kvs (Sum.inr (wS l))).isSome = decide (l ∈ xs) := by
      rw [← valV_any]
      rw [Bool.eq_iff_iff, List.any_eq_true, decide_eq_true_eq]
      constructor
      · rintro ⟨a, h4, h5⟩
        have h6 : a.1 ∈ kvs.map (·.1) := List.mem_map.mpr ⟨a, h4, rfl⟩
        rw [h3, of_decide_eq_true h5] at h6
        obtain ⟨m, h7, h8⟩ := List.mem_map.mp h6
        rw [← wS_inj (Sum.inr.inj h8)]
        exact h7
      · intro h4
        have h6 : (Sum.inr (wS l) : Key) ∈ kvs.map (·.1) := by rw [h3]; exact List.mem_map.mpr ⟨l, h4, rfl⟩
        obtain ⟨a, h7, h8⟩ := List.mem_map.mp h6
        exact ⟨a, h7, decide_eq_true h8⟩
    rw [hb]
    exact q H3 (e2.trans e3)
theorem dget_of {H : Hp} {a b : V} {k : Pr} {xs : List (Pr × α)} (rk : rP.r (vis N H) a k) (rd : (rD R).r (vis N H) b xs) : ∃ p o, b = .ref p ∧ DGet H p a o ∧ o.isSome = (getD xs k).isSome ∧ ∀ x, getD xs k = some x → ∃ v, o = some v ∧ R.r (vis N H) v x := by
  obtain ⟨p, kvs, h1, h2, h3⟩ := rd
  obtain ⟨q, rfl, hq⟩ := rP_key rk
  refine ⟨p, _, h1, .inr ⟨kvs, pK k, q, rd_sub h2, rfl, vis_sub hq, rfl⟩, ?_, fun x hx => ?_⟩
  · have g := dpr_get (k := k) h3
    cases hx : getD xs k with
    | none => rw [hx] at g; rw [show valV kvs (pK k) = none from g]; rfl
    | some x => rw [hx] at g; obtain ⟨v, g1, _⟩ := g; rw [g1]; rfl
  · have g := dpr_get (k := k) h3
    rw [hx] at g
    exact g
theorem e_din {kk : Pr} {xs : List (Pr × α)} (hk : Ev T ty σ H rP kk) (hd : Ev T td σ H (rD R) xs) : EvT T (tB (tDIn ty td)) σ H (getD xs kk).isSome := fun N H1 e Q q =>
  hk N H1 e _ fun a H2 e2 ra => hd N H2 (e.step e2) _ fun b H3 e3 rb => by
    obtain ⟨p, o, h1, h2, h3, _⟩ := dget_of (Rel.up ra (e.step e2).ok e3) rb
    exact ⟨p, o, h1, h2, _, rfl, by rw [h3]; exact q H3 (e2.trans e3)⟩
theorem e_nin {kk : Pr} {xs : List (Pr × α)} (hk : Ev T ty σ H rP kk) (hd : Ev T td σ H (rD R) xs) : EvT T (tB (tDNotIn ty td)) σ H (!(getD xs kk).isSome) := fun N H1 e Q q =>
  hk N H1 e _ fun a H2 e2 ra => hd N H2 (e.step e2) _ fun b H3 e3 rb => by
    obtain ⟨p, o, h1, h2, h3, _⟩ := dget_of (Rel.up ra (e.step e2).ok e3) rb
    exact ⟨p, o, h1, h2, _, rfl, by rw [h3]; exact q H3 (e2.trans e3)⟩
theorem e_dinV {kk : Pr} {xs : List (Pr × α)} (hk : Ev T ty σ H rP kk) (hd : Ev T td σ H (rD R) xs) : Ev T (tDIn ty td) σ H rB (getD xs kk).isSome := fun N H1 e Q q =>
  hk N H1 e _ fun a H2 e2 ra => hd N H2 (e.step e2) _ fun b H3 e3 rb => by
    obtain ⟨p, o, h1, h2, h3, _⟩ := dget_of (Rel.up ra (e.step e2).ok e3) rb
    exact ⟨p, o, h1, h2, q _ H3 (e2.trans e3) (by rw [h3]; rfl)⟩
theorem e_dget {kk : Pr} {xs : List (Pr × α)} {x : α} (hd : Ev T td σ H (rD R) xs) (hk : Ev T ty σ H rP kk) (hx : getD xs kk = some x) : Ev T (tDGet td ty) σ H R x := fun N H1 e Q q =>
  hd N H1 e _ fun b H2 e2 rb => hk N H2 (e.step e2) _ fun a H3 e3 ra => by
    obtain ⟨p, o, h1, h2, _, h4⟩ := dget_of ra (Rel.up rb (e.step e2).ok e3)
    obtain ⟨v, h5, h6⟩ := h4 x hx
    rw [h5] at h2
    exact ⟨p, v, h1, h2, q v H3 (e2.trans e3) h6⟩
theorem e_get1 {kk : Pr} {xs : List (Pr × α)} (hd : Ev T td σ H (rD R) xs) (hk : Ev T ty σ H rP kk) : Ev T (tDGet1 td ty) σ H (rO R) (getD xs kk) := fun N H1 e Q q =>
  hd N H1 e _ fun b H2 e2 rb => by
    obtain ⟨p, kvs, hp, hr, hd⟩ := rb
    refine ⟨p, hp, .inr ⟨kvs, rd_sub hr⟩, hk N H2 (e.step e2) _ fun a H3 e3 ra => ?_⟩
    obtain ⟨p2, o, h1, h2, h3, h4⟩ := dget_of ra (Rel.up (R := rD R) (x := xs) ⟨p, kvs, hp, hr, hd⟩ (e.step e2).ok e3)
    rw [hp] at h1
    cases h1
    refine ⟨o, h2, q _ H3 (e2.trans e3) ?_⟩
    cases hx : getD xs kk with
    | none =>
      rw [hx] at h3
      cases o with
      | none => rfl
      | some _ => cases h3
    | some x =>
      obtain ⟨v, rfl, h6⟩ := h4 x hx
      exact h6
/-- a hidden dict gets an entry -/
theorem q_dput {x : α} {kk : Pr} {G : Hp} {M : List Addr} {kvs : List (List Key × V)} (ok : Nok M G) (hv : Ev T tv σ (vis M G) R x) (hi : σ[i]? = some (some (.ref d))) (hk : Ev T ty σ (vis M G) rP kk) (hd : G d = some (.dT kvs)) (hl : kvs.length < sizeLine)
    (q : ∀ v G', Es T G G' → R.r (vis M G') v x → D.nx σ (upd G' d (.dT (putK kvs (pK kk) v)))) : sDPut (tVar i) ty tv D σ G :=
  hv M G (.self ok) _ fun v H1 e1 rv => ⟨_, hi, hk M H1 ((At.self ok).step e1) _ fun a H2 e2 ra => by
    obtain ⟨p, rfl, hp⟩ := rP_key ra
    exact ⟨d, _, rfl, .inr ⟨kvs, pK kk, p, e2.dT (e1.dT hd), rfl, vis_sub hp, hl, rfl⟩, q v H2 (e1.trans e2) (Rel.up rv ((At.self ok).step e1).ok e2)⟩⟩
theorem q_dputW {x : α} {l : Wd} {G : Hp} {M : List Addr} {kvs : List (Key × V)} (ok : Nok M G) (hv : Ev T tv σ (vis M G) R x) (hi : σ[i]? = some (some (.ref d))) (hk : Ev T ty σ (vis M G) rW l) (hd : G d = some (.dK kvs)) (hl : kvs.length < sizeLine)
    (q : ∀ v G', Es T G G' → R.r (vis M G') v x → D.nx σ (upd G' d (.dK (putK kvs (.inr (wS l)) v)))) : sDPut (tVar i) ty tv D σ G :=
  hv M G (.self ok) _ fun v H1 e1 rv => ⟨_, hi, hk M H1 ((At.self ok).step e1) _ fun a H2 e2 ra => ⟨d, _, rfl, .inl ⟨kvs, .inr (wS l), e2.dK (e1.dK hd), ra, hl, rfl⟩, q v H2 (e1.trans e2) (Rel.up rv ((At.self ok).step e1).ok e2)⟩⟩
/-! ### a dict's keys walked -/
theorem fx_var (h : σ[i]? = some (some v)) : Fx (tVar i) σ H v := fun H1 _ Q q => ⟨v, h, q⟩
theorem Fx.kr {H' : Hp} (h : Fx te σ H v) (e : ∀ H1, Kr H' H1 → Kr H H1) : Fx te σ H' v := fun H1 k => h H1 (e H1 k)
theorem fx_dget {d0 q : Addr} {kvs : List (List Key × V)} {kk : List Key} (h1 : Fx ta σ H (.ref d0)) (h2 : Fx tb σ H (.ref q)) (hd : Rd H d0 (.dT kvs)) (hq : H q = some (.tup (kk.map kV))) (hv : valV kvs kk = some v) : Fx (tDGet ta tb) σ H v := fun H1 e Q k =>
  h1 H1 e _ (h2 H1 e _ ⟨d0, v, rfl, .inr ⟨kvs, kk, q, e.rdT hd, rfl, e.tup hq, hv.symm⟩, k⟩)
theorem i_keys {xs : List (Pr × α)} {od : Obj} {kvs : List (List Key × V)} (hf : Fx td σ H (.ref d)) (hd : H d = some (.frz od (.dT kvs))) (hr : DpR R H kvs xs) : EvI T (iKeys td) σ H rP (xs.map (·.1)) := fun N H1 e Q q => by
  have hl : kvs.length = (xs.map (·.1)).length := by rw [List.length_map]; exact Paired.length hr
  have f1 : H1 d = some (.frz od (.dT kvs)) := vis_sub (e.e.frz hd)
  refine hf H1 (e.e.kr.es (Es.sub (T := T) N H1)) _ ⟨d, od, rfl, .inr ⟨kvs, f1, q _ H1 _ _ (.refl _) (fun M G1 a => a.full.frz (e.e.frz hd)) (hl ▸ walk_keysT) fun i G1 v G2 M hi a y => ?_⟩⟩
  obtain ⟨rfl, kk, v0, p, h1, rfl, h2⟩ := y
  have hk := dpr_keys hr
  have h3 : (kvs.map (·.1))[i]? = some kk := by rw [List.getElem?_map, h1]; rfl
  rw [hk, List.getElem?_map] at h3
  cases hx : xs[i]? with
  | none => rw [hx] at h3; cases h3
  | some x =>
    rw [hx] at h3
    cases h3
    exact ⟨.refl _, x.1, by rw [List.getElem?_map, hx]; rfl, p, rfl, a.ok.tup h2⟩
/-- [e for key in dict if t] -/
theorem e_lcK {xs : List (Pr × α)} {f : Pr → β} {p : Pr → Bool} {kvs : List (List Key × V)} (hf : Fx td σ H (.ref d)) (hd : Rd H d (.dT kvs)) (hr : DpR R H kvs xs) (hw : ∀ v, wipe ((wipe σ [k]).set k (some v)) [k] = wipe σ [k]) (hl : xs.length ≤ 1000000)
    (hb : ∀ H1 v x, Kr H H1 → (LamX.Tabs T H → LamX.Tabs T H1) → x ∈ xs.map (·.1) → rP.r H1 v x → EvT T tt ((wipe σ [k]).set k (some v)) H1 (p x) ∧ (p x = true → Ev T te ((wipe σ [k]).set k (some v)) H1 S (f x))) :
    Ev T (tLockR (tLc (iKeys td) (gName k) tt te [k])) σ H (rL S) (((xs.map (·.1)).filter p).map f) := fun N H1 e Q q => by
  have hl2 : (xs.map (·.1)).length ≤ 1000000 := by rw [List.length_map]; exact hl
  rcases hd with hd | ⟨od, hd⟩
  · refine .inl ⟨d, .dT kvs, vis_sub (e.e.dT hd), trivial, fun od => ?_⟩
    obtain ⟨h1, a⟩ := e.lock (od := od) hd (.inl ⟨kvs, rfl⟩)
    have kr : Kr H (upd H d (.frz od (.dT kvs))) := .lock hd (.inl ⟨kvs, rfl⟩)
    refine e_lc (H := upd H d (.frz od (.dT kvs))) (S := S) (f := f) (p := p) (i_keys (od := od) (kvs := kvs) (xs := xs) (R := R) (hf.kr fun H2 k2 => ?_) upd_same (hr.st kr)) hw hl2 (fun H2 v x e2 hx rx => ?_) N _ a _ fun v H' e' rv => ?_
    · intro b o hb n
      by_cases eb : b = d
      · rw [eb] at hb ⊢
        rw [hd] at hb
        cases hb
        rcases k2 d _ upd_same (fun _ z => by cases z) with q1 | ⟨⟨_, z⟩ | ⟨_, z⟩, _⟩ | ⟨od', u, z, _, q1⟩
        · exact .inr (.inl ⟨.inl ⟨_, rfl⟩, od, q1⟩)
        · cases z
        · cases z
        · cases z
          exact .inl q1
      · exact k2 b o (by rw [upd_ne eb]; exact hb) n
    · exact hb H2 v x (kr.es e2) (fun t => e2.t (tabs_upd hd (.inl ⟨kvs, rfl⟩) t)) hx rx
    · have hd' : H' d = some (.frz od (.dT kvs)) := e'.frz upd_same
      refine ⟨hd', q v _ (Es.unlock h1 (.inl ⟨kvs, rfl⟩) e' hd') ?_⟩
      have nD : d ∉ N := vis_in (a.e.frz upd_same)
      rw [vis_upd nD]
      exact (rL S).st (Kr.unlock (by rw [vis_ne nD]; exact hd') (.inl ⟨kvs, rfl⟩)) rv
  · exact .inr (e_lc (i_keys (od := od) hf hd hr) hw hl2 (fun H2 v x e2 hx rx => hb H2 v x e2.kr e2.t hx rx) N H1 e Q q)
/-! ### lists made of ranges, of dicts; reversed -/
theorem e_listRg {n : Nat} (hn : n ≤ 1000000) (h : Ev T te σ H rNat n) : Ev T (tLstRg (tRg1 te)) σ H (rL rNat) (List.range n) := fun N H1 e Q q =>
  h N H1 e _ fun v H2 e2 r => ⟨n, r, RgOk.of_le (by omega) (by omega) (by omega) (by omega), fun p hp => q _ _ (e2.put hp) ⟨p, _, rfl, vis_new (e.step e2).ok hp, by
    unfold rgV
    rw [show ((n : Int) - 0).toNat = n by omega]
    have h2 := pr_of (g := fun i : Nat => V.int (0 + (i : Nat))) (List.range n)
    exact Paired.mapP h2 fun a b r => by rw [r]; show V.int _ = V.int _; rw [Int.zero_add]⟩⟩
theorem keys_pr {H2 G G' : Hp} (hg : ∀ b ts, H2 b = some (.tup ts) → G b = some (.tup ts)) : ∀ {kvs : List (List Key × V)} {bs : List Addr} {xs : List (Pr × α)}, IsKeys H2 kvs bs → DpR R G' kvs xs → Paired (rP.r G) (bs.map V.ref) (xs.map (·.1))
  | _, _, _, .nil, .nil => .nil
  | kv :: _, b :: _, x :: _, .cons r t, .cons r3 t3 => .cons ⟨b, rfl, by rw [r3.1] at r; exact hg _ _ r⟩ (keys_pr hg t t3)
theorem e_listD {xs : List (Pr × α)} (h : Ev T te σ H (rD R) xs) : Ev T (tCB (fun xs H Q => ∃ d kvs, xs = [V.ref d] ∧ Rd H d (.dT kvs) ∧ ∀ p bs, H p = none → IsKeys H kvs bs → Q (.ref p) (upd H p (.lst (bs.map V.ref)))) (tCons te tNil)) σ H (rL rP) (xs.map (·.1)) := fun N H1 e Q q =>
  h N H1 e _ fun v H2 e2 ⟨d, kvs, h1, h2, h3⟩ => ⟨d, kvs, by rw [h1], rd_sub h2, fun p bs hp hk => q _ _ (e2.put hp) ⟨p, _, rfl, vis_new (e.step e2).ok hp,
    keys_pr (fun b ts hb => ((e.step e2).step (Es.new (T := T) hp)).ok.tup (new_sub hp _ _ hb)) hk h3⟩⟩
theorem e_rev {xs : List α} (h : Ev T te σ H (rL R) xs) : Ev T (tRevL K te) σ H (rL R) xs.reverse := fun N H1 e Q q =>
  h N H1 e _ fun v H2 e2 ⟨p, vs, h1, h2, h3⟩ => ⟨p, vs, h1, SqL.of (vis_sub h2), fun l hl => q _ _ (e2.put hl) ⟨l, _, rfl, vis_new (e.step e2).ok hl, pr_st ((Es.new (T := T) hl).vis (e.step e2).ok).kr (pr_rev h3)⟩⟩
theorem o_cat {xs ys : List α} (hl : xs.length + ys.length ≤ 1000000) : RV T rCat (rL R) xs (rL R) ys (rL R) (xs ++ ys) := fun N H a b ok ⟨p, vs, h1, h2, h3⟩ ⟨p2, vs2, h4, h5, h6⟩ Q q =>
  ⟨p, p2, vs, vs2, h1, h4, vis_sub h2, vis_sub h5, by rw [Paired.length h3, Paired.length h6]; exact Nat.le_trans hl (by decide), fun l hl => q _ _ (.new hl) ⟨l, _, rfl, vis_new ok hl, pr_app (pr_st ((Es.new (T := T) hl).vis ok).kr h3) (pr_st ((Es.new (T := T) hl).vis ok).kr h6)⟩⟩
/-- a hidden list gets one more -/
theorem q_app {x : α} {G : Hp} {M : List Addr} {xs : List V} (ok : Nok M G) (hi : σ[i]? = some (some (.ref d))) (hv : Ev T tv σ (vis M G) R x) (hd : G d = some (.lst xs)) (hl : xs.length < sizeLine)
    (q : ∀ v G', Es T G G' → R.r (vis M G') v x → D.nx σ (upd G' d (.lst (xs ++ [v])))) : tDrop (tBM K "list" rAppend (tVar i) (tCons tv tNil)) D σ G :=
  ⟨_, hi, .inl ⟨rfl, xs, SqL.of hd⟩, hv M G (.self ok) _ fun v G' e rv => ⟨d, xs, v, rfl, rfl, e.lst hd, hl, q v G' e rv⟩⟩
end

end K29
set_option autoImplicit false
set_option maxHeartbeats 4000000
namespace K29
open PySem PySem.Spec PyProof.Rows L2
/-! Comprehensions over two sources; dict comprehensions; targets that are pairs. -/
section
variable {T : List (Addr × Str)} {K : PySem.W.Frag} {α β γ δ : Type} {σ : L2.St} {H : Hp} {N : List Addr} {R : Rel α} {S : Rel β} {U : Rel γ} {ta tb tc te td ty tv : TE} {tt : TT} {i j k : Nat} {D : Ends} {d : Addr} {v : V}
theorem e_lc2 {wi wi1 : TI} {k1 k2 : Nat} {xs : List α} {ys : α → List β} {f : α → β → γ} (h : EvI T wi σ H R xs)
    (hw1 : ∀ v, wipe ((wipe σ [k1, k2]).set k1 (some v)) [k1, k2] = wipe σ [k1, k2]) (hw2 : ∀ v u, wipe ((wipe ((wipe σ [k1, k2]).set k1 (some v)) [k2]).set k2 (some u)) [k2] = wipe ((wipe σ [k1, k2]).set k1 (some v)) [k2]) (hl : (xs.flatMap fun x => (ys x).map (f x)).length ≤ 1000000)
    (hb1 : ∀ H1 v x, Es T H H1 → x ∈ xs → R.r H1 v x → EvI T wi1 ((wipe σ [k1, k2]).set k1 (some v)) H1 S (ys x))
    (hb2 : ∀ H1 v x u y, Es T H H1 → x ∈ xs → R.r H1 v x → y ∈ ys x → S.r H1 u y → Ev T te ((wipe ((wipe σ [k1, k2]).set k1 (some v)) [k2]).set k2 (some u)) H1 U (f x y)) :
    Ev T (tLc2 wi (gName k1) tYes wi1 (gName k2) tYes te [k1, k2] [k2]) σ H (rL U) (xs.flatMap fun x => (ys x).map (f x)) := fun N H1 e Q q =>
  h N H1 e _ fun J H2 G Y e2 gs w hy Dd hD => by
    have a2 := e.step e2
    have nD : Dd ∉ N := a2.ok.fresh hD
    refine ⟨fun i m G' => m = xs.length - i ∧ i ≤ xs.length ∧ Es T H2 G' ∧ At T (Dd :: N) (vis N H2) G' ∧ ∃ acc, G' Dd = some (.lst acc) ∧ Paired (U.r (vis (Dd :: N) G')) acc ((xs.take i).flatMap fun x => (ys x).map (f x)),
      ⟨xs.length, by simp, Nat.zero_le _, .new hD, (At.self a2.ok).hide hD (.lst _), [], upd_same, .nil⟩, ?_⟩
    rintro i m G' ⟨rfl, hi, eg, a, acc, ha, hp⟩
    by_cases hlt : i < xs.length
    · refine .inr ⟨w.goes i G' hlt (gs _ _ a), fun G2 => i + 1 ≤ xs.length ∧ Es T H2 G2 ∧ At T (Dd :: N) (vis N H2) G2 ∧ ∃ acc, G2 Dd = some (.lst acc) ∧ Paired (U.r (vis (Dd :: N) G2)) acc ((xs.take (i + 1)).flatMap fun x => (ys x).map (f x)),
        fun G2 p => ⟨xs.length - (i + 1), by omega, rfl, p⟩, fun v G2 y => ?_⟩
      obtain ⟨e12, x, hx, rx⟩ := hy i G' v G2 _ hlt a (w.yields i G' v G2 hlt (gs _ _ a) y)
      have hxs : xs.take (i + 1) = xs.take i ++ [x] := by rw [List.take_add_one, hx]; rfl
      have hxm := List.mem_of_getElem? hx
      have a3 := a.step e12
      have eH : Es T H (vis (Dd :: N) G2) := a2.e.trans a3.e
      refine ⟨hw1 v, ?_⟩
      show wi1 _ G2 _
      refine hb1 _ v x eH hxm rx (Dd :: N) G2 (.self a3.ok) _ fun J1 H4 G1 Y1 e4 gs1 w1 hy1 => ?_
      have a4 := a3.step e4
      have hfull : xs.flatMap (fun x => (ys x).map (f x)) = (xs.take i).flatMap (fun x => (ys x).map (f x)) ++ ((ys x).map (f x) ++ (xs.drop (i + 1)).flatMap fun x => (ys x).map (f x)) := by
        conv => lhs; rw [← List.take_append_drop (i + 1) xs]
        rw [List.flatMap_append, hxs, List.flatMap_append, List.flatMap_singleton, List.append_assoc]
      refine ⟨fun j m G5 => m = (ys x).length - j ∧ j ≤ (ys x).length ∧ Es T H2 G5 ∧ At T (Dd :: N) (vis (Dd :: N) H4) G5 ∧ ∃ acc, G5 Dd = some (.lst acc) ∧ Paired (U.r (vis (Dd :: N) G5)) acc ((xs.take i).flatMap (fun x => (ys x).map (f x)) ++ ((ys x).take j).map (f x)),
        ⟨(ys x).length, by simp, Nat.zero_le _, (eg.trans e12).trans e4, .self a4.ok, acc, e4.lst (e12.lst ha), by
          rw [List.take_zero, List.map_nil, List.append_nil]
          exact pr_st ((e12.trans e4).vis a.ok).kr hp⟩, ?_⟩
      rintro j m G5 ⟨rfl, hj, e5, a5, acc5, ha5, hp5⟩
      by_cases hjl : j < (ys x).length
      · refine .inr ⟨w1.goes j G5 hjl (gs1 _ _ a5), fun G6 => j + 1 ≤ (ys x).length ∧ Es T H2 G6 ∧ At T (Dd :: N) (vis (Dd :: N) H4) G6 ∧ ∃ acc, G6 Dd = some (.lst acc) ∧ Paired (U.r (vis (Dd :: N) G6)) acc ((xs.take i).flatMap (fun x => (ys x).map (f x)) ++ ((ys x).take (j + 1)).map (f x)),
          fun G6 p => ⟨(ys x).length - (j + 1), by omega, rfl, p⟩, fun u G6 y1 => ?_⟩
        obtain ⟨e56, yy, hyy, ry⟩ := hy1 j G5 u G6 _ hjl a5 (w1.yields j G5 u G6 hjl (gs1 _ _ a5) y1)
        have hys : (ys x).take (j + 1) = (ys x).take j ++ [yy] := by rw [List.take_add_one, hyy]; rfl
        have a6 := a5.step e56
        refine ⟨hw2 v u, ?_⟩
        show te _ G6 _
        refine hb2 _ v x u yy ((eH.trans (e4.vis a3.ok)).trans a6.e) hxm (Rel.es (T := T) (Rel.es (T := T) rx (e4.vis a3.ok)) a6.e) (List.mem_of_getElem? hyy) ry (Dd :: N) G6 (.self a6.ok) _ fun z G7 e7 rz => ?_
        have hD7 : G7 Dd = some (.lst acc5) := e7.lst (e56.lst ha5)
        refine ⟨acc5, hD7, ?_, hjl, ((e5.trans e56).trans e7).mutL hD hD7, (a6.step e7).put (.lst _), _, upd_same, ?_⟩
        · have h1 := Paired.length hp5
          have h2 := congrArg List.length hfull
          rw [List.length_append, List.length_append, List.length_map] at h2
          rw [List.length_append, List.length_map, List.length_take] at h1
          have : sizeLine = 16777216 := sizeLine_eq
          omega
        · rw [hys, List.map_append, ← List.append_assoc, vis_hide]
          exact pr_snoc (pr_st ((e56.trans e7).vis a5.ok).kr hp5) rz
      · have ej : j = (ys x).length := by omega
        subst ej
        refine .inl ⟨w1.stops G5 (gs1 _ _ a5), hlt, e5, ?_, acc5, ha5, ?_⟩
        · exact a5.base (a4.e)
        · rw [hxs, List.flatMap_append, List.flatMap_singleton]
          rw [List.take_length] at hp5
          exact hp5
    · have ei : i = xs.length := by omega
      subst ei
      rw [List.take_length] at hp
      exact .inl ⟨w.stops G' (gs _ _ a), q _ G' (e2.trans eg) ⟨Dd, acc, rfl, vis_open ha nD, pr_st (vis_back Dd) hp⟩⟩
/-- as EvI, at one heap -/
def EvIa (T : List (Addr × Str)) {α : Type} (wi : TI) (σ : L2.St) (N : List Addr) (H : Hp) (R : Rel α) (xs : List α) : Prop := ∀ Q : It → Hp → Prop,
  (∀ J H2 G Y, Es T H H2 → (∀ M G1, At T M (vis N H2) G1 → G G1) → Walk J xs.length G Y → (∀ i G1 v G2 M, i < xs.length → At T M (vis N H2) G1 → Y i G1 v G2 → Es T G1 G2 ∧ ∃ y, xs[i]? = some y ∧ R.r (vis M G2) v y) → Q J H2) → wi σ H Q
theorem EvI.a {wi : TI} {xs : List α} (ok : Nok N H) (h : EvI T wi σ (vis N H) R xs) : EvIa T wi σ N H R xs := h N H (.self ok)
theorem ia_list {xs : List α} (ok : Nok N H) (h : ∀ Q : VK, (∀ v, (rL R).r (vis N H) v xs → Q v H) → ta σ H Q) : EvIa T (iList K ta) σ N H R xs := fun Q q =>
  h _ fun v ⟨p, vs, h1, h2, h3⟩ => by
    have hl : vs.length = xs.length := Paired.length h3
    refine ⟨p, h1, ⟨vs, SqL.of (vis_sub h2)⟩, q _ H _ (YAt vs) (.refl _) (fun M G1 a => SqL.of (a.full.lst h2)) (hl ▸ walk_list) fun i G1 v G2 M hi a y => ?_⟩
    obtain ⟨rfl, hy⟩ := y
    have hi' : i < xs.length := hi
    obtain ⟨u, hu, ru⟩ := pr_get h3 (y := xs[i]) (List.getElem?_eq_getElem hi')
    rw [hu] at hy
    cases hy
    exact ⟨.refl _, xs[i], List.getElem?_eq_getElem hi', Rel.es ru a.e⟩
/-- {key: value for key in xs}, the key the loop's own name; each value told by a property -/
theorem q_dc {wi : TI} {xs : List Pr} {Ps : Pr → β → Prop} {Q : VK} (ok : Nok N H) (nd : xs.Nodup) (hl : xs.length ≤ 1000) (h : EvIa T wi σ N H rP xs) (hw : ∀ v, wipe ((wipe σ [k]).set k (some v)) [k] = wipe σ [k]) (hk : ∀ v, ((wipe σ [k]).set k (some v))[k]? = some (some v))
    (hb : ∀ M H1 v x, Nok M H1 → Es T (vis N H) (vis M H1) → x ∈ xs → rP.r (vis M H1) v x → ∀ Q : VK, (∀ v' H2 y, Es T H1 H2 → Ps x y → S.r (vis M H2) v' y → Q v' H2) → tv ((wipe σ [k]).set k (some v)) H1 Q)
    (q : ∀ v H2 ys, Es T H H2 → ys.map (·.1) = xs → (∀ e ∈ ys, Ps e.1 e.2) → (rD S).r (vis N H2) v ys → Q v H2) : tDcT wi (gName k) tYes (tVar k) tv [k] σ H Q :=
  h _ fun J H2 G Y e2 gs w hy Dd hD => by
    have ok2 := ok.step e2
    have nD : Dd ∉ N := ok2.fresh hD
    refine ⟨fun i m G' => m = xs.length - i ∧ i ≤ xs.length ∧ Es T H2 G' ∧ At T (Dd :: N) (vis N H2) G' ∧ ∃ kvs ys, G' Dd = some (.dT kvs) ∧ DpR S (vis (Dd :: N) G') kvs ys ∧ ys.map (·.1) = xs.take i ∧ ∀ e ∈ ys, Ps e.1 e.2,
      ⟨xs.length, by simp, Nat.zero_le _, .new hD, (At.self ok2).hide hD (.dT _), [], [], upd_same, .nil, rfl, fun _ h => by simp at h⟩, ?_⟩
    rintro i m G' ⟨rfl, hi, eg, a, kvs, ys, ha, hp, hkeys, hps⟩
    by_cases hlt : i < xs.length
    · refine .inr ⟨w.goes i G' hlt (gs _ _ a), fun G2 => i + 1 ≤ xs.length ∧ Es T H2 G2 ∧ At T (Dd :: N) (vis N H2) G2 ∧ ∃ kvs ys, G2 Dd = some (.dT kvs) ∧ DpR S (vis (Dd :: N) G2) kvs ys ∧ ys.map (·.1) = xs.take (i + 1) ∧ ∀ e ∈ ys, Ps e.1 e.2,
        fun G2 p => ⟨xs.length - (i + 1), by omega, rfl, p⟩, fun v G2 y => ?_⟩
      obtain ⟨e12, x, hx, rx⟩ := hy i G' v G2 _ hlt a (w.yields i G' v G2 hlt (gs _ _ a) y)
      have hxs : xs.take (i + 1) = xs.take i ++ [x] := by rw [List.take_add_one, hx]; rfl
      have a3 := a.step e12
      refine ⟨hw v, v, hk v, ?_⟩
      refine hb (Dd :: N) G2 v x a3.ok ((e2.vis ok).trans a3.e) (List.mem_of_getElem? hx) rx _ fun v' G3 y3 e3 py ry => ?_
      obtain ⟨p, rfl, hpp⟩ := rP_key rx
      have hD3 : G3 Dd = some (.dT kvs) := e3.dT (e12.dT ha)
      have hlen : kvs.length = i := by
        have h1 := Paired.length hp
        have h2 := congrArg List.length hkeys
        rw [List.length_map, List.length_take] at h2
        omega
      have hnew : x ∉ ys.map (·.1) := by
        rw [hkeys]
        intro z
        obtain ⟨j, hj, e⟩ := List.mem_take_iff_getElem.mp z
        obtain ⟨hi2, e2⟩ := List.getElem?_eq_some_iff.mp hx
        exact List.pairwise_iff_getElem.mp nd j i (by omega) hi2 (by omega) (e.trans e2.symm)
      have hp3 : DpR S (vis (Dd :: N) G3) kvs ys := hp.st ((e12.trans e3).vis a.ok).kr
      refine ⟨kvs, pK x, p, rfl, hD3, vis_sub ((e3.vis a3.ok).tup hpp), by omega, hlt, ((eg.trans e12).trans e3).mutT hD hD3, (a3.step e3).put (.dT _), _, ys ++ [(x, y3)], upd_same, ?_, ?_, ?_⟩
      · have h5 := dpr_put (k := x) hp3 ry
        rw [putP_new hnew] at h5
        rw [vis_hide]
        exact h5
      · rw [List.map_append, hkeys, hxs]
        rfl
      · intro e he
        rcases List.mem_append.mp he with z | z
        · exact hps e z
        · rw [List.mem_singleton.mp z]; exact py
    · have ei : i = xs.length := by omega
      subst ei
      rw [List.take_length] at hkeys
      exact .inl ⟨w.stops G' (gs _ _ a), q _ G' ys (e2.trans eg) hkeys hps ⟨Dd, kvs, rfl, .inl (vis_open ha nD), hp.st (vis_back Dd)⟩⟩
/-- the same, every value known -/
theorem e_dc {wi : TI} {xs : List Pr} {f : Pr → β} (nd : xs.Nodup) (hl : xs.length ≤ 1000) (h : EvI T wi σ H rP xs) (hw : ∀ v, wipe ((wipe σ [k]).set k (some v)) [k] = wipe σ [k]) (hk : ∀ v, ((wipe σ [k]).set k (some v))[k]? = some (some v))
    (hb : ∀ H1 v x, Es T H H1 → x ∈ xs → rP.r H1 v x → Ev T tv ((wipe σ [k]).set k (some v)) H1 S (f x)) : Ev T (tDcT wi (gName k) tYes (tVar k) tv [k]) σ H (rD S) (xs.map fun x => (x, f x)) := fun N H1 e Q q => by
  have h' : EvI T wi σ (vis N H1) rP xs := fun N2 H2 a => h N2 H2 (a.base e.e)
  refine q_dc (S := S) (Ps := fun x y => y = f x) e.ok nd hl (h'.a e.ok) hw hk (fun M H2 v x ok2 e2 hx rx Q2 q2 => ?_) fun v H2 ys e2 hk hp r => ?_
  · exact hb (vis M H2) v x (e.e.trans e2) hx rx M H2 (.self ok2) _ fun v' H3 e3 r3 => q2 v' H3 _ e3 rfl r3
  · have : ys = xs.map fun x => (x, f x) := by
      rw [← hk, List.map_map]
      conv => lhs; rw [← List.map_id ys]
      exact List.map_congr_left fun e he => by
        have := hp e he
        show e = (e.1, f e.1)
        rw [← this]
    rw [this] at r
    exact q v H2 e2 r
/-- [e for a, b in xs if t] -/
theorem e_lcP {wi : TI} {k1 k2 : Nat} {xs : List (α × β)} {f : α × β → γ} {p : α × β → Bool} (h : EvI T wi σ H (rPair R S) xs) (hw : ∀ a b, wipe (((wipe σ [k1, k2]).set k1 (some a)).set k2 (some b)) [k1, k2] = wipe σ [k1, k2]) (hl : xs.length ≤ 1000000)
    (hb : ∀ H1 a b x, Es T H H1 → x ∈ xs → R.r H1 a x.1 → S.r H1 b x.2 → EvT T tt (((wipe σ [k1, k2]).set k1 (some a)).set k2 (some b)) H1 (p x) ∧ (p x = true → Ev T te (((wipe σ [k1, k2]).set k1 (some a)).set k2 (some b)) H1 U (f x))) :
    Ev T (tLc wi (gTup K 2 (gCons (gName k1) (gCons (gName k2) gNil))) tt te [k1, k2]) σ H (rL U) ((xs.filter p).map f) :=
  e_lcG (Sl := fun x G σ2 => ∃ a b, σ2 = ((wipe σ [k1, k2]).set k1 (some a)).set k2 (some b) ∧ R.r G a x.1 ∧ S.r G b x.2) h hl (fun x G σ2 ⟨a, b, e, _⟩ => by rw [e]; exact hw a b) (fun M G v x _ r Qg q => g_pair r fun a b ra rb => q _ ⟨a, b, rfl, ra, rb⟩) fun H1 x σ2 e hx ⟨a, b, es, ra, rb⟩ => by rw [es]; exact hb H1 a b x e hx ra rb
end

end K29
set_option autoImplicit false
set_option maxHeartbeats 4000000
namespace K29
open PySem PySem.Spec PyProof.Rows L2
/-! Local objects that change; dicts with number keys; sorting of rows. -/
section
variable {T : List (Addr × Str)} {M L : List Addr} {H2 G G' : Hp} {q : Addr} {o : HO}
theorem At.put2 {N : List Addr} {H0 H1 : Hp} {D : Addr} (a : At T N H0 H1) (h : D ∈ N) (k : Ok o) : At T N H0 (upd H1 D o) := ⟨fun m hm => by
    by_cases z : m = D
    · rw [z]; exact ⟨o, upd_same, k⟩
    · rw [upd_ne z]; exact a.ok m hm, by
    have : K29.vis N (upd H1 D o) = K29.vis N H1 := by
      funext b
      unfold K29.vis
      by_cases hb : b ∈ N
      · rw [if_pos hb, if_pos hb]
      · rw [if_neg hb, if_neg hb, upd_ne fun z => hb (by rw [z]; exact h)]
    rw [this]
    exact a.e⟩
/-- from H2, of which M is hidden: the objects L are the def's own and may change, all else is kept -/
structure Hd (T : List (Addr × Str)) (M : List Addr) (H2 : Hp) (L : List Addr) (G : Hp) : Prop where
  at_ : At T (L ++ M) (K29.vis M H2) G
  ok : Nok M H2
  same : ∀ n ∈ M, G n = H2 n
  sep : ∀ n ∈ L, n ∉ M
theorem Hd.start (ok : Nok M H2) : Hd T M H2 [] H2 := ⟨.self ok, ok, fun _ _ => rfl, fun _ h => by simp at h⟩
theorem Hd.step (h : Hd T M H2 L G) (e : Es T G G') : Hd T M H2 L G' := ⟨h.at_.step e, h.ok, fun n hn => by
    obtain ⟨o, h1, h2⟩ := h.at_.ok n (List.mem_append_right _ hn)
    rw [e.k n o h1 h2.a, ← h.same n hn, h1], h.sep⟩
theorem Hd.new (h : Hd T M H2 L G) (n : G q = none) (k : Ok o) : Hd T M H2 (q :: L) (upd G q o) := ⟨h.at_.hide n k, h.ok, fun m hm => by
    obtain ⟨u, h1, _⟩ := h.at_.ok m (List.mem_append_right _ hm)
    rw [upd_ne (ne_of_none h1 n)]
    exact h.same m hm, fun m hm => by
    rcases List.mem_cons.mp hm with z | z
    · rw [z]
      exact fun w => h.at_.ok.fresh n (List.mem_append_right _ w)
    · exact h.sep m z⟩
theorem Hd.put (h : Hd T M H2 L G) (hq : q ∈ L) (k : Ok o) : Hd T M H2 L (upd G q o) := ⟨h.at_.put2 (List.mem_append_left _ hq) k, h.ok, fun m hm => by
    rw [upd_ne fun z => h.sep q hq (by rw [← z]; exact hm)]
    exact h.same m hm, h.sep⟩
theorem Hd.es (h : Hd T M H2 L G) : Es T H2 G := ⟨fun a o ha n => by
    by_cases hm : a ∈ M
    · rw [h.same a hm]; exact ha
    · exact vis_sub (h.at_.e.k a o (by rw [vis_ne hm]; exact ha) n), fun t => ((h.at_.e.t (h.ok.tabs t)).ext fun _ _ h => vis_sub h)⟩
theorem Hd.okv (h : Hd T M H2 L G) : Nok (L ++ M) G := h.at_.ok
theorem Hd.okm (h : Hd T M H2 L G) : Nok M G := h.ok.step h.es
theorem Hd.mem (h : Hd T M H2 L G) (hq : q ∈ L) : q ∉ M := h.sep q hq
theorem Hd.kr (h : Hd T M H2 L G) : Kr (K29.vis (L ++ M) G) (K29.vis M G) := fun b u hb _ => .inl (by
  unfold K29.vis at hb ⊢
  by_cases h1 : b ∈ L ++ M
  · rw [if_pos h1] at hb; cases hb
  · rw [if_neg h1] at hb
    rw [if_neg fun z => h1 (List.mem_append_right _ z)]
    exact hb)
theorem Hd.up {α : Type} {R : Rel α} {v : V} {x : α} (h : Hd T M H2 L G) (r : R.r (K29.vis M H2) v x) : R.r (K29.vis (L ++ M) G) v x := Rel.es r h.at_.e
theorem Hd.upm {α : Type} {R : Rel α} {v : V} {x : α} (h : Hd T M H2 L G) (r : R.r (K29.vis M H2) v x) : R.r (K29.vis M G) v x := R.st h.kr (h.up r)
end
section
variable {T : List (Addr × Str)} {M N L : List Addr} {Hs H6 G G' : Hp} {q : Addr} {o : HO}
/-- within a loop that began at H6, N hidden -/
structure Lh (T : List (Addr × Str)) (M : List Addr) (Hs : Hp) (N : List Addr) (H6 : Hp) (L : List Addr) (G : Hp) : Prop where
  h : Hd T M Hs L G
  a : At T (L ++ M) (K29.vis N H6) G
theorem Lh.start (h : Hd T M Hs L H6) : Lh T M Hs (L ++ M) H6 L H6 := ⟨h, .self h.okv⟩
theorem Lh.step (h : Lh T M Hs N H6 L G) (e : Es T G G') : Lh T M Hs N H6 L G' := ⟨h.h.step e, h.a.step e⟩
theorem Lh.new (h : Lh T M Hs N H6 L G) (n : G q = none) (k : Ok o) : Lh T M Hs N H6 (q :: L) (upd G q o) := ⟨h.h.new n k, h.a.hide n k⟩
theorem Lh.put (h : Lh T M Hs N H6 L G) (hq : q ∈ L) (k : Ok o) : Lh T M Hs N H6 L (upd G q o) := ⟨h.h.put hq k, h.a.put2 (List.mem_append_left _ hq) k⟩
theorem Lh.ok (h : Lh T M Hs N H6 L G) : Nok (L ++ M) G := h.h.okv
theorem Lh.up {α : Type} {R : Rel α} {v : V} {x : α} (h : Lh T M Hs N H6 L G) (r : R.r (K29.vis N H6) v x) : R.r (K29.vis (L ++ M) G) v x := Rel.es r h.a.e
end
theorem filt_true {α : Type} (l : List α) : (l.filter fun _ => true) = l := List.filter_eq_self.mpr fun _ _ => rfl
/-- a dict with number keys -/
def DiR {α : Type} (R : Rel α) (H : Hp) (kvs : List (Key × V)) (xs : List (Nat × α)) : Prop := Paired (fun (kv : Key × V) (x : Nat × α) => kv.1 = .inl (x.1 : Int) ∧ R.r H kv.2 x.2) kvs xs
theorem DiR.st {α : Type} {R : Rel α} {H H' : Hp} {kvs : List (Key × V)} {xs : List (Nat × α)} (e : Kr H H') (h : DiR R H kvs xs) : DiR R H' kvs xs := Paired.mapP h fun _ _ q => ⟨q.1, R.st e q.2⟩
def rDI {α : Type} (R : Rel α) : Rel (List (Nat × α)) := ⟨fun H v xs => ∃ p kvs, v = .ref p ∧ Rd H p (.dK kvs) ∧ DiR R H kvs xs, fun e ⟨p, kvs, h1, h2, h3⟩ => ⟨p, kvs, h1, e.rdK h2, h3.st e⟩⟩
theorem dir_get {α : Type} {R : Rel α} {H : Hp} {k : Nat} {x : α} : ∀ {kvs : List (Key × V)} {xs : List (Nat × α)}, DiR R H kvs xs → xs.lookup k = some x → ∃ v, valV kvs (.inl (k : Int)) = some v ∧ R.r H v x
  | _, _, .nil, h => by simp at h
  | kv :: kvs, y :: xs, .cons ⟨r1, r2⟩ t, h => by
    obtain ⟨a, b⟩ := y
    by_cases e : k = a
    · subst e
      rw [List.lookup_cons_self] at h
      cases h
      exact ⟨kv.2, valV_pos r1, r2⟩
    · have hb : (k == a) = false := by simp [e]
      rw [List.lookup_cons, hb] at h
      have e1 : ¬ kv.1 = (.inl (k : Int) : Key) := fun z => e (by
        rw [r1] at z
        have h2 : (a : Int) = (k : Int) := Sum.inl.inj z
        omega)
      obtain ⟨v, h1, h2⟩ := dir_get t h
      exact ⟨v, by rw [valV_neg e1]; exact h1, h2⟩
theorem dir_keys {α : Type} {R : Rel α} {H : Hp} : ∀ {kvs : List (Key × V)} {xs : List (Nat × α)}, DiR R H kvs xs → kvs.map (·.1) = xs.map fun x => (.inl (x.1 : Int) : Key)
  | _, _, .nil => rfl
  | _, _, .cons r t => by rw [List.map_cons, List.map_cons, r.1, dir_keys t]
section
variable {T : List (Addr × Str)} {K : PySem.W.Frag} {α β γ : Type} {σ : L2.St} {H : Hp} {N : List Addr} {R : Rel α} {S : Rel β} {ta tb tc te td ty tv : TE} {tt : TT} {i j k : Nat} {D : Ends} {d : Addr} {v : V} {x : α} {y : β}
theorem e_dgetI {kk : Nat} {xs : List (Nat × α)} (hd : Ev T td σ H (rDI R) xs) (hk : Ev T ty σ H rNat kk) (hx : xs.lookup kk = some x) : Ev T (tDGet td ty) σ H R x := fun N H1 e Q q =>
  hd N H1 e _ fun b H2 e2 rb => hk N H2 (e.step e2) _ fun a H3 e3 ra => by
    obtain ⟨p, kvs, rfl, h2, h3⟩ := Rel.up rb (e.step e2).ok e3
    obtain ⟨v, h4, h5⟩ := dir_get h3 hx
    exact ⟨p, v, rfl, .inl ⟨kvs, .inl (kk : Int), rd_sub h2, ra, h4.symm⟩, q v H3 (e2.trans e3) h5⟩
theorem i_keysI {xs : List (Nat × α)} {od : Obj} {kvs : List (Key × V)} (hf : Fx td σ H (.ref d)) (hd : H d = some (.frz od (.dK kvs))) (hr : DiR R H kvs xs) : EvI T (iKeys td) σ H rNat (xs.map (·.1)) := fun N H1 e Q q => by
  have hl : kvs.length = (xs.map (·.1)).length := by rw [List.length_map]; exact Paired.length hr
  have f1 : H1 d = some (.frz od (.dK kvs)) := vis_sub (e.e.frz hd)
  refine hf H1 (e.e.kr.es (Es.sub (T := T) N H1)) _ ⟨d, od, rfl, .inl ⟨kvs, f1, q _ H1 _ _ (.refl _) (fun M G1 a => a.full.frz (e.e.frz hd)) (hl ▸ walk_keys) fun i G1 v G2 M hi a y => ?_⟩⟩
  obtain ⟨rfl, kk, v0, h1, rfl⟩ := y
  have hk := dir_keys hr
  have h3 : (kvs.map (·.1))[i]? = some kk := by rw [List.getElem?_map, h1]; rfl
  rw [hk, List.getElem?_map] at h3
  cases hx : xs[i]? with
  | none => rw [hx] at h3; cases h3
  | some x =>
    rw [hx] at h3
    cases h3
    exact ⟨.refl _, x.1, by rw [List.getElem?_map, hx]; rfl, rfl⟩
theorem e_lcI {xs : List (Nat × α)} {f : Nat → β} {kvs : List (Key × V)} (hf : Fx td σ H (.ref d)) (hd : H d = some (.dK kvs)) (hr : DiR R H kvs xs) (hw : ∀ v, wipe ((wipe σ [k]).set k (some v)) [k] = wipe σ [k]) (hl : xs.length ≤ 1000000)
    (hb : ∀ H1 v x, Kr H H1 → x ∈ xs.map (·.1) → rNat.r H1 v x → Ev T te ((wipe σ [k]).set k (some v)) H1 S (f x)) :
    Ev T (tLockR (tLc (iKeys td) (gName k) tYes te [k])) σ H (rL S) ((xs.map (·.1)).map f) := fun N H1 e Q q => by
  have hl2 : (xs.map (·.1)).length ≤ 1000000 := by rw [List.length_map]; exact hl
  refine .inl ⟨d, .dK kvs, vis_sub (e.e.dK hd), trivial, fun od => ?_⟩
  obtain ⟨h1, a⟩ := e.lock (od := od) hd (.inr ⟨kvs, rfl⟩)
  have kr : Kr H (upd H d (.frz od (.dK kvs))) := .lock hd (.inr ⟨kvs, rfl⟩)
  refine e_lc (H := upd H d (.frz od (.dK kvs))) (S := S) (f := f) (p := fun _ => true) (i_keysI (od := od) (kvs := kvs) (xs := xs) (R := R) (hf.kr fun H2 k2 => ?_) upd_same (hr.st kr)) hw hl2 (fun H2 v x e2 hx rx => ⟨t_yes, fun _ => ?_⟩) N _ a _ fun v H' e' rv => ?_
  · intro b o hb n
    by_cases eb : b = d
    · rw [eb] at hb ⊢
      rw [hd] at hb
      cases hb
      rcases k2 d _ upd_same (fun _ z => by cases z) with q1 | ⟨⟨_, z⟩ | ⟨_, z⟩, _⟩ | ⟨od', u, z, _, q1⟩
      · exact .inr (.inl ⟨.inr ⟨_, rfl⟩, od, q1⟩)
      · cases z
      · cases z
      · cases z
        exact .inl q1
    · exact k2 b o (by rw [upd_ne eb]; exact hb) n
  · exact hb H2 v x (kr.es e2) hx rx
  · have hd' : H' d = some (.frz od (.dK kvs)) := e'.frz upd_same
    refine ⟨hd', q v _ (Es.unlock h1 (.inr ⟨kvs, rfl⟩) e' hd') ?_⟩
    have nD : d ∉ N := vis_in (a.e.frz upd_same)
    have hf : ((xs.map (·.1)).filter fun _ => true) = xs.map (·.1) := by simp
    rw [hf] at rv
    rw [vis_upd nD]
    exact (rL S).st (Kr.unlock (by rw [vis_ne nD]; exact hd') (.inr ⟨kvs, rfl⟩)) rv
/-- a, b = a pair -/
theorem q_asgP {z : α × β} (ok : Nok N H) (h : Ev T te σ (vis N H) (rPair R S) z) (q : ∀ a b H', Es T H H' → R.r (vis N H') a z.1 → S.r (vis N H') b z.2 → D.nx ((σ.set i (some a)).set j (some b)) H') : tAsg te (gTup K 2 (gCons (gName i) (gCons (gName j) gNil))) D σ H :=
  h N H (.self ok) _ fun v H' e r => g_pair r fun a b ra rb => q a b H' e ra rb
/-! ### sorted rows -/
theorem rows_of {G : Hp} : ∀ {vs : List V} {gs : List (List Nat)}, Paired ((rT rNat).r G) vs gs → ∃ zs : List (Addr × List Nat), vs = zs.map (fun z => V.ref z.1) ∧ gs = zs.map (·.2) ∧ ∀ z ∈ zs, G z.1 = some (.tup (z.2.map fun n : Nat => V.int (n : Int)))
  | _, _, .nil => ⟨[], rfl, rfl, fun _ h => by simp at h⟩
  | _, _, .cons ⟨p, ws, h1, h2, h3⟩ t => by
    obtain ⟨zs, e1, e2, e3⟩ := rows_of t
    refine ⟨(p, _) :: zs, by rw [h1, e1]; rfl, by rw [e2]; rfl, fun z hz => ?_⟩
    rcases List.mem_cons.mp hz with e | e
    · rw [e, h2, pr_eq h3]
    · exact e3 z e
theorem q_sortedRows {gs : List (List Nat)} {Q : VK} (ok : Nok N H) (h : Ev T ta σ (vis N H) (rL (rT rNat)) gs) (hn : ∀ g ∈ gs, g ≠ []) (hl : gs.length ≤ 1000)
    (q : ∀ v H2 ys, Es T H H2 → List.Perm ys gs → (rL (rT rNat)).r (vis N H2) v ys → Q v H2) : tCB (rSortedRows K) (tCons ta tNil) σ H Q :=
  h N H (.self ok) _ fun v H2 e2 ⟨p, vs, h1, h2, h3⟩ => by
    obtain ⟨zs, e1, rfl, e3⟩ := rows_of h3
    let f : Addr × List Nat → Addr × List Int := fun z => (z.1, z.2.map fun n : Nat => (n : Int))
    let g : Addr × List Int → Addr × List Nat := fun z => (z.1, z.2.map Int.toNat)
    have gf : ∀ z, g (f z) = z := fun z => by
      obtain ⟨a, b⟩ := z
      show (a, (b.map fun n : Nat => (n : Int)).map Int.toNat) = (a, b)
      rw [List.map_map]
      congr 1
      conv => rhs; rw [← List.map_id b]
      exact List.map_congr_left fun n _ => by simp
    refine ⟨p, zs.map f, by rw [h1], ?_, ?_, ?_, fun ys p2 hp hn2 => ?_⟩
    · rw [List.map_map]
      exact SqL.of (by rw [← show vs = zs.map ((fun z : Addr × List Int => V.ref z.1) ∘ f) from e1]; exact vis_sub h2)
    · intro z hz
      obtain ⟨y, hy, rfl⟩ := List.mem_map.mp hz
      refine ⟨SqT.of ?_, fun z => hn y.2 (List.mem_map.mpr ⟨y, hy, rfl⟩) (List.map_eq_nil_iff.mp z)⟩
      show H2 y.1 = some (.tup ((y.2.map fun n : Nat => (n : Int)).map V.int))
      rw [List.map_map]
      exact vis_sub (e3 y hy)
    · rw [List.length_map] at hl ⊢
      exact hl
    · have hz2 : (ys.map g).Perm zs := by
        have := hp.map g
        rw [List.map_map] at this
        have e : zs.map (g ∘ f) = zs := by
          conv => rhs; rw [← List.map_id zs]
          exact List.map_congr_left fun z _ => gf z
        rw [e] at this
        exact this
      have ok2 := ok.step e2
      refine q _ _ ((ys.map g).map (·.2)) (e2.put hn2) (hz2.map _) ⟨p2, _, rfl, vis_new ok2 hn2, ?_⟩
      have hall : ∀ y ∈ ys, (rT rNat).r (vis N (upd H2 p2 (.lst (ys.map fun z => V.ref z.1)))) (.ref y.1) (g y).2 := fun y hy => by
        obtain ⟨z, hz, rfl⟩ := List.mem_map.mp (hp.mem_iff.mp hy)
        rw [gf]
        exact ⟨z.1, _, rfl, (ok2.step (Es.new (T := T) hn2)).tup (new_sub hn2 _ _ (vis_sub (e3 z hz))), pr_of (g := fun n : Nat => V.int (n : Int)) z.2⟩
      rw [List.map_map]
      generalize upd H2 p2 (.lst (ys.map fun z => V.ref z.1)) = G at hall
      clear hz2 hp hn2
      induction ys with
      | nil => exact .nil
      | cons y ys ih => exact .cons (hall y (List.mem_cons_self ..)) (ih fun z hz => hall z (List.mem_cons_of_mem _ hz))
end

end K29
set_option autoImplicit false
set_option maxHeartbeats 4000000
namespace K29
open PySem PySem.Spec PyProof.Rows L2
/-! Answers told by a property; defs that make lambdas. -/
/-- as Ev, the answer one of those with Post -/
def Evp (T : List (Addr × Str)) {α : Type} (te : TE) (σ : L2.St) (H : Hp) (R : Rel α) (Post : α → Prop) : Prop := ∀ N H1, At T N H H1 → ∀ Q : VK, (∀ v H2 y, Es T H1 H2 → Post y → R.r (vis N H2) v y → Q v H2) → te σ H1 Q
/-- a promise that asks for the tables -/
def SpT (T : List (Addr × Str)) {α β : Type} (A : Hp → List V → α → Prop) (R : Rel β) (Post : α → β → Prop) : Sp := fun vs H Q E => LamX.Tabs T H ∧ SpG T A R Post vs H Q E
section
variable {T : List (Addr × Str)} {α β γ δ ε : Type} {σ : L2.St} {H : Hp} {N : List Addr} {R : Rel α} {R1 : Rel β} {R2 : Rel γ} {R3 : Rel δ} {R4 : Rel ε} {te ta tb tc td : TE} {tr : TA} {i : Nat} {D : Ends} {Post : α → Prop}
theorem Ev.p {x : α} (h : Ev T te σ H R x) (hp : Post x) : Evp T te σ H R Post := fun N H1 e Q q => h N H1 e Q fun v H2 e2 r => q v H2 x e2 hp r
theorem q_asgR (h : te σ H fun v H' => D.nx (σ.set i (some v)) H') : tAsg te (gName i) D σ H := h
theorem q_lst1 {x : α} (ok : Nok N H) (h : Ev T te σ (vis N H) R x) (k : ∀ v H1 p, Es T H H1 → R.r (vis N H1) v x → H1 p = none → D.nx (σ.set i (some (.ref p))) (upd H1 p (.lst [v]))) : tAsg (tLst (tCons te tNil)) (gName i) D σ H :=
  h N H (.self ok) _ fun v H1 e1 r => ⟨by show 1 ≤ sizeLine; decide, fun p hp => k v H1 p e1 r hp⟩
theorem q_lst0 (k : ∀ p, H p = none → D.nx (σ.set i (some (.ref p))) (upd H p (.lst []))) : tAsg (tLst tNil) (gName i) D σ H := ⟨by show 0 ≤ sizeLine; decide, fun p hp => k p hp⟩
theorem e_neg {n : Int} (h : Ev T te σ H rInt n) : Ev T (tUn (rU fun i => .int (-i)) te) σ H rInt (-n) := fun N H1 e Q q => h N H1 e _ fun v H2 e2 r => ⟨n, r, q _ H2 e2 rfl⟩
theorem q_par {x : α} {y : β} {j : Nat} (ok : Nok N H) (ha : Ev T ta σ (vis N H) R x) (hb : Ev T tb σ (vis N H) R1 y) (k : ∀ a b H', Es T H H' → R.r (vis N H') a x → R1.r (vis N H') b y → D.nx ((σ.set i (some a)).set j (some b)) H') : tPar i j (tCons ta (tCons tb tNil)) D σ H :=
  ha N H (.self ok) _ fun a H1 e1 ra => hb N H1 ((At.self ok).step e1) _ fun b H2 e2 rb => ⟨a, b, rfl, k a b H2 (e1.trans e2) (Rel.up ra ((At.self ok).step e1).ok e2) rb⟩
theorem q_setp (ok : Nok N H) (h : Evp T te σ (vis N H) R Post) (k : ∀ v H' y, Es T H H' → Post y → R.r (vis N H') v y → D.nx (σ.set i (some v)) H') : tAsg te (gName i) D σ H := h N H (.self ok) _ k
theorem q_retp (ok : Nok N H) (h : Evp T te σ (vis N H) R Post) (k : ∀ v H' y, Es T H H' → Post y → R.r (vis N H') v y → D.rt v H') : tRet te D σ H := h N H (.self ok) _ k
theorem e_callp {A : Hp → List V → γ → Prop} {Ps : γ → α → Prop} {E : XK} {P : Hp → List V → Prop} (z : γ) (h : EvA T tr σ H P) (hr : ∀ H1 vs, Es T H H1 → P H1 vs → A H1 vs z) (hp : ∀ y, Ps z y → Post y) : Evp T (tCall (SpG T A R Ps) [] E tr) σ H R Post := fun N H1 e Q q =>
  h N H1 e _ fun vs H2 e2 p => by
    show SpG T A R Ps (vs ++ []) H2 Q E
    rw [List.append_nil]
    exact ⟨N, z, (e.step e2).ok, hr _ vs (e.step e2).e p, fun v H3 y e3 hy r3 => q v H3 y (e2.trans e3) (hp y hy) r3⟩
theorem e_callT {A : Hp → List V → γ → Prop} {Ps : γ → α → Prop} {E : XK} {P : Hp → List V → Prop} (z : γ) (t : LamX.Tabs T H) (h : EvA T tr σ H P) (hr : ∀ H1 vs, Es T H H1 → P H1 vs → A H1 vs z) (hp : ∀ y, Ps z y → Post y) : Evp T (tCall (SpT T A R Ps) [] E tr) σ H R Post := fun N H1 e Q q =>
  h N H1 e _ fun vs H2 e2 p => by
    show SpT T A R Ps (vs ++ []) H2 Q E
    rw [List.append_nil]
    exact ⟨(e.full.trans e2).t t, N, z, (e.step e2).ok, hr _ vs (e.step e2).e p, fun v H3 y e3 hy r3 => q v H3 y (e2.trans e3) (hp y hy) r3⟩
/-- a call's argument that is told by a property: the call's answer then, too -/
theorem ap_cons {P : Hp → List V → Prop} {Ps : β → Prop} (h : Evp T ta σ H R1 Ps) (hr : EvA T tr σ H P) : EvA T (tCons ta tr) σ H (fun G vs => ∃ v r y, vs = v :: r ∧ Ps y ∧ R1.r G v y ∧ P G r) := fun N H1 e Q q =>
  h N H1 e _ fun v H2 y e2 hy r => hr N H2 (e.step e2) _ fun vs H3 e3 p => q _ H3 (e2.trans e3) ⟨v, vs, y, rfl, hy, Rel.up r (e.step e2).ok e3, p⟩
/-- a call, its argument chosen by the values -/
theorem e_callx {A : Hp → List V → γ → Prop} {Ps : γ → α → Prop} {E : XK} {P : Hp → List V → Prop} (h : EvA T tr σ H P) (hr : ∀ H1 vs, Es T H H1 → P H1 vs → ∃ z, A H1 vs z ∧ ∀ y, Ps z y → Post y) : Evp T (tCall (SpG T A R Ps) [] E tr) σ H R Post := fun N H1 e Q q =>
  h N H1 e _ fun vs H2 e2 p => by
    show SpG T A R Ps (vs ++ []) H2 Q E
    rw [List.append_nil]
    obtain ⟨z, ha, hp⟩ := hr _ vs (e.step e2).e p
    exact ⟨N, z, (e.step e2).ok, ha, fun v H3 y e3 hy r3 => q v H3 y (e2.trans e3) (hp y hy) r3⟩
theorem e_callTx {A : Hp → List V → γ → Prop} {Ps : γ → α → Prop} {E : XK} {P : Hp → List V → Prop} (t : LamX.Tabs T H) (h : EvA T tr σ H P) (hr : ∀ H1 vs, Es T H H1 → P H1 vs → ∃ z, A H1 vs z ∧ ∀ y, Ps z y → Post y) : Evp T (tCall (SpT T A R Ps) [] E tr) σ H R Post := fun N H1 e Q q =>
  h N H1 e _ fun vs H2 e2 p => by
    show SpT T A R Ps (vs ++ []) H2 Q E
    rw [List.append_nil]
    obtain ⟨z, ha, hp⟩ := hr _ vs (e.step e2).e p
    exact ⟨(e.full.trans e2).t t, N, z, (e.step e2).ok, ha, fun v H3 y e3 hy r3 => q v H3 y (e2.trans e3) (hp y hy) r3⟩
end
section
variable {T : List (Addr × Str)} {α β γ δ ε : Type} {σ : L2.St} {H : Hp} {R : Rel ε} {R1 : Rel α} {R2 : Rel β} {R3 : Rel γ} {R4 : Rel δ} {x : α} {y : β} {u : γ} {t : δ} {te ta tb tc td : TE} {Po : ε → Prop}
theorem e_c1p {Pre : α → Prop} {Ps : α → ε → Prop} {E : XK} (h1 : Ev T ta σ H R1 x) (pre : Pre x) (hp : ∀ r, Ps x r → Po r) : Evp T (tCall (SpG T (A1 R1 Pre) R Ps) [] E (tCons ta tNil)) σ H R Po :=
  e_callp x (a_cons h1 a_nil) (fun _ _ _ ⟨v, _, e1, r1, e2⟩ => ⟨v, by rw [e1, e2], r1, pre⟩) hp
theorem e_c1T {Pre : α → Prop} {Ps : α → ε → Prop} {E : XK} (tt : LamX.Tabs T H) (h1 : Ev T ta σ H R1 x) (pre : Pre x) (hp : ∀ r, Ps x r → Po r) : Evp T (tCall (SpT T (A1 R1 Pre) R Ps) [] E (tCons ta tNil)) σ H R Po :=
  e_callT x tt (a_cons h1 a_nil) (fun _ _ _ ⟨v, _, e1, r1, e2⟩ => ⟨v, by rw [e1, e2], r1, pre⟩) hp
theorem e_c2p {Pre : α → β → Prop} {Ps : α × β → ε → Prop} {E : XK} (h1 : Ev T ta σ H R1 x) (h2 : Ev T tb σ H R2 y) (pre : Pre x y) (hp : ∀ r, Ps (x, y) r → Po r) : Evp T (tCall (SpG T (A2 R1 R2 Pre) R Ps) [] E (tCons ta (tCons tb tNil))) σ H R Po :=
  e_callp (x, y) (a_cons h1 (a_cons h2 a_nil)) (fun _ _ _ ⟨v, _, e1, r1, w, _, e2, r2, e3⟩ => ⟨v, w, by rw [e1, e2, e3], r1, r2, pre⟩) hp
theorem e_c2T {Pre : α → β → Prop} {Ps : α × β → ε → Prop} {E : XK} (tt : LamX.Tabs T H) (h1 : Ev T ta σ H R1 x) (h2 : Ev T tb σ H R2 y) (pre : Pre x y) (hp : ∀ r, Ps (x, y) r → Po r) : Evp T (tCall (SpT T (A2 R1 R2 Pre) R Ps) [] E (tCons ta (tCons tb tNil))) σ H R Po :=
  e_callT (x, y) tt (a_cons h1 (a_cons h2 a_nil)) (fun _ _ _ ⟨v, _, e1, r1, w, _, e2, r2, e3⟩ => ⟨v, w, by rw [e1, e2, e3], r1, r2, pre⟩) hp
theorem e_c3p {Pre : α → β → γ → Prop} {Ps : α × β × γ → ε → Prop} {E : XK} (h1 : Ev T ta σ H R1 x) (h2 : Ev T tb σ H R2 y) (h3 : Ev T tc σ H R3 u) (pre : Pre x y u) (hp : ∀ r, Ps (x, y, u) r → Po r) : Evp T (tCall (SpG T (A3 R1 R2 R3 Pre) R Ps) [] E (tCons ta (tCons tb (tCons tc tNil)))) σ H R Po :=
  e_callp (x, y, u) (a_cons h1 (a_cons h2 (a_cons h3 a_nil))) (fun _ _ _ ⟨v, _, e1, r1, w, _, e2, r2, o, _, e3, r3, e4⟩ => ⟨v, w, o, by rw [e1, e2, e3, e4], r1, r2, r3, pre⟩) hp
theorem e_c3T {Pre : α → β → γ → Prop} {Ps : α × β × γ → ε → Prop} {E : XK} (tt : LamX.Tabs T H) (h1 : Ev T ta σ H R1 x) (h2 : Ev T tb σ H R2 y) (h3 : Ev T tc σ H R3 u) (pre : Pre x y u) (hp : ∀ r, Ps (x, y, u) r → Po r) : Evp T (tCall (SpT T (A3 R1 R2 R3 Pre) R Ps) [] E (tCons ta (tCons tb (tCons tc tNil)))) σ H R Po :=
  e_callT (x, y, u) tt (a_cons h1 (a_cons h2 (a_cons h3 a_nil))) (fun _ _ _ ⟨v, _, e1, r1, w, _, e2, r2, o, _, e3, r3, e4⟩ => ⟨v, w, o, by rw [e1, e2, e3, e4], r1, r2, r3, pre⟩) hp
theorem e_c4p {Pre : α → β → γ → δ → Prop} {Ps : α × β × γ × δ → ε → Prop} {E : XK} (h1 : Ev T ta σ H R1 x) (h2 : Ev T tb σ H R2 y) (h3 : Ev T tc σ H R3 u) (h4 : Ev T td σ H R4 t) (pre : Pre x y u t) (hp : ∀ r, Ps (x, y, u, t) r → Po r) : Evp T (tCall (SpG T (A4 R1 R2 R3 R4 Pre) R Ps) [] E (tCons ta (tCons tb (tCons tc (tCons td tNil))))) σ H R Po :=
  e_callp (x, y, u, t) (a_cons h1 (a_cons h2 (a_cons h3 (a_cons h4 a_nil)))) (fun _ _ _ ⟨v, _, e1, r1, w, _, e2, r2, o, _, e3, r3, s, _, e4, r4, e5⟩ => ⟨v, w, o, s, by rw [e1, e2, e3, e4, e5], r1, r2, r3, r4, pre⟩) hp
theorem e_c4T {Pre : α → β → γ → δ → Prop} {Ps : α × β × γ × δ → ε → Prop} {E : XK} (tt : LamX.Tabs T H) (h1 : Ev T ta σ H R1 x) (h2 : Ev T tb σ H R2 y) (h3 : Ev T tc σ H R3 u) (h4 : Ev T td σ H R4 t) (pre : Pre x y u t) (hp : ∀ r, Ps (x, y, u, t) r → Po r) : Evp T (tCall (SpT T (A4 R1 R2 R3 R4 Pre) R Ps) [] E (tCons ta (tCons tb (tCons tc (tCons td tNil))))) σ H R Po :=
  e_callT (x, y, u, t) tt (a_cons h1 (a_cons h2 (a_cons h3 (a_cons h4 a_nil)))) (fun _ _ _ ⟨v, _, e1, r1, w, _, e2, r2, o, _, e3, r3, s, _, e4, r4, e5⟩ => ⟨v, w, o, s, by rw [e1, e2, e3, e4, e5], r1, r2, r3, r4, pre⟩) hp
end
/-- a def that makes lambdas of the name q: its code object's table is told -/
structure Lmx (K : PySem.W.Frag) (mg : Str → Option Value) (base : Heap) (T : List (Addr × Str)) (x : Str) (st : Stmt) (ps : List Str) (q : Str) : Prop where
  ex : ∃ (f : Addr) (fd : FuncData) (c P : Addr), FunD K x x (defArgs st) (defBody st) (defScope st) [] [] f fd ∧ mg x = some (.ref f) ∧ Binds K fd ps [] ∧ fd.code = .ref c ∧ LamX.TabB base mg c P ∧ (P, q) ∈ T ∧ ∀ p ∈ T, p.1 = P → p.2 = q
/-- the defs that make lambdas -/
structure Lx (K : PySem.W.Frag) (mg : Str → Option Value) (base : Heap) (T : List (Addr × Str)) : Prop where
  pair_rows : Lmx K mg base T "pair_rows" s_pair_rows ["device", "lots", "pair", "lot"] "pair_rows.<locals>.<lambda>"
  first_of : Lmx K mg base T "first_of" s_first_of ["rows"] "first_of.<locals>.<lambda>"
section
variable {P : Program} {w : World} {K : PySem.W.Frag} {mg : Str → Option Value} {base : Heap}
theorem cl_spT {T : List (Addr × Str)} {α β : Type} {A : Hp → List V → α → Prop} {R : Rel β} {Post : α → β → Prop} {x : Str} {st : Stmt} {N ps : List Str} {k : Nat} (D : Dx K mg x st ps) (S : FnScope N ps (defScope st)) (len : ∀ G vs z, A G vs z → vs.length = ps.length)
    (hbody : ∀ (f : Addr) (cdv : Value) (Ar : Around) (outer : List Env) (s : Shared) (H : Hp) (vs : List V) (E : XK) (M : List Addr) (z : α), LamX.Tabs T H → Room k (Ar.deeper (envOfC x (defScope st) s.heap.objs.size f cdv)) → Nok M H → A (vis M H) vs z →
      ∃ t, PSs (cxOf L2.CX0 P w K mg base N x (defScope st) f cdv Ar outer s H E).nox (defBody st) t ∧ ∀ Q : VK, (∀ v H' y, Es T H H' → Post z y → R.r (vis M H') v y → Q v H') → t { nx := fun _ H' => Q .non H', rt := Q } (L2.start N vs) H) :
    Cl P w K mg base (k + 1) x (SpT T A R Post) := by
  refine cl_any D S (fun vs H Q E ⟨_, M, z, _, h, _⟩ => len _ _ _ h) fun f cdv Ar outer s H vs Q E hr ⟨tb, M, z, ok, h, q⟩ => ?_
  obtain ⟨t, h1, h2⟩ := hbody f cdv Ar outer s H vs E M z tb hr ok h
  exact ⟨t, h1, h2 Q q⟩
theorem cl_lm {T : List (Addr × Str)} {α β : Type} {A : Hp → List V → α → Prop} {R : Rel β} {Post : α → β → Prop} {x q : Str} {st : Stmt} {N ps : List Str} {k : Nat} (D : Lmx K mg base T x st ps q) (S : FnScope N ps (defScope st)) (len : ∀ G vs z, A G vs z → vs.length = ps.length)
    (hbody : ∀ (f c P0 : Addr) (Ar : Around) (outer : List Env) (s : Shared) (H : Hp) (vs : List V) (E : XK) (M : List Addr) (z : α), LamX.TabB base mg c P0 → (P0, q) ∈ T → (∀ p ∈ T, p.1 = P0 → p.2 = q) → LamX.Tabs T H → Room k (Ar.deeper (envOfC x (defScope st) s.heap.objs.size f (.ref c))) → Nok M H → A (vis M H) vs z →
      ∃ t, PSs (cxOf L2.CX0 P w K mg base N x (defScope st) f (.ref c) Ar outer s H E).nox (defBody st) t ∧ ∀ Q : VK, (∀ v H' y, Es T H H' → Post z y → R.r (vis M H') v y → Q v H') → t { nx := fun _ H' => Q .non H', rt := Q } (L2.start N vs) H) :
    Cl P w K mg base (k + 1) x (SpT T A R Post) := by
  obtain ⟨f, fd, c, P0, F, hm, b, hc, TB, h1, h2⟩ := D.ex
  refine ⟨f, fd, ps, ?_, hm, F.kp, b⟩
  obtain ⟨oc, od, dV, kV, doc, pm, an, cdv, ct, osl, rfl, lk, hcd, _, _⟩ := F.ex
  have hc : cdv = .ref c := hc
  subst hc
  refine fn_of lk hcd S (fun vs H Q E ⟨_, M, z, _, h, _⟩ => len _ _ _ h) fun Ar outer s H vs Q E hr ⟨tb, M, z, ok, h, qq⟩ => ?_
  obtain ⟨t, g1, g2⟩ := hbody f c P0 Ar outer s H vs E M z TB h1 h2 tb hr ok h
  exact ⟨t, g1.nox, g2 Q qq⟩
end

end K29
set_option autoImplicit false
set_option maxHeartbeats 4000000
namespace K29
open PySem PySem.Spec PyProof.Rows L2
/-! Filling a dict in a loop. -/
section
variable {α : Type}
theorem putP_in {xs : List (Pr × α)} {k : Pr} {x : α} (h : k ∈ xs.map (·.1)) : putP xs k x = xs.map fun kv => if kv.1 = k then (kv.1, x) else kv := by
  unfold putP
  rw [if_pos]
  obtain ⟨a, h1, h2⟩ := List.mem_map.mp h
  exact List.any_eq_true.mpr ⟨a, h1, decide_eq_true h2⟩
theorem putP_mem {xs : List (Pr × α)} {k : Pr} {x : α} {e : Pr × α} (h : e ∈ putP xs k x) : (e.1 = k ∧ e.2 = x) ∨ (e ∈ xs ∧ e.1 ≠ k) := by
  by_cases hk : k ∈ xs.map (·.1)
  · rw [putP_in hk] at h
    obtain ⟨a, h1, h2⟩ := List.mem_map.mp h
    by_cases ha : a.1 = k
    · rw [if_pos ha] at h2
      rw [← h2]
      exact .inl ⟨ha, rfl⟩
    · rw [if_neg ha] at h2
      rw [← h2]
      exact .inr ⟨h1, ha⟩
  · rw [putP_new hk] at h
    rcases List.mem_append.mp h with z | z
    · exact .inr ⟨z, fun q => hk (List.mem_map.mpr ⟨e, z, q⟩)⟩
    · rw [List.mem_singleton.mp z]
      exact .inl ⟨rfl, rfl⟩
theorem putP_keys {xs : List (Pr × α)} {k : Pr} {x : α} (h : k ∈ xs.map (·.1)) : (putP xs k x).map (·.1) = xs.map (·.1) := by
  rw [putP_in h, List.map_map]
  refine List.map_congr_left fun a _ => ?_
  show (if a.1 = k then (a.1, x) else a).1 = a.1
  split <;> rfl
theorem putP_len {xs : List (Pr × α)} {k : Pr} {x : α} : (putP xs k x).length ≤ xs.length + 1 := by
  by_cases h : k ∈ xs.map (·.1)
  · have := congrArg List.length (putP_keys (x := x) h)
    rw [List.length_map, List.length_map] at this
    omega
  · rw [putP_new h, List.length_append]
    exact Nat.le_refl _
def fillP (F : List (Pr × α)) (A : List Pr) (x : α) : List (Pr × α) := A.foldl (fun F p => putP F p x) F
theorem fillP_snoc (F : List (Pr × α)) (A : List Pr) (p : Pr) (x : α) : fillP F (A ++ [p]) x = putP (fillP F A x) p x := by
  unfold fillP
  rw [List.foldl_append]
  rfl
theorem fillP_len (x : α) : ∀ (A : List Pr) (F : List (Pr × α)), (fillP F A x).length ≤ F.length + A.length
  | [], F => Nat.le_refl _
  | p :: A, F => by
    have h1 := fillP_len x A (putP F p x)
    have h2 := putP_len (xs := F) (k := p) (x := x)
    show (fillP (putP F p x) A x).length ≤ F.length + (A.length + 1)
    omega
theorem fillP_mem (x : α) {e : Pr × α} : ∀ (A : List Pr) (F : List (Pr × α)), e ∈ fillP F A x → (e.2 = x ∧ e.1 ∈ A) ∨ (e ∈ F ∧ e.1 ∉ A)
  | [], F, h => .inr ⟨h, by simp⟩
  | p :: A, F, h => by
    rcases fillP_mem x A (putP F p x) h with ⟨h1, h2⟩ | ⟨h1, h2⟩
    · exact .inl ⟨h1, List.mem_cons_of_mem _ h2⟩
    · rcases putP_mem h1 with ⟨h3, h4⟩ | ⟨h3, h4⟩
      · exact .inl ⟨h4, by rw [h3]; exact List.mem_cons_self⟩
      · exact .inr ⟨h3, fun z => (List.mem_cons.mp z).elim h4 h2⟩
theorem fillP_keys (x : α) : ∀ (A : List Pr) (F : List (Pr × α)), (∀ p ∈ A, p ∈ F.map (·.1)) → (fillP F A x).map (·.1) = F.map (·.1)
  | [], F, _ => rfl
  | p :: A, F, h => by
    have h1 := putP_keys (x := x) (h p List.mem_cons_self)
    show (fillP (putP F p x) A x).map (·.1) = _
    rw [fillP_keys x A (putP F p x) fun q hq => by rw [h1]; exact h q (List.mem_cons_of_mem _ hq), h1]
theorem fillP_new (x : α) : ∀ (A : List Pr) (F : List (Pr × α)), A.Nodup → (∀ p ∈ A, p ∉ F.map (·.1)) → (fillP F A x).map (·.1) = F.map (·.1) ++ A
  | [], F, _, _ => by show F.map _ = _; rw [List.append_nil]
  | p :: A, F, nd, h => by
    rw [List.nodup_cons] at nd
    have h1 := putP_new (x := x) (h p List.mem_cons_self)
    show (fillP (putP F p x) A x).map (·.1) = _
    have h2 : (putP F p x).map (·.1) = F.map (·.1) ++ [p] := by rw [h1, List.map_append]; rfl
    rw [fillP_new x A (putP F p x) nd.2 fun q hq z => ?_, h2, List.append_assoc]
    · rfl
    · rw [h2] at z
      rcases List.mem_append.mp z with z | z
      · exact h q (List.mem_cons_of_mem _ hq) z
      · rw [List.mem_singleton.mp z] at hq
        exact nd.1 hq
end
section
variable {T : List (Addr × Str)} {K : PySem.W.Frag} {α β : Type} {σ : L2.St} {H1 G : Hp} {M L : List Addr} {R : Rel α} {tv : TE} {i k : Nat} {D : Ends} {fd : Addr}
/-- for p in A: d[p] = x, the dict hidden -/
theorem q_fill {wi : TI} {A : List Pr} {F : List (Pr × α)} {x : α} {kvs : List (List Key × V)} (hd : Hd T M H1 L G) (hL : fd ∈ L) (hf : G fd = some (.dT kvs)) (hp : DpR R (vis (L ++ M) G) kvs F) (hl : F.length + A.length ≤ 1000) (h : EvI T wi σ (vis (L ++ M) G) rP A) (hσ : ∃ o, σ = σ.set k o)
    (hi : ∀ o, (σ.set k o)[i]? = some (some (.ref fd))) (hk : ∀ v, (σ.set k (some v))[k]? = some (some v)) (hv : ∀ v B, Es T (vis (L ++ M) G) B → Ev T tv (σ.set k (some v)) B R x)
    (q : ∀ G' kvs' o, Hd T M H1 L G' → At T (L ++ M) (vis (L ++ M) G) G' → G' fd = some (.dT kvs') → DpR R (vis (L ++ M) G') kvs' (fillP F A x) → D.nx (σ.set k o) G') : tFor wi (gName k) (sDPut (tVar i) (tVar k) tv) D σ G := by
  refine q_for (T := T) hd.okv h fun H3 e3 => ?_
  obtain ⟨o0, ho0⟩ := hσ
  have hd3 := hd.step e3
  refine ⟨fun j σ' G' => ∃ o kvs', σ' = σ.set k o ∧ Hd T M H1 L G' ∧ At T (L ++ M) (vis (L ++ M) H3) G' ∧ G' fd = some (.dT kvs') ∧ DpR R (vis (L ++ M) G') kvs' (fillP F (A.take j) x), ⟨o0, kvs, ho0, hd3, .self hd3.okv, e3.dT hf, hp.st (e3.vis hd.okv).kr⟩, fun j σ' G' ⟨_, _, _, _, a, _⟩ => ⟨_, a⟩, ?_, ?_⟩
  · rintro j v p σ' G2 G4 hj hjp ⟨o, kvs', rfl, h2, a2, f2, p2⟩ e24 rx
    have h4 := h2.step e24
    have a4 := a2.step e24
    have rv := rx _ a2
    show sDPut _ _ _ _ ((σ.set k o).set k (some v)) G4
    rw [List.set_set]
    refine q_dput (T := T) (d := fd) (kk := p) (x := x) h4.okv (hv v _ ((e3.vis hd.okv).trans a4.e)) (hi _) (e_var (hk v) rv) (e24.dT f2) ?_ fun u G5 e45 ru => ?_
    · have h1 := Paired.length p2
      have h2 := fillP_len x (A.take j) F
      rw [List.length_take] at h2
      have : sizeLine = 16777216 := sizeLine_eq
      omega
    · refine ⟨_, _, rfl, (h4.step e45).put hL (.dT _), (a4.step e45).put2 (List.mem_append_left _ hL) (.dT _), upd_same, ?_⟩
      have hxs : A.take (j + 1) = A.take j ++ [p] := by rw [List.take_add_one, hjp]; rfl
      rw [hxs, fillP_snoc]
      have k2 : Kr (vis (L ++ M) G2) (vis (L ++ M) (upd G5 fd (.dT (putK kvs' (pK p) u)))) := by
        have e1 : vis (L ++ M) (upd G5 fd (.dT (putK kvs' (pK p) u))) = vis (L ++ M) G5 := by
          funext b
          unfold vis
          by_cases hb : b ∈ L ++ M
          · rw [if_pos hb, if_pos hb]
          · rw [if_neg hb, if_neg hb, upd_ne fun z => hb (by rw [z]; exact List.mem_append_left _ hL)]
        rw [e1]
        exact ((e24.trans e45).vis a2.ok).kr
      have e1 : vis (L ++ M) (upd G5 fd (.dT (putK kvs' (pK p) u))) = vis (L ++ M) G5 := by
        funext b
        unfold vis
        by_cases hb : b ∈ L ++ M
        · rw [if_pos hb, if_pos hb]
        · rw [if_neg hb, if_neg hb, upd_ne fun z => hb (by rw [z]; exact List.mem_append_left _ hL)]
      exact dpr_put (p2.st k2) (by rw [e1]; exact ru)
  · rintro σ' G' ⟨o, kvs', rfl, h2, a2, f2, p2⟩
    rw [List.take_length] at p2
    exact q G' kvs' o h2 (a2.base (e3.vis hd.okv)) f2 p2
theorem q_appp {tv : TE} {vs : List V} {d : Addr} {Post : α → Prop} (ok : Nok M G) (hi : σ[i]? = some (some (.ref d))) (hv : Evp T tv σ (vis M G) R Post) (hd : G d = some (.lst vs)) (hl : vs.length < sizeLine)
    (q : ∀ v G' x, Es T G G' → Post x → R.r (vis M G') v x → D.nx σ (upd G' d (.lst (vs ++ [v])))) : tDrop (tBM K "list" rAppend (tVar i) (tCons tv tNil)) D σ G :=
  ⟨_, hi, .inl ⟨rfl, vs, SqL.of hd⟩, hv M G (.self ok) _ fun v G' x e hx rv => ⟨d, vs, v, rfl, rfl, e.lst hd, hl, q v G' x e hx rv⟩⟩
/-- for x in a list that a call has answered -/
theorem q_forp {te : TE} {g : TG} {ts : TS} {Post : List α → Prop} (ok : Nok M G) (h : Evp T te σ (vis M G) (rL R) Post)
    (k : ∀ xs H2, Post xs → Es T G H2 → ∃ Pv : Nat → L2.St → Hp → Prop, Pv 0 σ H2 ∧ (∀ i σ G, Pv i σ G → ∃ N, At T N (vis M H2) G) ∧
      (∀ i v x σ G G', i < xs.length → xs[i]? = some x → Pv i σ G → Es T G G' → (∀ N, At T N (vis M H2) G → R.r (vis N G') v x) → g v σ G' fun σ2 G2 => ts { D with nx := Pv (i + 1), ct := Pv (i + 1), bk := D.nx } σ2 G2) ∧
      (∀ σ G, Pv xs.length σ G → D.nx σ G)) : tFor (iList K te) g ts D σ G :=
  h M G (.self ok) _ fun v H1 xs e1 hx r => show tFor (iList K (tC v)) g ts D σ H1 from q_for (T := T) (ok.step e1) (i_list (e_c r)) fun H2 e2 => k xs H2 hx (e1.trans e2)
end

end K29
set_option autoImplicit false
set_option maxHeartbeats 4000000
namespace K29
open PySem PySem.Spec PyProof.Rows L2
/-! rules, 8: min(words, key=lambda word: (len(word), word)): one of them -/
structure Lam1 (a : Str) (scope : Scope) : Prop where
  kind : scope.kind = .function
  co : scope.isCoroutine = false
  gen : scope.isGenerator = false
  own : ∀ y ∈ scope.names, y.2 ≠ .cell ∧ y.2 ≠ .free
  pa : scope.names.lookup a = some .local
def lam1B (a : Str) (scope : Scope) : Bool :=
  decide (scope.kind = .function) && !scope.isCoroutine && !scope.isGenerator && decide (scope.names.lookup a = some .local) && scope.names.all fun y => !decide (y.2 = .cell) && !decide (y.2 = .free)
theorem lam1_by {a : Str} {scope : Scope} (h : lam1B a scope = true) : Lam1 a scope := by
  unfold lam1B at h
  simp only [Bool.and_eq_true, Bool.not_eq_true', decide_eq_true_eq, decide_eq_false_iff_not, List.all_eq_true] at h
  obtain ⟨⟨⟨⟨h1, h2⟩, h3⟩, h5⟩, h4⟩ := h
  exact ⟨h1, h2, h3, fun y hy => h4 y hy, h5⟩
def lamC1 (X : Cx) (a : Str) (A : Around) (outer : List Env) (s : Shared) (H : Hp) (scope : Scope) (f c' : Addr) : Cx :=
  { LamX.lamCx X A outer s H L2.E0 scope f c' with N := [a], xe := fun _ _ => False }
section
variable {X : Cx} {pins : List (Addr × Obj)} {σ : L2.St} {H HZ : Hp} {s s1 : Shared} {a : Str}
theorem Lam1.clo {scope : Scope} (L : Lam1 a scope) {cells : List (Str × Addr)} {y : Str} {c : Addr} (e : (cloFrom cells scope.names []).lookup y = some c) : False := by
  rcases cloFrom_mem (PySem.mem_of_lookup e) with hm | ⟨h1, _⟩
  · cases hm
  · exact (L.own _ h1).2 rfl
theorem lam_start1p {A : Around} {outer : List Env} {scope : Scope} {f c' : Addr} {h₁ : Heap} {tk : Nat} {v1 : V} {u1 : Value} (L : Lam1 a scope) (e0 : Env0 X.prog X.w X.K X.mg X.base A outer s1 HZ) (hd : A.handled = none) (r1 : RelV v1 u1)
    (hns : h₁.Ns s1.heap.objs.size fun y => ([(a, u1)] : List (Str × Value)).reverse.lookup y) (kp : ∀ b o, s1.heap.get? b = some o → h₁.get? b = some o) :
    Inv (lamC1 X a A outer s1 HZ scope f c') [] [some v1] HZ { s1 with heap := h₁, toks := tk } := by
  have noA : ∀ d : Addr, d ∉ (lamC1 X a A outer s1 HZ scope f c').ex := fun d z => absurd (show d ∈ ([] : List Addr) from z) (by simp)
  have nocell : ∀ {y c}, (lamC1 X a A outer s1 HZ scope f c').env.cells.lookup y = some c → False := fun {y c} e => L.clo (cells := X.env.cells) e
  refine ⟨⟨e0.mod, L.kind, rfl, rfl, Nat.le_refl _, fun y z c e1 e2 => (nocell e1).elim, fun y hy => ?_, fun y c z _ => ?_, fun _ => hd, Around.frames_deeper e0.frames, .inr ⟨rfl, rfl⟩, fun d z => absurd z (noA d), e0.bs, e0.bsz, fun d _ _ => noA d,
      fun d z => absurd z (noA d), e0.funs, e0.frf⟩,
    rfl, e0.bare, Un.kept kp, ⟨_, hns, fun i y v e1 e2 e3 => ?_⟩, fun y c e => (nocell e).elim, e0.hok.fresh (Nat.le_refl _), fun y c e => (nocell e).elim, fun q hq => absurd (show q ∈ ([] : List (Addr × Obj)) ++ [] from hq) (by simp), e0.hok.kept kp, rfl⟩
  · have hy : scope.names.lookup y = some .cell ∨ scope.names.lookup y = some .free := hy
    rcases hy with hy | hy
    · exact absurd rfl (L.own _ (PySem.mem_of_lookup hy)).1
    · exact absurd rfl (L.own _ (PySem.mem_of_lookup hy)).2
  · have z : false = true := z
    cases z
  · match i, e1, e2 with
    | 0, e1, e2 =>
      cases e1
      cases e2
      refine ⟨u1, r1, .inl ⟨L.pa, ?_⟩⟩
      show ([(a, u1)] : List (Str × Value)).lookup a = some u1
      rw [List.lookup_cons_self]
theorem RelV.int_inj {v : V} {i : Int} {t : Tok} (r : RelV v (.int i t)) : v = .int i := by
  cases v with
  | int j => obtain ⟨t', e⟩ := r; cases e; rfl
  | non => cases (show Value.int i t = .none from r)
  | bl b => cases (show Value.int i t = .bool b from r)
  | str x => obtain ⟨t', e⟩ := r; cases e
  | byt x => obtain ⟨t', e⟩ := r; cases e
  | flt x => obtain ⟨t', e⟩ := r; cases e
  | ref a => cases (show Value.int i t = .ref a from r)
  | ty n => cases (show Value.int i t = .type n from r)
theorem RelV.str_inj {v : V} {i : Str} {t : Tok} (r : RelV v (.str i t)) : v = .str i := by
  cases v with
  | str j => obtain ⟨t', e⟩ := r; cases e; rfl
  | non => cases (show Value.str i t = .none from r)
  | bl b => cases (show Value.str i t = .bool b from r)
  | int x => obtain ⟨t', e⟩ := r; cases e
  | byt x => obtain ⟨t', e⟩ := r; cases e
  | flt x => obtain ⟨t', e⟩ := r; cases e
  | ref a => cases (show Value.str i t = .ref a from r)
  | ty n => cases (show Value.str i t = .type n from r)
/-- a key: the tuple of a word's length and the word -/
def KeyTup (h : Heap) (p : Addr) (x : Wd) : Prop := ∃ o n t t', h.get? p = some o ∧ o.cls = .type "tuple" ∧ o.data = .seq #[.int (x.length : Int) t, .str (wS x) t'] n
theorem keyTup_of {P : Program} {w : World} {H : Hp} {h : Heap} {p : Addr} {x : Wd} (ok : HOk P w H h) (e : H p = some (.tup [.int (x.length : Int), .str (wS x)])) : KeyTup h p x := by
  obtain ⟨_, its, r, o, h1, h2, n, h3⟩ := (show ObjOk P w H h p (.tup _) from ok p _ e)
  cases r with
  | cons r1 t1 =>
    cases t1 with
    | cons r2 t2 =>
      cases t2
      obtain ⟨t, rfl⟩ := r1
      obtain ⟨t', rfl⟩ := r2
      exact ⟨o, n, t, t', h1, h2, h3⟩
theorem keyTup_tup {P : Program} {w : World} {H : Hp} {h : Heap} {p : Addr} {x : Wd} {xs : List V} (ok : ObjOk P w H h p (.tup xs)) (k : KeyTup h p x) : xs = [.int (x.length : Int), .str (wS x)] := by
  obtain ⟨_, its, r, o, h1, h2, n, h3⟩ := ok
  obtain ⟨o', n', t, t', g1, g2, g3⟩ := k
  rw [h1] at g1
  cases g1
  rw [h3] at g3
  cases g3
  cases r with
  | cons r1 t1 =>
    cases t1 with
    | cons r2 t2 =>
      cases t2
      rw [RelV.int_inj r1, RelV.str_inj r2]
theorem KeyTup.reads {h : Heap} {p : Addr} {x : Wd} (k : KeyTup h p x) : ∃ as, Reads h (.ref p) (.tuple [.int (x.length : Int), .str (wS x)]) as := by
  obtain ⟨o, n, t, t', h1, h2, h3⟩ := k
  exact ⟨_, .tuple h1 h2 h3 (.cons (.int _ _) (.cons (.str _ _) .nil))⟩
abbrev tKeyB (K : PySem.W.Frag) : TE := tTup (tCons (tCB (fun xs H Q => ∃ x n, xs = [x] ∧ LenV K x H n ∧ Q (.int n) H) (tCons (tVar 0) tNil)) (tCons (tVar 0) tNil))
def tMinKey (T : List (Addr × Str)) (ta : TE) : TE := fun σ H Q => tCons ta tNil σ H fun vs G => LamX.Tabs T G ∧ ∃ (p : Addr) (ws : List Wd), vs = [.ref p] ∧ G p = some (.lst (ws.map fun l => V.str (wS l))) ∧ 0 < ws.length ∧ (∀ l ∈ ws, l.length ≤ 16000000) ∧ ∀ l ∈ ws, ∀ G2, Es T G G2 → Q (.str (wS l)) G2
/-- the words of a list, as they stand in the heap -/
theorem words_at {its : List Value} {ws : List Wd} (h : Vals (ws.map fun l => V.str (wS l)) its) {i : Nat} {v : Value} (hv : its[i]? = some v) : ∃ l, ws[i]? = some l ∧ RelV (.str (wS l)) v := by
  have hi := (List.getElem?_eq_some_iff.mp hv).1
  have hl : ws.length = its.length := by rw [← Vals.length h, List.length_map]
  have hx : (ws.map fun l => V.str (wS l))[i]? = some (V.str (wS (ws[i]'(by omega)))) := by
    rw [List.getElem?_map, List.getElem?_eq_getElem (by omega)]
    rfl
  obtain ⟨u, h1, h2⟩ := h.get hx
  rw [hv] at h1
  cases h1
  exact ⟨_, List.getElem?_eq_getElem (by omega), h2⟩
/-- the machine's own objects move: nothing that is known is touched -/
theorem Inv.machine {s' : Shared} {ch : List Addr} (I : Inv X pins σ H s) (m : Moved ch (fun a b => b = a) s s') (hf : ∀ b ∈ ch, FpOk X pins H b) : Inv X pins σ H s' := by
  have hn : ∀ b u, H b = some u → b ∉ ch := fun b u e z => by
    have := (hf b z).1
    rw [e] at this
    cases this
  have hg : s'.gens = s.gens := m.gens
  refine I.call' (ch := ch) m.os ⟨fun b o e _ _ hx => m.heap b o hx e, fun b o e _ _ hx => ⟨o.slots, m.heap b o hx e⟩, fun b o _ n _ => n, fun b o e hx => ⟨o, m.heap b o hx e⟩, fun _ _ e => e, fun _ _ _ e => e, fun b ps e => ⟨#[], by rw [e]; simp⟩⟩ (fun b u e => ?_) (by rw [hg]; exact I.bare) fun b hb => ?_
  · refine (I.hok b u e).stay (fun d v hd q => m.heap d v ?_ q) (fun _ q => q) fun _ _ q => q
    rcases hd with z | z
    · rw [z]; exact hn b u e
    · exact hn d _ z
  · obtain ⟨_, f2, _, f4, f5, f6⟩ := hf b hb
    exact ⟨f4, f2, f5, f6⟩
theorem pe_minkey {T : List (Addr × Str)} {c P : Addr} {k : Nat} {e : Expr} {te : TE} {params : Arguments} {body : Expr} {scope : Scope} {p lpos kpos pos : Pos} (hc : X.calm = true) (hg : Gl X "min") (hm : X.mg "min" = none) (he : PE X e te)
    (TB : LamX.TabB X.base X.mg c P) (hcode : X.env.code = .ref c) (hmT : (P, X.env.qual ++ "<lambda>") ∈ T) (hu : ∀ p ∈ T, p.1 = P → p.2 = X.env.qual ++ "<lambda>") (hr : Room (k + 1) X.A) (L : Lam1 a scope) (hdef : defaultsOf params X.env = ([], []))
    (hbind : ∀ (q : Str) (cl : List (Str × Addr)) (pm cv ctv : Value) (u1 : Value), bindArgs (PySem.W.kla_fn "<lambda>" q params body scope cl pm cv ctv) ⟨[u1], []⟩ = pure [(a, u1)])
    (hbody : ∀ (A : Around) (outer : List Env) (s : Shared) (H : Hp) (f c' : Addr), PE (lamC1 X a A outer s H scope f c') body (tKeyB X.K))
    (hs1 : backTo pos (starEach [e] X.env) = (false, eval e X.env) :: backTo pos (starEach [] X.env)) (hs2 : starEach [e] X.env = [(false, eval e X.env)]) :
    PE X (.Call (.Name "min" p) [e] [⟨some "key", .Lambda params body scope lpos, kpos⟩] pos) (tMinKey T te) := by
  refine ⟨fun pins s σ H Q I h => ?_⟩
  refine wpAny_Call_Name_kw (ld_blt I hg hm bo_min ?_)
  refine PyProof.Rows.callWith_kw (thn ((pa_cons he pa_nil (by rw [hs2]; rfl)).run pos pins s σ H _ I h) fun us s1 ⟨vs, G1, I1, r1, hT, p, ws, ev, hp, hn, hw, q⟩ => ?_) hs1 (by rw [hs1]; rfl)
  subst ev
  obtain ⟨u, rfl, ru⟩ := vals1 r1
  cases ru
  show wpAny _ _ (evalAll [do let v ← eval (.Lambda params body scope lpos) X.env; standAt pos; pure v]) _ _ s1
  refine wpAny_evalAll_cons (wpAny_bind (LamX.lam_make2 I1 TB hcode hmT hu hT hdef (fun y hy z => absurd z (L.own y hy).2) fun f c' pm' ctv G5 s5 I5 eN T5 hf hfn hfr hco => wpAny_bind (wpAny_standAt (wpAny_pure (wpAny_evalAll_nil ?_)))))
  show wpAny _ _ (call (.builtin "min") [.ref p] [(Str.ofString "key", .ref f)]) _ _ s5
  have e15 : Es T G1 G5 := ⟨eN, fun _ => T5⟩
  have hp5 : G5 p = some (.lst (ws.map fun l => V.str (wS l))) := e15.lst hp
  obtain ⟨od, IL⟩ := I5.lock hp5 True.intro
  have hpL : upd G5 p (.frz od (.lst (ws.map fun l => V.str (wS l)))) p = some (.frz od (.lst (ws.map fun l => V.str (wS l)))) := upd_same
  have nfp : f ≠ p := (ne_of_none hp5 hfn).symm
  have hfL : upd G5 p (.frz od (.lst (ws.map fun l => V.str (wS l)))) f = none := by rw [upd_ne nfp]; exact hfn
  have hcoL : upd G5 p (.frz od (.lst (ws.map fun l => V.str (wS l)))) c' = some (LamX.CodeO c' (X.env.qual ++ "<lambda>")) := by
    rw [upd_ne fun w => by rw [w, hp5] at hco; exact (Ok.lst _).b _ _ (Option.some.inj hco)]
    exact hco
  have hback : ∀ G : Hp, (∀ b o, upd G5 p (.frz od (.lst (ws.map fun l => V.str (wS l)))) b = some o → G b = some o) → Es T G5 (upd G p (.lst (ws.map fun l => V.str (wS l)))) := fun G hG => by
    refine ⟨fun b o hb _ => ?_, fun t y hy => ?_⟩
    · by_cases eb : b = p
      · rw [eb] at hb ⊢
        rw [upd_same]
        exact hp5.symm.trans hb
      · rw [upd_ne eb]
        exact hG b o (by rw [upd_ne eb]; exact hb)
    · obtain ⟨tps, t1, t2, t3⟩ := t y hy
      have n1 : y.1 ≠ p := fun w => by rw [w, hp5] at t1; cases t1
      refine ⟨tps, by rw [upd_ne n1]; exact hG _ _ (by rw [upd_ne n1]; exact t1), t2, fun po cv hcv => ?_⟩
      obtain ⟨cc, e1, e2⟩ := t3 po cv hcv
      have n2 : cc ≠ p := fun w => by rw [w, hp5] at e2; exact (Ok.lst _).b _ _ (Option.some.inj e2)
      exact ⟨cc, e1, by rw [upd_ne n2]; exact hG _ _ (by rw [upd_ne n2]; exact e2)⟩
  have nofz := I5.nofrz hp5 True.intro
  have hul : ∀ (G : Hp) (z : Shared), L2.Inv X pins σ G z → G p = some (.frz od (.lst (ws.map fun l => V.str (wS l)))) → L2.Inv X pins σ (upd G p (.lst (ws.map fun l => V.str (wS l)))) z := fun G z J e => J.unlock e nofz
  have q5 : ∀ l ∈ ws, ∀ G, (∀ b o, upd G5 p (.frz od (.lst (ws.map fun l => V.str (wS l)))) b = some o → G b = some o) → Q (.str (wS l)) (upd G p (.lst (ws.map fun l => V.str (wS l)))) := fun l hl G hG => q l hl _ (e15.trans (hback G hG))
  clear hback nofz q hT T5 e15 eN hco hfn
  generalize hGL : upd G5 p (.frz od (.lst (ws.map fun l => V.str (wS l)))) = GL at *
  obtain ⟨hod, _, its, nn, hv, hobj⟩ := (show ObjOk X.prog X.w GL s5.heap p (.frz od (.lst _)) from IL.hok p _ hpL)
  have hlist : s5.heap.IsList p its.toArray := ⟨_, hobj, rfl, nn, rfl⟩
  have hlen : its.length = ws.length := by rw [← Vals.length hv, List.length_map]
  have plt : p < s5.heap.objs.size := Heap.lt_size hobj
  refine PySem.call_min_walkK (wpAny_pyIter_list hlist ?_)
  -- the machine's list and iterator
  have hI : s5.heap.objs.size = s5.heap.objs.size := rfl
  generalize hIa : s5.heap.objs.size = I0 at *
  have hsz2 : (s5.heap.push { cls := .type "list_iterator", data := .fields #[.ref p, .int 0 0] }).objs.size = I0 + 1 := by rw [Heap.size_push, hIa]
  have W := (Walks.list (prog := X.prog) (w := X.w) (A := X.A.in1) (IL.ok.hd hc) I0 p (Nat.ne_of_lt plt) its.toArray).toS
  have I6 : Inv X pins σ GL { s5 with heap := s5.heap.push { cls := .type "list_iterator", data := .fields #[.ref p, .int 0 0] } } := IL.kept (t' := s5.toks) fun b o e => Heap.get?_push_of_some _ e
  have fpI : FpOk X pins GL I0 := IL.fpOk (Nat.le_of_eq hIa) (IL.hok.fresh (Nat.le_of_eq hIa))
  have fpS : FpOk X pins GL (I0 + 1) := I6.fpOk (Nat.le_of_eq hsz2) (I6.hok.fresh (Nat.le_of_eq hsz2))
  have fall : ∀ b ∈ [I0 + 1, I0], FpOk X pins GL b := fun b hb => by
    rcases List.mem_cons.mp hb with z | z
    · rw [z]; exact fpS
    · rw [List.mem_singleton.mp z]; exact fpI
  have fne : ∀ b ∈ [I0 + 1, I0], f ≠ b := fun b hb z => by
    have hlt : f < I0 := by rw [← hIa]; exact Heap.lt_size hf
    rcases List.mem_cons.mp hb with w | w
    · rw [z, w] at hlt
      exact absurd hlt (Nat.not_lt.mpr (Nat.le_succ _))
    · rw [z, List.mem_singleton.mp w] at hlt
      exact Nat.lt_irrefl _ hlt
  have nfr : ∀ b ∈ [I0 + 1, I0], b ∉ frs X.stack := fun b hb w => (List.mem_cons.mp (IL.stkSub b w)).elim (fall b hb).2.1 (fall b hb).2.2.1
  let J : Shared → Prop := fun z => ∃ G, Inv X pins σ G z ∧ (∀ b o, GL b = some o → G b = some o) ∧ (∀ b o, G b = some o → GL b = some o ∨ ∃ xs, o = .tup xs) ∧ (∀ b ∈ [I0 + 1, I0], G b = none) ∧ G f = none ∧
    z.heap.get? f = some (PySem.W.kla_obj "<lambda>" (X.env.qual ++ "<lambda>") params body scope (cloFrom X.env.cells scope.names []) pm' c' ctv)
  let V0 : Nat → Value → Shared → Prop := fun i k z => ∃ (d : Addr) (l : Wd), k = .ref d ∧ ws[i]? = some l ∧ GL d = none ∧ d ∉ [I0 + 1, I0] ∧ d ∉ frs X.stack ∧ KeyTup z.heap d l
  have fpJ : ∀ {z : Shared} {G : Hp}, Inv X pins σ G z → (∀ b ∈ [I0 + 1, I0], G b = none) → ∀ b ∈ [I0 + 1, I0], FpOk X pins G b := fun _ hb b h => ⟨hb b h, (fall b h).2⟩
  refine ⟨I0, _, _, _, _, _, _, J, V0, fun i j => PySem.W.dataLt (.tuple [.int ((ws.getD i []).length : Int), .str (wS (ws.getD i []))]) (.tuple [.int ((ws.getD j []).length : Int), .str (wS (ws.getD j []))]), rfl, W, ?_, ?_, ?_, ?_, ?_, ?_⟩
  · exact ⟨⟨_, by rw [← hIa]; exact Heap.get?_push_size _ rfl, rfl, rfl⟩, hlist.push _⟩
  · intro b hb
    refine Nat.lt_of_lt_of_eq ?_ hsz2.symm
    rcases List.mem_cons.mp hb with z | z
    · rw [z]; exact Nat.lt_succ_self _
    · rw [List.mem_singleton.mp z]; exact Nat.lt_succ_of_lt plt
  · rw [List.size_toArray, hlen]
    exact hn
  · rw [hsz2]
    refine ⟨?_, ?_, ?_, ?_⟩
    · rintro z z' ⟨G, J1, j2, j3, j4, j5, j6⟩ m
      exact ⟨G, Inv.machine J1 m (fpJ J1 j4), j2, j3, j4, j5, m.heap f _ (fun w => fne f w rfl) j6⟩
    · rintro i kk z z' ⟨d, l, h1, h2, h3, h4, h5, o, n', t, t', h6, h7, h8⟩ m
      exact ⟨d, l, h1, h2, h3, h4, h5, o, n', t, t', m.heap d _ h4 h6, h7, h8⟩
    · -- a key is made
      rintro i v z oS Qk Ek hi hPv ⟨G, J1, j2, j3, j4, j5, j6⟩ hst hS hq
      have hPv : its[i]? = some v := by rw [← List.getElem?_toArray]; exact hPv
      obtain ⟨l, hl, rl⟩ := words_at hv hPv
      have hll := hw l (List.mem_of_getElem? hl)
      obtain ⟨⟨oc, vs', t, hoc, hdc, hvc⟩, _, _⟩ := J1.hok c' _ (j2 _ _ hcoL)
      refine wpAny_call ?_
      have e0 := J1.env0.in1
      refine codeAny_mono (R := CR L2.CX0 X.stack X.prog X.w G z (fun v' G' => ∃ d, v' = .ref d ∧ G d = none ∧ G' = upd G d (.tup [.int (l.length : Int), .str (wS l)])) L2.E0) ?_ fun r z' hres => ?_
      · refine PySem.W.kla_callFunE (A := X.A.in1) hr.depth j6 rfl L.co L.gen rfl ⟨c', oc, vs', t, rfl, hoc, hdc, hvc⟩ ?_
        rw [hbind]
        refine wpAny_pure (wpAny_newFunctionEnv (fun y hy => (L.own y hy).1) (fun y hy => by rw [List.mem_singleton.mp hy]; exact L.pa) (fun h₁ hns hsb => ⟨J1.nolimit.fresh _ hsb, ?_⟩) L.kind)
        show codeAny _ _ (.expr body (LamX.lamEnv X scope z.heap.objs.size f c')) _ _
        have kp : ∀ d o, z.heap.get? d = some o → h₁.get? d = some o := fun d o e => hsb.extBut d o (Nat.ne_of_lt (Heap.lt_size e)) (Heap.get?_push_of_some _ e)
        have K0 := lam_start1p (X := X) (A := X.A.in1) (outer := X.stack) (f := f) (c' := c') (tk := z.toks + 1) L e0 hr.hd rl hns kp
        refine PySem.W.kla_codeExpr (wpAny_mono ((hbody _ _ z G f c').run [] _ _ G (fun v' G' => ∃ d, v' = .ref d ∧ G d = none ∧ G' = upd G d (.tup [.int (l.length : Int), .str (wS l)])) K0 ?_) (fun v s' hq => ?_) fun e s' hq => (show False from hq).elim)
        · refine ⟨_, rfl, _, (wS l).length, rfl, ⟨by rw [wS_len]; exact Nat.le_trans hll (by decide), rfl⟩, _, rfl, by show 2 ≤ sizeLine; decide, fun d hd => ⟨d, rfl, hd, by rw [wS_len]⟩⟩
        · obtain ⟨w', H', J', rv, q⟩ := hq
          exact ⟨w', H', J'.os, J'.bare, J'.base, J'.hok, rv, q⟩
      · cases r with
        | error e => exact (show False from hres).elim
        | ok fl =>
          cases fl with
          | next => exact False.elim hres
          | brk => exact False.elim hres
          | cont => exact False.elim hres
          | ret u =>
            obtain ⟨v', G', os, bare, un, hok', rv, d, rfl, hd, rfl⟩ := hres
            cases rv
            have J2 : Inv X pins σ (upd G d (.tup [.int (l.length : Int), .str (wS l)])) z' := J1.call' (ch := []) os un hok' bare fun b hb => absurd hb (by simp)
            have hG5d : GL d = none := by
              cases hx : GL d with
              | none => rfl
              | some o => rw [j2 _ _ hx] at hd; cases hd
            have dch : d ∉ [I0 + 1, I0] := fun hb => by
              have hget : ∃ o, z.heap.get? d = some o := by
                rcases List.mem_cons.mp hb with w | w
                · rw [w]; exact ⟨_, hS⟩
                · rw [List.mem_singleton.mp w]
                  obtain ⟨⟨o, ho, _⟩, _⟩ := hst
                  exact ⟨o, ho⟩
              obtain ⟨o, ho⟩ := hget
              have := un.free d o ho hd (by simp)
              rw [upd_same] at this
              cases this
            have dfr : d ∉ frs X.stack := fun hb => by
              have := J2.stkFree d hb
              rw [upd_same] at this
              cases this
            refine hq (.ref d) z' ⟨_, J2, fun b o hb => ?_, fun b o hb => ?_, fun b hb => ?_, ?_, ?_⟩ ?_ ?_ ⟨d, l, rfl, hl, hG5d, dch, dfr, keyTup_of hok' upd_same⟩ fun j k' ⟨d', l', e1, e2, e3, e4, e5, e6⟩ => ⟨d', l', e1, e2, e3, e4, e5, ?_⟩
            · rw [upd_ne (ne_of_none (j2 b o hb) hd)]
              exact j2 b o hb
            · by_cases eb : b = d
              · rw [eb, upd_same] at hb
                cases hb
                exact .inr ⟨_, rfl⟩
              · rw [upd_ne eb] at hb
                exact j3 b o hb
            · rw [upd_ne fun w => dch (by rw [← w]; exact hb)]
              exact j4 b hb
            · rw [upd_ne fun w => ?_]
              · exact j5
              · have := un.free f _ j6 j5 (by simp)
                rw [w, upd_same] at this
                cases this
            · exact un.keep f _ j6 j5 hfr (by simp)
            · obtain ⟨h1, h2⟩ := hst
              refine ⟨h1.at fun o e => un.keep _ _ e (j4 _ (by simp)) (nfr _ (by simp)) (by simp), ?_⟩
              have hp2 := un.frzs p od _ (j2 _ _ hpL)
              obtain ⟨hz, _⟩ := (show ObjOk X.prog X.w _ z'.heap p (.frz od (.lst _)) from hok' p _ hp2)
              rw [hobj] at hod
              rw [← Option.some.inj hod] at hz
              exact ⟨_, hz, rfl, nn, rfl⟩
            · exact un.keep _ _ hS (j4 _ (by simp)) (nfr _ (by simp)) (by simp)
            · cases hx : G d' with
              | none =>
                obtain ⟨o, n', t1, t2, g1, g2, g3⟩ := e6
                exact ⟨o, n', t1, t2, un.keep d' o g1 hx e5 (by simp), g2, g3⟩
              | some o =>
                rcases j3 _ _ hx with w | ⟨xs, w⟩
                · rw [e3] at w; cases w
                · rw [w] at hx
                  have hxs : xs = [.int (l'.length : Int), .str (wS l')] := keyTup_tup (show ObjOk X.prog X.w G z.heap d' (.tup xs) from J1.hok d' _ hx) e6
                  have h4 := un.tups d' xs hx
                  rw [hxs] at h4
                  exact keyTup_of hok' h4
    · rintro i j ki kj z Qk Ek _ ⟨d, l, rfl, hl, _, _, _, k1⟩ ⟨d', l', rfl, hl', _, _, _, k2⟩ hq
      obtain ⟨as1, r1⟩ := k1.reads
      obtain ⟨as2, r2⟩ := k2.reads
      have g1 : ws.getD i [] = l := by rw [List.getD_eq_getElem?_getD, hl]; rfl
      have g2 : ws.getD j [] = l' := by rw [List.getD_eq_getElem?_getD, hl']; rfl
      rw [g1, g2] at hq
      refine PySem.W.rcLt_alike _ _ X.A.in1 z (.ref d) (.ref d') _ _ r1 r2 rfl (by intro w; cases w) ?_ X.prog X.w Ek Qk hq
      have := hr.un
      have hd1 : min (PyData.tuple [.int (l.length : Int), .str (wS l)]).depth (PyData.tuple [.int (l'.length : Int), .str (wS l')]).depth ≤ 64 := by
        refine Nat.le_trans (Nat.min_le_left _ _) ?_
        simp [PyData.depth, PyData.depthAll]
      show X.A.units + 1 + _ < cLine
      omega
  · exact ⟨GL, I6, fun _ _ h => h, fun _ _ h => .inl h, fun b hb => (fall b hb).1, hfL, Heap.get?_push_of_some _ hf⟩
  · rintro v z hPv ⟨G, J1, j2, _⟩
    rw [List.getElem?_toArray] at hPv
    obtain ⟨l, hl, rl⟩ := words_at hv hPv
    exact ⟨.str (wS l), _, hul G z J1 (j2 _ _ hpL), rl, q5 l (List.mem_of_getElem? hl) G j2⟩
end

end K29
set_option autoImplicit false
set_option maxHeartbeats 4000000
namespace K29
open PySem PySem.Spec PyProof.Rows L2
/-! A for over a dict's keys, a dict made over a dict's keys, the least word. -/
/-- from G0: the objects L may change, those of M stay, all else is kept -/
structure Sd (T : List (Addr × Str)) (M L : List Addr) (G0 G : Hp) : Prop where
  at_ : At T (L ++ M) (K29.vis (L ++ M) G0) G
  same : ∀ n ∈ M, G n = G0 n
  sep : ∀ n ∈ L, n ∉ M
section
variable {T : List (Addr × Str)} {M L N : List Addr} {G0 G G' H1 : Hp} {p : Addr} {o : HO}
theorem Nok.same (k : Nok N G) (e : Es T G G') : ∀ b ∈ N, G' b = G b := fun b hb => by
  obtain ⟨o, h1, h2⟩ := k b hb
  rw [h1, e.k b o h1 h2.a]
theorem Sd.start (h : Hd T M H1 L G) : Sd T M L G G := ⟨.self h.okv, fun _ _ => rfl, h.sep⟩
theorem Sd.of (k : Nok (L ++ M) G) (s : ∀ n ∈ L, n ∉ M) : Sd T M L G G := ⟨.self k, fun _ _ => rfl, s⟩
theorem Sd.ok (h : Sd T M L G0 G) : Nok (L ++ M) G := h.at_.ok
theorem Sd.step (h : Sd T M L G0 G) (e : Es T G G') : Sd T M L G0 G' := ⟨h.at_.step e, fun n hn => by rw [h.ok.same e n (List.mem_append_right _ hn)]; exact h.same n hn, h.sep⟩
theorem Sd.put (h : Sd T M L G0 G) (hp : p ∈ L) (k : Ok o) : Sd T M L G0 (upd G p o) := ⟨h.at_.put2 (List.mem_append_left _ hp) k, fun n hn => by rw [upd_ne fun z => h.sep p hp (by rw [← z]; exact hn)]; exact h.same n hn, h.sep⟩
theorem Sd.base (h : Sd T M L G G') (e : Es T G0 G) (k : Nok (L ++ M) G0) : Sd T M L G0 G' := ⟨h.at_.base (e.vis k), fun n hn => by rw [h.same n hn]; exact k.same e n (List.mem_append_right _ hn), h.sep⟩
theorem Hd.go (h : Hd T M H1 L G0) (s : Sd T M L G0 G) : Hd T M H1 L G := ⟨s.at_.base h.at_.e, h.ok, fun n hn => by rw [s.same n hn]; exact h.same n hn, h.sep⟩
end
section
variable {T : List (Addr × Str)} {α β : Type} {σ : L2.St} {H H1 G : Hp} {M L N : List Addr} {R : Rel α} {S : Rel β} {ta tb te td tv : TE} {tt : TT} {i k : Nat} {D : Ends} {d : Addr} {kvs : List (List Key × V)} {xs : List (Pr × α)}
/-- where a dict was locked and is told what it was -/
theorem fx_lock {od : Obj} {v : V} (hf : Fx td σ H v) (hd : H d = some (.dT kvs)) : Fx td σ (upd H d (.frz od (.dT kvs))) v := hf.kr fun H2 k2 => by
  intro b o hb n
  by_cases eb : b = d
  · rw [eb] at hb ⊢
    rw [hd] at hb
    cases hb
    rcases k2 d _ upd_same (fun _ z => by cases z) with q1 | ⟨⟨_, z⟩ | ⟨_, z⟩, _⟩ | ⟨od', u, z, _, q1⟩
    · exact .inr (.inl ⟨.inl ⟨_, rfl⟩, od, q1⟩)
    · cases z
    · cases z
    · cases z
      exact .inl q1
  · exact k2 b o (by rw [upd_ne eb]; exact hb) n
theorem q_forK {g : TG} {ts : TS} (hd : Hd T M H1 L G) (hf : Fx td σ (vis (L ++ M) G) (.ref d)) (hw : Rd (vis (L ++ M) G) d (.dT kvs)) (hr : DpR R (vis (L ++ M) G) kvs xs)
    (k : ∀ Gl, Sd T M L Gl Gl → Kr (vis (L ++ M) G) (vis (L ++ M) Gl) → (∀ b ∈ L ++ M, Gl b = G b) → (LamX.Tabs T G → LamX.Tabs T Gl) →
      ∃ Pv : Nat → L2.St → Hp → Prop, Pv 0 σ Gl ∧ (∀ i σ G', Pv i σ G' → Sd T M L Gl G') ∧
        (∀ i v x σ G1 G2, i < xs.length → (xs.map (·.1))[i]? = some x → Pv i σ G1 → Es T G1 G2 → rP.r (vis (L ++ M) G2) v x → ∀ rt bk, g v σ G2 fun σ2 G3 => ts { nx := Pv (i + 1), rt := rt, bk := bk, ct := Pv (i + 1) } σ2 G3) ∧
        (∀ σ' G' G'', Pv xs.length σ' G' → Hd T M H1 L G'' → (∀ b ∈ L ++ M, G'' b = G' b) → Kr (vis (L ++ M) G') (vis (L ++ M) G'') → D.nx σ' G'')) : tLockS (tFor (iKeys td) g ts) D σ G := by
  rcases hw with hw | ⟨od, hw⟩
  · refine .inl ⟨d, .dT kvs, vis_sub hw, trivial, fun od => ?_⟩
    have nD : d ∉ L ++ M := vis_in hw
    have hv : vis (L ++ M) (upd G d (.frz od (.dT kvs))) = upd (vis (L ++ M) G) d (.frz od (.dT kvs)) := vis_upd nD
    have same : ∀ b ∈ L ++ M, upd G d (.frz od (.dT kvs)) b = G b := fun b hb => upd_ne fun z => nD (by rw [← z]; exact hb)
    have okl : Nok (L ++ M) (upd G d (.frz od (.dT kvs))) := fun n hn => by rw [same n hn]; exact hd.okv n hn
    have kr : Kr (vis (L ++ M) G) (vis (L ++ M) (upd G d (.frz od (.dT kvs)))) := by rw [hv]; exact .lock hw (.inl ⟨kvs, rfl⟩)
    refine q_for (T := T) (R := rP) (xs := xs.map (·.1)) okl (i_keys (od := od) (kvs := kvs) (xs := xs) (R := R) (by rw [hv]; exact fx_lock hf hw) (by rw [hv]; exact upd_same) (hr.st kr)) fun H3 e3 => ?_
    obtain ⟨Pv, p0, pa, ps, pe⟩ := k H3 (.of (okl.step e3) hd.sep) (kr.es (e3.vis okl)) (fun b hb => by rw [okl.same e3 b hb]; exact same b hb) fun t => e3.t (tabs_upd (vis_sub hw) (.inl ⟨kvs, rfl⟩) t)
    refine ⟨Pv, p0, fun i σ G' h => ⟨_, (pa i σ G' h).at_⟩, fun i v x σ G1 G2 hi hx hp e12 rx => ps i v x σ G1 G2 (by rw [List.length_map] at hi; exact hi) hx hp e12 (rx _ (pa i σ G1 hp).at_) _ _, fun σ' G' hp => ?_⟩
    have sd := pa _ σ' G' hp
    have sd0 : Sd T M L (upd G d (.frz od (.dT kvs))) G' := sd.base e3 okl
    have hdG : vis (L ++ M) G' d = some (.frz od (.dT kvs)) := sd0.at_.e.frz (by rw [hv]; exact upd_same)
    have hv2 : vis (L ++ M) (upd G' d (.dT kvs)) = upd (vis (L ++ M) G') d (.dT kvs) := vis_upd nD
    refine ⟨vis_sub hdG, pe σ' G' _ (by rw [List.length_map] at hp; exact hp) ⟨⟨fun n hn => by rw [upd_ne fun z => nD (by rw [← z]; exact hn)]; exact sd.ok n hn, ?_⟩, hd.ok, fun n hn => ?_, hd.sep⟩ (fun b hb => upd_ne fun z => nD (by rw [← z]; exact hb)) ?_⟩
    · rw [hv2]
      have e1 := sd0.at_.e
      rw [hv] at e1
      exact hd.at_.e.trans (Es.unlock hw (.inl ⟨kvs, rfl⟩) e1 hdG)
    · have hnN := List.mem_append_right L hn
      rw [upd_ne fun z => nD (by rw [← z]; exact hnN), sd0.same n hn, same n hnN]
      exact hd.same n hn
    · rw [hv2]
      exact Kr.unlock hdG (.inl ⟨kvs, rfl⟩)
  · refine .inr (q_for (T := T) (R := rP) (xs := xs.map (·.1)) hd.okv (i_keys (od := od) (R := R) hf hw hr) fun H3 e3 => ?_)
    obtain ⟨Pv, p0, pa, ps, pe⟩ := k H3 (.of (hd.okv.step e3) hd.sep) ((e3.vis hd.okv).kr) (fun b hb => hd.okv.same e3 b hb) e3.t
    refine ⟨Pv, p0, fun i σ G' h => ⟨_, (pa i σ G' h).at_⟩, fun i v x σ G1 G2 hi hx hp e12 rx => ps i v x σ G1 G2 (by rw [List.length_map] at hi; exact hi) hx hp e12 (rx _ (pa i σ G1 hp).at_) _ _, fun σ' G' hp => ?_⟩
    have sd := (pa _ σ' G' hp).base e3 hd.okv
    exact pe σ' G' G' (by rw [List.length_map] at hp; exact hp) (hd.go sd) (fun b hb => rfl) (Es.refl (T := T) _).kr
/-- {key: value for key in dict}, every value known -/
theorem e_dcK {f : Pr → β} (hf : Fx td σ H (.ref d)) (hd : Rd H d (.dT kvs)) (hr : DpR R H kvs xs) (nd : (xs.map (·.1)).Nodup) (hw : ∀ v, wipe ((wipe σ [k]).set k (some v)) [k] = wipe σ [k]) (hk : ∀ v, ((wipe σ [k]).set k (some v))[k]? = some (some v)) (hl : xs.length ≤ 1000)
    (hb : ∀ H1 v x, Kr H H1 → x ∈ xs.map (·.1) → rP.r H1 v x → Ev T tv ((wipe σ [k]).set k (some v)) H1 S (f x)) :
    Ev T (tLockR (tDcT (iKeys td) (gName k) tYes (tVar k) tv [k])) σ H (rD S) ((xs.map (·.1)).map fun x => (x, f x)) := fun N H1 e Q q => by
  have hl2 : (xs.map (·.1)).length ≤ 1000 := by rw [List.length_map]; exact hl
  rcases hd with hd | ⟨od, hd⟩
  · refine .inl ⟨d, .dT kvs, vis_sub (e.e.dT hd), trivial, fun od => ?_⟩
    obtain ⟨h1, a⟩ := e.lock (od := od) hd (.inl ⟨kvs, rfl⟩)
    have kr : Kr H (upd H d (.frz od (.dT kvs))) := .lock hd (.inl ⟨kvs, rfl⟩)
    refine e_dc (H := upd H d (.frz od (.dT kvs))) (S := S) (f := f) nd hl2 (i_keys (od := od) (kvs := kvs) (xs := xs) (R := R) (fx_lock hf hd) upd_same (hr.st kr)) hw hk (fun H2 v x e2 hx rx => hb H2 v x (kr.es e2) hx rx) N _ a _ fun v H' e' rv => ?_
    have hd' : H' d = some (.frz od (.dT kvs)) := e'.frz upd_same
    refine ⟨hd', q v _ (Es.unlock h1 (.inl ⟨kvs, rfl⟩) e' hd') ?_⟩
    have nD : d ∉ N := vis_in (a.e.frz upd_same)
    rw [vis_upd nD]
    exact (rD S).st (Kr.unlock (by rw [vis_ne nD]; exact hd') (.inl ⟨kvs, rfl⟩)) rv
  · exact .inr (e_dc nd hl2 (i_keys (od := od) hf hd hr) hw hk (fun H2 v x e2 hx rx => hb H2 v x e2.kr hx rx) N H1 e Q q)
/-- x = [e for key in dict if t] -/
theorem q_setK {f : Pr → β} {p : Pr → Bool} {j : Nat} {G : Hp} (ok : Nok N G) (hf : Fx td σ (vis N G) (.ref d)) (hd : Rd (vis N G) d (.dT kvs)) (hr : DpR R (vis N G) kvs xs) (hw : ∀ v, wipe ((wipe σ [k]).set k (some v)) [k] = wipe σ [k]) (hl : xs.length ≤ 1000000)
    (hb : ∀ H1 v x, Kr (vis N G) H1 → (LamX.Tabs T (vis N G) → LamX.Tabs T H1) → x ∈ xs.map (·.1) → rP.r H1 v x → EvT T tt ((wipe σ [k]).set k (some v)) H1 (p x) ∧ (p x = true → Ev T te ((wipe σ [k]).set k (some v)) H1 S (f x)))
    (q : ∀ v G', Es T G G' → (rL S).r (vis N G') v (((xs.map (·.1)).filter p).map f) → D.nx (σ.set j (some v)) G') : tLockS (tAsg (tLc (iKeys td) (gName k) tt te [k]) (gName j)) D σ G := by
  have h := e_lcK (T := T) (S := S) (f := f) (p := p) (tt := tt) (te := te) hf hd hr hw hl hb N G (.self ok) (fun v H' => D.nx (σ.set j (some v)) H') q
  rcases h with ⟨d', u, h1, h2, h3⟩ | h
  · exact .inl ⟨d', u, h1, h2, fun od => h3 od⟩
  · exact .inr h
theorem e_ifT {Post : α → Prop} (h : EvT T tt σ H true) (ha : Evp T ta σ H R Post) : Evp T (tIf tt ta tb) σ H R Post := fun N H1 e Q q => h N H1 e _ fun H2 e2 => ha N H2 (e.step e2) Q fun v H3 y e3 hy r => q v H3 y (e2.trans e3) hy r
theorem e_minkey {ws : List Wd} (t : LamX.Tabs T H) (h : Ev T te σ H (rL rW) ws) (hn : 0 < ws.length) (hw : ∀ l ∈ ws, l.length ≤ 16000000) : Evp T (tMinKey T te) σ H rW fun l => l ∈ ws := fun N H1 e Q q =>
  h N H1 e _ fun v H2 e2 ⟨p, vs, h1, h2, h3⟩ => ⟨(e.full.trans e2).t t, p, ws, by rw [h1], by
    have : vs = ws.map fun l => V.str (wS l) := pr_eq (g := fun l : Wd => V.str (wS l)) h3
    rw [← this]
    exact vis_sub h2, hn, hw, fun l hl G2 e3 => q _ G2 l (e2.trans e3) hl rfl⟩
theorem q_dputp {kk : Pr} {G : Hp} {M : List Addr} {ty : TE} {Post : α → Prop} (ok : Nok M G) (hv : Evp T tv σ (vis M G) R Post) (hi : σ[i]? = some (some (.ref d))) (hk : Ev T ty σ (vis M G) rP kk) (hd : G d = some (.dT kvs)) (hl : kvs.length < sizeLine)
    (q : ∀ v G' x, Es T G G' → Post x → R.r (vis M G') v x → D.nx σ (upd G' d (.dT (putK kvs (pK kk) v)))) : sDPut (tVar i) ty tv D σ G :=
  hv M G (.self ok) _ fun v H1 x e1 hx rv => ⟨_, hi, hk M H1 ((At.self ok).step e1) _ fun a H2 e2 ra => by
    obtain ⟨p, rfl, hp⟩ := rP_key ra
    exact ⟨d, _, rfl, .inr ⟨kvs, pK kk, p, e2.dT (e1.dT hd), rfl, vis_sub hp, hl, rfl⟩, q v H2 x (e1.trans e2) hx (Rel.up rv ((At.self ok).step e1).ok e2)⟩⟩
end

end K29
set_option autoImplicit false
set_option maxHeartbeats 4000000
namespace K29
open PySem PySem.Spec PyProof.Rows L2
/-! Lists held against the empty list; places in texts and lists. -/
section
variable {T : List (Addr × Str)} {K : PySem.W.Frag} {α β : Type} {σ : L2.St} {H : Hp} {N : List Addr} {R : Rel α} {S : Rel β} {ta te : TE}
theorem dpl_words {H : Hp} : ∀ {vs : List V} {l : List Nat}, Paired (rLt.r H) vs l → DpAll K H vs (l.map fun n => PyData.str (wS [n]))
  | _, _, .nil => .nil
  | _, _, .cons r t => .cons (by rw [show _ = V.str _ from r]; exact .str _) (dpl_words t)
theorem DpAll.mono {H H' : Hp} (h : ∀ v d, Dp K H v d → Dp K H' v d) : ∀ {vs : List V} {ds : List PyData}, DpAll K H vs ds → DpAll K H' vs ds
  | _, _, .nil => .nil
  | _, _, .cons r t => .cons (h _ _ r) (DpAll.mono h t)
theorem sh_words : ∀ (l : List Nat), (∀ n ∈ l, n < 5) → PyData.canLayAll0 (l.map fun n => PyData.str (wS [n])) = true ∧ PyData.depthAll (l.map fun n => PyData.str (wS [n])) = 0
  | [], _ => ⟨rfl, rfl⟩
  | n :: l, h => by
    obtain ⟨h1, h2⟩ := sh_words l fun m hm => h m (List.mem_cons_of_mem _ hm)
    have hn := h n (List.mem_cons_self ..)
    have h3 : ∀ m : Fin 5, PyData.canLay0 (.str (wS [m.1])) = true := by decide +kernel
    refine ⟨?_, ?_⟩
    · show (PyData.canLay0 (.str (wS [n])) && PyData.canLayAll0 _) = true
      rw [h1, h3 ⟨n, hn⟩]
      rfl
    · show max (PyData.depth (.str (wS [n]))) (PyData.depthAll _) = 0
      rw [h2]
      rfl
theorem o_eqNil {l : List Nat} (hl : ∀ n ∈ l, n < 5) : RV T (rEqD K) (rL rLt) l (rL R) [] rB (decide (l = [])) := fun N H a b ok ⟨p, vs, h1, h2, h3⟩ ⟨p2, vs2, h4, h5, h6⟩ Q q => by
  cases h6
  have g := sh_words l hl
  refine ⟨.list (l.map fun n => PyData.str (wS [n])), .list [], by rw [h1]; exact .lst (SqL.of (vis_sub h2)) (dpl_words h3), by rw [h4]; exact .lst (SqL.of (vis_sub h5)) .nil, ?_, by decide +kernel, ?_⟩
  · unfold SeqAt.shaped
    rw [Bool.and_eq_true, decide_eq_true_eq]
    refine ⟨g.1, ?_⟩
    show PyData.depthAll _ + 1 ≤ 64
    rw [g.2]
    decide
  · have : PyData.eqv (.list (l.map fun n => PyData.str (wS [n]))) (.list []) = decide (l = []) := by cases l <;> rfl
    rw [this]
    exact q _ H (.refl _) rfl
theorem o_neNil : RV T (rNeD K) (rL R) ([] : List α) (rL S) ([] : List β) rB false := fun N H a b ok ⟨p, vs, h1, h2, h3⟩ ⟨p2, vs2, h4, h5, h6⟩ Q q => by
  cases h3
  cases h6
  exact ⟨.list [], .list [], by rw [h1]; exact .lst (SqL.of (vis_sub h2)) .nil, by rw [h4]; exact .lst (SqL.of (vis_sub h5)) .nil, by decide +kernel, by decide +kernel, q (.bl false) H (.refl _) rfl⟩
/-- a letter's place in the letters -/
theorem e_idx {s : Str} {n : Nat} (h : Ev T te σ H rLt n) (hs : Txt.index0 s (wS [n]) = some n) : Ev T (tBMS K "str" (rIndexX fun _ _ _ _ => False) (tC (.str s)) (tCons te tNil)) σ H rNat n := fun N H1 e Q q =>
  ⟨rfl, h N H1 e _ fun v H2 e2 r => ⟨s, wS [n], rfl, by rw [show v = V.str _ from r], fun k hk => by
    rw [hs] at hk
    cases hk
    exact q _ H2 e2 rfl, fun z => by rw [hs] at z; cases z⟩⟩
theorem idx5 {n : Nat} (h : n < 5) : Txt.index0 "abcde" (wS [n]) = some n := by
  have : ∀ m : Fin 5, Txt.index0 "abcde" (wS [m.1]) = some m.1 := by decide +kernel
  exact this ⟨n, h⟩
theorem idx3 {n : Nat} (h : n < 3) : Txt.index0 "abc" (wS [n]) = some n := by
  have : ∀ m : Fin 3, Txt.index0 "abc" (wS [m.1]) = some m.1 := by decide +kernel
  exact this ⟨n, h⟩
theorem takes_none {X : Cx} : Takes X fun _ _ _ _ => False := fun _ _ ⟨_, _, _, _, _, _, _, _, _, _, _, _, _, _, _, _, w⟩ => w.elim
theorem o_ixW {l : Wd} {k : Nat} {n : Nat} (hl : l.length ≤ 16000000) (h : l[k]? = some n) : RV T rIxS rW l rInt (k : Int) rLt n := fun N H a b ok ra rb Q q =>
  ⟨wS l, k, 97 + n, ra, rb, by rw [wS_len]; exact Nat.le_trans hl (by decide), atI_nat (by rw [wS_codes, List.getElem?_map, h]; rfl), q _ H (.refl _) rfl⟩
theorem inV_nat (n : Nat) : ∀ (l : List Nat), inV (.int (n : Int)) (l.map fun m : Nat => V.int (m : Int)) = decide (n ∈ l)
  | [] => rfl
  | m :: l => by
    show (eqV (.int (m : Int)) (.int (n : Int)) || inV (.int (n : Int)) (l.map fun m : Nat => V.int (m : Int))) = _
    rw [inV_nat n l]
    show (((m : Int) == (n : Int)) || decide (n ∈ l)) = _
    rw [Bool.eq_iff_iff, Bool.or_eq_true, beq_iff_eq, decide_eq_true_eq, decide_eq_true_eq, List.mem_cons]
    exact ⟨fun h => h.elim (fun z => .inl (by omega)) .inr, fun h => h.elim (fun z => .inl (by omega)) .inr⟩
theorem flat_nat (l : List Nat) : (l.map fun m : Nat => V.int (m : Int)).all flatV = true := by
  rw [List.all_map]
  exact List.all_eq_true.mpr fun _ _ => rfl
theorem nat_vs {H : Hp} {vs : List V} {l : List Nat} (h : Paired (rNat.r H) vs l) : vs = l.map fun m : Nat => V.int (m : Int) := pr_eq (g := fun m : Nat => V.int (m : Int)) h
theorem o_inT {n : Nat} {l : List Nat} : RV T (rIn K false) rNat n (rT rNat) l rB (decide (n ∈ l)) := fun N H a b ok ra ⟨p, vs, h1, h2, h3⟩ Q q => by
  cases nat_vs h3
  cases ra
  exact ⟨p, _, h1, .inr (SqT.of (vis_sub h2)), rfl, flat_nat l, by rw [if_neg (by decide), inV_nat]; exact q _ H (.refl _) rfl⟩
theorem inV_word (a : Wd) : ∀ (l : List Wd), inV (.str (wS a)) (l.map fun m => V.str (wS m)) = decide (a ∈ l)
  | [] => rfl
  | m :: l => by
    show (eqV (.str (wS m)) (.str (wS a)) || inV (.str (wS a)) (l.map fun m => V.str (wS m))) = _
    rw [inV_word a l]
    show ((wS m == wS a) || decide (a ∈ l)) = _
    rw [Bool.eq_iff_iff, Bool.or_eq_true, beq_iff_eq, decide_eq_true_eq, decide_eq_true_eq, List.mem_cons]
    exact ⟨fun h => h.elim (fun z => .inl (wS_inj z).symm) .inr, fun h => h.elim (fun z => .inl (by rw [z])) .inr⟩
theorem flat_word (l : List Wd) : (l.map fun m => V.str (wS m)).all flatV = true := by
  rw [List.all_map]
  exact List.all_eq_true.mpr fun _ _ => rfl
theorem word_vs {H : Hp} {vs : List V} {l : List Wd} (h : Paired (rW.r H) vs l) : vs = l.map fun m => V.str (wS m) := pr_eq (g := fun m : Wd => V.str (wS m)) h
theorem o_niL {a : Wd} {l : List Wd} : RV T (rIn K true) rW a (rL rW) l rB (!decide (a ∈ l)) := fun N H x b ok ra ⟨p, vs, h1, h2, h3⟩ Q q => by
  cases word_vs h3
  cases ra
  exact ⟨p, _, h1, .inl (SqL.of (vis_sub h2)), rfl, flat_word l, by rw [if_pos rfl, inV_word]; exact q _ H (.refl _) rfl⟩
end
section
variable {X : Cx} {K : PySem.W.Frag} {T id : String} {name : Str} {o e : Expr} {es : List Expr} {to : TE} {t : TA} {apos cpos : Pos}
theorem wBm {r : V → List V → Hp → VK → Prop} (pa : PlainAttrs T) (slot : Slot T name id) (hty : typeOf (.builtin id) = pure (.type "method_descriptor")) (hm : MtR X id r) (ho : PE X o to) (ha : PA X (e :: es) t) (h : X.K = K := by rfl)
    (hbase : attributeBase o name X.env (eval o X.env) = eval o X.env := by rfl)
    (hfew : ((backTo cpos (starEach (e :: es) X.env)).all (fun x => !x.1) && (backToKw cpos (keywordEach [] X.env)).all (fun x => x.1.isSome)
      && decide ((e :: es).length + ([] : List Keyword).length + (if ([] : List Keyword).isEmpty then 0 else 1) < 30)) = true := by rfl)
    (hline : (apos.endLine == cpos.line) = true := by rfl) (hs : starEach (e :: es) X.env = (false, eval e X.env) :: starEach es X.env := by rfl) (hplain : (backTo cpos (starEach es X.env)).any (·.1) = false := by rfl) :
    PE X (.Call (.Attribute o name apos) (e :: es) [] cpos) (tBM K T r to t) := by
  subst h
  exact pe_bm pa slot hty hm ho ha hbase hfew hline hs hplain
theorem wBmS {r : L2.St → V → List V → Hp → VK → Prop} (pa : PlainAttrs T) (slot : Slot T name id) (hty : typeOf (.builtin id) = pure (.type "method_descriptor")) (hm : MtS X id r) (ho : PE X o to) (ha : PA X (e :: es) t) (h : X.K = K := by rfl)
    (hbase : attributeBase o name X.env (eval o X.env) = eval o X.env := by rfl)
    (hfew : ((backTo cpos (starEach (e :: es) X.env)).all (fun x => !x.1) && (backToKw cpos (keywordEach [] X.env)).all (fun x => x.1.isSome)
      && decide ((e :: es).length + ([] : List Keyword).length + (if ([] : List Keyword).isEmpty then 0 else 1) < 30)) = true := by rfl)
    (hline : (apos.endLine == cpos.line) = true := by rfl) (hs : starEach (e :: es) X.env = (false, eval e X.env) :: starEach es X.env := by rfl) (hplain : (backTo cpos (starEach es X.env)).any (·.1) = false := by rfl) :
    PE X (.Call (.Attribute o name apos) (e :: es) [] cpos) (tBMS K T r to t) := by
  subst h
  exact pe_bmS pa slot hty hm ho ha hbase hfew hline hs hplain
end

end K29
set_option autoImplicit false
set_option maxHeartbeats 4000000
namespace K29
open PySem PySem.Spec PyProof.Rows L2
/-! A box: a hidden list of two whole numbers that draws change. -/
def IsBox (H : Hp) (b : Addr) : Prop := ∃ g r : Int, H b = some (.lst [.int g, .int r])
/-- from H1 to H2 nothing that is known has changed but the box -/
structure Bx (T : List (Addr × Str)) (N : List Addr) (b : Addr) (H1 H2 : Hp) : Prop where
  at_ : At T N (K29.vis N H1) H2
  same : ∀ n ∈ N, n ≠ b → H2 n = H1 n
  box : IsBox H2 b
section
variable {T : List (Addr × Str)} {α β γ δ : Type} {σ : L2.St} {H H0 H1 H2 H3 : Hp} {N M : List Addr} {R : Rel α} {S : Rel β} {U : Rel γ} {te ta tb tc td : TE} {tr : TA} {tt : TT} {i k : Nat} {D : Ends} {b d : Addr} {Post : α → Prop} {x : α}
theorem IsBox.es (h : IsBox H b) (e : Es T H H1) : IsBox H1 b := let ⟨g, r, q⟩ := h; ⟨g, r, e.lst q⟩
theorem Bx.refl (k : Nok N H) (h : IsBox H b) : Bx T N b H H := ⟨.self k, fun _ _ _ => rfl, h⟩
theorem Nok.same2 (k : Nok N H) (e : Es T H H1) : ∀ a ∈ N, H1 a = H a := fun a ha => by
  obtain ⟨o, h1, h2⟩ := k a ha
  rw [h1, e.k a o h1 h2.a]
theorem Bx.of (k : Nok N H) (h : IsBox H b) (e : Es T H H1) : Bx T N b H H1 := ⟨(At.self k).step e, fun n hn _ => k.same2 e n hn, h.es e⟩
theorem Bx.trans (a : Bx T N b H H1) (c : Bx T N b H1 H2) : Bx T N b H H2 := ⟨c.at_.base a.at_.e, fun n hn q => by rw [c.same n hn q, a.same n hn q], c.box⟩
theorem Bx.ok (a : Bx T N b H H1) : Nok N H1 := a.at_.ok
theorem Bx.step (a : Bx T N b H H1) (e : Es T H1 H2) : Bx T N b H H2 := a.trans (.of a.ok a.box e)
theorem Bx.up {v : V} (a : Bx T N b H H1) (r : R.r (vis N H) v x) : R.r (vis N H1) v x := Rel.es r a.at_.e
theorem At.bx (a : At T N H0 H1) (c : Bx T N b H1 H2) : At T N H0 H2 := c.at_.base a.e
/-- an expression that may draw -/
def Evb (T : List (Addr × Str)) (b : Addr) {α : Type} (te : TE) (σ : L2.St) (H : Hp) (R : Rel α) (Post : α → Prop) : Prop := ∀ N H1, b ∈ N → At T N H H1 → IsBox H1 b → ∀ Q : VK, (∀ v H2 y, Bx T N b H1 H2 → Post y → R.r (vis N H2) v y → Q v H2) → te σ H1 Q
def EvbA (T : List (Addr × Str)) (b : Addr) (ta : TA) (σ : L2.St) (H : Hp) (P : Hp → List V → Prop) : Prop := ∀ N H1, b ∈ N → At T N H H1 → IsBox H1 b → ∀ Q : List V → Hp → Prop, (∀ vs H2, Bx T N b H1 H2 → P (vis N H2) vs → Q vs H2) → ta σ H1 Q
theorem Evp.bx (h : Evp T te σ H R Post) : Evb T b te σ H R Post := fun N H1 _ e hx Q q => h N H1 e Q fun v H2 y e2 hy r => q v H2 y (.of e.ok hx e2) hy r
theorem Ev.bx (h : Ev T te σ H R x) : Evb T b te σ H R fun y => y = x := Evp.bx (Ev.p (Post := fun y => y = x) h rfl)
theorem Evb.imp {Post' : α → Prop} (h : Evb T b te σ H R Post) (i : ∀ y, Post y → Post' y) : Evb T b te σ H R Post' := fun N H1 hb e hx Q q => h N H1 hb e hx Q fun v H2 y e2 hy r => q v H2 y e2 (i y hy) r
theorem Evb.mono (h : Evb T b te σ H R Post) (e : Es T H H0) : Evb T b te σ H0 R Post := fun N H1 hb a => h N H1 hb (a.base e)
theorem ab_nil : EvbA T b tNil σ H (fun _ vs => vs = []) := fun N H1 _ e hx Q q => q [] H1 (.refl e.ok hx) rfl
theorem ab_cons {P : Hp → List V → Prop} {Ps : β → Prop} (h : Evb T b ta σ H S Ps) (hr : EvbA T b tr σ H P) : EvbA T b (tCons ta tr) σ H (fun G vs => ∃ v r y, vs = v :: r ∧ Ps y ∧ S.r G v y ∧ P G r) := fun N H1 hb e hx Q q =>
  h N H1 hb e hx _ fun v H2 y e2 hy r => hr N H2 hb (e.bx e2) e2.box _ fun vs H3 e3 p => q _ H3 (e2.trans e3) ⟨v, vs, y, rfl, hy, e3.up r, p⟩
/-- the promise of a def that draws: the box, the other arguments -/
def SpB (T : List (Addr × Str)) (A : Hp → List V → β → Prop) (R : Rel α) (Post : β → α → Prop) : Sp := fun vs H Q _ => ∃ N b x vs', b ∈ N ∧ Nok N H ∧ IsBox H b ∧ vs = .ref b :: vs' ∧ A (vis N H) vs' x ∧ ∀ v H' y, Bx T N b H H' → Post x y → R.r (vis N H') v y → Q v H'
theorem e_callB {A : Hp → List V → β → Prop} {Ps : β → α → Prop} {E : XK} {P : Hp → List V → Prop} (hi : σ[i]? = some (some (.ref b))) (h : EvbA T b tr σ H P) (hr : ∀ G vs, P G vs → ∃ z, A G vs z ∧ ∀ y, Ps z y → Post y) : Evb T b (tCall (SpB T A R Ps) [] E (tCons (tVar i) tr)) σ H R Post := fun N H1 hb e hx Q q =>
  ⟨_, hi, h N H1 hb e hx _ fun vs H2 e2 p => by
    show SpB T A R Ps ((V.ref b :: vs) ++ []) H2 Q E
    rw [List.append_nil]
    obtain ⟨z, ha, hp⟩ := hr _ vs p
    exact ⟨N, b, z, vs, hb, e2.ok, e2.box, rfl, ha, fun v H3 y e3 hy r3 => q v H3 y (e2.trans e3) (hp y hy) r3⟩⟩
theorem q_retb (hb : b ∈ N) (ok : Nok N H) (hx : IsBox H b) (h : Evb T b te σ (vis N H) R Post) (k : ∀ v H' y, Bx T N b H H' → Post y → R.r (vis N H') v y → D.rt v H') : tRet te D σ H := h N H hb (.self ok) hx _ k
theorem q_setb (hb : b ∈ N) (ok : Nok N H) (hx : IsBox H b) (h : Evb T b te σ (vis N H) R Post) (k : ∀ v H' y, Bx T N b H H' → Post y → R.r (vis N H') v y → D.nx (σ.set i (some v)) H') : tAsg te (gName i) D σ H := h N H hb (.self ok) hx _ k
theorem e_ifb {te' : TE} {c : Bool} (h : EvT T tt σ H c) (h1 : c = true → Evb T b ta σ H R Post) (h2 : c = false → Evb T b te' σ H R Post) : Evb T b (tIf tt ta te') σ H R Post := fun N H1 hb e hx Q q => h N H1 e _ fun H2 e2 => by
  have a2 := e.step e2
  have bx : Bx T N b H1 H2 := .of e.ok hx e2
  cases c with
  | true => exact h1 rfl N H2 hb a2 bx.box Q fun v H3 y e3 hy r => q v H3 y (bx.trans e3) hy r
  | false => exact h2 rfl N H2 hb a2 bx.box Q fun v H3 y e3 hy r => q v H3 y (bx.trans e3) hy r
theorem At.unhide (a : At T (d :: N) H0 H1) : At T N H0 H1 := ⟨fun n hn => a.ok n (List.mem_cons_of_mem _ hn), a.e.trans (.of fun c o h => by
  unfold vis at h ⊢
  by_cases hc : c ∈ N
  · rw [if_pos (List.mem_cons_of_mem _ hc)] at h; cases h
  · rw [if_neg hc]
    by_cases hd : c ∈ d :: N
    · rw [if_pos hd] at h; cases h
    · rw [if_neg hd] at h; exact h)⟩
/-- a walk's source that may draw, at one heap -/
def EvIb (T : List (Addr × Str)) (b : Addr) {α : Type} (wi : TI) (σ : L2.St) (N : List Addr) (H : Hp) (R : Rel α) (Post : List α → Prop) : Prop := ∀ Q : It → Hp → Prop,
  (∀ xs J H2 G Y, Bx T N b H H2 → Post xs → (∀ M G1, At T M (vis N H2) G1 → G G1) → Walk J xs.length G Y → (∀ i G1 v G2 M, i < xs.length → At T M (vis N H2) G1 → Y i G1 v G2 → Es T G1 G2 ∧ ∃ y, xs[i]? = some y ∧ R.r (vis M G2) v y) → Q J H2) → wi σ H Q
theorem EvI.bx {wi : TI} {xs : List α} (ok : Nok N H) (hx : IsBox H b) (h : EvI T wi σ (vis N H) R xs) : EvIb T b wi σ N H R fun ys => ys = xs := fun Q q => h N H (.self ok) Q fun J H2 G Y e2 gs w hy => q xs J H2 G Y (.of ok hx e2) rfl gs w hy
/-- [e for x in xs], e may draw; the list is new -/
theorem q_lcB {wi : TI} {Px : List α → Prop} {Ps : α → β → Prop} {Q : VK} (hb : b ∈ N) (ok : Nok N H) (h : EvIb T b wi σ N H R Px) (hw : ∀ v, wipe ((wipe σ [k]).set k (some v)) [k] = wipe σ [k]) (hl : ∀ xs, Px xs → xs.length ≤ 1000000)
    (he : ∀ H1 v x xs, Es T (vis N H) H1 → Px xs → x ∈ xs → R.r H1 v x → Evb T b te ((wipe σ [k]).set k (some v)) H1 S (Ps x))
    (q : ∀ p H2 vs xs ys, Bx T N b H H2 → (∀ o, H p = some o → ∃ ps, o = .tbl ps) → p ∉ N → H2 p = some (.lst vs) → Nok (p :: N) H2 → Paired (S.r (vis (p :: N) H2)) vs ys → Px xs → ys.length = xs.length → (∀ (i : Nat) (x : α) (y : β), xs[i]? = some x → ys[i]? = some y → Ps x y) → Q (.ref p) H2) : tLc wi (gName k) tYes te [k] σ H Q :=
  h _ fun xs J H2 G Y e2 hpx gs w hy Da hD => by
    have hl := hl xs hpx
    have nb : ∀ n ∈ N, n ≠ Da := fun n hn z => by
      obtain ⟨o, h1, _⟩ := e2.ok n hn
      rw [z, hD] at h1
      cases h1
    have hbD : b ≠ Da := nb b hb
    refine lc_it w (Pv := fun i G' => At T (Da :: N) (vis N H2) G' ∧ (∀ n ∈ N, n ≠ b → G' n = H2 n) ∧ IsBox G' b ∧ ∃ acc ys, G' Da = some (.lst acc) ∧ ys.length = i ∧ Paired (S.r (vis (Da :: N) G')) acc ys ∧ ∀ (i : Nat) (x : α) (y : β), xs[i]? = some x → ys[i]? = some y → Ps x y)
      ⟨(At.self e2.ok).hide hD (.lst _), fun n hn _ => upd_ne (nb n hn), let ⟨g, r, z⟩ := e2.box; ⟨g, r, by rw [upd_ne hbD]; exact z⟩, [], [], upd_same, rfl, .nil, fun i x y _ z => by simp at z⟩ (fun i G' _ ⟨a, _⟩ => gs _ _ a) (fun i v G1 G2 hi ⟨a, sm, bx, acc, ys, ha, hyl, hp, hps⟩ y => ?_) fun G' ⟨a, sm, bx, acc, ys, ha, hyl, hp, hps⟩ => ?_
    · obtain ⟨e12, x, hx, rx⟩ := hy i G1 v G2 _ hi a y
      have a3 := a.step e12
      have bx3 : IsBox G2 b := bx.es e12
      refine ⟨hw v, ?_⟩
      refine he (vis (Da :: N) G2) v x xs (e2.at_.e.trans a3.e) hpx (List.mem_of_getElem? hx) rx (Da :: N) G2 (List.mem_cons_of_mem _ hb) (.self a3.ok) bx3 _ fun u G4 yv e4 hyv ru => ?_
      have hD4 : G4 Da = some (.lst acc) := by rw [e4.same Da (List.mem_cons_self ..) hbD.symm]; exact e12.lst ha
      have hal := Paired.length hp
      refine ⟨acc, hD4, by have : sizeLine = 16777216 := sizeLine_eq; omega, (a3.bx e4).put (.lst _), fun n hn q => ?_, let ⟨g, r, z⟩ := e4.box; ⟨g, r, by rw [upd_ne hbD]; exact z⟩, _, ys ++ [yv], upd_same, by rw [List.length_append, hyl]; rfl, ?_, fun j x' y' h1 h2 => ?_⟩
      · rw [upd_ne (nb n hn), e4.same n (List.mem_cons_of_mem _ hn) q, (fun n hn => by
          obtain ⟨o, h1, h2⟩ := a.ok n hn
          rw [h1, e12.k n o h1 h2.a] : ∀ n ∈ Da :: N, G2 n = G1 n) n (List.mem_cons_of_mem _ hn)]
        exact sm n hn q
      · rw [vis_hide]
        exact pr_snoc (Paired.mapP hp fun _ _ h => e4.up (Rel.es (T := T) h (e12.vis a.ok))) ru
      · by_cases hj : j < ys.length
        · rw [List.getElem?_append_left hj] at h2
          exact hps j x' y' h1 h2
        · rw [List.getElem?_append_right (by omega)] at h2
          by_cases hj2 : j = i
          · subst hj2
            rw [hyl, Nat.sub_self] at h2
            rw [hx] at h1
            cases h1
            cases h2
            exact hyv
          · rw [List.getElem?_eq_none (by simp; omega)] at h2
            cases h2
    · have hDN : Da ∉ N := fun z => nb Da z rfl
      have hD0 : ∀ o, H Da = some o → ∃ ps, o = HO.tbl ps := fun o ho => Classical.byContradiction fun hne => by
        have h1 := vis_sub (e2.at_.e.k Da o (vis_open ho hDN) fun ps z => hne ⟨ps, z⟩)
        rw [hD] at h1
        cases h1
      exact q Da G' acc xs ys ⟨(a.unhide).base e2.at_.e, fun n hn z => by rw [sm n hn z, e2.same n hn z], bx⟩ hD0 hDN ha a.ok hp hpx hyl hps
/-- the same as a value -/
theorem e_lcB {wi : TI} {xs : List α} {Ps : α → β → Prop} (h : EvI T wi σ H R xs) (hw : ∀ v, wipe ((wipe σ [k]).set k (some v)) [k] = wipe σ [k]) (hl : xs.length ≤ 1000000)
    (he : ∀ H1 v x, Es T H H1 → x ∈ xs → R.r H1 v x → Evb T b te ((wipe σ [k]).set k (some v)) H1 S (Ps x)) : Evb T b (tLc wi (gName k) tYes te [k]) σ H (rL S) fun ys => ys.length = xs.length ∧ ∀ (i : Nat) (x : α) (y : β), xs[i]? = some x → ys[i]? = some y → Ps x y := fun N H1 hb e hx Q q => by
  have h' : EvI T wi σ (vis N H1) R xs := fun N2 H2 a => h N2 H2 (a.base e.e)
  refine q_lcB (S := S) (Px := fun ys => ys = xs) (Ps := Ps) hb e.ok (h'.bx e.ok hx) hw (fun xs' h => by rw [h]; exact hl) (fun H2 v x xs' e2 hx' hm rx => by subst hx'; exact he H2 v x (e.e.trans e2) hm rx) fun p H2 vs xs' ys bx _ nD hp okp hpr hx' hlen hps => ?_
  subst hx'
  exact q _ H2 ys bx ⟨hlen, hps⟩ ⟨p, vs, rfl, vis_open hp nD, pr_st (vis_back p) hpr⟩
theorem Bx.put (a : Bx T N b H H1) (hb : b ∈ N) (g r : Int) : Bx T N b H (upd H1 b (.lst [.int g, .int r])) := ⟨a.at_.put2 hb (.lst _), fun n hn q => by rw [upd_ne q]; exact a.same n hn q, g, r, upd_same⟩
/-- the box seen -/
theorem box_vis {g r : Int} (h : H b = some (.lst [.int g, .int r])) : (rL rInt).r (vis (N.filter fun a => decide (a ≠ b)) H) (.ref b) [g, r] := ⟨b, _, rfl, by
  rw [vis_ne fun z => ?_]
  · exact h
  · have := (List.mem_filter.mp z).2
    simp at this, .cons rfl (.cons rfl .nil)⟩
theorem box_nok (k : Nok N H) : Nok (N.filter fun a => decide (a ≠ b)) H := fun n hn => k n (List.mem_filter.mp hn).1
end
section
variable {P : Program} {w : World} {K : PySem.W.Frag} {mg : Str → Option Value} {base : Heap}
theorem cl_spB {T : List (Addr × Str)} {α β : Type} {A : Hp → List V → α → Prop} {R : Rel β} {Post : α → β → Prop} {x : Str} {st : Stmt} {Ns ps : List Str} {k : Nat} (D : Dx K mg x st ps) (S : FnScope Ns ps (defScope st)) (len : ∀ G vs z, A G vs z → vs.length + 1 = ps.length)
    (hbody : ∀ (f : Addr) (cdv : Value) (Ar : Around) (outer : List Env) (s : Shared) (H : Hp) (vs : List V) (E : XK) (N : List Addr) (b : Addr) (z : α), Room k (Ar.deeper (envOfC x (defScope st) s.heap.objs.size f cdv)) → b ∈ N → Nok N H → IsBox H b → A (vis N H) vs z →
      ∃ t, PSs (cxOf L2.CX0 P w K mg base Ns x (defScope st) f cdv Ar outer s H E).nox (defBody st) t ∧ ∀ Q : VK, (∀ v H' y, Bx T N b H H' → Post z y → R.r (vis N H') v y → Q v H') → t { nx := fun _ H' => Q .non H', rt := Q } (L2.start Ns (.ref b :: vs)) H) :
    Cl P w K mg base (k + 1) x (SpB T A R Post) := by
  refine cl_any D S (fun vs H Q E ⟨N, b, z, vs', _, _, _, e, h, _⟩ => by rw [e, ← len _ _ _ h]; rfl) fun f cdv Ar outer s H vs Q E hr ⟨N, b, z, vs', hb, ok, hx, e, h, q⟩ => ?_
  subst e
  obtain ⟨t, h1, h2⟩ := hbody f cdv Ar outer s H vs' E N b z hr hb ok hx h
  exact ⟨t, h1, h2 Q q⟩
end
theorem wIxA {X : Cx} (K : PySem.W.Frag) (h : X.K = K := by rfl) : IxR X (rIx K) := by subst h; exact ix_seq

end K29
set_option autoImplicit false
set_option maxHeartbeats 4000000
namespace K29
open PySem PySem.Spec PyProof.Rows L2
/-! The walks, 1: words and questions. -/
def many (tabs : List (List Nat)) : Nat := (tabs.headD []).length
/-- an instance of Device with such tables -/
def rDev (C : Addr) : Rel (List (List Nat)) := ⟨fun H v tabs => ∃ d dx fs tv, v = .ref d ∧ H d = some (.ins C dx fs) ∧ fs.lookup ("states" : Str) = some (.int (many tabs : Int)) ∧ fs.lookup ("signals" : Str) = some (.str (wS (List.range tabs.length))) ∧ fs.lookup ("tables" : Str) = some tv ∧ (rT (rT rNat)).r H tv tabs,
  fun e ⟨d, dx, fs, tv, h1, h2, h3, h4, h5, h6⟩ => ⟨d, dx, fs, tv, h1, e.ins h2, h3, h4, h5, (rT (rT rNat)).st e h6⟩⟩
/-- the devices that the law makes -/
structure Gt (tabs : List (List Nat)) : Prop where
  n1 : 1 ≤ tabs.length
  n3 : tabs.length ≤ 3
  m3 : 3 ≤ many tabs
  m5 : many tabs ≤ 5
  row : ∀ t ∈ tabs, t.length = many tabs ∧ ∀ x ∈ t, x < many tabs
/-- any list -/
def rAny1 : Rel Unit := ⟨fun H v _ => ∃ p vs, v = .ref p ∧ H p = some (.lst vs), fun e ⟨p, vs, h1, h2⟩ => ⟨p, vs, h1, e.lst h2⟩⟩
theorem ty_any : ∀ (G : Hp) (v : V) (i : Unit), rAny1.r G v i → ∀ {K : PySem.W.Frag}, TyX K G v (.type "list") := fun _ _ i ⟨p, vs, r, h⟩ {_} => by rw [r]; exact .base (.lst h)
section
variable {P : Program} {w : World} {K : PySem.W.Frag} {mg : Str → Option Value} {base : Heap} {C : Addr} {TT : List (Addr × Str)} {σ : L2.St} {H : Hp} {te : TE} {tabs : List (List Nat)}
theorem e_any1 {α : Type} {R : Rel α} {xs : List α} (h : Ev TT te σ H (rL R) xs) : Ev TT te σ H rAny1 () := h.as fun _ _ ⟨p, vs, h1, h2, _⟩ => ⟨p, vs, h1, h2⟩
theorem e_states (T : Tx K mg C) (h : Ev TT te σ H (rDev C) tabs) : Ev TT (tFld K te "states") σ H rNat (many tabs) := fun N H1 e Q q =>
  h N H1 e _ fun v H2 e2 ⟨d, dx, fs, tv, h1, h2, h3, h4, h5, h6⟩ => ⟨d, C, dx, fs, _, h1, vis_sub h2, T.cl, T.nStates, h3, q _ H2 e2 rfl⟩
theorem e_signals (T : Tx K mg C) (h : Ev TT te σ H (rDev C) tabs) : Ev TT (tFld K te "signals") σ H rW (List.range tabs.length) := fun N H1 e Q q =>
  h N H1 e _ fun v H2 e2 ⟨d, dx, fs, tv, h1, h2, h3, h4, h5, h6⟩ => ⟨d, C, dx, fs, _, h1, vis_sub h2, T.cl, T.nSignals, h4, q _ H2 e2 rfl⟩
theorem e_tables (T : Tx K mg C) (h : Ev TT te σ H (rDev C) tabs) : Ev TT (tFld K te "tables") σ H (rT (rT rNat)) tabs := fun N H1 e Q q =>
  h N H1 e _ fun v H2 e2 ⟨d, dx, fs, tv, h1, h2, h3, h4, h5, h6⟩ => ⟨d, C, dx, fs, _, h1, vis_sub h2, T.cl, T.nTables, h5, q _ H2 e2 h6⟩

def sp_is_integer (TT : List (Addr × Str)) : Sp := SpG TT (A1 rInt fun _ => True) rB fun _ b => b = true
theorem ok_is_integer (T : Tx K mg C) : Cl P w K mg base 1 "is_integer" (sp_is_integer TT) := by
  refine cl_spG T.d_is_integer sc_is_integer A1.len fun f cdv A outer s H vs E M z hr ok h => ?_
  obtain ⟨v, rfl, hv, _⟩ := h
  refine ⟨_, (pss_one (ps_ret (pe_and (pe_callB (wIsi K) rfl T.f_isinstance bo_isinstance (pa_cons (pv 0) (pa_cons (pe_bltn (v := .ty "int") rfl T.f_int bo_int rfl) pa_nil))) (pe_one (pe_not (pe_callB (wIsi K) rfl T.f_isinstance bo_isinstance (pa_cons (pv 0) (pa_cons (pe_bltn (v := .ty "bool") rfl T.f_bool bo_bool rfl) pa_nil)))))))), fun Q q => ?_⟩
  exact q_ret (T := TT) ok ((e_and (e_isi (r := true) (e_var rfl hv) ty_int (by decide +kernel)) fun _ => e_not (e_isi (r := false) (e_var rfl hv) ty_int (by decide +kernel))).to (by rfl)) fun v H' e r => q v H' true e rfl r
def sp_is_number (TT : List (Addr × Str)) : Sp := SpG TT (A1 rInt fun _ => True) rB fun i b => b = decide (0 ≤ i)
theorem ok_is_number (T : Tx K mg C) : Cl P w K mg base 2 "is_number" (sp_is_number TT) := by
  refine cl_spG T.d_is_number sc_is_number A1.len fun f cdv A outer s H vs E M z hr ok h => ?_
  obtain ⟨v, rfl, hv, _⟩ := h
  refine ⟨_, (pss_one (ps_ret (pe_and (pe_cl (ok_is_integer (TT := TT) T) (hr.mono (by decide)) rfl (pa_cons (pv 0) pa_nil)) (pe_one (pe_cmpR op_ge (pv 0) pe_int (nomark _)))))), fun Q q => ?_⟩
  exact q_ret (T := TT) ok ((e_and (e_c1 (e_var rfl hv) trivial fun _ h => h) fun _ => e_op (e_var rfl hv) (e_int 0) o_B0).to (by rfl)) fun v H' e r => q v H' _ e rfl r
def sp_is_text (TT : List (Addr × Str)) : Sp := SpG TT (A1 rW fun _ => True) rB fun _ b => b = true
theorem ok_is_text (T : Tx K mg C) : Cl P w K mg base 1 "is_text" (sp_is_text TT) := by
  refine cl_spG T.d_is_text sc_is_text A1.len fun f cdv A outer s H vs E M z hr ok h => ?_
  obtain ⟨v, rfl, hv, _⟩ := h
  refine ⟨_, (pss_one (ps_ret (pe_callB (wIsi K) rfl T.f_isinstance bo_isinstance (pa_cons (pv 0) (pa_cons (pe_bltn (v := .ty "str") rfl T.f_str bo_str rfl) pa_nil))))), fun Q q => ?_⟩
  exact q_ret (T := TT) ok (e_isi (r := true) (e_var rfl hv) ty_W (by decide +kernel)) fun v H' e r => q v H' true e rfl r
def sp_is_sequence (TT : List (Addr × Str)) : Sp := SpG TT (A1 rAny1 fun _ => True) rB fun _ b => b = true
theorem ok_is_sequence (T : Tx K mg C) : Cl P w K mg base 1 "is_sequence" (sp_is_sequence TT) := by
  refine cl_spG T.d_is_sequence sc_is_sequence A1.len fun f cdv A outer s H vs E M z hr ok h => ?_
  obtain ⟨v, rfl, hv, _⟩ := h
  refine ⟨_, (pss_one (ps_ret (pe_callB (wIsiT K) rfl T.f_isinstance bo_isinstance (pa_cons (pv 0) (pa_cons (pe_tup (pa_cons (pe_bltn (v := .ty "list") rfl T.f_list bo_list rfl) (pa_cons (pe_bltn (v := .ty "tuple") rfl T.f_tuple bo_tuple rfl) pa_nil))) pa_nil))))), fun Q q => ?_⟩
  exact q_ret (T := TT) ok ((e_isi2 (r1 := true) (r2 := false) (e_var rfl hv) (fun G v i r => ty_any G v i r (K := K)) (by decide +kernel) (by decide +kernel))) fun v H' e r => q v H' true e rfl r
def sp_is_lot_of (TT : List (Addr × Str)) : Sp := SpG TT (A2 rW rW fun _ l => l.length ≤ 1000) rB fun z b => b = decide (z.1 = z.2.filter fun c => decide (c ∈ z.1))
theorem ok_is_lot_of (T : Tx K mg C) : Cl P w K mg base 2 "is_lot_of" (sp_is_lot_of TT) := by
  refine cl_spG T.d_is_lot_of sc_is_lot_of A2.len fun f cdv A outer s H vs E M z hr ok h => ?_
  obtain ⟨v, u, rfl, hv, hu, pre⟩ := h
  refine ⟨_, (pss_one (ps_ret (pe_and (pe_cl (ok_is_text (TT := TT) T) (hr.mono (by decide)) rfl (pa_cons (pv 0) pa_nil)) (pe_one (pe_cmpR op_eq (pv 0) (wJoin K pe_str (pe_lc (own := [("signal", 2)]) (g := (gName 2)) rfl sc_is_lot_of.nd (pi_str (pv 1)) (blkOk_by (own := [("signal", 2)]) (N := ["value", "signals", "signal"]) (sc := defScope s_is_lot_of) (by decide +kernel)) (fun _ _ _ _ _ => (gn_ 2 sc_is_lot_of.nd)) (fun _ _ _ _ _ => (pts_one (pt_cmpR op_in_sign (pv 2) (pv 0) rfl))) (fun _ _ _ _ _ => (pv 2)))) (nomark _)))))), fun Q q => ?_⟩
  refine q_ret (T := TT) ok ((e_and (e_c1 (e_var rfl hv) trivial fun _ h => h) fun _ => e_op (e_var rfl hv) (e_joinW rfl (e_lc (p := fun c => decide (c ∈ z.1)) (f := id) (i_word (e_var rfl hu)) (fun _ => rfl) (Nat.le_trans pre (by decide)) fun H1 v2 x e _ rx => ⟨t_of (e_op (e_var rfl rx) (e_var rfl (Rel.es hv e)) o_inW), fun _ => e_var rfl rx⟩) ?_) o_eqW).to ?_) fun v H' e r => q v H' _ e rfl r
  · rw [List.map_id]
    exact Nat.le_trans (List.length_filter_le _ _) (Nat.le_trans pre (by decide))
  · rw [List.map_id]
    rfl
def sp_lot_within (TT : List (Addr × Str)) : Sp := SpG TT (A2 rW rW fun l _ => l.length ≤ 1000) rB fun z b => b = z.1.all fun c => decide (c ∈ z.2)
theorem ok_lot_within (T : Tx K mg C) : Cl P w K mg base 1 "lot_within" (sp_lot_within TT) := by
  refine cl_spG T.d_lot_within sc_lot_within A2.len fun f cdv A outer s H vs E M z hr ok h => ?_
  obtain ⟨v, u, rfl, hv, hu, pre⟩ := h
  refine ⟨_, (pss_one (ps_ret (pe_callB (wAll K) rfl T.f_all bo_all (pa_cons (pe_lc (own := [("signal", 2)]) (g := (gName 2)) rfl sc_lot_within.nd (pi_str (pv 0)) (blkOk_by (own := [("signal", 2)]) (N := ["lot", "other", "signal"]) (sc := defScope s_lot_within) (by decide +kernel)) (fun _ _ _ _ _ => (gn_ 2 sc_lot_within.nd)) (fun _ _ _ _ _ => pts_nil) (fun _ _ _ _ _ => (pe_cmpR op_in_sign (pv 2) (pv 1) rfl))) pa_nil)))), fun Q q => ?_⟩
  refine q_ret (T := TT) ok ((e_all (e_lc (p := fun _ => true) (f := fun c => decide (c ∈ z.2)) (i_word (e_var rfl hv)) (fun _ => rfl) (Nat.le_trans pre (by decide)) fun H1 v2 x e _ rx => ⟨t_yes, fun _ => e_op (e_var rfl rx) (e_var rfl (Rel.es hu e)) o_inW⟩)).to ?_) fun v H' e r => q v H' _ e rfl r
  simp
def sp_has_full (TT : List (Addr × Str)) : Sp := SpG TT (A2 (rT rW) rW fun ls _ => ls.length ≤ 1000 ∧ ∀ l ∈ ls, l.length ≤ 1000) rB fun z b => b = z.1.any fun l => l.all fun c => decide (c ∈ z.2)
theorem ok_has_full (T : Tx K mg C) : Cl P w K mg base 2 "has_full" (sp_has_full TT) := by
  refine cl_spG T.d_has_full sc_has_full A2.len fun f cdv A outer s H vs E M z hr ok h => ?_
  obtain ⟨v, u, rfl, hv, hu, pre⟩ := h
  refine ⟨_, (pss_one (ps_ret (pe_callB (wAny K) rfl T.f_any bo_any (pa_cons (pe_lc (own := [("other", 2)]) (g := (gName 2)) rfl sc_has_full.nd (wTupI K (pv 0)) (blkOk_by (own := [("other", 2)]) (N := ["lots", "lot", "other"]) (sc := defScope s_has_full) (by decide +kernel)) (fun _ _ _ _ _ => (gn_ 2 sc_has_full.nd)) (fun _ _ _ _ _ => pts_nil) (fun _ _ _ _ _ => (pe_cl (ok_lot_within (TT := TT) T) (hr.mono (by decide)) rfl (pa_cons (pv 2) (pa_cons (pv 1) pa_nil))))) pa_nil)))), fun Q q => ?_⟩
  refine q_ret (T := TT) ok ((e_any (e_lc (p := fun _ => true) (f := fun l : Wd => l.all fun c => decide (c ∈ z.2)) (i_tup (e_var rfl hv)) (fun _ => rfl) (Nat.le_trans pre.1 (by decide)) fun H1 v2 x e hx rx => ⟨t_yes, fun _ => e_c2 (e_var rfl rx) (e_var rfl (Rel.es hu e)) (pre.2 x hx) fun _ h => h⟩)).to ?_) fun v H' e r => q v H' _ e rfl r
  simp
end


end K29
set_option autoImplicit false
set_option maxHeartbeats 4000000
namespace K29
open PySem PySem.Spec PyProof.Rows L2
/-! The walks, 2: pairs, lots, the checks. -/
/-- what is heard with one letter more; whether some lot is full; two states as a pair; a pair one letter on -/
def mo (h : Wd) (s : Nat) : Wd := (List.range 3).filter fun c => decide (c ∈ h) || decide (c = s)
def fullB (lots : List Wd) (h : Wd) : Bool := lots.any fun l => l.all fun c => decide (c ∈ h)
def prOf (a b : Nat) : Option Pr := if a = b then none else some (if a < b then (a, b) else (b, a))
def cell (tabs : List (List Nat)) (n i : Nat) : Nat := (tabs.getD n []).getD i 0
def nx (tabs : List (List Nat)) (p : Pr) (n : Nat) : Option Pr := prOf (cell tabs n p.1) (cell tabs n p.2)
/-- the families that the law makes -/
structure Fam (k : Nat) (ls : List Wd) : Prop where
  n1 : 1 ≤ ls.length
  n31 : ls.length ≤ 31
  nd : ls.Nodup
  lot : ∀ l ∈ ls, l ≠ [] ∧ l = (List.range k).filter fun c => decide (c ∈ l)
theorem Fam.short {k : Nat} {ls : List Wd} (F : Fam k ls) (hk : k ≤ 3) : ∀ l ∈ ls, l.length ≤ 1000 := fun l hl => by
  rw [(F.lot l hl).2]
  refine Nat.le_trans (List.length_filter_le _ _) ?_
  rw [List.length_range]
  omega
theorem atI_of {α : Type} {xs : List α} {i : Nat} {d : α} (h : i < xs.length) : atI xs (i : Int) = some (xs.getD i d) := atI_nat (by rw [List.getD_eq_getElem?_getD, List.getElem?_eq_getElem h]; rfl)
theorem getDl_mem {α : Type} {xs : List α} {i : Nat} {d : α} (h : i < xs.length) : xs.getD i d ∈ xs := by
  rw [List.getD_eq_getElem?_getD, List.getElem?_eq_getElem h]
  exact List.getElem_mem h
theorem Gt.tab {tabs : List (List Nat)} (g : Gt tabs) {n : Nat} (h : n < tabs.length) : tabs.getD n [] ∈ tabs := getDl_mem h
theorem Gt.cell_lt {tabs : List (List Nat)} (g : Gt tabs) {n i : Nat} (h : n < tabs.length) (hi : i < many tabs) : cell tabs n i < many tabs := by
  have ht := g.row _ (g.tab h)
  exact ht.2 _ (getDl_mem (by rw [ht.1]; exact hi))
section
variable {P : Program} {w : World} {K : PySem.W.Frag} {mg : Str → Option Value} {base : Heap} {C : Addr} {TT : List (Addr × Str)}
def sp_is_table (TT : List (Addr × Str)) : Sp := SpG TT (A2 (rL rNat) (rO rNat) fun t m => 1 ≤ t.length ∧ t.length ≤ 60 ∧ (∀ x ∈ t, x < t.length) ∧ ∀ n, m = some n → t.length = n) rB fun _ b => b = true
theorem ok_is_table (T : Tx K mg C) : Cl P w K mg base 3 "is_table" (sp_is_table TT) := by
  refine cl_spG T.d_is_table sc_is_table A2.len fun f cdv A outer s H vs E M z hr ok h => ?_
  obtain ⟨v, u, rfl, hv, hu, p1, p2, p3, p4⟩ := h
  obtain ⟨t, m⟩ := z
  refine ⟨_, (pss_cons (ps_if (PW.pt (pw_or (pt_not (pt_val (pe_cl (ok_is_sequence (TT := TT) T) (hr.mono (by decide)) rfl (pa_cons (pv 0) pa_nil)))) (pw_or (pt_not (pt_chain op_le op_le pe_int (pe_callB (wLen K) rfl T.f_len bo_len (pa_cons (pv 0) pa_nil)) (pe_gi T.g_MOST_STATES rfl))) (pw_or1 (PW.pt (pw_and (pt_cmp (pc_notN (pv 1))) (pw_and1 (pt_cmpR op_ne (pe_callB (wLen K) rfl T.f_len bo_len (pa_cons (pv 0) pa_nil)) (pv 1) (nomark _)))))))))
(pss_one (ps_ret pe_bl))
pss_nil)
(pss_one (ps_ret (pe_callB (wAll K) rfl T.f_all bo_all (pa_cons (pe_lc (own := [("state", 2)]) (g := (gName 2)) rfl sc_is_table.nd (wList K (pv 0)) (blkOk_by (own := [("state", 2)]) (N := ["value", "many", "state"]) (sc := defScope s_is_table) (by decide +kernel)) (fun _ _ _ _ _ => (gn_ 2 sc_is_table.nd)) (fun _ _ _ _ _ => pts_nil) (fun _ _ _ _ _ => (pe_and (pe_cl (ok_is_number (TT := TT) T) (hr.mono (by decide)) rfl (pa_cons (pv 2) pa_nil)) (pe_one (pe_cmpR op_lt (pv 2) (pe_callB (wLen K) rfl T.f_len bo_len (pa_cons (pv 0) pa_nil)) (nomark _)))))) pa_nil))))), fun Q q => ?_⟩
  have e1 : Ev TT (tVar 0) [some v, some u, none] (vis M H) (rL rNat) t := e_var rfl hv
  have e2 : EvT TT (tAnd (tB (tNotN (tVar 1))) (tTest (tOp rNe (tCB (fun xs H Q => ∃ x n, xs = [x] ∧ LenV K x H n ∧ Q (.int n) H) (tCons (tVar 0) tNil)) (tVar 1)))) [some v, some u, none] (vis M H) false := by
    cases m with
    | none => exact t_and (c := true) (t_B (e_notN nv_nat (e_var rfl hu))) fun z => (by cases z)
    | some n => exact (t_and (t_B (e_notN nv_nat (e_var rfl hu))) fun _ => t_of (e_op (e_lenL e1).int (e_var (R := rInt) rfl (show rInt.r _ u (n : Int) from hu)) o_neI)).to (by rw [show t.length = n from p4 n rfl]; simp)
  refine q_no (T := TT) ok ((t_or (t_not (t_B (e_c1 (e_any1 e1) trivial fun _ h => h))) fun _ => t_or (t_not (t_of (e_chain (e_int 1) (e_lenL e1).int (e_int 60) o_B0 o_B0))) fun _ => e2).to ?_) fun H2 e3 => ?_
  · have h1 : (1 : Int) ≤ (t.length : Int) := by have : 1 ≤ t.length := p1; omega
    have h2 : (t.length : Int) ≤ 60 := by have : t.length ≤ 60 := p2; omega
    simp [h1, h2]
  · have hv2 := Rel.up hv ok e3
    refine q_ret (T := TT) (ok.step e3) ((e_all (e_lc (p := fun _ => true) (f := fun _ => true) (i_list (e_var rfl hv2)) (fun _ => rfl) (Nat.le_trans p2 (by decide)) fun H1 v2 x e hx rx => ⟨t_yes, fun _ => ?_⟩)).to ?_) fun v H' e r => q v H' _ (e3.trans e) rfl r
    · exact (e_and (e_c1 (x := (x : Int)) (e_var rfl rx) trivial fun _ h => h) fun _ => e_op (e_var (R := rInt) (x := (x : Int)) rfl rx) (e_lenL (e_var rfl (Rel.es hv2 e))).int o_B0).to (by
        have : x < t.length := p3 x hx
        simp [this])
    · simp
def sp_need_pair (C : Addr) (TT : List (Addr × Str)) : Sp := SpG TT (A2 (rDev C) rP fun tabs x => x.1 < x.2 ∧ x.2 < many tabs) rP fun z y => y = z.2
theorem ok_need_pair (T : Tx K mg C) : Cl P w K mg base 3 "need_pair" (sp_need_pair C TT) := by
  refine cl_spG T.d_need_pair sc_need_pair A2.len fun f cdv A outer s H vs E M z hr ok h => ?_
  obtain ⟨v, u, rfl, hv, hu, p1, p2⟩ := h
  obtain ⟨tabs, x⟩ := z
  refine ⟨_, (pss_cons (ps_if (PW.pt (pw_or (pt_not (pt_val (pe_callB (wIsi K) rfl T.f_isinstance bo_isinstance (pa_cons (pv 1) (pa_cons (pe_bltn (v := .ty "tuple") rfl T.f_tuple bo_tuple rfl) pa_nil))))) (pw_or (pt_cmpR op_ne (pe_callB (wLen K) rfl T.f_len bo_len (pa_cons (pv 1) pa_nil)) pe_int (nomark _)) (pw_or (pt_not (pt_val (pe_cl (ok_is_number (TT := TT) T) (hr.mono (by decide)) rfl (pa_cons (pe_ix (wIxT K) (pv 1) pe_int (fun _ _ => rfl)) pa_nil)))) (pw_or1 (pt_not (pt_val (pe_cl (ok_is_number (TT := TT) T) (hr.mono (by decide)) rfl (pa_cons (pe_ix (wIxT K) (pv 1) pe_int (fun _ _ => rfl)) pa_nil)))))))))
(pss_one ps_never)
pss_nil)
(pss_cons (ps_if (pt_not (pt_chain op_lt op_lt (pe_ix (wIxT K) (pv 1) pe_int (fun _ _ => rfl)) (pe_ix (wIxT K) (pv 1) pe_int (fun _ _ => rfl)) (wFld K (pv 0))))
(pss_one ps_never)
pss_nil)
(pss_one (ps_ret (pv 1))))), fun Q q => ?_⟩
  have eu : Ev TT (tVar 1) [some v, some u] (vis M H) rP x := e_var rfl hu
  refine q_no (T := TT) ok ((t_or (t_not (t_B (e_isi (r := true) eu ty_P (by decide +kernel)))) fun _ => t_or (t_of (e_op (e_lenP eu).int (e_int 2) o_neI)) fun _ => t_or (t_not (t_B (e_c1 (e_op eu (e_int 0) o_ixP0).int trivial fun _ h => h))) fun _ => t_not (t_B (e_c1 (e_op eu (e_int 1) o_ixP1).int trivial fun _ h => h))).to (by simp)) fun H2 e2 => ?_
  have hv2 := Rel.up hv ok e2
  have hu2 := Rel.up hu ok e2
  have eu2 : Ev TT (tVar 1) [some v, some u] (vis M H2) rP x := e_var rfl hu2
  refine q_no (T := TT) (ok.step e2) ((t_not (t_of (e_chain (e_op eu2 (e_int 0) o_ixP0).int (e_op eu2 (e_int 1) o_ixP1).int (e_states T (e_var rfl hv2)).int o_B0 o_B0))).to ?_) fun H3 e3 => ?_
  · have h1 : (x.1 : Int) < (x.2 : Int) := by have : x.1 < x.2 := p1; omega
    have h2 : (x.2 : Int) < (many tabs : Int) := by have : x.2 < many tabs := p2; omega
    simp [h1, h2]
  · exact q_ret (T := TT) ((ok.step e2).step e3) (e_var rfl (Rel.up hu2 (ok.step e2) e3)) fun v H' e r => q v H' _ ((e2.trans e3).trans e) rfl r
def sp_need_many (TT : List (Addr × Str)) : Sp := SpG TT (A1 rNat fun n => n ≤ 60) rNat fun n y => y = n
theorem ok_need_many (T : Tx K mg C) : Cl P w K mg base 3 "need_many" (sp_need_many TT) := by
  refine cl_spG T.d_need_many sc_need_many A1.len fun f cdv A outer s H vs E M n hr ok h => ?_
  obtain ⟨v, rfl, hv, p⟩ := h
  refine ⟨_, (pss_cons (ps_if (PW.pt (pw_or (pt_not (pt_val (pe_cl (ok_is_number (TT := TT) T) (hr.mono (by decide)) rfl (pa_cons (pv 0) pa_nil)))) (pw_or1 (pt_cmpR op_gt (pv 0) (pe_gi T.g_MOST_ROUNDS rfl) (nomark _)))))
(pss_one ps_never)
pss_nil)
(pss_one (ps_ret (pv 0)))), fun Q q => ?_⟩
  have ev : Ev TT (tVar 0) [some v] (vis M H) rInt (n : Int) := e_var rfl (show rInt.r _ v (n : Int) from hv)
  refine q_no (T := TT) ok ((t_or (t_not (t_B (e_c1 ev trivial fun _ h => h))) fun _ => t_of (e_op ev (e_int 60) o_B0)).to ?_) fun H2 e2 => ?_
  · have : ¬ ((60 : Int) < (n : Int)) := by have : n ≤ 60 := p; omega
    simp [this]
  · exact q_ret (T := TT) (ok.step e2) (e_var rfl (Rel.up hv ok e2)) fun v H' e r => q v H' _ (e2.trans e) rfl r
def sp_pair_of (TT : List (Addr × Str)) : Sp := SpG TT (A2 rNat rNat fun _ _ => True) (rO rP) fun z y => y = prOf z.1 z.2
theorem ok_pair_of (T : Tx K mg C) : Cl P w K mg base 1 "pair_of" (sp_pair_of TT) := by
  refine cl_spG T.d_pair_of sc_pair_of A2.len fun f cdv A outer s H vs E M z hr ok h => ?_
  obtain ⟨v, u, rfl, hv, hu, _⟩ := h
  obtain ⟨a, b⟩ := z
  refine ⟨_, (pss_cons (ps_if (pt_cmpR op_eq (pv 0) (pv 1) (nomark _))
(pss_one (ps_ret pe_non))
pss_nil)
(pss_one (ps_ret (pe_ifExp (pt_cmpR op_lt (pv 0) (pv 1) (nomark _)) (pe_tup (pa_cons (pv 0) (pa_cons (pv 1) pa_nil))) (pe_tup (pa_cons (pv 1) (pa_cons (pv 0) pa_nil))))))), fun Q q => ?_⟩
  refine q_if (T := TT) ok (t_of (e_op (e_var (R := rInt) (x := (a : Int)) rfl hv) (e_var (R := rInt) (x := (b : Int)) rfl hu) o_eqI)) (fun hb H2 e2 => ?_) fun hb H2 e2 => ?_
  · have e : a = b := by have := of_decide_eq_true hb; omega
    exact q_ret (T := TT) (ok.step e2) (e_non (R := rP)) fun v H' e3 r => q v H' _ (e2.trans e3) (by show none = prOf a b; unfold prOf; rw [if_pos e]) r
  · have e : ¬ a = b := fun z => of_decide_eq_false hb (by rw [z])
    have hv2 := Rel.up hv ok e2
    have hu2 := Rel.up hu ok e2
    refine q_ret (T := TT) (ok.step e2) (Ev.some_ (x := if a < b then (a, b) else (b, a)) (e_if (t_of (e_op (e_var (R := rInt) (x := (a : Int)) rfl hv2) (e_var (R := rInt) (x := (b : Int)) rfl hu2) o_B0)) (fun h => ?_) fun h => ?_)) fun v H' e3 r => q v H' _ (e2.trans e3) (by show _ = prOf a b; unfold prOf; rw [if_neg e]) r
    · have : a < b := by have := of_decide_eq_true h; omega
      rw [if_pos this]
      exact e_pr (e_var rfl hv2) (e_var rfl hu2)
    · have : ¬ a < b := by have := of_decide_eq_false h; omega
      rw [if_neg this]
      exact e_pr (e_var rfl hu2) (e_var rfl hv2)
def sp_next_node (C : Addr) (TT : List (Addr × Str)) : Sp := SpG TT (A4 (rDev C) rS rP rNat fun tabs k x n => Gt tabs ∧ k = "pairs" ∧ x.1 < many tabs ∧ x.2 < many tabs ∧ n < tabs.length) (rO rP) fun z y => y = nx z.1 z.2.2.1 z.2.2.2
theorem ok_next_node (T : Tx K mg C) : Cl P w K mg base 2 "next_node" (sp_next_node C TT) := by
  refine cl_spG T.d_next_node sc_next_node A4.len fun f cdv A outer s H vs E M z hr ok h => ?_
  obtain ⟨v, u, v3, v4, rfl, hv, hu, h3, h4, g, pk, p1, p2, p3⟩ := h
  obtain ⟨tabs, k, x, n⟩ := z
  have pk : k = "pairs" := pk
  subst pk
  have g : Gt tabs := g
  have p1 : x.1 < many tabs := p1
  have p2 : x.2 < many tabs := p2
  have p3 : n < tabs.length := p3
  have hrow := (g.row _ (g.tab p3)).1
  refine ⟨_, (pss_cons (st_ 4 sc_next_node.nd (pe_ix (wIxT K) (wFld K (pv 0)) (pv 3) (fun _ _ => rfl)))
(pss_cons (ps_if (pt_cmpR op_eq (pv 1) pe_str (nomark _))
(pss_one (ps_ret (pe_ix (wIxT K) (pv 4) (pv 2) (fun _ _ => rfl))))
pss_nil)
(pss_one (ps_ret (pe_cl (ok_pair_of (TT := TT) T) (hr.mono (by decide)) rfl (pa_cons (pe_ix (wIxT K) (pv 4) (pe_ix (wIxT K) (pv 2) pe_int (fun _ _ => rfl)) (fun _ _ => rfl)) (pa_cons (pe_ix (wIxT K) (pv 4) (pe_ix (wIxT K) (pv 2) pe_int (fun _ _ => rfl)) (fun _ _ => rfl)) pa_nil))))))), fun Q q => ?_⟩
  refine q_seq (q_set (T := TT) ok (e_op (e_tables T (e_var rfl hv)) (e_var (R := rInt) (x := (n : Int)) rfl h4) (o_ixT (atI_of (d := []) p3))) fun t H2 e2 rt => ?_)
  have ok2 := ok.step e2
  refine q_seq (q_no (T := TT) ok2 ((t_of (e_op (e_var rfl (Rel.up hu ok e2)) (e_str "states") o_eqS)).to (show decide (("pairs" : Str) = "states") = false by decide +kernel)) fun H3 e3 => ?_)
  have ok3 := ok2.step e3
  have hx := Rel.up (Rel.up h3 ok e2) ok2 e3
  have ht := Rel.up rt ok2 e3
  refine q_ret (T := TT) ok3 (e_c2 (x := cell tabs n x.1) (y := cell tabs n x.2) (e_op (e_var rfl ht) (e_op (e_var rfl hx) (e_int 0) o_ixP0).int (o_ixT (atI_of (d := 0) (by rw [hrow]; exact p1)))) (e_op (e_var rfl ht) (e_op (e_var rfl hx) (e_int 1) o_ixP1).int (o_ixT (atI_of (d := 0) (by rw [hrow]; exact p2)))) trivial fun _ h => h) fun v H' e4 r => q v H' _ ((e2.trans e3).trans e4) rfl r
def sp_joined_lot (TT : List (Addr × Str)) : Sp := SpG TT (A2 rW rLt fun l n => (∀ c ∈ l, c < 3) ∧ n < 3 ∧ l.length ≤ 100) rW fun z y => y = mo z.1 z.2
theorem ok_joined_lot (T : Tx K mg C) : Cl P w K mg base 1 "joined_lot" (sp_joined_lot TT) := by
  refine cl_spG T.d_joined_lot sc_joined_lot A2.len fun f cdv A outer s H vs E M z hr ok h => ?_
  obtain ⟨v, u, rfl, hv, hu, p1, p2, p3⟩ := h
  obtain ⟨l, n⟩ := z
  have p1 : ∀ c ∈ l, c < 3 := p1
  have p2 : n < 3 := p2
  have p3 : l.length ≤ 100 := p3
  refine ⟨_, (pss_one (ps_ret (wJoin K pe_str (pe_callB (cr_sortedX rfl) rfl T.f_sorted bo_sorted (pa_cons (pe_scT (own := [("signal", 2)]) (g := (gName 2)) rfl sc_joined_lot.nd (pi_str (pe_op op_add_str (pv 0) (pv 1))) (blkOk_by (own := [("signal", 2)]) (N := ["one", "other", "signal"]) (sc := defScope s_joined_lot) (by decide +kernel)) (fun _ _ _ _ _ => (gn_ 2 sc_joined_lot.nd)) (fun _ _ _ _ _ => pts_nil) (fun _ _ _ _ _ => (pv 2))) pa_nil))))), fun Q q => ?_⟩
  refine q_ret (T := TT) ok (e_joinW rfl (e_sortedL (m := mo l n) (i_word (e_op (e_var rfl hv) (e_var rfl hu).word (o_addW (by simp; omega)))) (fun _ => rfl) (fun _ => rfl) (by simp; omega) ?_ fun c => ?_) ?_) fun v H' e r => q v H' _ e rfl r
  · exact List.Pairwise.filter _ List.pairwise_lt_range
  · unfold mo
    rw [List.mem_append, List.mem_singleton, List.mem_filter, List.mem_range]
    simp only [Bool.or_eq_true, decide_eq_true_eq]
    constructor
    · rintro (h | h)
      · exact ⟨p1 c h, .inl h⟩
      · exact ⟨by omega, .inr h⟩
    · exact fun h => h.2
  · unfold mo
    refine Nat.le_trans (List.length_filter_le _ _) ?_
    rw [List.length_range]
    omega
end


end K29
set_option autoImplicit false
set_option maxHeartbeats 4000000
namespace K29
open PySem PySem.Spec PyProof.Rows L2
/-! The walks, 3: families, pairs, the device. -/
theorem take_succ_of {α : Type} {xs : List α} {i : Nat} {x : α} (h : xs[i]? = some x) : xs.take (i + 1) = xs.take i ++ [x] := by rw [List.take_add_one, h]; rfl
theorem not_mem_take {α : Type} {xs : List α} {i : Nat} {x : α} (nd : xs.Nodup) (h : xs[i]? = some x) : x ∉ xs.take i := fun z => by
  obtain ⟨j, hj, e⟩ := List.mem_take_iff_getElem.mp z
  obtain ⟨hi, e2⟩ := List.getElem?_eq_some_iff.mp h
  exact List.pairwise_iff_getElem.mp nd j i (by omega) hi (by omega) (e.trans e2.symm)
def prs (n : Nat) : List Pr := (List.range n).flatMap fun i => (List.range' (i + 1) (n - (i + 1))).map fun j => (i, j)
theorem prs_mem {n : Nat} {p : Pr} : p ∈ prs n ↔ p.1 < p.2 ∧ p.2 < n := by
  obtain ⟨i, j⟩ := p
  unfold prs
  rw [List.mem_flatMap]
  constructor
  · rintro ⟨a, h1, h2⟩
    obtain ⟨b, h3, h4⟩ := List.mem_map.mp h2
    rw [List.mem_range'_1] at h3
    rw [List.mem_range] at h1
    cases h4
    exact ⟨by omega, by omega⟩
  · rintro ⟨h1, h2⟩
    have h1 : i < j := h1
    have h2 : j < n := h2
    exact ⟨i, List.mem_range.mpr (by omega), List.mem_map.mpr ⟨j, by rw [List.mem_range'_1]; omega, rfl⟩⟩
section
variable {P : Program} {w : World} {K : PySem.W.Frag} {mg : Str → Option Value} {base : Heap} {C : Addr} {TT : List (Addr × Str)}
def sp_check_family (C : Addr) (TT : List (Addr × Str)) : Sp := SpG TT (A2 (rDev C) (rL rW) fun tabs ls => Gt tabs ∧ Fam tabs.length ls) (rT rW) fun z y => y = z.2
theorem ok_check_family (T : Tx K mg C) : Cl P w K mg base 3 "check_family" (sp_check_family C TT) := by
  refine cl_spG T.d_check_family sc_check_family A2.len fun f cdv A outer s H vs E M z hr ok h => ?_
  obtain ⟨v, u, rfl, hv, hu, g, F⟩ := h
  obtain ⟨tabs, ls⟩ := z
  have g : Gt tabs := g
  have F : Fam tabs.length ls := F
  have F31 : ls.length ≤ 31 := F.n31
  refine ⟨_, (pss_cons (ps_if (PW.pt (pw_or (pt_not (pt_val (pe_cl (ok_is_sequence (TT := TT) T) (hr.mono (by decide)) rfl (pa_cons (pv 1) pa_nil)))) (pw_or1 (pt_not (pt_chain op_le op_le pe_int (pe_callB (wLen K) rfl T.f_len bo_len (pa_cons (pv 1) pa_nil)) (pe_gi T.g_MOST_LOTS rfl))))))
(pss_one ps_never)
pss_nil)
(pss_cons (st_ 2 sc_check_family.nd pe_dnewK)
(pss_cons (ps_for PassesOwn.never rfl (pi_enum rfl T.f_enumerate (pa_cons (pv 1) pa_nil)) (wPg2 K (pgs_cons (gn_ 3 sc_check_family.nd) (pgs_cons (gn_ 4 sc_check_family.nd) pgs_nil)))
(pss_cons (ps_if (PW.pt (pw_or (pt_not (pt_val (pe_cl (ok_is_lot_of (TT := TT) T) (hr.mono (by decide)) rfl (pa_cons (pv 4) (pa_cons (wFld K (pv 0)) pa_nil))))) (pw_or (pt_cmpR op_eq (pv 4) pe_str (nomark _)) (pw_or1 (pt_cmp (pc_din (hu_of hr) (pv 4) (pv 2)))))))
(pss_one ps_never)
pss_nil)
(pss_one (ps_dput (hu_of hr) (pv 2) (pv 4) pe_bl rfl))))
(pss_one (ps_ret (pe_callTy (wTup K) rfl T.f_tuple bo_tuple (pa_cons (pv 1) pa_nil))))))), fun Q q => ?_⟩
  have eu : Ev TT (tVar 1) (L2.start ["device", "family", "met", "at", "lot"] [v, u]) (vis M H) (rL rW) ls := e_var rfl hu
  refine q_no (T := TT) ok ((t_or (t_not (t_B (e_c1 (e_any1 eu) trivial fun _ h => h))) fun _ => t_not (t_of (e_chain (e_int 1) (e_lenL eu).int (e_int 31) o_B0 o_B0))).to ?_) fun H2 e2 => ?_
  · have h1 : (1 : Int) ≤ (ls.length : Int) := by have := F.n1; omega
    have h2 : (ls.length : Int) ≤ 31 := by omega
    simp [h1, h2]
  have ok2 := ok.step e2
  intro d hd
  have a3 : At TT (d :: M) (vis M H2) (upd H2 d (.dK [])) := (At.self ok2).hide hd (.dK _)
  have hv2 := Rel.up hv ok e2
  have hu2 := Rel.up hu ok e2
  have hu3 := Rel.es hu2 a3.e
  refine q_for (T := TT) a3.ok (i_enum (e_var rfl hu3)) fun H4 e4 => ?_
  have a4 : At TT (d :: M) (vis M H2) H4 := a3.step e4
  refine ⟨fun i σ G => ∃ (a b : Option V) (kvs : List (Key × V)), σ = [some v, some u, some (.ref d), a, b] ∧ At TT (d :: M) (vis (d :: M) H4) G ∧ Es TT H2 G ∧ G d = some (.dK kvs) ∧ kvs.map (·.1) = (ls.take i).map fun l => (Sum.inr (wS l) : Key),
    ⟨none, none, [], rfl, .self a4.ok, (Es.new hd).trans e4, e4.dK upd_same, rfl⟩, fun i σ G ⟨_, _, _, _, a, _⟩ => ⟨_, a⟩, ?_, ?_⟩
  · rintro i x p σ G G' hi hp ⟨a, b, kvs, rfl, aG, eG, hG, hk⟩ eGG rx
    rw [enumL_len] at hi
    have hp2 : (i, ls[i]) = p := Option.some.inj ((enumL_get (List.getElem?_eq_getElem hi)).symm.trans hp)
    subst hp2
    have lot := F.lot _ (List.getElem_mem hi)
    generalize hl : ls[i] = l at *
    have hil : ls[i]? = some l := by rw [← hl]; exact List.getElem?_eq_getElem hi
    have aG' := aG.step eGG
    refine g_pair (N := d :: M) (rx _ aG) fun v3 v4 r3 r4 => ?_
    -- the questions, the dict shown
    have okM : Nok M G' := fun n hn => aG'.ok n (List.mem_cons_of_mem _ hn)
    have nD : d ∉ M := ok2.fresh hd
    have kr : Kr (vis (d :: M) G') (vis M G') := vis_back d
    have hd' : (rDW).r (vis M G') (.ref d) (ls.take i) := ⟨d, kvs, rfl, .inl (vis_open (eGG.dK hG) nD), hk⟩
    have hv' : (rDev C).r (vis M G') v tabs := (rDev C).st kr (Rel.es (Rel.es (Rel.es hv2 a3.e) (e4.vis a3.ok)) aG'.e)
    have r4' : rW.r (vis M G') v4 l := r4
    refine q_no (T := TT) okM ((t_or (t_not (t_B (e_c2 (e_var rfl r4') (e_signals T (e_var rfl hv')) (by rw [List.length_range]; have := g.n3; omega) fun _ h => h))) fun _ => t_or (t_of (e_op (e_var rfl r4') (e_word (l := []) rfl) o_eqW)) fun _ => e_dinW (e_var rfl r4') (e_var rfl hd')).to ?_) fun G2 eg2 => ?_
    · have h1 : decide (l = (List.range tabs.length).filter fun c => decide (c ∈ l)) = true := decide_eq_true lot.2
      have h2 : decide (l = []) = false := decide_eq_false lot.1
      have h3 : decide (l ∈ ls.take i) = false := decide_eq_false (not_mem_take F.nd hil)
      simp only [h2, h3]
      rw [h1]
      rfl
    · have aG2 := aG'.step eg2
      refine q_dputW (T := TT) (d := d) (l := l) (x := true) (kvs := kvs) (R := rB) aG2.ok (e_bl true) rfl (e_var rfl (show rW.r _ v4 l from r4)) (eg2.dK (eGG.dK hG)) ?_ fun v5 G3 eg3 r5 => ?_
      · have hlen := congrArg List.length hk
        rw [List.length_map, List.length_map, List.length_take] at hlen
        have : sizeLine = 16777216 := sizeLine_eq
        omega
      · have e0 : Es TT H2 G3 := ((eG.trans eGG).trans eg2).trans eg3
        have hG3 : G3 d = some (.dK kvs) := eg3.dK (eg2.dK (eGG.dK hG))
        refine ⟨_, _, _, rfl, (aG2.step eg3).put (.dK _), e0.mutK hd hG3, upd_same, ?_⟩
        rw [take_succ_of hil, List.map_append, ← hk]
        unfold putK
        rw [if_neg, List.map_append]
        · rfl
        · intro hany
          rw [List.any_eq_true] at hany
          obtain ⟨kv, h1, h2⟩ := hany
          have h3 : (Sum.inr (wS l) : Key) ∈ kvs.map (·.1) := List.mem_map.mpr ⟨kv, h1, of_decide_eq_true h2⟩
          rw [hk] at h3
          obtain ⟨m, h4, h5⟩ := List.mem_map.mp h3
          rw [wS_inj (Sum.inr.inj h5)] at h4
          exact not_mem_take F.nd hil h4
  · rintro σ G ⟨a, b, kvs, rfl, aG, eG, hG, _⟩
    have okM : Nok M G := fun n hn => aG.ok n (List.mem_cons_of_mem _ hn)
    have hu4 : (rL rW).r (vis M G) u ls := (rL rW).st (vis_back d) (Rel.es (Rel.es hu3 (e4.vis a3.ok)) aG.e)
    exact q_ret (T := TT) okM (e_tupL (e_var rfl hu4)) fun v' G' e r => q v' G' _ ((e2.trans eG).trans e) rfl r
def sp_pairs_of (C : Addr) (TT : List (Addr × Str)) : Sp := SpG TT (A1 (rDev C) fun tabs => Gt tabs) (rL rP) fun tabs y => y = prs (many tabs)
theorem prs_len {n : Nat} (h : n ≤ 5) : (prs n).length ≤ 1000 := by
  have : ∀ m : Fin 6, (prs m.1).length ≤ 1000 := by decide +kernel
  exact this ⟨n, by omega⟩
theorem prs_nd {n : Nat} (h : n ≤ 5) : (prs n).Nodup := by
  have : ∀ m : Fin 6, (prs m.1).Nodup := by decide +kernel
  exact this ⟨n, by omega⟩
theorem ok_pairs_of (T : Tx K mg C) : Cl P w K mg base 1 "pairs_of" (sp_pairs_of C TT) := by
  refine cl_spG T.d_pairs_of sc_pairs_of A1.len fun f cdv A outer s H vs E M tabs hr ok h => ?_
  obtain ⟨v, rfl, hv, g⟩ := h
  have m5 := g.m5
  refine ⟨_, (pss_one (ps_ret (pe_lc2 (own := [("i", 1), ("j", 2)]) (g := (gName 1)) (g1 := (gName 2)) (vs1 := [2]) rfl sc_pairs_of.nd (pi_range1 rfl T.f_range (pa_cons (wFld K (pv 0)) pa_nil)) (blkOk_by (own := [("i", 1), ("j", 2)]) (N := ["device", "i", "j"]) (sc := defScope s_pairs_of) (by decide +kernel)) (by decide) (fun _ _ _ _ _ => (gn_ 1 sc_pairs_of.nd)) (fun _ _ _ _ _ => pts_nil) (fun _ _ _ _ _ => (pi_range2 rfl T.f_range (pa_cons (pe_op op_add (pv 1) pe_int) (pa_cons (wFld K (pv 0)) pa_nil)))) (fun _ _ _ _ _ => (gn_ 2 sc_pairs_of.nd)) (fun _ _ _ _ _ => pts_nil) (fun _ _ _ _ _ => (pe_tup (pa_cons (pv 1) (pa_cons (pv 2) pa_nil))))))), fun Q q => ?_⟩
  refine q_ret (T := TT) ok (e_lc2 (R := rNat) (S := rNat) (U := rP) (xs := List.range (many tabs)) (ys := fun i => List.range' (i + 1) (many tabs - (i + 1))) (f := fun i j => (i, j)) (i_rng1 (by omega) (e_states T (e_var rfl hv))) (fun _ => rfl) (fun _ _ => rfl) (Nat.le_trans (prs_len m5) (by decide)) (fun H1 v1 i e hi r1 => ?_) fun H1 v1 i u j e hi r1 hj r2 => ?_) fun v' H' e r => q v' H' _ e rfl r
  · rw [List.mem_range] at hi
    exact i_rng2 (l := i + 1) (n := many tabs) (by omega) (by omega) ((e_op (e_var (R := rInt) (x := (i : Int)) rfl r1) (e_int 1) o_I0).natI (by omega)) (e_states T (e_var rfl (Rel.es hv e)))
  · exact e_pr (e_var rfl r1) (e_var rfl r2)
end


end K29
set_option autoImplicit false
set_option maxHeartbeats 4000000
namespace K29
open PySem PySem.Spec PyProof.Rows L2
/-! rules, 6: a dict whose keys are tuples of a pair and a word -/
abbrev NK := Pr × Wd
def nk (x : NK) : NestedKey := .tup [.tup [.num (x.1.1 : Int), .num (x.1.2 : Int)], .text (wS x.2)]
theorem nk_inj {x y : NK} (h : nk x = nk y) : x = y := by
  obtain ⟨⟨a, b⟩, l⟩ := x
  obtain ⟨⟨c, d⟩, m⟩ := y
  simp only [nk, NestedKey.tup.injEq, List.cons.injEq, NestedKey.num.injEq, NestedKey.text.injEq, and_true] at h
  obtain ⟨⟨h1, h2⟩, h3⟩ := h
  rw [wS_inj h3, show a = c by omega, show b = d by omega]
/-- the tuple at b is the key -/
def KeyAt (H : Hp) (b : Addr) (x : NK) : Prop := ∃ q, H b = some (.tup [.ref q, .str (wS x.2)]) ∧ H q = some (.tup [.int (x.1.1 : Int), .int (x.1.2 : Int)])
theorem tup_get {P : Program} {w : World} {H : Hp} {h : Heap} {a : Addr} {xs : List V} (ok : HOk P w H h) (e : H a = some (.tup xs)) : ∃ o its n, h.get? a = some o ∧ o.cls = .type "tuple" ∧ o.data = .seq its n ∧ Vals xs its.toList := by
  obtain ⟨_, its, r, o, h1, h2, n, h3⟩ := (show ObjOk P w H h a (.tup xs) from ok a _ e)
  exact ⟨o, its.toArray, n, h1, h2, h3, by simpa using r⟩
theorem KeyAt.is {P : Program} {w : World} {H : Hp} {h : Heap} {b : Addr} {x : NK} (ok : HOk P w H h) (k : KeyAt H b x) : (nestedKind P w).is h (nk x) b := by
  obtain ⟨q, h1, h2⟩ := k
  obtain ⟨o, its, n, g1, g2, g3, g4⟩ := tup_get ok h1
  obtain ⟨o', its', n', f1, f2, f3, f4⟩ := tup_get ok h2
  refine ⟨.tup g1 g2 g3 ?_, ?_⟩
  · generalize its.toList = l at g4
    cases g4 with
    | cons r1 t1 =>
      cases t1 with
      | cons r2 t2 =>
        cases t2
        cases r1
        obtain ⟨t, rfl⟩ := r2
        refine .cons (.tup f1 f2 f3 ?_) (.cons (.text _ _) .nil)
        generalize its'.toList = l' at f4
        cases f4 with
        | cons s1 u1 =>
          cases u1 with
          | cons s2 u2 =>
            cases u2
            obtain ⟨t1, rfl⟩ := s1
            obtain ⟨t2, rfl⟩ := s2
            exact .cons (.int _ _) (.cons (.int _ _) .nil)
  · simp [nk, NestedKey.depth, NestedKey.depthAll]
abbrev NX := List (NestedKey × Addr × Value)
def DNo (P : Program) (w : World) (a : Addr) (xs : NX) : HO := .ext fun h => (a == sysModules) = false ∧ ∃ o es ep, h.get? a = some o ∧ o.ExactDict ∧ o.data = .dict es ep ∧ es.toList = xs.map (entryOfKey (nestedKind P w)) ∧ (xs.map (·.1)).Nodup
theorem ok_DNo (P : Program) (w : World) (a : Addr) (xs : NX) : Ok (DNo P w a xs) := ok_ext fun hp hf ⟨_, o, es, ep, h1, _, h2, _⟩ => by
  obtain ⟨vs, hv⟩ := hf _ _ h1
  rw [hv] at h2
  cases h2
/-- its entries, in order: keys and rows -/
def NE (H : Hp) (xs : NX) (E : List (NK × Wd)) : Prop := Paired (fun (x : NestedKey × Addr × Value) (e : NK × Wd) => x.1 = nk e.1 ∧ KeyAt H x.2.1 e.1 ∧ RelV (.str (wS e.2)) x.2.2) xs E
theorem NE.tups {H H' : Hp} {xs : NX} {E : List (NK × Wd)} (ht : ∀ b ts, H b = some (.tup ts) → H' b = some (.tup ts)) (h : NE H xs E) : NE H' xs E := Paired.mapP h fun _ _ ⟨h1, ⟨q, h2, h3⟩, h4⟩ => ⟨h1, ⟨q, ht _ _ h2, ht _ _ h3⟩, h4⟩
def lookN (E : List (NK × Wd)) (k : NK) : Option Wd := (E.find? fun e => decide (e.1 = k)).map (·.2)
theorem NE.at_ {H : Hp} {k : NK} : ∀ {xs : NX} {E : List (NK × Wd)}, NE H xs E → match lookN E k with | none => atKey xs (nk k) = none | some r => ∃ p, atKey xs (nk k) = some p ∧ RelV (.str (wS r)) p.2
  | _, _, .nil => rfl
  | x :: xs, e :: E, .cons ⟨r1, r2, r3⟩ t => by
    by_cases h : e.1 = k
    · have h1 : x.1 = nk k := by rw [r1, h]
      have g1 : lookN (e :: E) k = some e.2 := by simp [lookN, List.find?_cons, h]
      have g2 : atKey (x :: xs) (nk k) = some x.2 := by simp [atKey, List.find?_cons, h1]
      rw [g1]
      exact ⟨x.2, g2, r3⟩
    · have h1 : ¬ x.1 = nk k := fun z => h (nk_inj (r1.symm.trans z))
      have g1 : lookN (e :: E) k = lookN E k := by simp [lookN, List.find?_cons, h]
      have g2 : atKey (x :: xs) (nk k) = atKey xs (nk k) := by simp [atKey, List.find?_cons, h1]
      rw [g1, g2]
      exact NE.at_ t
section
variable {X : Cx} {pins : List (Addr × Obj)} {σ : L2.St} {H : Hp} {s : Shared} {a b : Addr} {xs : NX} {E : List (NK × Wd)} {k : NK}
theorem dn_of (I : Inv X pins σ H s) (ha : H a = some (DNo X.prog X.w a xs)) (n : NE H xs E) : (a == sysModules) = false ∧ s.heap.DictOfH (nestedKind X.prog X.w) a xs := by
  obtain ⟨hd, o, es, ep, h1, h2, h3, h4, h5⟩ := (I.hok a _ ha).1
  refine ⟨hd, o, es, ep, h1, h2, h3, h4, fun x hx => ?_, h5⟩
  have all : ∀ {l : NX} {E : List (NK × Wd)}, NE H l E → ∀ x ∈ l, (nestedKind X.prog X.w).is s.heap x.1 x.2.1 := fun {l E} n => by
    induction n with
    | nil => exact fun x hx => by simp at hx
    | cons r t ih =>
      intro x hx
      rcases List.mem_cons.mp hx with z | z
      · rw [z, r.1]
        exact r.2.1.is I.hok
      · exact ih x z
  exact all n x hx
theorem dn_new {P : Program} {w : World} {H' : Hp} {h' : Heap} (hd : (a == sysModules) = false) (dd : h'.DictOfH (nestedKind P w) a xs) : ObjOk P w H' h' a (DNo P w a xs) := by
  obtain ⟨o, es, ep, h1, h2, h3, h4, _, h5⟩ := dd
  exact ⟨⟨hd, o, es, ep, h1, h2, h3, h4, h5⟩, ⟨o, h1⟩, fun g1 g2 ⟨hd, o, es, ep, h1, h2, h3, h4, h5⟩ st => ⟨hd, o, es, ep, st _ h1, h2, h3, h4, h5⟩⟩
def tDGetN (P : Program) (w : World) (td ty : TE) : TE := fun σ H Q => td σ H fun x H1 => ty σ H1 fun y H2 => ∃ a b k xs E r, x = .ref a ∧ y = .ref b ∧ H2 a = some (DNo P w a xs) ∧ NE H2 xs E ∧ KeyAt H2 b k ∧ lookN E k = some r ∧ Q (.str (wS r)) H2
def tDNotInN (P : Program) (w : World) (ty td : TE) : TE := fun σ H Q => ty σ H fun y H1 => td σ H1 fun x H2 => ∃ a b k xs E, x = .ref a ∧ y = .ref b ∧ H2 a = some (DNo P w a xs) ∧ NE H2 xs E ∧ KeyAt H2 b k ∧ Q (.bl (!(lookN E k).isSome)) H2
def sDPutN (P : Program) (w : World) (td ty tv : TE) : TS := fun D σ H => tv σ H fun v H1 => td σ H1 fun x H2 => ty σ H2 fun y H3 => ∃ a b k xs E r, x = .ref a ∧ y = .ref b ∧ v = .str (wS r) ∧ H3 a = some (DNo P w a xs) ∧ NE H3 xs E ∧ KeyAt H3 b k ∧ xs.length ≤ 1000 ∧ lookN E k = none ∧
  ∀ u, RelV (.str (wS r)) u → D.nx σ (upd H3 a (DNo P w a (xs ++ [(nk k, b, u)])))
variable {o i e value : Expr} {pos pos' : Pos} {td ty tv : TE}
theorem room8 {A : Around} (hu : A.units + 64 < cLine) {P : Program} {w : World} : (nestedKind P w).room A.in1 := by
  show A.units + 1 + 8 < cLine
  omega
theorem pe_dgetN (hu : X.A.units + 64 < cLine) (ho : PE X o td) (hi : PE X i ty) (hs : NoSl i) : PE X (.Subscript o i pos) (tDGetN X.prog X.w td ty) := by
  refine ⟨fun pins s σ H Q I h => ?_⟩
  refine subD_of PySem.F.slot_dict_getitem.lookup hs (thn (ho.run pins s σ H _ I h) fun u z1 ⟨x, G1, J1, rx, q1⟩ => thn (hi.run pins z1 σ G1 _ J1 q1) fun iv z2 ⟨y, G2, J2, ry, a, b, k, xs, E, r, ex, ey, ha, ne, hk, hl, q2⟩ => ?_)
  subst ex ey
  cases rx
  cases ry
  obtain ⟨hd, dd⟩ := dn_of J2 ha ne
  have g := ne.at_ (k := k)
  rw [hl] at g
  obtain ⟨p, g1, g2⟩ := g
  exact ⟨dd.typeIs, wpAny_getItem_heap (room8 hu) (hk.is J2.hok) dd g1 ⟨_, G2, J2.tok _, g2, q2⟩⟩
theorem pc_dnotinN (hu : X.A.units + 64 < cLine) (hi : PE X i ty) (ho : PE X o td) : PC X .NotIn i o (tDNotInN X.prog X.w ty td) := by
  refine ⟨fun pins s σ H Q I h => ?_⟩
  refine thn (hi.run pins s σ H _ I h) fun iv z1 ⟨y, G1, J1, ry, q1⟩ => thn (ho.run pins z1 σ G1 _ J1 q1) fun u z2 ⟨x, G2, J2, rx, a, b, k, xs, E, ex, ey, ha, ne, hk, q2⟩ => ?_
  subst ex ey
  cases rx
  cases ry
  obtain ⟨hd, dd⟩ := dn_of J2 ha ne
  refine wpAny_notIn_heap (room8 hu) (hk.is J2.hok) hd dd ?_
  have g := ne.at_ (k := k)
  have hb : (atKey xs (nk k)).isSome = (lookN E k).isSome := by
    cases hx : lookN E k with
    | none => rw [hx] at g; rw [show atKey xs (nk k) = none from g]; rfl
    | some r => rw [hx] at g; obtain ⟨p, g1, _⟩ := g; rw [g1]; rfl
  rw [hb]
  exact ⟨.bl (!(lookN E k).isSome), G2, J2.tok _, rfl, q2⟩
theorem ps_dputN (hu : X.A.units + 64 < cLine) (ho : PE X o td) (hi : PE X i ty) (hv : PE X value tv) (hs : swapsWith value (some (.Subscript o i pos')) pos.line X.env = pure false) :
    PS X (.Assign [.Subscript o i pos'] value pos) (sDPutN X.prog X.w td ty tv) := by
  refine ⟨fun pins s σ H D I h => ?_⟩
  refine wpAny_Assign_Subscript (thn (hv.run pins s σ H _ I h) fun r0 z1 ⟨v, G1, J1, rv, q1⟩ => thn (ho.run pins z1 σ G1 _ J1 q1) fun u z2 ⟨x, G2, J2, rx, q2⟩ => thn (hi.run pins z2 σ G2 _ J2 q2) fun iv z3 ⟨y, G3, J3, ry, a, b, k, xs, E, r, ex, ey, ev, ha, ne, hk, hl, hn, q3⟩ => ?_) hs
  subst ex ey ev
  cases rx
  cases ry
  obtain ⟨hd, dd⟩ := dn_of J3 ha ne
  refine wpAny_setItem_heap (hsz := Nat.le_trans hl (by decide)) (room8 hu) (hk.is J3.hok) dd fun h' dd' sb => ?_
  have g := ne.at_ (k := k)
  rw [hn] at g
  rw [storedH_new g] at dd'
  refine ⟨σ, _, ?_, q3 _ rv⟩
  have he : ∃ q, h'.get? a = some q := let ⟨q, _, _, hq, _⟩ := dd'; ⟨q, hq⟩
  exact d_write J3 (by rw [ha]; exact True.intro) sb he (dn_new hd dd')
def tDispN (P : Program) (w : World) (tk tv : TE) : TE := fun σ H Q => ∀ p, H p = none → tPairs [(tk, tv)] σ (upd H p (DNo P w p [])) fun ps G => ∃ b k r, ps = [(V.ref b, V.str (wS r))] ∧ G p = some (DNo P w p []) ∧ KeyAt G b k ∧
  ∀ u, RelV (.str (wS r)) u → Q (.ref p) (upd G p (DNo P w p [(nk k, b, u)]))
theorem pe_dispN {kx vx : Expr} {tk tv : TE} (hu : X.A.units + 64 < cLine) (hk : PE X kx tk) (hv : PE X vx tv) : PE X (.Dict [some kx] [vx] pos) (tDispN X.prog X.w tk tv) := by
  refine ⟨fun pins s σ H Q I q => ?_⟩
  have hn := I.hok.fresh (Nat.le_refl s.heap.objs.size)
  have hd : (s.heap.objs.size == sysModules) = false := beq_eq_false_iff_ne.mpr (Ne.symm (Nat.ne_of_lt I.big))
  have new0 : ObjOk X.prog X.w (upd H s.heap.objs.size (DNo X.prog X.w s.heap.objs.size [])) (s.heap.push { cls := .type "dict", data := .dict #[] }) s.heap.objs.size (DNo X.prog X.w s.heap.objs.size []) :=
    dn_new hd ⟨_, #[], 0, Heap.get?_push_size _ rfl, ⟨rfl, rfl, rfl⟩, rfl, rfl, (fun x hx => by simp at hx), List.nodup_nil⟩
  have I1 := I.laid (a := s.heap.objs.size) (h' := s.heap.push { cls := .type "dict", data := .dict #[] }) (t' := s.toks) (fun _ _ q => Heap.get?_push_of_some _ q) (Nat.le_refl _) new0
  have hshape := zip_pairTrees [some kx] [vx] X.env pos rfl rfl
  rw [arm_eval_Dict, hshape, dictDisplay_pairs (pairTrees [some kx] [vx] X.env pos) (by simp [pairTrees]) (by simp [pairTrees])]
  refine wpAny_bind (wpAny_standAt (wpAny_bind (wpAny_subDictH (knd := nestedKind X.prog X.w) (Q := fun d z => wpAny (model X.prog X.w) X.A (pure (Value.ref d)) (EP X pins σ Q) X.xe z) (by show X.A.units + 8 < cLine; omega) (by simp [pairTrees]) ?_)))
  refine thn ((pps_cons hk hv pps_nil).run pins _ σ _ _ I1 (q _ hn)) fun ws z ⟨ps, G, J, rel, b, k, r, ep, hp, hkk, q2⟩ => ?_
  subst ep
  cases rel with
  | @cons _ pr _ _ r1 t1 =>
    cases t1
    obtain ⟨u1, u2⟩ := pr
    obtain ⟨e1, e2⟩ := r1
    have e1 : u1 = Value.ref b := e1
    subst e1
    obtain ⟨_, dd⟩ := dn_of (E := []) J hp .nil
    refine ⟨[(nk k, b, u2)], ⟨rfl, rfl, hkk.is J.hok, trivial⟩, dd, fun h' tk dd' sb => wpAny_pure ⟨.ref s.heap.objs.size, _, ?_, rfl, q2 u2 e2⟩⟩
    have he : ∃ q, h'.get? s.heap.objs.size = some q := let ⟨q, _, _, hq, _⟩ := dd'; ⟨q, hq⟩
    exact d_write J (by rw [hp]; exact True.intro) sb he (dn_new hd dd')
variable {P : Program} {w : World}
theorem wp_dgetN (hP : X.prog = P) (hw : X.w = w) (hu : X.A.units + 64 < cLine) (ho : PE X o td) (hi : PE X i ty) (hs : NoSl i) : PE X (.Subscript o i pos) (tDGetN P w td ty) := by
  subst hP hw
  exact pe_dgetN hu ho hi hs
theorem wc_dnotinN (hP : X.prog = P) (hw : X.w = w) (hu : X.A.units + 64 < cLine) (hi : PE X i ty) (ho : PE X o td) : PC X .NotIn i o (tDNotInN P w ty td) := by
  subst hP hw
  exact pc_dnotinN hu hi ho
theorem wp_dputN (hP : X.prog = P) (hw : X.w = w) (hu : X.A.units + 64 < cLine) (ho : PE X o td) (hi : PE X i ty) (hv : PE X value tv) (hs : swapsWith value (some (.Subscript o i pos')) pos.line X.env = pure false) :
    PS X (.Assign [.Subscript o i pos'] value pos) (sDPutN P w td ty tv) := by
  subst hP hw
  exact ps_dputN hu ho hi hv hs
theorem wp_dispN (hP : X.prog = P) (hw : X.w = w) {kx vx : Expr} {tk tv : TE} (hu : X.A.units + 64 < cLine) (hk : PE X kx tk) (hv : PE X vx tv) : PE X (.Dict [some kx] [vx] pos) (tDispN P w tk tv) := by
  subst hP hw
  exact pe_dispN hu hk hv
end

end K29
set_option autoImplicit false
set_option maxHeartbeats 4000000
namespace K29
/-! Rounds: rows with one cut, at the end; the search for them. -/
section
variable {tabs : List (List Nat)} {ls : List Wd}
/-- what is heard behind a row in which nothing is cut -/
def hear (ls : List Wd) : Wd → Wd → Option Wd
  | h, [] => some h
  | h, s :: r => if fullB ls (mo h s) = true then none else hear ls (mo h s) r
/-- the one cut of the row is at its end -/
def One (ls : List Wd) : Wd → Wd → Prop
  | _, [] => False
  | h, s :: r => if fullB ls (mo h s) = true then r = [] else One ls (mo h s) r
def bhv (tabs : List (List Nat)) (o : Option Pr) (r : Wd) : Option Pr := r.foldl (fun o s => o.bind fun p => nx tabs p s) o
theorem bhv_none (r : Wd) : bhv tabs none r = none := by
  unfold bhv
  induction r with
  | nil => rfl
  | cons s r ih => exact ih
theorem bhv_cons (o : Option Pr) (s : Nat) (r : Wd) : bhv tabs o (s :: r) = bhv tabs (o.bind fun p => nx tabs p s) r := rfl
theorem bhv_app (o : Option Pr) (r r' : Wd) : bhv tabs o (r ++ r') = bhv tabs (bhv tabs o r) r' := by unfold bhv; rw [List.foldl_append]
theorem hear_app : ∀ (h r : Wd) (s : Nat), hear ls h (r ++ [s]) = (hear ls h r).bind fun g => if fullB ls (mo g s) = true then none else some (mo g s)
  | h, [], s => rfl
  | h, a :: r, s => by
    show (if fullB ls (mo h a) = true then none else hear ls (mo h a) (r ++ [s])) = (if fullB ls (mo h a) = true then none else hear ls (mo h a) r).bind _
    by_cases e : fullB ls (mo h a) = true
    · rw [if_pos e, if_pos e]; rfl
    · rw [if_neg e, if_neg e, hear_app]
theorem one_app : ∀ (h r g : Wd) (s : Nat), hear ls h r = some g → fullB ls (mo g s) = true → One ls h (r ++ [s])
  | h, [], g, s, e, f => by
    cases e
    show if fullB ls (mo h s) = true then ([] : Wd) = [] else _
    rw [if_pos f]
  | h, a :: r, g, s, e, f => by
    have e : (if fullB ls (mo h a) = true then none else hear ls (mo h a) r) = some g := e
    show if fullB ls (mo h a) = true then r ++ [s] = [] else One ls (mo h a) (r ++ [s])
    by_cases q : fullB ls (mo h a) = true
    · rw [if_pos q] at e; cases e
    · rw [if_neg q] at e ⊢
      exact one_app _ _ _ _ e f
/-- a row of one round from p to q -/
structure Rnd (tabs : List (List Nat)) (ls : List Wd) (p q : Pr) (r : Wd) : Prop where
  one : One ls [] r
  bh : bhv tabs (some p) r = some q
  lt : ∀ s ∈ r, s < tabs.length
def Vp (tabs : List (List Nat)) (p : Pr) : Prop := p.1 < p.2 ∧ p.2 < many tabs
theorem Vp.next {p q : Pr} {s : Nat} (g : Gt tabs) (v : Vp tabs p) (hs : s < tabs.length) (h : nx tabs p s = some q) : Vp tabs q := by
  unfold nx prOf at h
  have h1 := g.cell_lt hs (show p.1 < many tabs by have := v.1; have := v.2; omega)
  have h2 := g.cell_lt hs v.2
  by_cases e : cell tabs s p.1 = cell tabs s p.2
  · rw [if_pos e] at h; cases h
  · rw [if_neg e] at h
    cases h
    by_cases l : cell tabs s p.1 < cell tabs s p.2
    · rw [if_pos l]; exact ⟨l, h2⟩
    · rw [if_neg l]; exact ⟨show cell tabs s p.2 < cell tabs s p.1 by omega, h1⟩
/-- heard letters stand in order -/
def Hd3 (h : Wd) : Prop := h = (List.range 3).filter fun c => decide (c ∈ h)
theorem hd3_mo (h : Wd) (s : Nat) : Hd3 (mo h s) := by
  unfold Hd3 mo
  refine List.filter_congr fun c hc => ?_
  rw [List.mem_range] at hc
  have e : decide (c ∈ (List.range 3).filter fun c => decide (c ∈ h) || decide (c = s)) = (decide (c ∈ h) || decide (c = s)) := by
    rw [Bool.eq_iff_iff, decide_eq_true_eq, List.mem_filter, List.mem_range]
    exact ⟨fun z => z.2, fun z => ⟨hc, z⟩⟩
  rw [e]
theorem hd3_nil : Hd3 [] := by
  unfold Hd3
  rw [List.filter_eq_nil_iff.mpr]
  intro a _ z
  simp at z
theorem hd3_lt {h : Wd} (q : Hd3 h) : ∀ c ∈ h, c < 3 := fun c hc => by
  rw [q] at hc
  exact List.mem_range.mp (List.mem_filter.mp hc).1
theorem hd3_len {h : Wd} (q : Hd3 h) : h.length ≤ 3 := by
  rw [q]
  exact Nat.le_trans (List.length_filter_le _ _) (by simp)
def sub3 : List Wd := [[], [0], [1], [2], [0, 1], [0, 2], [1, 2], [0, 1, 2]]
theorem hd3_mem {h : Wd} (q : Hd3 h) : h ∈ sub3 := by
  rw [q]
  have : ∀ a b c : Bool, ((List.range 3).filter fun i => if i = 0 then a else if i = 1 then b else c) ∈ sub3 := by decide +kernel
  have e : ((List.range 3).filter fun c => decide (c ∈ h)) = (List.range 3).filter fun i => if i = 0 then decide (0 ∈ h) else if i = 1 then decide (1 ∈ h) else decide (2 ∈ h) := by
    refine List.filter_congr fun c hc => ?_
    rw [List.mem_range] at hc
    match c, hc with
    | 0, _ => rfl
    | 1, _ => rfl
    | 2, _ => rfl
  rw [e]
  exact this _ _ _
/-- a list without doubles within another is no longer -/
theorem len_le_of_sub {α : Type} [DecidableEq α] : ∀ {l m : List α}, l.Nodup → (∀ x ∈ l, x ∈ m) → l.length ≤ m.length
  | [], _, _, _ => Nat.zero_le _
  | a :: l, m, nd, h => by
    obtain ⟨n1, n2⟩ := List.nodup_cons.mp nd
    have ha := h a (List.mem_cons_self ..)
    have hsub : ∀ x ∈ l, x ∈ m.erase a := fun x hx => by
      have hne : x ≠ a := fun z => n1 (by rw [← z]; exact hx)
      exact (List.mem_erase_of_ne hne).mpr (h x (List.mem_cons_of_mem _ hx))
    have ih := len_le_of_sub n2 hsub
    rw [List.length_erase_of_mem ha] at ih
    have := List.length_pos_of_mem ha
    simp only [List.length_cons]
    omega
/-- the answer of round_rows -/
structure RowsOk (tabs : List (List Nat)) (ls : List Wd) (p : Pr) (F : List (Pr × Wd)) : Prop where
  nd : (F.map (·.1)).Nodup
  snd : ∀ e ∈ F, Rnd tabs ls p e.1 e.2 ∧ e.2.length ≤ 80 ∧ Vp tabs e.1
  cmp : ∀ q r, Rnd tabs ls p q r → q ∈ F.map (·.1)
theorem RowsOk.len {p : Pr} {F : List (Pr × Wd)} (h : RowsOk tabs ls p F) (g : Gt tabs) : F.length ≤ 10 := by
  have h1 : (F.map (·.1)).length ≤ (prs (many tabs)).length := len_le_of_sub h.nd fun x hx => by
    obtain ⟨e, he, rfl⟩ := List.mem_map.mp hx
    exact prs_mem.mpr (h.snd e he).2.2
  rw [List.length_map] at h1
  have : ∀ m : Fin 6, (prs m.1).length ≤ 10 := by decide +kernel
  have m5 := g.m5
  exact Nat.le_trans h1 (this ⟨many tabs, by omega⟩)
/-- the search: E the nodes met, in turn, with a row to each; F the pairs found; the first a nodes are done, of the next the first j letters -/
structure Bfs (tabs : List (List Nat)) (ls : List Wd) (p : Pr) (E : List (NK × Wd)) (F : List (Pr × Wd)) (a j : Nat) : Prop where
  first : E[0]? = some ((p, []), [])
  nd : (E.map (·.1)).Nodup
  ent : ∀ (i : Nat) (e : NK × Wd), E[i]? = some e → Vp tabs e.1.1 ∧ Hd3 e.1.2 ∧ hear ls [] e.2 = some e.1.2 ∧ bhv tabs (some p) e.2 = some e.1.1 ∧ (∀ s ∈ e.2, s < tabs.length) ∧ e.2.length ≤ i
  fnd : (F.map (·.1)).Nodup
  fs : ∀ e ∈ F, Rnd tabs ls p e.1 e.2 ∧ e.2.length ≤ 80 ∧ Vp tabs e.1
  done : ∀ (i s : Nat), (i < a ∨ (i = a ∧ s < j)) → s < tabs.length → ∀ e : NK × Wd, E[i]? = some e → ∀ q, nx tabs e.1.1 s = some q → if fullB ls (mo e.1.2 s) = true then q ∈ F.map (·.1) else (q, mo e.1.2 s) ∈ E.map (·.1)
theorem Bfs.len {p : Pr} {E : List (NK × Wd)} {F : List (Pr × Wd)} {a j : Nat} (b : Bfs tabs ls p E F a j) (g : Gt tabs) : E.length ≤ 80 := by
  have h1 : (E.map (·.1)).length ≤ ((prs (many tabs)).flatMap fun q => sub3.map fun h => ((q, h) : NK)).length := len_le_of_sub b.nd fun x hx => by
    obtain ⟨e, he, rfl⟩ := List.mem_map.mp hx
    obtain ⟨i, hi⟩ := List.mem_iff_getElem?.mp he
    obtain ⟨h1, h2, _⟩ := b.ent i e hi
    exact List.mem_flatMap.mpr ⟨e.1.1, prs_mem.mpr h1, List.mem_map.mpr ⟨e.1.2, hd3_mem h2, rfl⟩⟩
  rw [List.length_map] at h1
  have : ∀ m : Fin 6, ((prs m.1).flatMap fun q => sub3.map fun h => ((q, h) : NK)).length ≤ 80 := by decide +kernel
  have m5 := g.m5
  exact Nat.le_trans h1 (this ⟨many tabs, by omega⟩)
theorem Bfs.start (tabs : List (List Nat)) (ls : List Wd) {p : Pr} (v : Vp tabs p) : Bfs tabs ls p [((p, []), [])] [] 0 0 := by
  refine ⟨rfl, by simp, fun i e h => ?_, List.nodup_nil, fun e h => by simp at h, fun i s h => by omega⟩
  cases i with
  | zero =>
    cases h
    exact ⟨v, hd3_nil, rfl, rfl, fun s hs => by simp at hs, Nat.le_refl _⟩
  | succ i => simp at h
theorem Bfs.next {p : Pr} {E : List (NK × Wd)} {F : List (Pr × Wd)} {a : Nat} (b : Bfs tabs ls p E F a tabs.length) : Bfs tabs ls p E F (a + 1) 0 :=
  ⟨b.first, b.nd, b.ent, b.fnd, b.fs, fun i s h hs => b.done i s (by omega) hs⟩
/-- nothing new -/
theorem Bfs.same {p : Pr} {E : List (NK × Wd)} {F : List (Pr × Wd)} {a j : Nat} (b : Bfs tabs ls p E F a j) {e0 : NK × Wd} (he : E[a]? = some e0) (h : ∀ q, nx tabs e0.1.1 j = some q → if fullB ls (mo e0.1.2 j) = true then q ∈ F.map (·.1) else (q, mo e0.1.2 j) ∈ E.map (·.1)) : Bfs tabs ls p E F a (j + 1) :=
  ⟨b.first, b.nd, b.ent, b.fnd, b.fs, fun i s hi hs e hE q hq => by
    by_cases e1 : i = a ∧ s = j
    · obtain ⟨rfl, rfl⟩ := e1
      rw [he] at hE
      cases hE
      exact h q hq
    · exact b.done i s (by omega) hs e hE q hq⟩
/-- a pair found -/
theorem Bfs.found {p q0 : Pr} {E : List (NK × Wd)} {F : List (Pr × Wd)} {a j : Nat} (b : Bfs tabs ls p E F a j) (g : Gt tabs) {e0 : NK × Wd} (he : E[a]? = some e0) (hj : j < tabs.length) (hq : nx tabs e0.1.1 j = some q0) (hf : fullB ls (mo e0.1.2 j) = true) (hn : q0 ∉ F.map (·.1)) :
    Bfs tabs ls p E (F ++ [(q0, e0.2 ++ [j])]) a (j + 1) := by
  obtain ⟨v, h3, hh, hb, hl, hlen⟩ := b.ent a e0 he
  have hlt := (List.getElem?_eq_some_iff.mp he).1
  have h80 := b.len g
  refine ⟨b.first, b.nd, b.ent, ?_, fun e hE => ?_, fun i s hi hs e hE q hq2 => ?_⟩
  · rw [List.map_append, List.nodup_append]
    exact ⟨b.fnd, by simp, fun x hx y hy => by rw [List.mem_singleton.mp hy]; exact fun z => hn (by rw [← show x = q0 from z]; exact hx)⟩
  · rcases List.mem_append.mp hE with z | z
    · exact b.fs e z
    · rw [List.mem_singleton.mp z]
      refine ⟨⟨one_app _ _ _ _ hh hf, ?_, fun s hs => ?_⟩, ?_, v.next g hj hq⟩
      · show bhv tabs (some p) (e0.2 ++ [j]) = some q0
        rw [bhv_app, hb]
        exact hq
      · rcases List.mem_append.mp hs with z | z
        · exact hl s z
        · rw [List.mem_singleton.mp z]; exact hj
      · show (e0.2 ++ [j]).length ≤ 80
        rw [List.length_append]
        simp only [List.length_cons, List.length_nil]
        omega
  · have key : (if fullB ls (mo e.1.2 s) = true then q ∈ F.map (·.1) else (q, mo e.1.2 s) ∈ E.map (·.1)) → if fullB ls (mo e.1.2 s) = true then q ∈ (F ++ [(q0, e0.2 ++ [j])]).map (·.1) else (q, mo e.1.2 s) ∈ E.map (·.1) := fun h => by
      by_cases c : fullB ls (mo e.1.2 s) = true
      · rw [if_pos c] at h ⊢
        rw [List.map_append]
        exact List.mem_append_left _ h
      · rw [if_neg c] at h ⊢
        exact h
    by_cases e1 : i = a ∧ s = j
    · obtain ⟨rfl, rfl⟩ := e1
      rw [he] at hE
      cases hE
      rw [hq] at hq2
      cases hq2
      rw [if_pos hf, List.map_append]
      exact List.mem_append_right _ (by simp)
    · exact key (b.done i s (by omega) hs e hE q hq2)
/-- a node met -/
theorem Bfs.met {p q0 : Pr} {E : List (NK × Wd)} {F : List (Pr × Wd)} {a j : Nat} (b : Bfs tabs ls p E F a j) (g : Gt tabs) {e0 : NK × Wd} (he : E[a]? = some e0) (hj : j < tabs.length) (hq : nx tabs e0.1.1 j = some q0) (hf : ¬ fullB ls (mo e0.1.2 j) = true) (hn : (q0, mo e0.1.2 j) ∉ E.map (·.1)) :
    Bfs tabs ls p (E ++ [((q0, mo e0.1.2 j), e0.2 ++ [j])]) F a (j + 1) := by
  obtain ⟨v, h3, hh, hb, hl, hlen⟩ := b.ent a e0 he
  have hlt := (List.getElem?_eq_some_iff.mp he).1
  refine ⟨?_, ?_, fun i e hE => ?_, b.fnd, b.fs, fun i s hi hs e hE q hq2 => ?_⟩
  · have h0 : 0 < E.length := by omega
    rw [List.getElem?_append_left h0]
    exact b.first
  · rw [List.map_append, List.nodup_append]
    exact ⟨b.nd, by simp, fun x hx y hy => by rw [List.mem_singleton.mp hy]; exact fun z => hn (by rw [← show x = (q0, mo e0.1.2 j) from z]; exact hx)⟩
  · by_cases hi : i < E.length
    · rw [List.getElem?_append_left hi] at hE
      exact b.ent i e hE
    · rw [List.getElem?_append_right (by omega)] at hE
      have hi0 : i - E.length = 0 := by
        have := (List.getElem?_eq_some_iff.mp hE).1
        simp at this
        omega
      rw [hi0] at hE
      cases hE
      refine ⟨v.next g hj hq, hd3_mo _ _, ?_, ?_, fun s hs => ?_, ?_⟩
      · show hear ls [] (e0.2 ++ [j]) = some (mo e0.1.2 j)
        rw [hear_app, hh]
        show (if fullB ls (mo e0.1.2 j) = true then none else some (mo e0.1.2 j)) = _
        rw [if_neg hf]
      · show bhv tabs (some p) (e0.2 ++ [j]) = some q0
        rw [bhv_app, hb]
        exact hq
      · rcases List.mem_append.mp hs with z | z
        · exact hl s z
        · rw [List.mem_singleton.mp z]; exact hj
      · show (e0.2 ++ [j]).length ≤ i
        rw [List.length_append]
        simp only [List.length_cons, List.length_nil]
        omega
  · have key : (if fullB ls (mo e.1.2 s) = true then q ∈ F.map (·.1) else (q, mo e.1.2 s) ∈ E.map (·.1)) → if fullB ls (mo e.1.2 s) = true then q ∈ F.map (·.1) else (q, mo e.1.2 s) ∈ (E ++ [((q0, mo e0.1.2 j), e0.2 ++ [j])]).map (·.1) := fun h => by
      by_cases c : fullB ls (mo e.1.2 s) = true
      · rw [if_pos c] at h ⊢
        exact h
      · rw [if_neg c] at h ⊢
        rw [List.map_append]
        exact List.mem_append_left _ h
    have hil : i < E.length := by omega
    rw [List.getElem?_append_left hil] at hE
    by_cases e1 : i = a ∧ s = j
    · obtain ⟨rfl, rfl⟩ := e1
      rw [he] at hE
      cases hE
      rw [hq] at hq2
      cases hq2
      rw [if_neg hf, List.map_append]
      exact List.mem_append_right _ (by simp)
    · exact key (b.done i s (by omega) hs e hE q hq2)
/-- all nodes done: every round is found -/
theorem Bfs.rows {p : Pr} {E : List (NK × Wd)} {F : List (Pr × Wd)} {a : Nat} (b : Bfs tabs ls p E F a 0) (ha : E.length ≤ a) : RowsOk tabs ls p F := by
  refine ⟨b.fnd, b.fs, fun q r h => ?_⟩
  have key : ∀ (r : Wd) (x : NK), x ∈ E.map (·.1) → One ls x.2 r → bhv tabs (some x.1) r = some q → (∀ s ∈ r, s < tabs.length) → q ∈ F.map (·.1) := by
    intro r
    induction r with
    | nil => exact fun x _ h => h.elim
    | cons s r ih =>
      intro x hx ho hb hl
      obtain ⟨e, he, rfl⟩ := List.mem_map.mp hx
      obtain ⟨i, hi⟩ := List.mem_iff_getElem?.mp he
      have hia := (List.getElem?_eq_some_iff.mp hi).1
      have hs := hl s (List.mem_cons_self ..)
      rw [bhv_cons] at hb
      have hb : bhv tabs (nx tabs e.1.1 s) r = some q := hb
      cases hn : nx tabs e.1.1 s with
      | none => rw [hn, bhv_none] at hb; cases hb
      | some q1 =>
        rw [hn] at hb
        have hd := b.done i s (by omega) hs e hi q1 hn
        have ho : if fullB ls (mo e.1.2 s) = true then r = [] else One ls (mo e.1.2 s) r := ho
        by_cases c : fullB ls (mo e.1.2 s) = true
        · rw [if_pos c] at ho hd
          subst ho
          cases hb
          exact hd
        · rw [if_neg c] at ho hd
          exact ih (q1, mo e.1.2 s) hd ho hb fun z hz => hl z (List.mem_cons_of_mem _ hz)
  exact key r (p, []) (List.mem_map.mpr ⟨_, List.mem_iff_getElem?.mpr ⟨0, b.first⟩, rfl⟩) h.one h.bh h.lt
end

end K29
set_option autoImplicit false
set_option maxHeartbeats 4000000
namespace K29
open PySem PySem.Spec PyProof.Rows L2
/-! rules, 7: a lambda of two parameters, handed to a def and called there -/
/-- two parameters and captured names, no other -/
structure Lam2 (a b : Str) (sc scope : Scope) : Prop where
  kind : scope.kind = .function
  co : scope.isCoroutine = false
  gen : scope.isGenerator = false
  own : ∀ y ∈ scope.names, y.2 ≠ .cell ∧ (y.2 = .local → y.1 = a ∨ y.1 = b)
  pa : scope.names.lookup a = some .local
  pb : scope.names.lookup b = some .local
  free : ∀ y ∈ scope.names, y.2 = .free → sc.names.lookup y.1 = some .cell ∨ sc.names.lookup y.1 = some .free
def lam2B (a b : Str) (sc scope : Scope) : Bool :=
  decide (scope.kind = .function) && !scope.isCoroutine && !scope.isGenerator && decide (scope.names.lookup a = some .local) && decide (scope.names.lookup b = some .local) &&
    scope.names.all fun y => !decide (y.2 = .cell) && (!decide (y.2 = .local) || decide (y.1 = a) || decide (y.1 = b)) && (!decide (y.2 = .free) || decide (sc.names.lookup y.1 = some .cell) || decide (sc.names.lookup y.1 = some .free))
theorem lam2_by {a b : Str} {sc scope : Scope} (h : lam2B a b sc scope = true) : Lam2 a b sc scope := by
  unfold lam2B at h
  simp only [Bool.and_eq_true, Bool.or_eq_true, Bool.not_eq_true', decide_eq_true_eq, decide_eq_false_iff_not, List.all_eq_true] at h
  obtain ⟨⟨⟨⟨⟨h1, h2⟩, h3⟩, h5⟩, h6⟩, h4⟩ := h
  refine ⟨h1, h2, h3, fun y hy => ⟨(h4 y hy).1.1, fun e => ?_⟩, h5, h6, fun y hy e => ?_⟩
  · rcases (h4 y hy).1.2 with (z | z) | z
    · exact absurd e z
    · exact .inl z
    · exact .inr z
  · rcases (h4 y hy).2 with (z | z) | z
    · exact absurd e z
    · exact .inl z
    · exact .inr z
theorem Lam2.has {X : Cx} {a b : Str} {scope : Scope} (L : Lam2 a b X.env.scope scope) (ok : X.Ok) : ∀ y ∈ scope.names, y.2 = .free → ∃ c, X.env.cells.lookup y.1 = some c := fun y hy e => by
  rcases L.free y hy e with k | k
  · exact ok.has _ (.inl k)
  · exact ok.has _ (.inr k)
/-- the body's context: the parameters ahead of the maker's names -/
def lamC2 (X : Cx) (a b : Str) (A : Around) (outer : List Env) (s : Shared) (H : Hp) (scope : Scope) (f c' : Addr) : Cx :=
  { LamX.lamCx X A outer s H L2.E0 scope f c' with N := a :: b :: X.N, xe := fun _ _ => False }
section
variable {X : Cx} {pins : List (Addr × Obj)} {σ : L2.St} {H HZ : Hp} {s s1 : Shared} {a b : Str}
theorem lam_start2p {A : Around} {outer : List Env} {scope : Scope} {f c' : Addr} {h₁ : Heap} {tk : Nat} {v1 v2 : V} {u1 u2 : Value} (hab : a ≠ b) (hna : a ∉ X.N) (hnb : b ∉ X.N) (I : Inv X pins σ H s) (L : Lam2 a b X.env.scope scope) (e0 : Env0 X.prog X.w X.K X.mg X.base A outer s1 HZ) (hd : A.handled = none)
    (un : Un (frs X.stack) [] H HZ s.heap s1.heap) (r1 : RelV v1 u1) (r2 : RelV v2 u2) (hns : h₁.Ns s1.heap.objs.size fun y => ([(a, u1), (b, u2)] : List (Str × Value)).reverse.lookup y) (kp : ∀ b o, s1.heap.get? b = some o → h₁.get? b = some o) :
    Inv (lamC2 X a b A outer s1 HZ scope f c') [] (some v1 :: some v2 :: σ) HZ { s1 with heap := h₁, toks := tk } := by
  have hfree := L.has I.ok
  have cm : ∀ {y c}, (cloFrom X.env.cells scope.names []).lookup y = some c → X.env.cells.lookup y = some c := fun {y c} e => by
    rcases cloFrom_mem (PySem.mem_of_lookup e) with hm | ⟨h1, h2⟩
    · cases hm
    · obtain ⟨c1, hc⟩ := hfree _ h1 rfl
      have hc : X.env.cells.lookup y = some c1 := hc
      rw [show c = c1 by rw [h2, hc] <;> rfl]
      exact hc
  have look : ∀ {y}, scope.names.lookup y = some .free → ∃ c, (cloFrom X.env.cells scope.names []).lookup y = some c := fun {y} hl => mem_lookup (cloFrom_has (cells := X.env.cells) (acc := []) (PySem.mem_of_lookup hl))
  have cellK : ∀ {c : Addr} {v : Option Value}, H c = none → s.heap.IsCell c v → h₁.IsCell c v := fun {c v} n ⟨o, ho, hd⟩ => by
    obtain ⟨sl, q⟩ := un.any ho n (by simp)
    exact ⟨_, kp _ _ q, hd⟩
  have noA : ∀ d : Addr, d ∉ (lamC2 X a b A outer s1 HZ scope f c').ex := fun d z => absurd (show d ∈ ([] : List Addr) from z) (by simp)
  refine ⟨⟨e0.mod, L.kind, rfl, rfl, Nat.le_refl _, fun y z c e1 e2 => I.ok.inj y z c (cm e1) (cm e2), fun y hy => ?_, fun y c z _ => ?_, fun _ => hd, Around.frames_deeper e0.frames, .inr ⟨rfl, rfl⟩, fun d z => absurd z (noA d), e0.bs, e0.bsz, fun d _ _ => noA d,
      fun d z => absurd z (noA d), e0.funs, e0.frf⟩,
    rfl, e0.bare, Un.kept kp, ⟨_, hns, fun i y v e1 e2 e3 => ?_⟩, fun y c e => ?_, e0.hok.fresh (Nat.le_refl _), fun y c e => ?_, fun q hq => absurd (show q ∈ ([] : List (Addr × Obj)) ++ [] from hq) (by simp), e0.hok.kept kp, ?_⟩
  · have hy : scope.names.lookup y = some .cell ∨ scope.names.lookup y = some .free := hy
    rcases hy with hy | hy
    · exact absurd rfl (L.own _ (PySem.mem_of_lookup hy)).1
    · exact look hy
  · have z : false = true := z
    cases z
  · have e3 : Vis scope y := e3
    match i, e1, e2 with
    | 0, e1, e2 =>
      cases e1
      cases e2
      refine ⟨u1, r1, .inl ⟨L.pa, ?_⟩⟩
      show ([(b, u2), (a, u1)] : List (Str × Value)).lookup a = some u1
      rw [List.lookup_cons, show (a == b) = false from by simp [hab], List.lookup_cons_self]
    | 1, e1, e2 =>
      cases e1
      cases e2
      refine ⟨u2, r2, .inl ⟨L.pb, ?_⟩⟩
      show ([(b, u2), (a, u1)] : List (Str × Value)).lookup b = some u2
      rw [List.lookup_cons_self]
    | i + 2, e1, e2 =>
      have e1 : X.N[i]? = some y := e1
      have e2 : σ[i]? = some (some v) := e2
      have hyN := List.mem_of_getElem? e1
      rcases e3 with k | k | k
      · rcases (L.own _ (PySem.mem_of_lookup k)).2 rfl with z | z
        · exact absurd (by rw [← show y = a from z]; exact hyN) hna
        · exact absurd (by rw [← show y = b from z]; exact hyN) hnb
      · exact absurd rfl (L.own _ (PySem.mem_of_lookup k)).1
      · obtain ⟨m, hn, hl⟩ := I.loc
        have hvis : Vis X.env.scope y := (L.free _ (PySem.mem_of_lookup k) rfl).elim (fun k => .inr (.inl k)) (fun k => .inr (.inr k))
        obtain ⟨w', r, q⟩ := hl i y v e1 e2 hvis
        obtain ⟨c2, h2⟩ := look k
        refine ⟨w', r, .inr ⟨.inr k, c2, h2, ?_⟩⟩
        have c1 := cm h2
        rcases q with ⟨k', _⟩ | ⟨_, c3, e', z⟩
        · have k' : X.env.scope.names.lookup y = some .local := k'
          rcases L.free _ (PySem.mem_of_lookup k) rfl with k2 | k2 <;> rw [show X.env.scope.names.lookup y = _ from k2] at k' <;> cases k'
        · rw [c1] at e'
          cases e'
          exact cellK (I.freeC y _ c1) z
  · obtain ⟨w', z⟩ := I.cell y c (cm e)
    exact ⟨w', cellK (I.freeC y c (cm e)) z⟩
  · obtain ⟨v, o, ho, hd⟩ := I.cell y c (cm e)
    exact un.free c o ho (I.freeC y c (cm e)) (by simp)
  · show σ.length + 1 + 1 = X.N.length + 1 + 1
    rw [I.len]
/-- the reading of the name's call: the lambda's body read with its two arguments ahead of the slots it was made in -/
def tAct (f c' : Addr) (q : Str) (i : Nat) (σ0 : L2.St) (tb : TE) (ta : TA) : TE := fun σZ HZ Q => σZ[i]? = some (some (.ref f)) ∧ ta σZ HZ fun vs G => ∃ v1 v2, vs = [v1, v2] ∧ G c' = some (LamX.CodeO c' q) ∧ tb (some v1 :: some v2 :: σ0) G Q
theorem pe_act2 {Ng : List Str} {qg : Str} {sg : Scope} {g f c' : Addr} {cdg pm ctv : Value} {params : Arguments} {body : Expr} {scope : Scope} {k i : Nat} {y : Str} {tb : TE} {ta : TA} {e1 e2 : Expr} {p1 p2 : Pos} (hab : a ≠ b) (hna : a ∉ X.N) (hnb : b ∉ X.N)
    (I : Inv X pins σ H s) (L : Lam2 a b X.env.scope scope) (hf : s.heap.get? f = some (PySem.W.kla_obj "<lambda>" (X.env.qual ++ "<lambda>") params body scope (cloFrom X.env.cells scope.names []) pm c' ctv)) (hfn : H f = none) (hfr : f ∉ frs X.stack)
    (hbind : ∀ u1 u2, bindArgs (PySem.W.kla_fn "<lambda>" (X.env.qual ++ "<lambda>") params body scope (cloFrom X.env.cells scope.names []) pm (.ref c') ctv) ⟨[u1, u2], []⟩ = pure [(a, u1), (b, u2)])
    (hr : Room (k + 1) (X.A.deeper (envOfC qg sg s.heap.objs.size g cdg)))
    (hbody : ∀ (A : Around) (outer : List Env) (z : Shared) (G : Hp), Room k (A.deeper (LamX.lamEnv X scope z.heap.objs.size f c')) → PE (lamC2 X a b A outer z G scope f c') body tb)
    (ha : PA (cxOf L2.CX0 X.prog X.w X.K X.mg X.base Ng qg sg g cdg X.A X.stack s H L2.E0).nox [e1, e2] ta)
    (hN : Ng[i]? = some y) (hv : Vis sg y) (hd : (y == ("__debug__" : Str)) = false := by decide) (hcd : (y == ("__classdict__" : Str)) = false := by decide)
    (he : starEach [e1, e2] (envOfC qg sg s.heap.objs.size g cdg) = (false, eval e1 (envOfC qg sg s.heap.objs.size g cdg)) :: starEach [e2] (envOfC qg sg s.heap.objs.size g cdg) := by rfl) (hpl : (backTo p2 (starEach [e2] (envOfC qg sg s.heap.objs.size g cdg))).any (·.1) = false := by rfl) :
    PE (cxOf L2.CX0 X.prog X.w X.K X.mg X.base Ng qg sg g cdg X.A X.stack s H L2.E0).nox (.Call (.Name y p1) [e1, e2] [] p2) (tAct f c' (X.env.qual ++ "<lambda>") i σ tb ta) := by
  refine ⟨fun pinsZ sZ σZ HZ Q IZ h => ?_⟩
  obtain ⟨hs, ht⟩ := h
  refine wpAny_Call_Name_kw (thn ((pe_var (pos := p1) (i := i) hN hv hd hcd).run pinsZ sZ σZ HZ (fun v G => v = .ref f ∧ G = HZ) IZ ⟨.ref f, hs, rfl, rfl⟩) fun u z1 ⟨v, G1, J1, q1, e3, e4⟩ => ?_)
  subst e3 e4
  cases q1
  have at1 : ∀ {z : Shared} {G : Hp} {τ : L2.St}, Inv (cxOf L2.CX0 X.prog X.w X.K X.mg X.base Ng qg sg g cdg X.A X.stack s H L2.E0).nox pinsZ τ G z → z.heap.get? f = some (PySem.W.kla_obj "<lambda>" (X.env.qual ++ "<lambda>") params body scope (cloFrom X.env.cells scope.names []) pm c' ctv) := fun J =>
    J.base.keep f _ hf hfn hfr fun z => nomatch (show f ∈ ([] : List Addr) from z)
  refine PySem.W.callWith_F ⟨_, _, _, _, at1 J1⟩ (thn (ha.run p2 pinsZ z1 σZ _ _ J1 ht) fun us z2 ⟨vs, G2, J2, rs, v1, v2, ev, hc, hb⟩ => ⟨⟨_, _, _, _, at1 J2⟩, ?_⟩) he hpl
  subst ev
  obtain ⟨u1, u2, rfl, ru1, ru2⟩ := vals2 rs
  have un : Un (frs X.stack) [] H G2 s.heap z2.heap := J2.base
  obtain ⟨⟨oc, ws, t, hoc, hdc, hvc⟩, _, _⟩ := J2.hok c' _ hc
  have rc : codeAny (model X.prog X.w) (X.A.deeper (envOfC qg sg s.heap.objs.size g cdg)) (.call (.ref f) ⟨[u1, u2], []⟩) (CR L2.CX0 (envOfC qg sg s.heap.objs.size g cdg :: X.stack) X.prog X.w G2 z2 Q L2.E0) z2 := by
    refine PySem.W.kla_callFunE hr.depth (at1 J2) rfl L.co L.gen rfl ⟨c', oc, ws, t, rfl, hoc, hdc, hvc⟩ ?_
    rw [hbind]
    refine wpAny_pure (wpAny_newFunctionEnv (fun y hy => (L.own y hy).1) (fun y hy => ?_) (fun h₁ hns hsb => ⟨J2.nolimit.fresh _ hsb, ?_⟩) L.kind)
    · rcases List.mem_cons.mp hy with z | z
      · rw [z]; exact L.pa
      · rw [List.mem_singleton.mp z]; exact L.pb
    show codeAny _ _ (.expr body (LamX.lamEnv X scope z2.heap.objs.size f c')) _ _
    have kp : ∀ d o, z2.heap.get? d = some o → h₁.get? d = some o := fun d o e => hsb.extBut d o (Nat.ne_of_lt (Heap.lt_size e)) (Heap.get?_push_of_some _ e)
    have J := lam_start2p (A := X.A.deeper (envOfC qg sg s.heap.objs.size g cdg)) (outer := envOfC qg sg s.heap.objs.size g cdg :: X.stack) (f := f) (c' := c') (tk := z2.toks + 2) hab hna hnb I L J2.env0 hr.hd un ru1 ru2 hns kp
    refine PySem.W.kla_codeExpr (wpAny_mono ((hbody _ _ z2 G2 (hr.deeper _)).run [] _ _ G2 Q J hb) (fun v s' hq => ?_) fun e s' hq => (show False from hq).elim)
    obtain ⟨w', H', J', rv, q⟩ := hq
    exact ⟨w', H', J'.os, J'.bare, J'.base, J'.hok, rv, q⟩
  have hx : Passes L2.CX0 (cxOf L2.CX0 X.prog X.w X.K X.mg X.base Ng qg sg g cdg X.A X.stack s H L2.E0).nox L2.E0 := L2.pass0
  refine wpAny_call (codeAny_mono rc fun r s' hq => ?_)
  cases r with
  | error e => exact hx pinsZ σZ G2 z2 e s' J2 hq
  | ok fl =>
    cases fl with
    | ret u => exact J2.after hq
    | next => exact False.elim hq
    | brk => exact False.elim hq
    | cont => exact False.elim hq
end
section
variable {X : Cx}
/-- x(e1, e2, e3, e4, lambda a, b: body): GG is what the callee asks, told of the four values, the lambda and the slots it was made in -/
def tLamCall (T : List (Addr × Str)) (q : Str) (GG : L2.St → List V → Addr → Addr → Hp → VK → Prop) (ta : TA) : TE := fun σ H Q => ta σ H fun vs G => LamX.Tabs T G ∧ ∀ f c' G2, Es T G G2 → G2 c' = some (LamX.CodeO c' q) → GG σ vs f c' G2 Q
theorem pe_lamcall {T : List (Addr × Str)} {x a b : Str} {g c P : Addr} {k : Nat} {pg : Arguments} {bg : List Stmt} {sg : Scope} {dV kV doc pm cdv ct oc : Value} {an od : Option Addr} {osl : Array (Option Value)} {Ng ps : List Str} {ds : List Value} {e1 e2 e3 e4 : Expr} {t1 t2 t3 t4 tb : TE} {y : Str} {i : Nat}
    {params : Arguments} {body : Expr} {scope : Scope} {p lpos pos : Pos} {GG : L2.St → List V → Addr → Addr → Hp → VK → Prop} (hg : Gl X x) (hm : X.mg x = some (.ref g)) (hk : PySem.W.keepIn X.K (.ref g) = true)
    (lk : X.K.lookup g = some ⟨oc, od, .func (PySem.W.fnOf x x pg bg sg dV kV doc pm an cdv ct), osl⟩) (hcg : PySem.W.codeIn X.K cdv x = true) (hbi : L2.Binds X.K (PySem.W.fnOf x x pg bg sg dV kV doc pm an cdv ct) ps []) (hps : ps.length = 5) (Sg : FnScope Ng ps sg)
    (TB : LamX.TabB X.base X.mg c P) (hcode : X.env.code = .ref c) (hmT : (P, X.env.qual ++ "<lambda>") ∈ T) (hu : ∀ p ∈ T, p.1 = P → p.2 = X.env.qual ++ "<lambda>") (hr : Room (k + 2) X.A) (hab : a ≠ b) (hna : a ∉ X.N) (hnb : b ∉ X.N) (L : Lam2 a b X.env.scope scope) (hdef : defaultsOf params X.env = ([], []))
    (hbind : ∀ (q : Str) (cl : List (Str × Addr)) (pm cv ctv : Value) (u1 u2 : Value), bindArgs (PySem.W.kla_fn "<lambda>" q params body scope cl pm cv ctv) ⟨[u1, u2], []⟩ = pure [(a, u1), (b, u2)])
    (hbody : ∀ (A : Around) (outer : List Env) (s : Shared) (H : Hp) (f c' : Addr), Room k (A.deeper (LamX.lamEnv X scope s.heap.objs.size f c')) → PE (lamC2 X a b A outer s H scope f c') body tb)
    (h1 : PE X e1 t1) (h2 : PE X e2 t2) (h3 : PE X e3 t3) (h4 : PE X e4 t4) (hy : Ng[i]? = some y) (hvy : Vis sg y) (hdy : (y == ("__debug__" : Str)) = false) (hcy : (y == ("__classdict__" : Str)) = false)
    (hG : ∀ (σ : L2.St) (f c' : Addr) (s : Shared) (H : Hp) (vs : List V) (Q : VK), vs.length = 4 → Room (k + 1) (X.A.deeper (envOfC x sg s.heap.objs.size g cdv)) →
      (∀ (d1 d2 : Expr) (p1 p2 : Pos) (ta : TA), starEach [d1, d2] (envOfC x sg s.heap.objs.size g cdv) = (false, eval d1 (envOfC x sg s.heap.objs.size g cdv)) :: starEach [d2] (envOfC x sg s.heap.objs.size g cdv) → (backTo p2 (starEach [d2] (envOfC x sg s.heap.objs.size g cdv))).any (·.1) = false →
        PA (cxOf L2.CX0 X.prog X.w X.K X.mg X.base Ng x sg g cdv X.A X.stack s H L2.E0).nox [d1, d2] ta → PE (cxOf L2.CX0 X.prog X.w X.K X.mg X.base Ng x sg g cdv X.A X.stack s H L2.E0).nox (.Call (.Name y p1) [d1, d2] [] p2) (tAct f c' (X.env.qual ++ "<lambda>") i σ tb ta)) →
      GG σ vs f c' H Q → ∃ t, PSs (cxOf L2.CX0 X.prog X.w X.K X.mg X.base Ng x sg g cdv X.A X.stack s H L2.E0).nox bg t ∧ t { nx := fun _ H' => Q .non H', rt := Q } (L2.start Ng (vs ++ [.ref f])) H)
    (hs1 : starEach [e1, e2, e3, e4, .Lambda params body scope lpos] X.env = (false, eval e1 X.env) :: starEach [e2, e3, e4, .Lambda params body scope lpos] X.env)
    (hs2 : starEach [e2, e3, e4, .Lambda params body scope lpos] X.env = [(false, eval e2 X.env), (false, eval e3 X.env), (false, eval e4 X.env), (false, eval (.Lambda params body scope lpos) X.env)])
    (hdb : (x == ("__debug__" : Str)) = false := by decide) :
    PE X (.Call (.Name x p) [e1, e2, e3, e4, .Lambda params body scope lpos] [] pos) (tLamCall T (X.env.qual ++ "<lambda>") GG (tCons t1 (tCons t2 (tCons t3 (tCons t4 tNil))))) := by
  refine ⟨fun pins s σ H Q I h => ?_⟩
  refine wpAny_Call_Name_kw (ld_glob I hg hm ?_ hdb)
  refine PySem.W.callWith_K (h₀ := X.base) I.ok.mod.kin hk ?_ hs1 (by rw [hs2]; rfl)
  rw [hs1, hs2]
  show wpAny _ _ (spliced ((false, eval e1 X.env) :: (false, eval e2 X.env) :: (false, eval e3 X.env) :: (false, eval e4 X.env) :: (false, eval (.Lambda params body scope lpos) X.env) :: backTo pos (starEach [] X.env))) _ _ s
  refine Calls.spliced_cons (thn (h1.run pins s σ H _ I h) fun u1 s1 ⟨v1, G1, I1, r1, q1⟩ => ?_)
  refine Calls.spliced_cons (thn (h2.run pins s1 σ G1 _ I1 q1) fun u2 s2 ⟨v2, G2, I2, r2, q2⟩ => ?_)
  refine Calls.spliced_cons (thn (h3.run pins s2 σ G2 _ I2 q2) fun u3 s3 ⟨v3, G3, I3, r3, q3⟩ => ?_)
  refine Calls.spliced_cons (thn (h4.run pins s3 σ G3 _ I3 q3) fun u4 s4 ⟨v4, G4, I4, r4, q4⟩ => ?_)
  obtain ⟨hT, hq⟩ := q4
  refine Calls.spliced_cons (LamX.lam_make2 I4 TB hcode hmT hu hT hdef (L.has I.ok) fun f c' pm' ctv G5 s5 I5 eN T5 hf hfn hfr hco => ?_)
  refine Calls.spliced_nil ⟨I5.kIn, ?_⟩
  have rc : codeAny (model X.prog X.w) X.A (.call (.ref g) ⟨[u1, u2, u3, u4, .ref f], []⟩) (CR L2.CX0 X.stack X.prog X.w G5 s5 Q L2.E0) s5 := by
    refine LamX.run_ofS (N := Ng) (ps := ps) (us := [u1, u2, u3, u4, .ref f]) (vs := [v1, v2, v3, v4, .ref f]) lk hcg Sg hr I5.env0 (hbi s5 [u1, u2, u3, u4, .ref f] I5.kIn (by rw [hps]; rfl)) (.cons r1 (.cons r2 (.cons r3 (.cons r4 (.cons rfl .nil))))) hps.symm fun hr' => ?_
    obtain ⟨t', ht', hq'⟩ := hG σ f c' s5 G5 [v1, v2, v3, v4] Q rfl hr' (fun d1 d2 p1 p2 ta he hpl hpa => pe_act2 (i := i) hab hna hnb I5 L hf hfn hfr (fun u1 u2 => hbind _ _ _ _ _ u1 u2) hr' (fun A outer z G hr2 => hbody A outer z G f c' hr2) hpa hy hvy hdy hcy he hpl) (hq f c' G5 ⟨eN, fun _ => T5⟩ hco)
    exact ⟨t', ht'.nox, hq'⟩
  refine wpAny_call (codeAny_mono rc fun r s2 hq => ?_)
  cases r with
  | error e => exact (show False from hq).elim
  | ok fl =>
    cases fl with
    | ret u => exact I5.after hq
    | next => exact False.elim hq
    | brk => exact False.elim hq
    | cont => exact False.elim hq
end

end K29
set_option autoImplicit false
set_option maxHeartbeats 4000000
namespace K29
open PySem PySem.Spec PyProof.Rows L2
/-! rules, 9: enumerate(text), enumerate(tuple) -/
section
variable {X : Cx} {pins : List (Addr × Obj)} {σ : L2.St} {H : Hp} {s : Shared}
theorem enumD_item {elts : List Expr} {kk : Nat} {tpos : Pos} {e it : Addr} {fpD : List Addr} {n i : Nat} {P : Nat → Value → Prop} {St : Nat → Heap → Prop} {old : Value} {YY : V → Prop} {E : Value → Shared → Prop} (I : Inv X pins σ H s) (D : Draws X.prog X.w X.A.in1 it fpD n P St) (he : IsEnum s.heap e it ((i : Nat) : Int) old) (hst : St i s.heap)
    (hlt : i < n) (hne : e ≠ it) (hef : e ∉ fpD) (hf : ∀ b ∈ [e, it], FpOk X pins H b) (hrel : ∀ x, P i x → ∃ v, RelV v x ∧ YY v) :
    wpAny (model X.prog X.w) X.A (pyNext (.ref e)) (fun r s1 => ∃ u, r = some u ∧ wpAny (model X.prog X.w) X.A (letOwnedTupleGo (.Tuple elts kk tpos) (.ref e) u) (fun _ s2 => ∃ x H', Inv X pins σ H' s2 ∧ RelV x u ∧ (∃ T v, x = .ref T ∧ H T = none ∧ H' = upd H T (.tup [.int (i : Nat), v]) ∧ YY v) ∧
      ((∃ old, IsEnum s2.heap e it ((i + 1 : Nat) : Int) old) ∧ St (i + 1) s2.heap) ∧ ∀ b ∈ [e, it], H' b = none) E s1) E s := by
  have hel : e < s.heap.objs.size := Heap.lt_size he
  obtain ⟨oi, hoi⟩ := D.live i _ hst
  have hil : it < s.heap.objs.size := Heap.lt_size hoi
  refine wpAny_pyNext_enum_itemD D he hst hlt hne hef fun x h' tk hP ho hst' hT hsz hk => ?_
  obtain ⟨v, rv, yy⟩ := hrel x hP
  refine ⟨_, rfl, wpAny_letOwnedTupleGo_enum (s := { s with heap := h', toks := tk + 1 }) ho fun h2 he2 sb => ?_⟩
  have hT2 : h2.get? s.heap.objs.size = some { cls := .type "tuple", data := .seq #[.int i tk, x] } := (sb.2 _ (Nat.ne_of_gt hel)).trans hT
  have new : ObjOk X.prog X.w (upd H s.heap.objs.size (.tup [.int (i : Nat), v])) h2 s.heap.objs.size (.tup [.int (i : Nat), v]) := ⟨by show 2 ≤ sizeLine; decide, [.int i tk, x], .cons ⟨_, rfl⟩ (.cons rv .nil), ⟨_, hT2, rfl, _, rfl⟩⟩
  have I1 : Inv X pins σ (upd H s.heap.objs.size (.tup [.int (i : Nat), v])) { s with heap := h2, toks := tk + 1 } :=
    I.turnedNew (ch := [e, it]) (fun b ob hb q => (sb.2 b fun z => hb (by simp [z])).trans (hk b ob (fun z => hb (by simp [z])) (fun z => hb (by simp [z])) q)) hf (Nat.le_refl _) new
  refine ⟨.ref s.heap.objs.size, _, I1, rfl, ⟨_, v, rfl, I.hok.fresh (Nat.le_refl _), rfl, yy⟩, ⟨⟨x, ?_⟩, D.frame _ _ _ hst' fun b hb o q => (sb.2 b fun z => hef (by rw [← z]; exact hb)).trans q⟩, fun b hb => ?_⟩
  · rw [show ((i + 1 : Nat) : Int) = (i : Int) + 1 by omega]
    exact he2
  · have hlt2 : b < s.heap.objs.size := by
      rcases List.mem_cons.mp hb with z | z
      · rw [z]; exact hel
      · rw [List.mem_singleton.mp z]; exact hil
    rw [upd_ne (Nat.ne_of_lt hlt2)]
    exact (hf b hb).1
theorem enumD_end {e it : Addr} {fpD : List Addr} {n i : Nat} {P : Nat → Value → Prop} {St : Nat → Heap → Prop} {old : Value} {E : Value → Shared → Prop} (I : Inv X pins σ H s) (D : Draws X.prog X.w X.A.in1 it fpD n P St) (he : IsEnum s.heap e it ((i : Nat) : Int) old) (hst : St n s.heap) (hf : ∀ b ∈ [e, it], FpOk X pins H b) :
    wpAny (model X.prog X.w) X.A (pyNext (.ref e)) (fun r s1 => r = none ∧ Inv X pins σ H s1) E s := by
  obtain ⟨f0, f1, f2, f3, f4, f5⟩ := hf it (by simp)
  exact wpAny_pyNext_enum_endD D he hst fun h' eb => ⟨rfl, I.turned (t' := s.toks) (fun b o hb q => eb b o hb q) f0 f1 f3 f4 f5⟩
end
def ItsE (x : Str) : It := ⟨fun i _ => i < x.cps.size, fun i H v H' => ∃ T c, v = .ref T ∧ H T = none ∧ H' = upd H T (.tup [.int (i : Nat), c]) ∧ ∃ k, x.cps[i]? = some k ∧ c = .str ⟨#[k]⟩, fun i _ => x.cps.size ≤ i⟩
theorem turn_enumS {P : Program} {w : World} {K : PySem.W.Frag} {elts : List Expr} {kk : Nat} {tpos : Pos} (x : Str) (t : Tok) (e it : Addr) :
    Turn P w K (.Tuple elts kk tpos) (ItsE x) [e, it] e (fun i h => (∃ old, IsEnum h e it ((i : Nat) : Int) old) ∧ h.IsStrIter it (strIterType x) x t i ∧ e ≠ it ∧ i ≤ x.cps.size) where
  mem := by simp
  obj := fun i h st b hb => by
    obtain ⟨⟨old, he⟩, ⟨o, ho, hc, hd⟩, _⟩ := st
    rcases List.mem_cons.mp hb with z | z
    · rw [z]; exact ⟨_, he, fun v q => nomatch q⟩
    · rw [List.mem_singleton.mp z]; exact ⟨o, ho, fun v q => by rw [hd] at q; cases q⟩
  keep := fun i h h' st k => let ⟨⟨old, he⟩, ⟨o, ho, r⟩, hne⟩ := st; ⟨⟨old, k e (by simp) _ he⟩, ⟨o, k it (by simp) o ho, r⟩, hne⟩
  item := by
    intro X hP hw hK hc i pins s σ H E I hf st hg
    subst hP hw hK
    obtain ⟨⟨old, he⟩, hit, hne, _⟩ := st
    refine wpAny_mono (enumD_item (YY := fun c => ∃ k, x.cps[i]? = some k ∧ c = .str ⟨#[k]⟩) I (Draws.text (A := X.A.in1) (I.ok.hd hc) it x t) he hit hg hne (by simp [hne]) hf fun y ⟨c, u, h1, h2⟩ => ⟨.str ⟨#[c]⟩, ⟨u, h2⟩, c, h1, rfl⟩) (fun r s1 ⟨u, hr, h⟩ => ⟨u, hr, wpAny_mono h (fun _ s2 ⟨y, H', J, ry, q, ⟨h1, h2⟩, hn⟩ => ⟨y, H', J, ry, q, ⟨h1, h2, hne, hg⟩, hn⟩) fun _ _ z => z⟩) fun _ _ z => z
  done := by
    intro X hP hw hK hc i pins s σ H E I hf st hg
    subst hP hw hK
    obtain ⟨⟨old, he⟩, hit, hne, hle⟩ := st
    have hg : x.cps.size ≤ i := hg
    have ei : i = x.cps.size := by omega
    subst ei
    exact enumD_end I (Draws.text (A := X.A.in1) (I.ok.hd hc) it x t) he hit hf
  self := fun A i s Q E st h => let ⟨⟨_, he⟩, _⟩ := st; wpAny_pyIter_enum he h
def iEnumS (ta : TA) : TI := fun σ H R => ta σ H fun vs H1 => ∃ x, vs = [.str x] ∧ R (ItsE x) H1
theorem pi_enumS {X : Cx} {e : Expr} {ta : TA} {p pos tpos : Pos} {elts : List Expr} {kk : Nat} (hg : Gl X "enumerate") (hm : X.mg "enumerate" = none) (ha : PA X [e] ta) (hs : starEach [e] X.env = [(false, eval e X.env)] := by rfl) :
    PI X (.Tuple elts kk tpos) (.Call (.Name "enumerate" p) [e] [] pos) (iEnumS ta) := by
  refine ⟨fun pins s σ H R I h => ?_⟩
  refine Call_ (ld_blt I hg hm bo_enumerate (PyProof.Rows.callWith_type1 (thn (ha.run pos pins s σ H _ I h) fun us s1 ⟨vs, H1, I1, r1, x, ex, q⟩ => ?_) hs rfl))
  subst ex
  obtain ⟨u, rfl, t, rfl⟩ := vals1 r1
  refine call_enumerate_str fun h' he hit hsz hk => wpAny_pyIter_enum he ?_
  have I2 : Inv X pins σ H1 { s1 with heap := h' } := I1.kept (t' := s1.toks) hk
  refine ⟨s1.heap.objs.size + 1, [s1.heap.objs.size + 1, s1.heap.objs.size], _, _, H1, rfl, I2, turn_enumS x t (s1.heap.objs.size + 1) s1.heap.objs.size, ⟨⟨.none, he⟩, hit, Nat.succ_ne_self _, Nat.zero_le _⟩, fun b hb => ?_, q⟩
  have hle : s1.heap.objs.size ≤ b := by
    rcases List.mem_cons.mp hb with z | z
    · rw [z]; exact Nat.le_add_right _ _
    · rw [List.mem_singleton.mp z]; exact Nat.le_refl _
  exact I1.fpOk hle (I1.hok.fresh hle)
/-! ### a tuple -/
def IttE (K : PySem.W.Frag) (a : Addr) : It :=
  ⟨fun i H => ∃ (xs : List V) (x : V), SqT K H a xs ∧ xs[i]? = some x, fun i H v H' => ∃ T x, v = .ref T ∧ H T = none ∧ H' = upd H T (.tup [.int (i : Nat), x]) ∧ ∀ xs, SqT K H a xs → xs[i]? = some x, fun i H => ∃ xs : List V, SqT K H a xs ∧ xs.length = i⟩
theorem turn_enumT {P : Program} {w : World} {K : PySem.W.Frag} {elts : List Expr} {kk : Nat} {tpos : Pos} (a e it : Addr) :
    Turn P w K (.Tuple elts kk tpos) (IttE K a) [e, it] e (fun i h => (∃ old, IsEnum h e it ((i : Nat) : Int) old) ∧ h.IsTupleIter it a i ∧ e ≠ it ∧ a ≠ it ∧ a ≠ e) where
  mem := by simp
  obj := fun i h st b hb => by
    obtain ⟨⟨old, he⟩, ⟨o, ho, hc, hd⟩, _⟩ := st
    rcases List.mem_cons.mp hb with z | z
    · rw [z]; exact ⟨_, he, fun v q => nomatch q⟩
    · rw [List.mem_singleton.mp z]; exact ⟨o, ho, fun v q => by rw [hd] at q; cases q⟩
  keep := fun i h h' st k => let ⟨⟨old, he⟩, hi, hne⟩ := st; ⟨⟨old, k e (by simp) _ he⟩, hi.at fun o q => k it (by simp) o q, hne⟩
  item := by
    intro X hP hw hK hc i pins s σ H E I hf st hg
    subst hP hw hK
    obtain ⟨⟨old, he⟩, hit, hne, hai, hae⟩ := st
    obtain ⟨xs, x, hq, hx⟩ := hg
    obtain ⟨its, rv, p, hz⟩ := I.tuple hq
    obtain ⟨u, hu, ru⟩ := rv.get hx
    have hlt : i < its.toArray.size := by rw [List.size_toArray]; exact (List.getElem?_eq_some_iff.mp hu).1
    refine wpAny_mono (enumD_item (YY := fun c => c = x) I (Draws.tuple (A := X.A.in1) (I.ok.hd hc) it a hai its.toArray) he ⟨hit, p⟩ hlt hne (by simp [hne, hae.symm]) hf fun y hy => ?_) (fun r s1 ⟨u, hr, h⟩ => ⟨u, hr, wpAny_mono h (fun _ s2 ⟨y, H', J, ry, ⟨T, v, q1, q2, q3, q4⟩, ⟨h1, h2⟩, hn⟩ => ⟨y, H', J, ry, ⟨T, v, q1, q2, q3, fun ys hy => by rw [I.tuple_inj hy hq, q4]; exact hx⟩, ⟨h1, h2.1, hne, hai, hae⟩, hn⟩) fun _ _ z => z⟩) fun _ _ z => z
    rw [List.getElem?_toArray, hu] at hy
    cases hy
    exact ⟨x, ru, rfl⟩
  done := by
    intro X hP hw hK hc i pins s σ H E I hf st hg
    subst hP hw hK
    obtain ⟨⟨old, he⟩, hit, hne, hai, hae⟩ := st
    obtain ⟨xs, hq, hx⟩ := hg
    obtain ⟨its, rv, p, hz⟩ := I.tuple hq
    have hn : its.toArray.size = i := by rw [List.size_toArray, ← rv.length]; exact hx
    exact enumD_end I (Draws.tuple (A := X.A.in1) (I.ok.hd hc) it a hai its.toArray) he (by rw [hn]; exact ⟨hit, p⟩) hf
  self := fun A i s Q E st h => let ⟨⟨_, he⟩, _⟩ := st; wpAny_pyIter_enum he h
theorem meets_enumT {v : Value} {o : Obj} {Z : Heap → Prop} (B : Begins v o Z) :
    Meets (Builtin.«enumerate.__new__» ⟨[.type "enumerate", v], []⟩) (fun _ R s => Z s.heap ∧
      R (.ok (.ret (.ref (s.heap.push o).objs.size))) { s with heap := (s.heap.push o).push { cls := .type "enumerate", data := .fields #[.none, .bool false, .ref s.heap.objs.size, rawInt 0, .none, .none] } }) :=
  .of_wp fun prog w A R s h => by
    obtain ⟨hp, g, d, tk, os⟩ := s
    obtain ⟨h1, h⟩ := h
    have hsub := sub_enumerate
    have q1 : ∀ {B2 : Around} {E : Value → Shared → Prop} {Q : Value → Shared → Prop}, Q (.ref hp.objs.size) ⟨hp.push o, g, d, tk, os⟩ → wpAny (model prog w) B2 (pyIter v) Q E ⟨hp, g, d, tk, os⟩ := fun q => B.iter prog w _ _ ⟨hp, g, d, tk, os⟩ _ h1 q
    wp_walk using q1
    refine wpAny_stack_any fun st => wpAny_pure ?_
    split
    · rename_i c _ _ _ _ _
      cases (c == Value.type "enumerate")
      · wp_walk using q1
        exact ⟨_, rfl, h⟩
      · wp_walk using q1
        exact ⟨_, rfl, h⟩
    · wp_walk using q1
      exact ⟨_, rfl, h⟩
def iEnumT (K : PySem.W.Frag) (ta : TA) : TI := fun σ H R => ta σ H fun vs H1 => ∃ a xs, vs = [.ref a] ∧ SqT K H1 a xs ∧ R (IttE K a) H1
theorem pi_enumT {X : Cx} {e : Expr} {ta : TA} {p pos tpos : Pos} {elts : List Expr} {kk : Nat} (hg : Gl X "enumerate") (hm : X.mg "enumerate" = none) (ha : PA X [e] ta) (hs : starEach [e] X.env = [(false, eval e X.env)] := by rfl) :
    PI X (.Tuple elts kk tpos) (.Call (.Name "enumerate" p) [e] [] pos) (iEnumT X.K ta) := by
  refine ⟨fun pins s σ H R I h => ?_⟩
  refine Call_ (ld_blt I hg hm bo_enumerate (PyProof.Rows.callWith_type1 (thn (ha.run pos pins s σ H _ I h) fun us s1 ⟨vs, H1, I1, r1, a, xs, ex, hq, q⟩ => ?_) hs rfl))
  subst ex
  obtain ⟨u, rfl, ru⟩ := vals1 r1
  cases ru
  obtain ⟨its, rv, p', hz⟩ := I1.tuple hq
  have hT : s1.heap.IsTuple a its.toArray := p'
  have alt : a < s1.heap.objs.size := by
    obtain ⟨o, ho, _⟩ := p'
    exact Heap.lt_size ho
  have hz2 : (s1.heap.push { cls := .type "tuple_iterator", data := .fields #[.ref a, .int 0 0] }).objs.size = s1.heap.objs.size + 1 := Heap.size_push ..
  refine callType_new F.called_enumerate (by decide) (F.typeCall_enumerate_1 _) (F.newCall_enumerate_1 _) (fun obj => F.args_object_init_2 obj _) F.entry_enumerate_new (meets_enumT (begins_tuple a its.toArray)) ⟨hT, ?_⟩
  show _ ∧ _
  rw [hz2]
  have he : IsEnum ((s1.heap.push { cls := .type "tuple_iterator", data := .fields #[.ref a, .int 0 0] }).push { cls := .type "enumerate", data := .fields #[.none, .bool false, .ref s1.heap.objs.size, rawInt 0, .none, .none] }) (s1.heap.objs.size + 1) s1.heap.objs.size 0 .none := by
    have := Heap.get?_push_size (s1.heap.push { cls := .type "tuple_iterator", data := .fields #[.ref a, .int 0 0] }) (o := { cls := .type "enumerate", data := .fields #[.none, .bool false, .ref s1.heap.objs.size, rawInt 0, .none, .none] }) rfl
    rw [hz2] at this
    exact this
  refine ⟨⟨_, he, rfl⟩, wpAny_pyIter_enum he ?_⟩
  have I2 := I1.kept (t' := s1.toks) (h' := (s1.heap.push { cls := .type "tuple_iterator", data := .fields #[.ref a, .int 0 0] }).push { cls := .type "enumerate", data := .fields #[.none, .bool false, .ref s1.heap.objs.size, rawInt 0, .none, .none] }) fun b o x => Heap.get?_push_of_some _ (Heap.get?_push_of_some _ x)
  refine ⟨s1.heap.objs.size + 1, [s1.heap.objs.size + 1, s1.heap.objs.size], _, _, H1, rfl, I2, turn_enumT a (s1.heap.objs.size + 1) s1.heap.objs.size, ⟨⟨.none, he⟩, ⟨_, Heap.get?_push_of_some _ (Heap.get?_push_size _ rfl), rfl, rfl⟩, Nat.succ_ne_self _, Nat.ne_of_lt alt, Nat.ne_of_lt (Nat.lt_succ_of_lt alt)⟩, fun b hb => ?_, q⟩
  have hle : s1.heap.objs.size ≤ b := by
    rcases List.mem_cons.mp hb with z | z
    · rw [z]; exact Nat.le_add_right _ _
    · rw [List.mem_singleton.mp z]; exact Nat.le_refl _
  exact I1.fpOk hle (I1.hok.fresh hle)
/-! ### what they give -/
section
variable {T : List (Addr × Str)} {K : PySem.W.Frag} {α : Type} {σ : L2.St} {H : Hp} {R : Rel α} {te : TE}
theorem i_enumS {l : Wd} (h : Ev T te σ H rW l) : EvI T (iEnumS (tCons te tNil)) σ H (rPair rNat rLt) (enumL l) := fun N H1 e Q q =>
  h N H1 e _ fun v H2 e2 r => by
    have hz : (wS l).cps.size = l.length := wS_len l
    refine ⟨wS l, by rw [show v = .str (wS l) from r], q _ H2 (fun _ => True) (fun i G v G' => (ItsE (wS l)).yld i G v G') e2 (fun _ _ _ => trivial) ?_ fun i G1 v G2 M hi a y => ?_⟩
    · rw [enumL_len, ← hz]
      exact ⟨fun _ _ hi _ => hi, fun _ _ => Nat.le_refl _, fun _ _ _ _ _ _ y => y⟩
    · obtain ⟨t, c, rfl, hn, rfl, k, hk, rfl⟩ := y
      rw [enumL_len] at hi
      have hk2 : (wS l).cps.toList[i]? = some k := by simpa using hk
      rw [wS_codes, List.getElem?_map, List.getElem?_eq_getElem hi] at hk2
      cases hk2
      exact ⟨.new hn, (i, l[i]), enumL_get (List.getElem?_eq_getElem hi), t, _, _, rfl, vis_new a.ok hn, rfl, rfl⟩
theorem i_enumT {xs : List α} (h : Ev T te σ H (rT R) xs) : EvI T (iEnumT K (tCons te tNil)) σ H (rPair rNat R) (enumL xs) := fun N H1 e Q q =>
  h N H1 e _ fun v H2 e2 ⟨p, vs, h1, h2, h3⟩ => by
    have hl : vs.length = xs.length := Paired.length h3
    refine ⟨p, vs, by rw [h1], SqT.of (vis_sub h2), q _ H2 (fun G => SqT K G p vs) (fun i G v G' => (IttE K p).yld i G v G' ∧ SqT K G p vs) e2 (fun M G1 a => SqT.of (a.full.tup h2)) ?_ fun i G1 v G2 M hi a y => ?_⟩
    · rw [enumL_len, ← hl]
      exact ⟨fun i _ hi q => ⟨vs, vs[i], q, by simp [hi]⟩, fun _ q => ⟨vs, q, rfl⟩, fun _ _ _ _ _ g y => ⟨y, g⟩⟩
    · obtain ⟨⟨t, c, rfl, hn, rfl, hc⟩, hs⟩ := y
      rw [enumL_len] at hi
      obtain ⟨u, hu, ru⟩ := pr_get h3 (y := xs[i]) (List.getElem?_eq_getElem hi)
      have := hc vs hs
      rw [hu] at this
      cases this
      exact ⟨.new hn, (i, xs[i]), enumL_get (List.getElem?_eq_getElem hi), t, _, _, rfl, vis_new a.ok hn, rfl, Rel.es (T := T) ru (a.e.trans ((Es.new hn).vis a.ok))⟩
end

end K29
set_option autoImplicit false
set_option maxHeartbeats 4000000
namespace K29
open PySem PySem.Spec PyProof.Rows L2
/-! The walks, 6: the search for rounds. -/
theorem Hd.tup {T : List (Addr × Str)} {M L : List Addr} {Hs G : Hp} {b : Addr} {ts : List V} (h : Hd T M Hs L G) (e : G b = some (.tup ts)) : vis (L ++ M) G b = some (.tup ts) := h.okv.tup e
/-- what the search holds -/
structure RS (P : Program) (w : World) (G : Hp) (rd wl fd : Addr) (E : List (NK × Wd)) (F : List (Pr × Wd)) : Prop where
  ex : ∃ (xs : NX) (ts : List Addr) (kvs : List (List Key × V)), G rd = some (DNo P w rd xs) ∧ NE G xs E ∧ G wl = some (.lst (ts.map V.ref)) ∧ Paired (fun t (e : NK × Wd) => KeyAt G t e.1) ts E ∧ G fd = some (.dT kvs) ∧ DpR rW G kvs F
theorem KeyAt.tups {H H' : Hp} {b : Addr} {x : NK} (ht : ∀ b ts, H b = some (.tup ts) → H' b = some (.tup ts)) : KeyAt H b x → KeyAt H' b x := fun ⟨q, h1, h2⟩ => ⟨q, ht _ _ h1, ht _ _ h2⟩
section
variable {T : List (Addr × Str)} {P : Program} {w : World} {G G' : Hp} {rd wl fd : Addr} {E : List (NK × Wd)} {F : List (Pr × Wd)}
theorem RS.step (h : RS P w G rd wl fd E F) (e : Es T G G') : RS P w G' rd wl fd E F := by
  obtain ⟨xs, ts, kvs, h1, h2, h3, h4, h5, h6⟩ := h.ex
  have ht : ∀ b us, G b = some (.tup us) → G' b = some (.tup us) := fun b us => e.tup
  exact ⟨xs, ts, kvs, e.k _ _ h1 (fun ps z => by cases z), h2.tups ht, e.lst h3, Paired.mapP h4 fun _ _ k => k.tups ht, e.dT h5, h6.st e.kr⟩
/-- a new object beside -/
theorem RS.new {q : Addr} {o : HO} (h : RS P w G rd wl fd E F) (n : G q = none) : RS P w (upd G q o) rd wl fd E F := h.step (T := []) (.new n)
theorem dn_ne {a : Addr} {xs : NX} : (∀ ys, DNo P w a xs ≠ .lst ys) ∧ (∀ ys, DNo P w a xs ≠ .tup ys) ∧ ∀ ys, DNo P w a xs ≠ .dT ys := ⟨fun _ z => (by cases z), fun _ z => (by cases z), fun _ z => (by cases z)⟩
theorem RS.found {k : Pr} {x : Wd} {kvs : List (List Key × V)} (h : RS P w G rd wl fd E F) (hk : G fd = some (.dT kvs)) (hn : k ∉ F.map (·.1)) : RS P w (upd G fd (.dT (putK kvs (pK k) (.str (wS x))))) rd wl fd E (F ++ [(k, x)]) := by
  obtain ⟨xs, ts, kvs', h1, h2, h3, h4, h5, h6⟩ := h.ex
  rw [hk] at h5
  cases h5
  have ht : ∀ b us, G b = some (.tup us) → upd G fd (.dT (putK kvs (pK k) (.str (wS x)))) b = some (.tup us) := fun b us hb => by
    rw [upd_ne fun z => by rw [z, hk] at hb; cases hb]
    exact hb
  refine ⟨xs, ts, _, ?_, h2.tups ht, ?_, Paired.mapP h4 fun _ _ q => q.tups ht, upd_same, ?_⟩
  · rw [upd_ne fun z => by rw [z, hk] at h1; cases h1]
    exact h1
  · rw [upd_ne fun z => by rw [z, hk] at h3; cases h3]
    exact h3
  · have h7 : DpR rW (upd G fd (.dT (putK kvs (pK k) (.str (wS x))))) kvs F := Paired.mapP h6 fun _ _ q => q
    have := dpr_put (k := k) (v := .str (wS x)) (x := x) h7 rfl
    rw [putP_new hn] at this
    exact this
theorem RS.met {k : NK} {x : Wd} {t1 t2 : Addr} {xs : NX} {ts : List Addr} {u : Value} (h : RS P w G rd wl fd E F) (hx : G rd = some (DNo P w rd xs)) (hts : G wl = some (.lst (ts.map V.ref))) (hne : NE G xs E) (hpr : Paired (fun t (e : NK × Wd) => KeyAt G t e.1) ts E) (hu : RelV (.str (wS x)) u) (k1 : KeyAt G t1 k) (k2 : KeyAt G t2 k) :
    RS P w (upd (upd G rd (DNo P w rd (xs ++ [(nk k, t1, u)]))) wl (.lst (ts.map V.ref ++ [V.ref t2]))) rd wl fd (E ++ [(k, x)]) F := by
  obtain ⟨_, _, kvs, _, _, _, _, h5, h6⟩ := h.ex
  have n1 : rd ≠ wl := fun z => by rw [z, hts] at hx; cases hx
  have n2 : rd ≠ fd := fun z => by rw [z, h5] at hx; cases hx
  have n3 : wl ≠ fd := fun z => by rw [z, h5] at hts; cases hts
  have ht : ∀ b us, G b = some (.tup us) → upd (upd G rd (DNo P w rd (xs ++ [(nk k, t1, u)]))) wl (.lst (ts.map V.ref ++ [V.ref t2])) b = some (.tup us) := fun b us hb => by
    rw [upd_ne (fun z => by rw [z, hts] at hb; cases hb), upd_ne (fun z => by rw [z, hx] at hb; cases hb)]
    exact hb
  refine ⟨_, ts ++ [t2], kvs, by rw [upd_ne n1, upd_same], pr_snoc (hne.tups ht) ⟨rfl, k1.tups ht, hu⟩, by rw [upd_same, List.map_append]; rfl, pr_snoc (Paired.mapP hpr fun _ _ q => q.tups ht) (k2.tups ht), ?_, Paired.mapP h6 fun _ _ q => q⟩
  rw [upd_ne n3.symm, upd_ne n2.symm]
  exact h5
theorem lookN_none {E : List (NK × Wd)} {k : NK} : lookN E k = none ↔ k ∉ E.map (·.1) := by
  unfold lookN
  rw [Option.map_eq_none_iff, List.find?_eq_none]
  constructor
  · intro h z
    obtain ⟨a, h1, h2⟩ := List.mem_map.mp z
    exact h a h1 (decide_eq_true h2)
  · intro h a h1 h2
    exact h (List.mem_map.mpr ⟨a, h1, of_decide_eq_true h2⟩)
theorem lookN_at : ∀ {E : List (NK × Wd)} {i : Nat} {e : NK × Wd}, (E.map (·.1)).Nodup → E[i]? = some e → lookN E e.1 = some e.2
  | [], _, _, _, h => by simp at h
  | a :: E, 0, e, _, h => by
    cases h
    simp [lookN, List.find?_cons]
  | a :: E, i + 1, e, nd, h => by
    rw [List.map_cons, List.nodup_cons] at nd
    have h : E[i]? = some e := h
    have hne : ¬ a.1 = e.1 := fun z => nd.1 (by rw [z]; exact List.mem_map.mpr ⟨e, List.mem_of_getElem? h, rfl⟩)
    have g : lookN (a :: E) e.1 = lookN E e.1 := by simp [lookN, List.find?_cons, hne]
    rw [g]
    exact lookN_at nd.2 h
theorem e_act {α β γ : Type} {σ σ0 : L2.St} {H : Hp} {f c' : Addr} {q : Str} {i : Nat} {ta tb td : TE} {R : Rel α} {S : Rel β} {U : Rel γ} {x : α} {y : β} {z : γ} (hi : σ[i]? = some (some (.ref f))) (h1 : Ev T ta σ H R x) (h2 : Ev T td σ H S y) (hc : H c' = some (LamX.CodeO c' q))
    (hl : ∀ B v1 v2, Es T H B → R.r B v1 x → S.r B v2 y → Ev T tb (some v1 :: some v2 :: σ0) B U z) : Ev T (tAct f c' q i σ0 tb (tCons ta (tCons td tNil))) σ H U z := fun N H1 e Q qk =>
  ⟨hi, h1 N H1 e _ fun a H2 e2 ra => h2 N H2 (e.step e2) _ fun b H3 e3 rb => ⟨a, b, rfl, ((e.step e2).step e3).full.k _ _ hc (fun ps z => by cases z), by
    have a3 := (e.step e2).step e3
    exact hl (vis N H3) a b a3.e (Rel.up ra (e.step e2).ok e3) rb N H3 (.self a3.ok) Q fun v H4 e4 r => qk v H4 ((e2.trans e3).trans e4) r⟩⟩
end
section
variable {P : Program} {w : World} {K : PySem.W.Frag} {mg : Str → Option Value} {base : Heap} {C : Addr} {TT : List (Addr × Str)}
theorem rr_walk (T : Tx K mg C) {g : Addr} {cdg : Value} {A : Around} {outer : List Env} {s : Shared} {H : Hp} {M : List Addr} {f c' : Addr} {q0 : Str} {σ0 : L2.St} {tb : TE} {dv lv sv hv : V} {tabs : List (List Nat)} {ls : List Wd} {p : Pr}
    (hr : Room 3 (A.deeper (envOfC "round_rows" (defScope s_round_rows) s.heap.objs.size g cdg)))
    (act : ∀ (d1 d2 : Expr) (p1 p2 : Pos) (ta : TA), starEach [d1, d2] (envOfC "round_rows" (defScope s_round_rows) s.heap.objs.size g cdg) = (false, eval d1 (envOfC "round_rows" (defScope s_round_rows) s.heap.objs.size g cdg)) :: starEach [d2] (envOfC "round_rows" (defScope s_round_rows) s.heap.objs.size g cdg) → (backTo p2 (starEach [d2] (envOfC "round_rows" (defScope s_round_rows) s.heap.objs.size g cdg))).any (·.1) = false →
        PA (cxOf L2.CX0 P w K mg base ["device", "lots", "start", "lot", "follow", "rows", "waiting", "found", "at", "here", "heard", "row", "number", "signal", "after", "more"] "round_rows" (defScope s_round_rows) g cdg A outer s H L2.E0).nox [d1, d2] ta →
        PE (cxOf L2.CX0 P w K mg base ["device", "lots", "start", "lot", "follow", "rows", "waiting", "found", "at", "here", "heard", "row", "number", "signal", "after", "more"] "round_rows" (defScope s_round_rows) g cdg A outer s H L2.E0).nox (.Call (.Name "follow" p1) [d1, d2] [] p2) (tAct f c' q0 4 σ0 tb ta))
    (ok : Nok M H) (rdev : (rDev C).r (vis M H) dv tabs) (rls : (rT rW).r (vis M H) lv ls) (rst : rP.r (vis M H) sv p) (rlot : rW.r (vis M H) hv []) (hco : vis M H c' = some (LamX.CodeO c' q0)) (gt : Gt tabs) (fam : Fam tabs.length ls) (vp : Vp tabs p)
    (hlam : ∀ B v1 v2 x n, Es TT (vis M H) B → rP.r B v1 x → rNat.r B v2 n → Vp tabs x → n < tabs.length → Ev TT tb (some v1 :: some v2 :: σ0) B (rO rP) (nx tabs x n)) :
    ∃ t, PSs (cxOf L2.CX0 P w K mg base ["device", "lots", "start", "lot", "follow", "rows", "waiting", "found", "at", "here", "heard", "row", "number", "signal", "after", "more"] "round_rows" (defScope s_round_rows) g cdg A outer s H L2.E0).nox (defBody s_round_rows) t ∧
      ∀ Q : VK, (∀ v H' F, Es TT H H' → RowsOk tabs ls p F → (rD rW).r (vis M H') v F → Q v H') → t { nx := fun _ H' => Q .non H', rt := Q } (L2.start ["device", "lots", "start", "lot", "follow", "rows", "waiting", "found", "at", "here", "heard", "row", "number", "signal", "after", "more"] [dv, lv, sv, hv, .ref f]) H := by
  have n3 := gt.n3
  have m5 := gt.m5
  refine ⟨_, (pss_cons (st_ 5 sc_round_rows.nd (wp_dispN (P := P) (w := w) rfl rfl (hu64_of hr) (pe_tup (pa_cons (pv 2) (pa_cons (pv 3) pa_nil))) pe_str))
(pss_cons (st_ 6 sc_round_rows.nd (pe_lst (pa_cons (pe_tup (pa_cons (pv 2) (pa_cons (pv 3) pa_nil))) pa_nil)))
(pss_cons (st_ 7 sc_round_rows.nd pe_dnewT)
(pss_cons (st_ 8 sc_round_rows.nd pe_int)
(pss_cons (ps_while PassesOwn.never (pt_cmpR op_lt (pv 8) (pe_callB (wLen K) rfl T.f_len bo_len (pa_cons (pv 6) pa_nil)) (nomark _))
(pss_cons (ps_asg (pe_ix (wIxL K) (pv 6) (pv 8) (fun _ _ => rfl)) (wPg2 K (pgs_cons (gn_ 9 sc_round_rows.nd) (pgs_cons (gn_ 10 sc_round_rows.nd) pgs_nil))))
(pss_cons (st_ 11 sc_round_rows.nd (wp_dgetN (P := P) (w := w) rfl rfl (hu64_of hr) (pv 5) (pe_ix (wIxL K) (pv 6) (pv 8) (fun _ _ => rfl)) (fun _ _ => rfl)))
(pss_cons (ps_aug (i := 8) sc_round_rows.nd rfl (by first | exact Or.inl rfl | exact Or.inr rfl) pe_int ip_add)
(pss_one (ps_for PassesOwn.never rfl (pi_enumS rfl T.f_enumerate (pa_cons (wFld K (pv 0)) pa_nil)) (wPg2 K (pgs_cons (gn_ 12 sc_round_rows.nd) (pgs_cons (gn_ 13 sc_round_rows.nd) pgs_nil)))
(pss_cons (st_ 14 sc_round_rows.nd (act _ _ _ _ _ rfl rfl (pa_cons (pv 9) (pa_cons (pv 12) pa_nil))))
(pss_one (ps_if (pt_cmp (pc_notN (pv 14)))
(pss_cons (st_ 15 sc_round_rows.nd (pe_cl (ok_joined_lot (TT := TT) T) (hr.mono (by decide)) rfl (pa_cons (pv 10) (pa_cons (pv 13) pa_nil))))
(pss_one (ps_if (pt_val (pe_cl (ok_has_full (TT := TT) T) (hr.mono (by decide)) rfl (pa_cons (pv 1) (pa_cons (pv 15) pa_nil))))
(pss_one (ps_if (pt_cmp (pc_dnotin (hu_of hr) (pv 14) (pv 7)))
(pss_one (ps_dput (hu_of hr) (pv 7) (pv 14) (pe_op op_add_str (pv 11) (pv 13)) rfl))
pss_nil))
(pss_one (ps_if (pt_cmp (wc_dnotinN (P := P) (w := w) rfl rfl (hu64_of hr) (pe_tup (pa_cons (pv 14) (pa_cons (pv 15) pa_nil))) (pv 5)))
(pss_cons (wp_dputN (P := P) (w := w) rfl rfl (hu64_of hr) (pv 5) (pe_tup (pa_cons (pv 14) (pa_cons (pv 15) pa_nil))) (pe_op op_add_str (pv 11) (pv 13)) rfl)
(pss_one (ps_expr (pe_bm PySem.F.plainAttrs_list PySem.F.slot_list_append PySem.F.type_list_append wAppend (pv 6) (pa_cons (pe_tup (pa_cons (pv 14) (pa_cons (pv 15) pa_nil))) pa_nil)))))
pss_nil)))))
pss_nil)))))))))
(pss_one (ps_ret (pv 7)))))))), fun Q q => ?_⟩
  -- the first node
  intro rd hrd
  obtain ⟨sp, rfl, hsp⟩ := rst
  have hsp0 : H sp = some (.tup [.int (p.1 : Int), .int (p.2 : Int)]) := vis_sub hsp
  have rlot : hv = .str (wS []) := rlot
  subst rlot
  have nrs : sp ≠ rd := ne_of_none hsp0 hrd
  refine ⟨_, rfl, _, rfl, by show 2 ≤ sizeLine; decide, fun t1 ht1 => ?_⟩
  have nt1 : rd ≠ t1 := fun z => by rw [← z, upd_same] at ht1; cases ht1
  refine ⟨t1, (p, []), [], rfl, by rw [upd_ne nt1, upd_same], ⟨sp, upd_same, ?_⟩, fun u0 hu0 => ?_⟩
  · rw [upd_ne (ne_of_none (by rw [upd_ne nrs]; exact hsp0) ht1), upd_ne nrs]
    exact hsp0
  have h1 : Hd TT M H [rd] (upd H rd (DNo P w rd [])) := (Hd.start ok).new hrd (ok_DNo _ _ _ _)
  have h2 : Hd TT M H [rd] (upd (upd H rd (DNo P w rd [])) t1 (.tup [.ref sp, .str (wS [])])) := h1.step (.new ht1)
  have h3 : Hd TT M H [rd] (upd (upd (upd H rd (DNo P w rd [])) t1 (.tup [.ref sp, .str (wS [])])) rd (DNo P w rd [(nk (p, []), t1, u0)])) := h2.put (by simp) (ok_DNo _ _ _ _)
  have k1 : KeyAt (upd (upd (upd H rd (DNo P w rd [])) t1 (.tup [.ref sp, .str (wS [])])) rd (DNo P w rd [(nk (p, []), t1, u0)])) t1 (p, []) := by
    refine ⟨sp, by rw [upd_ne nt1.symm, upd_same], ?_⟩
    rw [upd_ne nrs, upd_ne (ne_of_none (by rw [upd_ne nrs]; exact hsp0) ht1), upd_ne nrs]
    exact hsp0
  have hrd3 : upd (upd (upd H rd (DNo P w rd [])) t1 (.tup [.ref sp, .str (wS [])])) rd (DNo P w rd [(nk (p, []), t1, u0)]) rd = some (DNo P w rd [(nk (p, []), t1, u0)]) := upd_same
  generalize upd (upd (upd H rd (DNo P w rd [])) t1 (.tup [.ref sp, .str (wS [])])) rd (DNo P w rd [(nk (p, []), t1, u0)]) = G3 at h3 k1 hrd3
  clear h1 h2 ht1 nt1 nrs hrd
  -- the waiting list
  have hsp3 : G3 sp = some (.tup [.int (p.1 : Int), .int (p.2 : Int)]) := h3.es.tup hsp0
  refine ⟨_, rfl, _, rfl, by show 2 ≤ sizeLine; decide, fun t2 ht2 => ⟨by show 1 ≤ sizeLine; decide, fun wl hwl => ?_⟩⟩
  have h4 : Hd TT M H [rd] (upd G3 t2 (.tup [.ref sp, .str (wS [])])) := h3.step (.new ht2)
  have k2 : KeyAt (upd G3 t2 (.tup [.ref sp, .str (wS [])])) t2 (p, []) := ⟨sp, upd_same, by rw [upd_ne (ne_of_none hsp3 ht2)]; exact hsp3⟩
  have k1' : KeyAt (upd G3 t2 (.tup [.ref sp, .str (wS [])])) t1 (p, []) := k1.tups fun b ts => new_sub ht2 b _
  have hrd4 : upd G3 t2 (.tup [.ref sp, .str (wS [])]) rd = some (DNo P w rd [(nk (p, []), t1, u0)]) := new_sub ht2 _ _ hrd3
  generalize upd G3 t2 (.tup [.ref sp, .str (wS [])]) = G4 at h4 k2 k1' hrd4 hwl
  clear h3 k1 hrd3 hsp3 ht2
  have h5 : Hd TT M H [wl, rd] (upd G4 wl (.lst [.ref t2])) := h4.new hwl (.lst _)
  have ht5 : ∀ b ts, G4 b = some (.tup ts) → upd G4 wl (.lst [.ref t2]) b = some (.tup ts) := fun b ts => new_sub hwl b _
  -- the pairs found
  intro fd hfd
  have hfd' : upd G4 wl (.lst [.ref t2]) fd = none := hfd
  have h6 : Hd TT M H [fd, wl, rd] (upd (upd G4 wl (.lst [.ref t2])) fd (.dT [])) := h5.new hfd (.dT _)
  have rs6 : RS P w (upd (upd G4 wl (.lst [.ref t2])) fd (.dT [])) rd wl fd [((p, []), [])] [] := by
    have ht6 : ∀ b ts, G4 b = some (.tup ts) → upd (upd G4 wl (.lst [.ref t2])) fd (.dT []) b = some (.tup ts) := fun b ts hb => new_sub hfd b _ (ht5 b ts hb)
    refine ⟨[(nk (p, []), t1, u0)], [t2], [], new_sub hfd _ _ (new_sub hwl _ _ hrd4), .cons ⟨rfl, k1'.tups ht6, hu0⟩ .nil, new_sub hfd _ _ upd_same, .cons (k2.tups ht6) .nil, upd_same, .nil⟩
  generalize upd (upd G4 wl (.lst [.ref t2])) fd (.dT []) = G6 at h6 rs6
  clear h5 h4 ht5 hfd hfd' hwl k1' k2 hrd4 hu0
  refine ⟨fun m σ G => ∃ (E : List (NK × Wd)) (F : List (Pr × Wd)) (a : Nat) (o1 o2 o3 o4 o5 o6 o7 : Option V), m = 80 - a ∧ σ = [some dv, some lv, some (.ref sp), some (.str (wS [])), some (.ref f), some (.ref rd), some (.ref wl), some (.ref fd), some (.int (a : Int)), o1, o2, o3, o4, o5, o6, o7] ∧ Hd TT M H [fd, wl, rd] G ∧ RS P w G rd wl fd E F ∧ Bfs tabs ls p E F a 0,
    ⟨80, [((p, []), [])], [], 0, none, none, none, none, none, none, none, rfl, rfl, h6, rs6, Bfs.start tabs ls vp⟩, ?_⟩
  rintro m σ G ⟨E, F, a, o1, o2, o3, o4, o5, o6, o7, rfl, rfl, hh, rs, bf⟩
  obtain ⟨xs, ts, kvs, x1, x2, x3, x4, x5, x6⟩ := rs.ex
  have hEl : ts.length = E.length := Paired.length x4
  have h80 := bf.len gt
  refine ⟨_, rfl, _, rfl, _, (ts.map V.ref).length, rfl, .inl ⟨_, SqL.of x3, rfl⟩, _, _, rfl, rfl, _, rfl, ?_⟩
  rw [List.length_map, hEl]
  by_cases hlt : a < E.length
  · -- a node is taken
    have hd1 : decide ((a : Int) < ((E.length : Nat) : Int)) = true := decide_eq_true (by omega)
    rw [hd1]
    refine ⟨fun σ' G' => ∃ (E : List (NK × Wd)) (F : List (Pr × Wd)) (o1 o2 o3 o4 o5 o6 o7 : Option V), σ' = [some dv, some lv, some (.ref sp), some (.str (wS [])), some (.ref f), some (.ref rd), some (.ref wl), some (.ref fd), some (.int ((a + 1 : Nat) : Int)), o1, o2, o3, o4, o5, o6, o7] ∧ Hd TT M H [fd, wl, rd] G' ∧ RS P w G' rd wl fd E F ∧ Bfs tabs ls p E F (a + 1) 0,
      fun σ' G' ⟨E, F, o1, o2, o3, o4, o5, o6, o7, e1, e2, e3, e4⟩ => ⟨80 - (a + 1), by omega, E, F, a + 1, o1, o2, o3, o4, o5, o6, o7, rfl, e1, e2, e3, e4⟩, ?_⟩
    generalize he0 : E[a] = e0
    have hE0 : E[a]? = some e0 := by rw [← he0]; exact List.getElem?_eq_getElem hlt
    obtain ⟨v0, hd30, hh0, hb0, hl0, hlen0⟩ := bf.ent a e0 hE0
    obtain ⟨t, ht, kt⟩ := pr_get x4 hE0
    obtain ⟨qa, kt1, kt2⟩ := kt
    have hta : (ts.map V.ref)[a]? = some (.ref t) := by rw [List.getElem?_map, ht]; rfl
    refine ⟨_, rfl, _, rfl, wl, _, (a : Int), _, rfl, rfl, SqL.of x3, atI_nat hta, t, _, rfl, SqT.of kt1, rfl, _, _, rfl, _, _, rfl, rfl, ?_⟩
    refine ⟨_, rfl, _, rfl, _, rfl, wl, _, (a : Int), _, rfl, rfl, SqL.of x3, atI_nat hta, rd, t, e0.1, xs, E, e0.2, rfl, rfl, x1, x2, ⟨qa, kt1, kt2⟩, lookN_at bf.nd hE0, ?_⟩
    refine ⟨_, rfl, _, _, rfl, rfl, ?_⟩
    refine q_for (T := TT) hh.okv (i_enumS (e_signals T (e_var rfl (hh.up rdev)))) fun H6 e6 => ?_
    have hh6 := hh.step e6
    have rs6' := rs.step e6
    have rqa : rP.r (vis ([fd, wl, rd] ++ M) H6) (.ref qa) e0.1.1 := ⟨qa, rfl, hh6.tup (e6.tup kt2)⟩
    refine ⟨fun j σ G' => ∃ (E : List (NK × Wd)) (F : List (Pr × Wd)) (o4 o5 o6 o7 : Option V), σ = [some dv, some lv, some (.ref sp), some (.str (wS [])), some (.ref f), some (.ref rd), some (.ref wl), some (.ref fd), some (.int ((a + 1 : Nat) : Int)), some (.ref qa), some (.str (wS e0.1.2)), some (.str (wS e0.2)), o4, o5, o6, o7] ∧ Lh TT M H ([fd, wl, rd] ++ M) H6 [fd, wl, rd] G' ∧ RS P w G' rd wl fd E F ∧ Bfs tabs ls p E F a j ∧ E[a]? = some e0,
      ⟨E, F, o4, o5, o6, o7, rfl, .start hh6, rs6', bf, hE0⟩, fun j σ G' ⟨_, _, _, _, _, _, _, hl, _⟩ => ⟨_, hl.a⟩, ?_, ?_⟩
    · rintro j x1v js σ G1 G2 hj hjs ⟨E1, F1, o4, o5, o6, o7, rfl, hl1, rs1, bf1, hE1⟩ e12 rx
      rw [enumL_len, List.length_range] at hj
      have hjs2 : (j, j) = js := by
        have := enumL_get (xs := List.range tabs.length) (i := j) (x := j) (by simp [hj])
        exact Option.some.inj (this.symm.trans hjs)
      subst hjs2
      have hl2 := hl1.step e12
      have rs2 := rs1.step e12
      refine g_pair (N := [fd, wl, rd] ++ M) (rx _ hl1.a) fun v12 v13 r12 r13 => ?_
      have r12 : v12 = .int (j : Int) := r12
      have r13 : v13 = .str (wS [j]) := r13
      subst r12 r13
      have okv := hl2.ok
      have bas : Es TT (vis M H) (vis ([fd, wl, rd] ++ M) G2) := hl2.h.at_.e
      refine q_set (T := TT) okv (e_act (R := rP) (S := rNat) (U := rO rP) (x := e0.1.1) (y := j) (z := nx tabs e0.1.1 j) rfl (e_var rfl (hl2.up rqa)) (e_var rfl rfl) (bas.k _ _ hco fun ps z => by cases z) fun B v1 v2 eB r1 r2 => hlam B v1 v2 _ _ (bas.trans eB) r1 r2 v0 hj) fun v14 G3 e23 r14 => ?_
      have hl3 := hl2.step e23
      have rs3 := rs2.step e23
      refine q_if (T := TT) hl3.ok (t_B (e_notN nv_P (e_var rfl r14))) (fun hb G4 e34 => ?_) fun hb G4 e34 => ?_
      · -- the pair is still apart
        cases hn : nx tabs e0.1.1 j with
        | none => rw [hn] at hb; cases hb
        | some q1 =>
          rw [hn] at r14
          have hl4 := hl3.step e34
          have rs4 := rs3.step e34
          have r14' : rP.r (vis ([fd, wl, rd] ++ M) G4) v14 q1 := Rel.up (R := rP) r14 hl3.ok e34
          refine q_set (T := TT) hl4.ok (e_c2 (x := e0.1.2) (y := j) (e_var rfl rfl) (e_var rfl rfl) ⟨hd3_lt hd30, by omega, Nat.le_trans (hd3_len hd30) (by decide)⟩ fun _ h => h) fun v15 G5 e45 r15 => ?_
          have r15 : v15 = .str (wS (mo e0.1.2 j)) := r15
          subst r15
          have hl5 := hl4.step e45
          have rs5 := rs4.step e45
          have rls5 : (rT rW).r (vis ([fd, wl, rd] ++ M) G5) lv ls := hl5.h.up rls
          refine q_if (T := TT) hl5.ok (t_B (e_c2 (x := ls) (y := mo e0.1.2 j) (e_var rfl rls5) (e_var rfl rfl) ⟨Nat.le_trans fam.n31 (by decide), fam.short n3⟩ fun _ h => h)) (fun hf G6 e56 => ?_) fun hf G6 e56 => ?_
          · -- a round
            have hf : fullB ls (mo e0.1.2 j) = true := hf
            have hl6 := hl5.step e56
            have rs6 := rs5.step e56
            have r14b : rP.r (vis ([fd, wl, rd] ++ M) G6) v14 q1 := Rel.up (Rel.up r14' hl4.ok e45) hl5.ok e56
            obtain ⟨_, _, kv, _, _, _, _, y5, y6⟩ := rs6.ex
            obtain ⟨pa, rfl, hpa⟩ := rP_key r14b
            have hin : (valV kv (pK q1)).isSome = decide (q1 ∈ F1.map (·.1)) := by
              rw [← getD_some]
              have g1 := dpr_get (k := q1) y6
              cases hx : getD F1 q1 with
              | none => rw [hx] at g1; rw [show valV kv (pK q1) = none from g1]; rfl
              | some r => rw [hx] at g1; obtain ⟨v, g2, _⟩ := g1; rw [g2]; rfl
            refine ⟨_, rfl, _, rfl, fd, _, rfl, .inr ⟨kv, pK q1, pa, .inl y5, rfl, vis_sub hpa, rfl⟩, _, rfl, ?_⟩
            rw [hin]
            by_cases hq1 : q1 ∈ F1.map (·.1)
            · rw [decide_eq_true hq1]
              exact ⟨E1, F1, _, _, _, _, rfl, hl6, rs6, bf1.same hE1 (fun q' hq' => by rw [hn] at hq'; cases hq'; rw [if_pos hf]; exact hq1), hE1⟩
            · rw [decide_eq_false hq1]
              have kvl : kv.length < sizeLine := by
                have h1 := Paired.length y6
                have : RowsOk tabs ls p F1 → True := fun _ => trivial
                have h2 : (F1.map (·.1)).length ≤ (prs (many tabs)).length := len_le_of_sub bf1.fnd fun x hx => by
                  obtain ⟨e, he, rfl⟩ := List.mem_map.mp hx
                  exact prs_mem.mpr (bf1.fs e he).2.2
                rw [List.length_map] at h2
                have h3 := prs_len m5
                have : sizeLine = 16777216 := sizeLine_eq
                omega
              refine q_dput (T := TT) (d := fd) (kk := q1) (x := e0.2 ++ [j]) hl6.ok (e_op (e_var (R := rW) (x := e0.2) rfl rfl) (Ev.word (e_var (R := rLt) (x := j) rfl rfl)) (o_addW ?_)) rfl (e_var rfl r14b) y5 kvl fun v G7 e67 r7 => ?_
              · simp
                omega
              have r7 : v = .str (wS (e0.2 ++ [j])) := r7
              subst r7
              exact ⟨E1, F1 ++ [(q1, e0.2 ++ [j])], _, _, _, _, rfl, (hl6.step e67).put (by simp) (.dT _), (rs6.step e67).found (e67.dT y5) hq1, bf1.found gt hE1 hj hn hf hq1, hE1⟩
          · -- no round yet
            have hf : ¬ fullB ls (mo e0.1.2 j) = true := fun z => by
              have hf : fullB ls (mo e0.1.2 j) = false := hf
              rw [hf] at z
              cases z
            have hl6 := hl5.step e56
            have rs6 := rs5.step e56
            have r14b : rP.r (vis ([fd, wl, rd] ++ M) G6) v14 q1 := Rel.up (Rel.up r14' hl4.ok e45) hl5.ok e56
            obtain ⟨pa, rfl, hpa⟩ := r14b
            have hpa0 := vis_sub hpa
            refine ⟨_, rfl, _, rfl, by show 2 ≤ sizeLine; decide, fun t3 ht3 => ?_⟩
            have rs7 := rs6.new (o := .tup [.ref pa, .str (wS (mo e0.1.2 j))]) ht3
            have hl7 := hl6.step (Es.new (o := .tup [.ref pa, .str (wS (mo e0.1.2 j))]) ht3)
            obtain ⟨xs7, ts7, _, y1, y2, y3, y4, _, _⟩ := rs7.ex
            have kt3 : KeyAt (upd G6 t3 (.tup [.ref pa, .str (wS (mo e0.1.2 j))])) t3 (q1, mo e0.1.2 j) := ⟨pa, upd_same, new_sub ht3 _ _ hpa0⟩
            refine ⟨_, rfl, rd, t3, (q1, mo e0.1.2 j), xs7, E1, rfl, rfl, y1, y2, kt3, _, rfl, ?_⟩
            cases hk : lookN E1 (q1, mo e0.1.2 j) with
            | some r =>
              have hmem : (q1, mo e0.1.2 j) ∈ E1.map (·.1) := Classical.byContradiction fun z => by rw [lookN_none.mpr z] at hk; cases hk
              exact ⟨E1, F1, _, _, _, _, rfl, hl7, rs7, bf1.same hE1 (fun q' hq' => by rw [hn] at hq'; cases hq'; rw [if_neg hf]; exact hmem), hE1⟩
            | none =>
              have hnm := lookN_none.mp hk
              have hE80 := bf1.len gt
              -- rows[after, more] = row + signal
              have ev : Ev TT (tOp (fun x y H Q => ∃ i j, x = .str i ∧ y = .str j ∧ i.length + j.length ≤ sizeLine ∧ Q (.str (i ++ j)) H) (tVar 11) (tVar 13)) [some dv, some lv, some (.ref sp), some (.str (wS [])), some (.ref f), some (.ref rd), some (.ref wl), some (.ref fd), some (.int ((a + 1 : Nat) : Int)), some (.ref qa), some (.str (wS e0.1.2)), some (.str (wS e0.2)), some (.int (j : Int)), some (.str (wS [j])), some (.ref pa), some (.str (wS (mo e0.1.2 j)))] (vis ([fd, wl, rd] ++ M) (upd G6 t3 (.tup [.ref pa, .str (wS (mo e0.1.2 j))]))) rW (e0.2 ++ [j]) :=
                e_op (e_var (R := rW) (x := e0.2) rfl rfl) (Ev.word (e_var (R := rLt) (x := j) rfl rfl)) (o_addW (by simp; omega))
              rw [if_pos (show (!(none : Option Wd).isSome) = true from rfl)]
              unfold tSeq sDPutN
              refine ev _ _ (.self hl7.ok) _ fun v G8 e78 r8 => ?_
              have r8 : v = .str (wS (e0.2 ++ [j])) := r8
              subst r8
              have hl8 := hl7.step e78
              have rs8 := rs7.step e78
              have hpa8 : G8 pa = some (.tup [.int (q1.1 : Int), .int (q1.2 : Int)]) := e78.tup (new_sub ht3 _ _ hpa0)
              refine ⟨_, rfl, _, rfl, _, rfl, by show 2 ≤ sizeLine; decide, fun t4 ht4 => ?_⟩
              have rs9 := rs8.new (o := .tup [.ref pa, .str (wS (mo e0.1.2 j))]) ht4
              have hl9 := hl8.step (Es.new (o := .tup [.ref pa, .str (wS (mo e0.1.2 j))]) ht4)
              have kt4 : KeyAt (upd G8 t4 (.tup [.ref pa, .str (wS (mo e0.1.2 j))])) t4 (q1, mo e0.1.2 j) := ⟨pa, upd_same, new_sub ht4 _ _ hpa8⟩
              have hpa9 := new_sub (o := .tup [.ref pa, .str (wS (mo e0.1.2 j))]) ht4 _ _ hpa8
              generalize upd G8 t4 (.tup [.ref pa, .str (wS (mo e0.1.2 j))]) = G9 at *
              obtain ⟨xs9, ts9, _, z1, z2, z3, z4, z5, _⟩ := rs9.ex
              have hxl : xs9.length = E1.length := Paired.length z2
              have htl : ts9.length = E1.length := Paired.length z4
              refine ⟨rd, t4, (q1, mo e0.1.2 j), xs9, E1, e0.2 ++ [j], rfl, rfl, rfl, z1, z2, kt4, by omega, hk, fun u hu => ?_⟩
              -- waiting.append((after, more))
              have n1 : wl ≠ rd := fun z => by rw [z, z1] at z3; cases z3
              have z3' : upd G9 rd (DNo P w rd (xs9 ++ [(nk (q1, mo e0.1.2 j), t4, u)])) wl = some (.lst (ts9.map V.ref)) := by rw [upd_ne n1]; exact z3
              have hl10 : Lh TT M H ([fd, wl, rd] ++ M) H6 [fd, wl, rd] (upd G9 rd (DNo P w rd (xs9 ++ [(nk (q1, mo e0.1.2 j), t4, u)]))) := hl9.put (by simp) (ok_DNo _ _ _ _)
              refine ⟨_, rfl, .inl ⟨rfl, _, SqL.of z3'⟩, _, rfl, _, rfl, by show 2 ≤ sizeLine; decide, fun t5 ht5 => ?_⟩
              have n5w : wl ≠ t5 := ne_of_none z3' ht5
              have n5r : rd ≠ t5 := fun z => by rw [← z, upd_same] at ht5; cases ht5
              refine ⟨wl, ts9.map V.ref, .ref t5, rfl, rfl, by rw [upd_ne n5w]; exact z3', ?_, ?_⟩
              · rw [List.length_map]
                have : sizeLine = 16777216 := sizeLine_eq
                omega
              · -- the two stores told in the other order
                have ht5' : G9 t5 = none := by rw [upd_ne n5r.symm] at ht5; exact ht5
                have hsw : upd (upd G9 rd (DNo P w rd (xs9 ++ [(nk (q1, mo e0.1.2 j), t4, u)]))) t5 (.tup [.ref pa, .str (wS (mo e0.1.2 j))]) = upd (upd G9 t5 (.tup [.ref pa, .str (wS (mo e0.1.2 j))])) rd (DNo P w rd (xs9 ++ [(nk (q1, mo e0.1.2 j), t4, u)])) := by
                  funext b
                  by_cases b1 : b = t5
                  · rw [b1, upd_same, upd_ne n5r.symm, upd_same]
                  · rw [upd_ne b1]
                    by_cases b2 : b = rd
                    · rw [b2, upd_same, upd_same]
                    · rw [upd_ne b2, upd_ne b2, upd_ne b1]
                have rs11 := rs9.new (o := .tup [.ref pa, .str (wS (mo e0.1.2 j))]) ht5'
                have kt5 : KeyAt (upd G9 t5 (.tup [.ref pa, .str (wS (mo e0.1.2 j))])) t5 (q1, mo e0.1.2 j) := ⟨pa, upd_same, new_sub ht5' _ _ hpa9⟩
                have htt : ∀ b us, G9 b = some (.tup us) → upd G9 t5 (.tup [.ref pa, .str (wS (mo e0.1.2 j))]) b = some (.tup us) := fun b us => new_sub ht5' b _
                have rs12 := rs11.met (x := e0.2 ++ [j]) (u := u) (new_sub ht5' _ _ z1) (new_sub ht5' _ _ z3) (z2.tups htt) (Paired.mapP z4 fun _ _ k => k.tups htt) hu (kt4.tups htt) kt5
                have hl12 : Lh TT M H ([fd, wl, rd] ++ M) H6 [fd, wl, rd] (upd (upd (upd G9 rd (DNo P w rd (xs9 ++ [(nk (q1, mo e0.1.2 j), t4, u)]))) t5 (.tup [.ref pa, .str (wS (mo e0.1.2 j))])) wl (.lst (ts9.map V.ref ++ [V.ref t5]))) := (hl10.step (.new ht5)).put (by simp) (.lst _)
                rw [hsw] at hl12 ⊢
                refine ⟨E1 ++ [((q1, mo e0.1.2 j), e0.2 ++ [j])], F1, _, _, _, _, rfl, hl12, rs12, bf1.met gt hE1 hj hn hf hnm, ?_⟩
                rw [List.getElem?_append_left (List.getElem?_eq_some_iff.mp hE1).1]
                exact hE1
      · -- the pair has met
        cases hn : nx tabs e0.1.1 j with
        | some q1 => rw [hn] at hb; cases hb
        | none => exact ⟨E1, F1, _, _, _, _, rfl, hl3.step e34, rs3.step e34, bf1.same hE1 (fun q' hq' => by rw [hn] at hq'; cases hq'), hE1⟩
    · rintro σ G' ⟨E1, F1, o4, o5, o6, o7, rfl, hl1, rs1, bf1, hE1⟩
      rw [enumL_len, List.length_range] at bf1
      exact ⟨E1, F1, _, _, _, _, _, _, _, rfl, hl1.h, rs1, bf1.next⟩
  · -- no node is left
    have hd1 : decide ((a : Int) < ((E.length : Nat) : Int)) = false := decide_eq_false (by omega)
    rw [hd1]
    refine ⟨_, rfl, q _ G F hh.es (bf.rows (by omega)) ⟨fd, kvs, rfl, .inl (vis_open x5 (hh.mem (by simp))), Paired.mapP x6 fun _ _ h => h⟩⟩
end


end K29
set_option autoImplicit false
set_option maxHeartbeats 4000000
namespace K29
open PySem PySem.Spec PyProof.Rows L2
/-! The walks, 7: the rows of one pair. -/
section
variable {P : Program} {w : World} {K : PySem.W.Frag} {mg : Str → Option Value} {base : Heap} {C : Addr} {TT : List (Addr × Str)}
def GGr (C : Addr) (TT : List (Addr × Str)) (q0 : Str) (tb : TE) : L2.St → List V → Addr → Addr → Hp → VK → Prop := fun σ0 vs f c' H Q => ∃ (M : List Addr) (dv lv sv hv : V) (tabs : List (List Nat)) (ls : List Wd) (p : Pr), vs = [dv, lv, sv, hv] ∧ Nok M H ∧ (rDev C).r (vis M H) dv tabs ∧ (rT rW).r (vis M H) lv ls ∧ rP.r (vis M H) sv p ∧ rW.r (vis M H) hv [] ∧ vis M H c' = some (LamX.CodeO c' q0) ∧ Gt tabs ∧ Fam tabs.length ls ∧ Vp tabs p ∧
  (∀ B v1 v2 x n, Es TT (vis M H) B → rP.r B v1 x → rNat.r B v2 n → Vp tabs x → n < tabs.length → Ev TT tb (some v1 :: some v2 :: σ0) B (rO rP) (nx tabs x n)) ∧ ∀ v H' F, Es TT H H' → RowsOk tabs ls p F → (rD rW).r (vis M H') v F → Q v H'
def tLamB (C : Addr) (TT : List (Addr × Str)) : TE := tCall (sp_next_node C TT) [] L2.E0 (tCons (tVar 2) (tCons (tC (.str "pairs")) (tCons (tVar 0) (tCons (tVar 1) tNil))))
def sp_pair_rows (C : Addr) (TT : List (Addr × Str)) : Sp := SpT TT (A4 (rDev C) (rT rW) rP rW fun tabs ls p l => Gt tabs ∧ Fam tabs.length ls ∧ Vp tabs p ∧ l = []) (rD rW) fun z F => RowsOk z.1 z.2.1 z.2.2.1 F
theorem ok_pair_rows (T : Tx K mg C) (D : Lx K mg base TT) : Cl P w K mg base 5 "pair_rows" (sp_pair_rows C TT) := by
  refine cl_lm D.pair_rows sc_pair_rows A4.len fun f c P0 A outer s H vs E M z TB hm hu tb hr ok h => ?_
  obtain ⟨dv, lv, sv, hv, rfl, rdev, rls, rp, rl, gt, fam, vp, el⟩ := h
  obtain ⟨tabs, ls, p, l⟩ := z
  have gt : Gt tabs := gt
  have fam : Fam tabs.length ls := fam
  have vp : Vp tabs p := vp
  have el : l = [] := el
  subst el
  obtain ⟨g, fdr, F, hmr, br⟩ := T.d_round_rows.ex
  obtain ⟨oc, od, dV, kV, doc, pm, an, cdg, ct, osl, rfl, lk, hcg, _, _⟩ := F.ex
  refine ⟨_, pss_one (ps_ret (pe_lamcall (ds := []) (x := "round_rows") (a := "here") (b := "number") (T := TT) (k := 2) (i := 4) (y := "follow") (tb := tLamB C TT) (GG := GGr C TT "pair_rows.<locals>.<lambda>" (tLamB C TT)) rfl hmr F.kp lk hcg br rfl sc_round_rows TB rfl hm hu hr (by decide +kernel) (by show ("here" : Str) ∉ (["device", "lots", "pair", "lot"] : List Str); decide +kernel) (by show ("number" : Str) ∉ (["device", "lots", "pair", "lot"] : List Str); decide +kernel) (lam2_by (by show lam2B "here" "number" (defScope s_pair_rows) _ = true; decide +kernel)) rfl
    (fun _ _ _ _ _ _ _ => rfl) (fun A outer s H f c' hr' => pe_cl (ok_next_node (TT := TT) T) hr' rfl (pa_cons (pv 2) (pa_cons pe_str (pa_cons (pv 0) (pa_cons (pv 1) pa_nil)))))
    (pv 0) (pv 1) (pv 2) (pv 3) rfl (Or.inl rfl) rfl rfl (fun σ f c' s H vs Q hl hr' act ⟨M, dv, lv, sv, hv, tabs, ls, p, e, ok, h1, h2, h3, h4, h5, h6, h7, h8, h9, h10⟩ => ?_) rfl rfl)), fun Q q => ?_⟩
  · subst e
    obtain ⟨t, ht, hq⟩ := rr_walk T hr' act ok h1 h2 h3 h4 h5 h6 h7 h8 h9
    exact ⟨t, ht, hq Q h10⟩
  · have hA := a_cons (T := TT) (σ := [some dv, some lv, some sv, some hv]) (H := vis M H) (ta := tVar 0) (R := rDev C) (x := tabs) (e_var rfl rdev) (a_cons (ta := tVar 1) (R := rT rW) (x := ls) (e_var rfl rls) (a_cons (ta := tVar 2) (R := rP) (x := p) (e_var rfl rp) (a_cons (ta := tVar 3) (R := rW) (x := []) (e_var rfl rl) a_nil)))
    unfold tRet tLamCall
    refine hA M H (.self ok) _ fun vs H2 e2 pp => ?_
    obtain ⟨v1, _, rfl, r1, v2, _, rfl, r2, v3, _, rfl, r3, v4, _, rfl, r4, rfl⟩ := pp
    refine ⟨e2.t tb, fun f' c' G2 e3 hc => ?_⟩
    have ok2 := ok.step e2
    have ok3 := ok2.step e3
    have hd3 := Rel.up (Rel.up rdev ok e2) ok2 e3
    refine ⟨M, v1, v2, v3, v4, tabs, ls, p, rfl, ok3, Rel.up r1 ok2 e3, Rel.up r2 ok2 e3, Rel.up r3 ok2 e3, Rel.up r4 ok2 e3, ?_, gt, fam, vp, fun B u1 u2 x n eB s1 s2 vx hn => ?_, fun v H' F' e4 ro rr => q v H' F' ((e2.trans e3).trans e4) ro rr⟩
    · rw [vis_ne fun z => ?_]
      · exact hc
      · obtain ⟨o, a1, a2⟩ := ok3 _ z
        exact a2.b _ _ (Option.some.inj (a1.symm.trans hc))
    · exact e_c4 (x := tabs) (y := ("pairs" : Str)) (u := x) (t := n) (e_var (R := rDev C) rfl (Rel.es (T := TT) hd3 eB)) (e_str "pairs") (e_var rfl s1) (e_var rfl s2) ⟨gt, rfl, Nat.lt_trans vx.1 vx.2, vx.2, hn⟩ fun _ h => h
end


end K29
set_option autoImplicit false
set_option maxHeartbeats 4000000
namespace K29
open PySem PySem.Spec PyProof.Rows L2
/-! Levels of a web. -/
abbrev Web := List (Pr × List (Pr × Wd))
/-- does a step lead into A -/
def toA (A : List Pr) (e : Pr × List (Pr × Wd)) : Bool := e.2.any fun x => decide (x.1 ∈ A)
def lev (W : Web) : Nat → List Pr
  | 0 => W.map (·.1)
  | t + 1 => (W.filter (toA (lev W t))).map (·.1)
structure WebS (W : Web) : Prop where
  nd : (W.map (·.1)).Nodup
  le : W.length ≤ 10
  row : ∀ e ∈ W, e.2.length ≤ 10 ∧ (e.2.map (·.1)).Nodup
theorem toA_mono {A B : List Pr} (h : ∀ x ∈ A, x ∈ B) (e : Pr × List (Pr × Wd)) : toA A e = true → toA B e = true := by
  unfold toA
  rw [List.any_eq_true, List.any_eq_true]
  exact fun ⟨x, h1, h2⟩ => ⟨x, h1, decide_eq_true (h _ (of_decide_eq_true h2))⟩
theorem lev_mem {W : Web} {t : Nat} {p : Pr} : p ∈ lev W (t + 1) ↔ ∃ e ∈ W, e.1 = p ∧ ∃ x ∈ e.2, x.1 ∈ lev W t := by
  show p ∈ (W.filter (toA (lev W t))).map (·.1) ↔ _
  rw [List.mem_map]
  constructor
  · rintro ⟨e, h1, h2⟩
    obtain ⟨h3, h4⟩ := List.mem_filter.mp h1
    unfold toA at h4
    obtain ⟨x, h5, h6⟩ := List.any_eq_true.mp h4
    exact ⟨e, h3, h2, x, h5, of_decide_eq_true h6⟩
  · rintro ⟨e, h1, h2, x, h5, h6⟩
    exact ⟨e, List.mem_filter.mpr ⟨h1, List.any_eq_true.mpr ⟨x, h5, decide_eq_true h6⟩⟩, h2⟩
theorem lev_down {W : Web} : ∀ (t : Nat) (p : Pr), p ∈ lev W (t + 1) → p ∈ lev W t
  | 0, p, h => by
    obtain ⟨e, h1, h2, _⟩ := lev_mem.mp h
    exact List.mem_map.mpr ⟨e, h1, h2⟩
  | t + 1, p, h => by
    obtain ⟨e, h1, h2, x, h3, h4⟩ := lev_mem.mp h
    exact lev_mem.mpr ⟨e, h1, h2, x, h3, lev_down t _ h4⟩
theorem lev_le {W : Web} {s t : Nat} (h : s ≤ t) (p : Pr) (hp : p ∈ lev W t) : p ∈ lev W s := by
  induction t with
  | zero => rw [show s = 0 by omega]; exact hp
  | succ t ih =>
    by_cases e : s = t + 1
    · rw [e]; exact hp
    · exact ih (by omega) (lev_down t p hp)
theorem lev_nd {W : Web} (h : WebS W) (t : Nat) : (lev W t).Nodup := by
  cases t with
  | zero => exact h.nd
  | succ t => exact List.Sublist.nodup (List.Sublist.map _ (List.filter_sublist (p := toA (lev W t)))) h.nd
theorem lev_sub {W : Web} : ∀ t : Nat, (lev W (t + 1)).length ≤ (lev W t).length
  | 0 => by
    show ((W.filter _).map _).length ≤ (W.map _).length
    rw [List.length_map, List.length_map]
    exact List.length_filter_le _ _
  | t + 1 => by
    show ((W.filter (toA (lev W (t + 1)))).map _).length ≤ ((W.filter (toA (lev W t))).map _).length
    rw [List.length_map, List.length_map, ← List.countP_eq_length_filter, ← List.countP_eq_length_filter]
    exact List.countP_mono_left fun e _ h => toA_mono (lev_down t) e h
theorem lev_len {W : Web} (h : WebS W) : ∀ t : Nat, (lev W t).length ≤ 10
  | 0 => by
    show (W.map _).length ≤ 10
    rw [List.length_map]
    exact h.le
  | t + 1 => Nat.le_trans (lev_sub t) (lev_len h t)
theorem lev_fall {W : Web} : ∀ m : Nat, (∀ t, t < m → (lev W (t + 1)).length ≠ (lev W t).length) → (lev W m).length + m ≤ (lev W 0).length
  | 0, _ => Nat.le_refl _
  | m + 1, h => by
    have h1 := lev_fall m fun t ht => h t (by omega)
    have h2 := h m (Nat.lt_succ_self m)
    have h3 := lev_sub (W := W) m
    omega
/-- the levels of a web, up to the last that is new -/
def LevOk (W : Web) (L : List (List Pr)) : Prop := ∃ N : Nat, L = (List.range (N + 1)).map (lev W) ∧ (lev W (N + 1)).length = (lev W N).length ∧ ∀ t, t < N → (lev W (t + 1)).length ≠ (lev W t).length
theorem rDD_get {S : Rel Wd} {H : Hp} {kvs : List (List Key × V)} {W : Web} {x : Pr} {row : List (Pr × Wd)} (h : DpR (rD S) H kvs W) (nd : (W.map (·.1)).Nodup) (hx : (x, row) ∈ W) :
    ∃ (d' : Addr) (kvs' : List (List Key × V)), valV kvs (pK x) = some (.ref d') ∧ Rd H d' (.dT kvs') ∧ DpR S H kvs' row := by
  have g := dpr_get (k := x) h
  rw [getD_of_mem nd hx] at g
  obtain ⟨v, h1, d', kvs', rfl, h2, h3⟩ := g
  exact ⟨d', kvs', h1, h2, h3⟩

end K29
set_option autoImplicit false
set_option maxHeartbeats 4000000
namespace K29
open PySem PySem.Spec PyProof.Rows L2
/-! The walks, 8: the web of pairs, its levels. -/
/-- the web of a device's pairs -/
def WebOk (tabs : List (List Nat)) (ls : List Wd) (W : Web) : Prop := W.map (·.1) = prs (many tabs) ∧ ∀ e ∈ W, RowsOk tabs ls e.1 e.2
theorem WebOk.s {tabs : List (List Nat)} {ls : List Wd} {W : Web} (g : Gt tabs) (h : WebOk tabs ls W) : WebS W := by
  have hm := g.m5
  refine ⟨by rw [h.1]; exact prs_nd hm, ?_, fun e he => ⟨(h.2 e he).len g, (h.2 e he).nd⟩⟩
  have := congrArg List.length h.1
  rw [List.length_map] at this
  rw [this]
  have h2 : ∀ m : Fin 6, (prs m.1).length ≤ 10 := by decide +kernel
  exact h2 ⟨many tabs, by omega⟩
section
variable {P : Program} {w : World} {K : PySem.W.Frag} {mg : Str → Option Value} {base : Heap} {C : Addr} {TT : List (Addr × Str)}
def sp_pair_web (C : Addr) (TT : List (Addr × Str)) : Sp := SpT TT (A2 (rDev C) (rT rW) fun tabs ls => Gt tabs ∧ Fam tabs.length ls) (rD (rD rW)) fun z W => WebOk z.1 z.2 W
theorem ok_pair_web (T : Tx K mg C) (D : Lx K mg base TT) : Cl P w K mg base 6 "pair_web" (sp_pair_web C TT) := by
  refine cl_spT T.d_pair_web sc_pair_web A2.len fun f cdv A outer s H vs E M z tb hr ok h => ?_
  obtain ⟨dv, lv, rfl, rdev, rls, gt, fam⟩ := h
  obtain ⟨tabs, ls⟩ := z
  have gt : Gt tabs := gt
  have fam : Fam tabs.length ls := fam
  have m5 := gt.m5
  have m3 := gt.m3
  refine ⟨_, (pss_one (ps_ret (pe_dcT (own := [("pair", 2)]) (g := (gName 2)) (hu_of hr) rfl sc_pair_web.nd (wList K (pe_cl (ok_pairs_of (TT := TT) T) (hr.mono (by decide)) rfl (pa_cons (pv 0) pa_nil))) (blkOk_by (own := [("pair", 2)]) (N := ["device", "lots", "pair"]) (sc := defScope s_pair_web) (by decide +kernel)) (fun _ _ _ _ _ => (gn_ 2 sc_pair_web.nd)) (fun _ _ _ _ _ => pts_nil) (fun _ _ _ _ _ => (pv 2)) (fun _ _ _ _ _ => (pe_cl (ok_pair_rows (TT := TT) T D) (hr.mono (by decide)) rfl (pa_cons (pv 0) (pa_cons (pv 1) (pa_cons (pv 2) (pa_cons pe_str pa_nil))))))))), fun Q q => ?_⟩
  unfold tRet
  refine q_dc (T := TT) (S := rD rW) (xs := prs (many tabs)) (Ps := fun x F => RowsOk tabs ls x F) ok (prs_nd m5) (prs_len m5) ((i_list (e_c1 (x := tabs) (e_var rfl rdev) gt fun _ h => h)).a ok) (fun _ => rfl) (fun _ => rfl) (fun M' H1 v x ok' e1 hx rx Q2 q2 => ?_) fun v H2 W e2 hk hp r => q v H2 W e2 ⟨hk, hp⟩ r
  exact e_c4T (x := tabs) (y := ls) (u := x) (t := []) (Po := fun F => RowsOk tabs ls x F) (e1.t (ok.tabs tb)) (e_var (R := rDev C) rfl (Rel.es (T := TT) rdev e1)) (e_var (R := rT rW) rfl (Rel.es (T := TT) rls e1)) (e_var rfl rx) (e_c rfl) ⟨gt, fam, prs_mem.mp hx, rfl⟩ (fun _ h => h) M' H1 (.self ok') Q2 q2
end


end K29
set_option autoImplicit false
set_option maxHeartbeats 4000000
namespace K29
open PySem PySem.Spec PyProof.Rows L2
/-! The walks, 9: levels. -/
section
variable {P : Program} {w : World} {K : PySem.W.Frag} {mg : Str → Option Value} {base : Heap} {C : Addr} {TT : List (Addr × Str)}
abbrev tLast (K : PySem.W.Frag) (i : Nat) : TE := tOp (rIxL K) (tVar i) (tUn (rU fun i => .int (-i)) (tC (.int 1)))
theorem atI_last {α : Type} {xs : List α} {n : Nat} {v : α} (hn : xs.length = n + 1) (h : xs[n]? = some v) : atI xs (-1) = some v := by
  unfold atI
  have : ixN xs.length (-1) = some n := by
    unfold ixN
    rw [hn, if_neg (by decide), if_pos (by omega)]
    congr 1
    omega
  rw [this]
  exact h
theorem raw_last {σ : L2.St} {i : Nat} {fd : Addr} {G : Hp} {vs : List V} {n : Nat} {v : V} {Q : VK} (hi : σ[i]? = some (some (.ref fd))) (hd : G fd = some (.lst vs)) (hn : vs.length = n + 1) (h : vs[n]? = some v) (q : Q v G) : tLast K i σ G Q :=
  ⟨_, hi, _, rfl, fd, vs, -1, v, rfl, rfl, SqL.of hd, atI_last hn h, q⟩
theorem getD_row {W : Web} (nd : (W.map (·.1)).Nodup) (A : List Pr) : ((W.map (·.1)).filter fun x => toA A (x, (getD W x).getD [])) = (W.filter (toA A)).map (·.1) := by
  rw [List.filter_map]
  congr 1
  refine List.filter_congr fun e he => ?_
  show toA A (e.1, (getD W e.1).getD []) = toA A e
  rw [getD_of_mem nd (show (e.1, e.2) ∈ W from he)]
  rfl
def sp_levels_of (TT : List (Addr × Str)) : Sp := SpG TT (A1 (rD (rD rW)) WebS) (rL (rL rP)) fun W L => LevOk W L
theorem ok_levels_of (T : Tx K mg C) : Cl P w K mg base 1 "levels_of" (sp_levels_of TT) := by
  refine cl_spG T.d_levels_of sc_levels_of A1.len fun f cdv A outer s H vs E M W hr ok h => ?_
  obtain ⟨wv, rfl, rw_, hs⟩ := h
  refine ⟨_, (pss_cons (st_ 1 sc_levels_of.nd (pe_lst (pa_cons (pe_callTy (call_list_dT rfl) rfl T.f_list bo_list (pa_cons (pv 0) pa_nil)) pa_nil)))
(pss_cons (st_ 2 sc_levels_of.nd (pe_un un_neg pe_int))
(pss_cons (ps_while PassesOwn.never (pt_cmpR op_ne (pv 2) (pe_callB (wLen K) rfl T.f_len bo_len (pa_cons (pe_ix (wIxL K) (pv 1) (pe_un un_neg pe_int) (fun _ _ => rfl)) pa_nil)) (nomark _))
(pss_cons (st_ 2 sc_levels_of.nd (pe_callB (wLen K) rfl T.f_len bo_len (pa_cons (pe_ix (wIxL K) (pv 1) (pe_un un_neg pe_int) (fun _ _ => rfl)) pa_nil)))
(pss_cons (st_ 3 sc_levels_of.nd (pe_dcT (own := [("node", 4)]) (g := (gName 4)) (hu_of hr) rfl sc_levels_of.nd (wList K (pe_ix (wIxL K) (pv 1) (pe_un un_neg pe_int) (fun _ _ => rfl))) (blkOk_by (own := [("node", 4)]) (N := ["web", "found", "last", "alive", "node", "after"]) (sc := defScope s_levels_of) (by decide +kernel)) (fun _ _ _ _ _ => (gn_ 4 sc_levels_of.nd)) (fun _ _ _ _ _ => pts_nil) (fun _ _ _ _ _ => (pv 4)) (fun _ _ _ _ _ => pe_bl)))
(pss_one (ps_expr (pe_bm PySem.F.plainAttrs_list PySem.F.slot_list_append PySem.F.type_list_append wAppend (pv 1) (pa_cons (pe_lockR (pe_lc (own := [("node", 4)]) (g := (gName 4)) rfl sc_levels_of.nd (pi_keys (pv 0)) (blkOk_by (own := [("node", 4)]) (N := ["web", "found", "last", "alive", "node", "after"]) (sc := defScope s_levels_of) (by decide +kernel)) (fun _ _ _ _ _ => (gn_ 4 sc_levels_of.nd)) (fun _ _ _ _ _ => (pts_one (pt_val (pe_callB (wAny K) rfl T.f_any bo_any (pa_cons (pe_lockR (pe_lc (own := [("after", 5)]) (g := (gName 5)) rfl sc_levels_of.nd (pi_keys (pe_dget (hu_of hr) (pv 0) (pv 4) (fun _ _ => rfl))) (blkOk_by (own := [("after", 5)]) (N := ["web", "found", "last", "alive", "node", "after"]) (sc := { kind := ScopeKind.function, names := [(".0", NameKind.local), ("node", NameKind.local), ("any", NameKind.globalImplicit), ("alive", NameKind.cell), ("web", NameKind.cell)], isGenerator := false, isCoroutine := false }) (by decide +kernel)) (fun _ _ _ _ _ => (gn_ 5 sc_levels_of.nd)) (fun _ _ _ _ _ => pts_nil) (fun _ _ _ _ _ => (pe_cmp (pc_din (hu_of hr) (pv 5) (pv 3)))))) pa_nil))))) (fun _ _ _ _ _ => (pv 4)))) pa_nil)))))))
(pss_one (ps_ret (pe_slice (wSlL K) (pv 1) po_none (po_some (pe_un un_neg pe_int)))))))), fun Q q => ?_⟩
  refine q_lst1 (T := TT) ok (e_listD (e_var rfl rw_)) fun v0 H1 fd e1 r0 hfd => ?_
  have ok1 := ok.step e1
  have h1 : Hd TT M H1 [fd] (upd H1 fd (.lst [v0])) := (Hd.start ok1).new hfd (.lst _)
  have rw1 := Rel.up rw_ ok e1
  obtain ⟨wd, kvs0, rfl, hwd0, hdp0⟩ := rw1
  refine ⟨_, rfl, ?_⟩
  refine ⟨fun m' σ G => ∃ (m : Nat) (la : Int) (vs : List V) (o3 o4 o5 : Option V), m' = 2 * (lev W m).length + (if la = (lev W m).length then 0 else 1) ∧ σ = [some (.ref wd), some (.ref fd), some (.int la), o3, o4, o5] ∧ Hd TT M H1 [fd] G ∧ G fd = some (.lst vs) ∧ Paired (fun v l => (rL rP).r (vis ([fd] ++ M) G) v l) vs ((List.range (m + 1)).map (lev W)) ∧
      ((m = 0 ∧ la = -1) ∨ ∃ k, m = k + 1 ∧ la = (lev W k).length) ∧ ∀ t, t + 1 < m → (lev W (t + 1)).length ≠ (lev W t).length,
    ⟨_, 0, -1, [v0], none, none, none, rfl, rfl, h1, upd_same, .cons (h1.up r0) .nil, .inl ⟨rfl, rfl⟩, fun t ht => by omega⟩, ?_⟩
  rintro m' σ G ⟨m, la, vs, o3, o4, o5, rfl, rfl, hh, hf, pr, hla, hne⟩
  have hvl : vs.length = m + 1 := by have := Paired.length pr; rw [List.length_map, List.length_range] at this; exact this
  have hlen := lev_len hs m
  have rf : (rL (rL rP)).r (vis M G) (.ref fd) ((List.range (m + 1)).map (lev W)) := ⟨fd, vs, rfl, vis_open hf (hh.mem (by simp)), Paired.mapP pr fun _ _ h => (rL rP).st hh.kr h⟩
  have hat : atI ((List.range (m + 1)).map (lev W)) (-1) = some (lev W m) := atI_last (n := m) (by rw [List.length_map, List.length_range]) (by rw [List.getElem?_map, List.getElem?_range (by omega)]; rfl)
  have eLast : ∀ {σ : L2.St} {G : Hp}, σ[1]? = some (some (.ref fd)) → (rL (rL rP)).r (vis M G) (.ref fd) ((List.range (m + 1)).map (lev W)) → Ev TT (tLast K 1) σ (vis M G) (rL rP) (lev W m) := fun hi r => e_op (e_var hi r) (e_neg (e_int 1)) (o_ixL hat)
  refine (t_of (e_op (e_var (R := rInt) (x := la) rfl rfl) (e_lenL (eLast rfl rf)).int o_neI)) M G (.self hh.okm) _ fun G2 e2 => ?_
  have hh2 := hh.step e2
  have rf2 := Rel.up rf hh.okm e2
  by_cases hcond : la = ((lev W m).length : Int)
  · -- the end
    have hb : (!decide (la = ((lev W m).length : Int))) = false := by rw [decide_eq_true hcond]; rfl
    rw [hb, if_neg (by simp)]
    have hm : ∃ k, m = k + 1 ∧ la = (lev W k).length := by
      rcases hla with ⟨h1, h2⟩ | h
      · omega
      · exact h
    obtain ⟨k, rfl, hk⟩ := hm
    have hn : ((List.range (k + 1 + 1)).map (lev W)).length = k + 2 := by rw [List.length_map, List.length_range]
    have hx : HT.sIx (k + 2) (k + 2) (some (-1)) = k + 1 := by
      show (if (-1 : Int) < 0 then (-1 + ((k + 2 : Nat) : Int)).toNat else min (-1 : Int).toNat (k + 2)) = k + 1
      rw [if_pos (by decide)]
      omega
    have hcut : (((List.range (k + 1 + 1)).map (lev W)).drop (HT.sIx ((List.range (k + 1 + 1)).map (lev W)).length 0 none)).take (HT.sIx ((List.range (k + 1 + 1)).map (lev W)).length ((List.range (k + 1 + 1)).map (lev W)).length (some (-1)) - HT.sIx ((List.range (k + 1 + 1)).map (lev W)).length 0 none) = (List.range (k + 1)).map (lev W) := by
      rw [hn, hx, HT.sIx_none, List.drop_zero, Nat.sub_zero, List.range_succ (n := k + 1), List.map_append, List.take_append_of_le_length (by rw [List.length_map, List.length_range]; exact Nat.le_refl _), List.take_of_length_le (by rw [List.length_map, List.length_range]; exact Nat.le_refl _)]
    exact q_ret (T := TT) hh2.okm ((e_slL (e_var rfl rf2) s_none (s_some (e_neg (e_int 1)))).to hcut) fun v H' e r => q v H' _ (((e1.trans hh2.es).trans e)) ⟨k, rfl, by omega, fun t ht => hne t (by omega)⟩ r
  · have hb : (!decide (la = ((lev W m).length : Int))) = true := by rw [decide_eq_false hcond]; rfl
    rw [hb, if_pos rfl]
    refine ⟨fun σ' G' => ∃ (vs : List V) (o3 o4 o5 : Option V), σ' = [some (.ref wd), some (.ref fd), some (.int ((lev W m).length : Int)), o3, o4, o5] ∧ Hd TT M H1 [fd] G' ∧ G' fd = some (.lst vs) ∧ Paired (fun v l => (rL rP).r (vis ([fd] ++ M) G') v l) vs ((List.range (m + 1 + 1)).map (lev W)),
      fun σ' G' ⟨vs, o3, o4, o5, a1, a2, a3, a4⟩ => ⟨2 * (lev W (m + 1)).length + (if ((lev W m).length : Int) = (lev W (m + 1)).length then 0 else 1), ?_, m + 1, _, vs, o3, o4, o5, rfl, a1, a2, a3, a4, .inr ⟨m, rfl, rfl⟩, fun t ht => ?_⟩, ?_⟩
    · rw [if_neg hcond]
      have := lev_sub (W := W) m
      split <;> omega
    · by_cases e : t + 1 < m
      · exact hne t e
      · have : t + 1 = m := by omega
        subst this
        rcases hla with ⟨h1, _⟩ | ⟨k, h1, h2⟩
        · omega
        · have : k = t := by omega
          subst this
          omega
    · refine q_set (T := TT) hh2.okm (e_lenL (eLast rfl rf2)) fun v3 G3 e3 r3 => ?_
      have r3 : v3 = .int ((lev W m).length : Int) := r3
      subst r3
      have hh3 := hh2.step e3
      have hf3 : G3 fd = some (.lst vs) := e3.lst (e2.lst hf)
      have pr3 : Paired (fun v l => (rL rP).r (vis ([fd] ++ M) G3) v l) vs ((List.range (m + 1)).map (lev W)) := Paired.mapP pr fun _ _ h => Rel.up (Rel.up h hh.okv e2) hh2.okv e3
      obtain ⟨lv, hlv, rlv⟩ : ∃ v, vs[m]? = some v ∧ (rL rP).r (vis ([fd] ++ M) G3) v (lev W m) := pr_get pr3 (by rw [List.getElem?_map, List.getElem?_range (by omega)]; rfl)
      refine q_asgR (q_dc (T := TT) (S := rB) (xs := lev W m) (Ps := fun _ b => b = true) hh3.okv (lev_nd hs m) (by omega) (ia_list hh3.okv fun Q q => raw_last rfl hf3 hvl hlv (q _ rlv)) (fun _ => rfl) (fun _ => rfl) (fun M' H2 v x ok' _ _ _ Q2 q2 => q2 _ H2 true (.refl _) rfl rfl) fun av G4 al e4 hak hav ral => ?_)
      have hh4 := hh3.step e4
      have hf4 : G4 fd = some (.lst vs) := e4.lst hf3
      have pr4 : Paired (fun v l => (rL rP).r (vis ([fd] ++ M) G4) v l) vs ((List.range (m + 1)).map (lev W)) := Paired.mapP pr3 fun _ _ h => Rel.up h hh3.okv e4
      have rw4 : (rD (rD rW)).r (vis ([fd] ++ M) G4) (.ref wd) W := hh4.up ⟨wd, kvs0, rfl, hwd0, hdp0⟩
      obtain ⟨wd', kvs, ew, hwd, hdp⟩ := rw4
      cases ew
      refine q_app (T := TT) (R := rL rP) (x := lev W (m + 1)) hh4.okv rfl ?_ hf4 (by have h7 := lev_fall (W := W) (m - 1) fun t ht => hne t (by omega); have h8 := lev_len hs 0; have : sizeLine = 16777216 := sizeLine_eq; omega) fun v G5 e5 r5 => ?_
      · have hlc := e_lcK (T := TT) (σ := [some (.ref wd), some (.ref fd), some (.int ((lev W m).length : Int)), some av, o4, o5]) (k := 4) (xs := W) (f := id) (S := rP) (R := rD rW) (p := fun x => toA (lev W m) (x, (getD W x).getD [])) (td := tVar 0) (te := tVar 4) (tt := (tB
                              (tCB (rAny K)
                                (tCons
                                  (tLockR
                                    (tLc (iKeys (tDGet (tVar 0) (tVar 4))) (gName 5) tYes (tDIn (tVar 5) (tVar 3))
                                      [5]))
                                  tNil)))) (fx_var rfl) hwd hdp (fun _ => rfl) (by have := hs.le; omega) fun H1 v x kr tb hx rx => ⟨?_, fun _ => e_var rfl rx⟩
        · rw [getD_row hs.nd, List.map_id] at hlc
          exact hlc
        · obtain ⟨e, he, rfl⟩ := List.mem_map.mp hx
          obtain ⟨d', kvs', g1, g2, g3⟩ := rDD_get hdp hs.nd (show (e.1, e.2) ∈ W from he)
          rw [getD_of_mem hs.nd (show (e.1, e.2) ∈ W from he)]
          have rx' := rx
          obtain ⟨pa, rfl, hpa⟩ := rP_key rx'
          have hrow := hs.row e he
          refine (t_B (e_any (e_lcK (k := 5) (xs := e.2) (R := rW) (f := fun y => (getD al y).isSome) (p := fun _ => true) (S := rB) (fx_dget (fx_var rfl) (fx_var rfl) (kr.rdT hwd) hpa g1) (kr.rdT g2) (g3.st kr) (fun _ => rfl) (by omega) fun H3 u y kr3 t3 hy ry => ⟨t_yes, fun _ => e_dinV (e_var rfl ry) (e_var rfl ((rD rB).st kr3 ((rD rB).st kr ral)))⟩))).to ?_
          show ((((e.2.map (·.1)).filter fun _ => true).map fun y => (getD al y).isSome).any id) = e.2.any fun x => decide (x.1 ∈ lev W m)
          rw [filt_true, List.map_map, List.any_map]
          congr 1
          funext x
          show (getD al x.1).isSome = _
          rw [getD_some, hak]
      · refine ⟨vs ++ [v], _, _, _, rfl, (hh4.step e5).put (by simp) (.lst _), upd_same, ?_⟩
        rw [List.range_succ, List.map_append]
        refine pr_snoc (Paired.mapP pr4 fun _ _ h => ?_) ?_
        · show (rL rP).r (vis (fd :: M) (upd G5 fd _)) _ _
          rw [vis_hide]
          exact Rel.up h hh4.okv e5
        · show (rL rP).r (vis (fd :: M) (upd G5 fd _)) _ _
          rw [vis_hide]
          exact r5
end


end K29
set_option autoImplicit false
set_option maxHeartbeats 4000000
namespace K29
open PySem PySem.Spec PyProof.Rows L2
/-! Ranks by levels. -/
theorem lev_sl (W : Web) : ∀ t : Nat, (lev W (t + 1)).Sublist (lev W t)
  | 0 => List.Sublist.map _ List.filter_sublist
  | t + 1 => by
    have h : W.filter (toA (lev W (t + 1))) = (W.filter (toA (lev W t))).filter (toA (lev W (t + 1))) := by
      rw [List.filter_filter]
      refine List.filter_congr fun e he => ?_
      cases h : toA (lev W (t + 1)) e with
      | false => rfl
      | true => rw [toA_mono (lev_down t) e h]; rfl
    show ((W.filter (toA (lev W (t + 1)))).map _).Sublist ((W.filter (toA (lev W t))).map _)
    rw [h]
    exact List.Sublist.map _ List.filter_sublist
theorem lev_stable {W : Web} {N : Nat} (h : (lev W (N + 1)).length = (lev W N).length) : ∀ t, N ≤ t → lev W t = lev W N := by
  have h1 : lev W (N + 1) = lev W N := (lev_sl W N).eq_of_length h
  intro t ht
  induction t with
  | zero => rw [show N = 0 by omega]
  | succ t ih =>
    by_cases e : N = t + 1
    · rw [e]
    · have h2 := ih (by omega)
      rw [← h1]
      show (W.filter (toA (lev W t))).map _ = (W.filter (toA (lev W N))).map _
      rw [h2]
/-- a node's rank -/
def RankAt (W : Web) (p : Pr) : Option Nat → Prop
  | none => ∀ t, p ∈ lev W t
  | some t => p ∈ lev W t ∧ p ∉ lev W (t + 1)
def RankOk (W : Web) (F : List (Pr × Option Nat)) : Prop := F.map (·.1) = W.map (·.1) ∧ (∀ e ∈ F, RankAt W e.1 e.2)
/-- before the levels from i on: told some rank below i -/
def RkI (W : Web) (i : Nat) (F : List (Pr × Option Nat)) : Prop := F.map (·.1) = (if i = 0 then [] else W.map (·.1)) ∧ ∀ e ∈ F, ∃ t, t < i ∧ e.2 = some t ∧ e.1 ∈ lev W t ∧ (t + 1 < i → e.1 ∉ lev W (t + 1))
theorem RkI.step {W : Web} {i : Nat} {F : List (Pr × Option Nat)} (s : WebS W) (h : RkI W i F) : RkI W (i + 1) (fillP F (lev W i) (some i)) := by
  refine ⟨?_, fun e he => ?_⟩
  · rw [if_neg (by omega)]
    by_cases hi : i = 0
    · subst hi
      have h1 : F.map (·.1) = [] := h.1
      rw [fillP_new _ _ _ (lev_nd s 0) (fun p _ z => by rw [h1] at z; simp at z), h1]
      rfl
    · have h1 : F.map (·.1) = W.map (·.1) := by rw [h.1, if_neg hi]
      rw [fillP_keys _ _ _ fun p hp => by rw [h1]; exact lev_le (Nat.zero_le i) p hp, h1]
  · rcases fillP_mem _ _ _ he with ⟨h1, h2⟩ | ⟨h1, h2⟩
    · exact ⟨i, by omega, h1, h2, fun z => by omega⟩
    · obtain ⟨t, h3, h4, h5, h6⟩ := h.2 e h1
      refine ⟨t, by omega, h4, h5, fun _ => ?_⟩
      by_cases e2 : t + 1 < i
      · exact h6 e2
      · rw [show t + 1 = i by omega]
        exact h2
theorem RkI.last {W : Web} {N : Nat} {F : List (Pr × Option Nat)} (h : RkI W (N + 1) F) (hN : (lev W (N + 1)).length = (lev W N).length) : RankOk W (fillP F (lev W N) none) := by
  have h1 : F.map (·.1) = W.map (·.1) := by rw [h.1, if_neg (by omega)]
  refine ⟨?_, fun e he => ?_⟩
  · rw [fillP_keys _ _ _ fun p hp => by rw [h1]; exact lev_le (Nat.zero_le N) p hp, h1]
  · rcases fillP_mem _ _ _ he with ⟨h1, h2⟩ | ⟨h1, h2⟩
    · rw [h1]
      intro t
      by_cases ht : N ≤ t
      · rw [lev_stable hN t ht]; exact h2
      · exact lev_le (by omega) _ h2
    · obtain ⟨t, h3, h4, h5, h6⟩ := h.2 e h1
      rw [h4]
      refine ⟨h5, ?_⟩
      by_cases e2 : t + 1 < N + 1
      · exact h6 e2
      · have : t = N := by omega
        rw [this] at h5
        exact absurd h5 h2

end K29
set_option autoImplicit false
set_option maxHeartbeats 4000000
namespace K29
open PySem PySem.Spec PyProof.Rows L2
/-! The walks, 4: the device is made. -/
structure Mkl (P : Program) (w : World) (K : PySem.W.Frag) (mg : Str → Option Value) (base : Heap) (k : Nat) (x : Str) (C : Addr) (sp : Sp) : Prop where
  ex : ∃ (f : Addr) (fd : FuncData) (ps : List Str), Mk K C f ∧ FnOk P w K mg base L2.CX0 k f fd ps sp ∧ mg x = some (.ref C) ∧ Binds K fd ps []
theorem pe_mkl {X : Cx} {k : Nat} {x : Str} {C : Addr} {sp : Sp} {e : Expr} {es : List Expr} {p pos : Pos} {t : TA} (c : Mkl X.prog X.w X.K X.mg X.base k x C sp) (hr : Room (k + 1) X.A) (hg : Gl X x) (ha : PA X (e :: es) t)
    (hdb : (x == ("__debug__" : Str)) = false := by decide) (he : starEach (e :: es) X.env = (false, eval e X.env) :: starEach es X.env := by rfl) (hpl : (backTo pos (starEach es X.env)).any (·.1) = false := by rfl) :
    PE X (.Call (.Name x p) (e :: es) [] pos) (tMake C sp [] L2.E0 t) := by
  obtain ⟨f, fd, ps, M, F, hm, b⟩ := c.ex
  exact pe_make M F hr hg hm b .nil L2.pass0 ha hdb he hpl
section
variable {T : List (Addr × Str)} {K : PySem.W.Frag} {α : Type} {σ : L2.St} {H : Hp} {N : List Addr} {R : Rel α} {y : α} {tv : TE} {i : Nat} {D : Ends} {x C dx : Addr} {fs : List (Str × V)} {fl : Str}
theorem q_fl1 (ok : Nok N H) (hv : Ev T tv σ (vis N H) R y) (hi : σ[i]? = some (some (.ref x))) (hx : H x = some (.ins C dx fs)) (hc : Cls K C) (hn : NoAttr K C fl) (hl : fs.length < 1000)
    (q : ∀ v H', Es T H H' → R.r (vis N H') v y → D.nx σ (upd H' x (.ins C dx (putF fl v fs)))) : sFld K (tVar i) tv fl D σ H :=
  hv N H (.self ok) _ fun v H1 e rv => ⟨_, hi, x, C, dx, fs, rfl, e.k _ _ hx (fun ps z => by cases z), hc, hn, hl, q v H1 e rv⟩
theorem cut_abc : ∀ k : Fin 4, cutS "abcde" none (some (k.1 : Int)) = wS (List.range k.1) := by decide +kernel
theorem cut_abc2 : ∀ k : Fin 4, cutS "abc" none (some (k.1 : Int)) = wS (List.range k.1) := by decide +kernel
end
section
variable {P : Program} {w : World} {K : PySem.W.Frag} {mg : Str → Option Value} {base : Heap} {C : Addr} {TT : List (Addr × Str)}
def sp_dev_init (C : Addr) (TT : List (Addr × Str)) : Sp := fun vs H Q _ => ∃ (M : List Addr) (x dx : Addr) (v : V) (tabs : List (List Nat)), vs = [.ref x, v] ∧ Nok M H ∧ x ∉ M ∧ H x = some (.ins C dx []) ∧ (rL (rL rNat)).r (vis (x :: M) H) v tabs ∧ Gt tabs ∧
  ∀ H', (∀ H0, H0 x = none → Es TT H0 H → Es TT H0 H') → (rDev C).r (vis M H') (.ref x) tabs → Q .non H'
theorem ok_dev_init (T : Tx K mg C) : Mkl P w K mg base 4 "Device" C (sp_dev_init C TT) := by
  obtain ⟨f, fd, F, Mk0, b⟩ := T.made
  refine ⟨f, fd, _, Mk0, F.ok sc_dev_init (fun vs H Q E ⟨_, _, _, _, _, e, _⟩ => by rw [e]; rfl) (fun cdv A outer s H vs Q E hr h => ?_), T.mgC, b⟩
  obtain ⟨M, x, dx, v, tabs, rfl, ok, hxM, hx, hv, g, q⟩ := h
  have n1 := g.n1
  have n3 := g.n3
  have m3 := g.m3
  have m5 := g.m5
  refine ⟨_, PSs.nox (pss_cons (ps_if (PW.pt (pw_or (pt_not (pt_val (pe_cl (ok_is_sequence (TT := TT) T) (hr.mono (by decide)) rfl (pa_cons (pv 1) pa_nil)))) (pw_or1 (pt_not (pt_chain op_le op_le pe_int (pe_callB (wLen K) rfl T.f_len bo_len (pa_cons (pv 1) pa_nil)) (pe_callB (wLen K) rfl T.f_len bo_len (pa_cons (pe_gs T.g_SIGNALS rfl) pa_nil)))))))
(pss_one ps_never)
pss_nil)
(pss_cons (ps_for PassesOwn.never rfl (pi_enum rfl T.f_enumerate (pa_cons (pv 1) pa_nil)) (wPg2 K (pgs_cons (gn_ 2 sc_dev_init.nd) (pgs_cons (gn_ 3 sc_dev_init.nd) pgs_nil)))
(pss_one (ps_if (pt_not (pt_val (pe_cl (ok_is_table (TT := TT) T) (hr.mono (by decide)) rfl (pa_cons (pv 3) (pa_cons (pe_ifExp (pt_cmpR op_gt (pv 2) pe_int (nomark _)) (pe_callB (wLen K) rfl T.f_len bo_len (pa_cons (pe_ix (wIxL K) (pv 1) pe_int (fun _ _ => rfl)) pa_nil)) pe_non) pa_nil)))))
(pss_one ps_never)
pss_nil)))
(pss_cons (ps_fld (pv 0) (pe_callB (wLen K) rfl T.f_len bo_len (pa_cons (pe_ix (wIxL K) (pv 1) pe_int (fun _ _ => rfl)) pa_nil)) rfl)
(pss_cons (ps_fld (pv 0) (pe_slice sl_str (pe_gs T.g_SIGNALS rfl) po_none (po_some (pe_callB (wLen K) rfl T.f_len bo_len (pa_cons (pv 1) pa_nil)))) rfl)
(pss_one (ps_fld (pv 0) (pe_callTy (wTup K) rfl T.f_tuple bo_tuple (pa_cons (pe_lc (own := [("table", 3)]) (g := (gName 3)) rfl sc_dev_init.nd (wList K (pv 1)) (blkOk_by (own := [("table", 3)]) (N := ["self", "tables", "at", "table"]) (sc := defScope s_dev_init) (by decide +kernel)) (fun _ _ _ _ _ => (gn_ 3 sc_dev_init.nd)) (fun _ _ _ _ _ => pts_nil) (fun _ _ _ _ _ => (pe_callTy (wTup K) rfl T.f_tuple bo_tuple (pa_cons (pv 3) pa_nil)))) pa_nil)) rfl)))))), ?_⟩
  have ok0 : Nok (x :: M) H := fun n hn => by
    rcases List.mem_cons.mp hn with z | z
    · rw [z]; exact ⟨_, hx, .ins _ _ _⟩
    · exact ok n z
  have ev : Ev TT (tVar 1) (L2.start ["self", "tables", "at", "table"] [.ref x, v]) (vis (x :: M) H) (rL (rL rNat)) tabs := e_var rfl hv
  refine q_no (T := TT) ok0 ((t_or (t_not (t_B (e_c1 (e_any1 ev) trivial fun _ h => h))) fun _ => t_not (t_of (e_chain (e_int 1) (e_lenL ev).int (e_lenW (e_word (l := [0, 1, 2, 3, 4]) rfl) (by decide)).int o_B0 o_B0))).to ?_) fun H2 e2 => ?_
  · have h1 : (1 : Int) ≤ (tabs.length : Int) := by omega
    have h2 : (tabs.length : Int) ≤ 5 := by omega
    simp [h1, h2]
  have ok2 := ok0.step e2
  have hv2 := Rel.up hv ok0 e2
  have h0 : many tabs = (tabs.getD 0 []).length := by
    unfold many
    cases tabs with
    | nil => simp at n1
    | cons a r => rfl
  refine q_for (T := TT) ok2 (i_enum (e_var rfl hv2)) fun H4 e4 => ?_
  have ok4 := ok2.step e4
  have hv4 := Rel.up hv2 ok2 e4
  refine ⟨fun i σ G => ∃ (a b : Option V), σ = [some (.ref x), some v, a, b] ∧ Es TT H4 G, ⟨none, none, rfl, .refl _⟩, fun i σ G ⟨_, _, _, a⟩ => ⟨_, (At.self ok4).step a⟩, ?_, ?_⟩
  · rintro i x1 p σ G G' hi hp ⟨a, b, rfl, aG⟩ eGG rx
    rw [enumL_len] at hi
    have hp2 : (i, tabs[i]) = p := Option.some.inj ((enumL_get (List.getElem?_eq_getElem hi)).symm.trans hp)
    subst hp2
    have row := g.row _ (List.getElem_mem hi)
    have okG := ok4.step (aG.trans eGG)
    refine g_pair (N := x :: M) (rx _ ((At.self ok4).step aG)) fun v3 v4 r3 r4 => ?_
    have hvG := Rel.up hv4 ok4 (aG.trans eGG)
    have evG : Ev TT (tVar 1) [some (.ref x), some v, some v3, some v4] (vis (x :: M) G') (rL (rL rNat)) tabs := e_var rfl hvG
    have pre : 1 ≤ tabs[i].length ∧ tabs[i].length ≤ 60 ∧ (∀ x ∈ tabs[i], x < tabs[i].length) ∧ ∀ n, (if 0 < i then some (many tabs) else none) = some n → tabs[i].length = n := by
      refine ⟨by rw [row.1]; omega, by rw [row.1]; omega, by rw [row.1]; exact row.2, fun n hn => ?_⟩
      by_cases h : 0 < i
      · rw [if_pos h] at hn
        rw [row.1]
        exact Option.some.inj hn
      · rw [if_neg h] at hn
        cases hn
    have em : Ev TT (tIf (tTest (tOp (rI0 fun i j => .bl (decide (j < i))) (tVar 2) (tC (.int 0)))) (tCB (fun xs H Q => ∃ x n, xs = [x] ∧ LenV K x H n ∧ Q (.int n) H) (tCons (tOp (rIxL K) (tVar 1) (tC (.int 0))) tNil)) (tC .non)) [some (.ref x), some v, some v3, some v4] (vis (x :: M) G') (rO rNat) (if 0 < i then some (many tabs) else none) := by
      refine e_if (t_of (e_op (e_var (R := rInt) (x := (i : Int)) rfl r3) (e_int 0) o_B0)) (fun h => ?_) fun h => ?_
      · have : 0 < i := by have := of_decide_eq_true h; omega
        rw [if_pos this]
        exact ((e_lenL (e_op evG (e_int 0) (o_ixL (atI_of (i := 0) (d := []) (by omega))))).to h0.symm).some_
      · have : ¬ 0 < i := by have := of_decide_eq_false h; omega
        rw [if_neg this]
        exact e_non
    refine q_no (T := TT) okG ((t_not (t_B (e_c2 (x := tabs[i]) (e_var rfl r4) em pre fun _ h => h))).to rfl) fun G2 eg2 => ?_
    exact ⟨_, _, rfl, (aG.trans eGG).trans eg2⟩
  · rintro σ G ⟨a, b, rfl, eG⟩
    have okG := ok4.step eG
    have hvG := Rel.up hv4 ok4 eG
    have hxG : G x = some (.ins C dx []) := ((e2.trans e4).trans eG).k _ _ hx fun ps z => by cases z
    refine q_fl1 (T := TT) okG (e_lenL (e_op (e_var rfl hvG) (e_int 0) (o_ixL (atI_of (i := 0) (d := []) (by omega))))) rfl hxG T.cl T.nStates (by decide) fun v5 G5 e5 r5 => ?_
    have r5 : v5 = .int (((tabs.getD 0 []).length : Nat) : Int) := r5
    have a5 : At TT (x :: M) (vis (x :: M) G5) (upd G5 x (.ins C dx (putF "states" v5 []))) := (At.self (okG.step e5)).put (.ins _ _ _)
    have hv5 : (rL (rL rNat)).r (vis (x :: M) (upd G5 x (.ins C dx (putF "states" v5 [])))) v tabs := by rw [vis_hide]; exact Rel.up hvG okG e5
    refine q_fl1 (T := TT) a5.ok (e_slS (e_str "abcde") s_none (s_some (e_lenL (e_var rfl hv5)).int) (by decide)) rfl upd_same T.cl T.nSignals (by show 1 < 1000; decide) fun v6 G6 e6 r6 => ?_
    have r6 : v6 = .str (wS (List.range tabs.length)) := by
      rw [← cut_abc ⟨tabs.length, by omega⟩]
      exact r6
    have a6 : At TT (x :: M) (vis (x :: M) G6) (upd G6 x (.ins C dx (putF "signals" v6 (putF "states" v5 [])))) := (At.self (a5.ok.step e6)).put (.ins _ _ _)
    have hv6 : (rL (rL rNat)).r (vis (x :: M) (upd G6 x (.ins C dx (putF "signals" v6 (putF "states" v5 []))))) v tabs := by rw [vis_hide]; exact Rel.up hv5 a5.ok e6
    refine q_fl1 (T := TT) a6.ok (e_tupL (e_lc (S := rT rNat) (p := fun _ => true) (f := id) (i_list (e_var rfl hv6)) (fun _ => rfl) (by omega) fun H1 v7 t _ _ r7 => ⟨t_yes, fun _ => e_tupL (e_var rfl r7)⟩)) rfl upd_same T.cl T.nTables (by show 2 < 1000; decide) fun v7 G7 e7 r7 => ?_
    have r7 : (rT (rT rNat)).r (vis (x :: M) G7) v7 tabs := by
      have h : ((tabs.filter fun _ => true).map id) = tabs := by simp
      rw [h] at r7
      exact r7
    have s1 : ¬ (("states" : Str) = "tables") := by decide +kernel
    have s2 : ¬ (("states" : Str) = "signals") := by decide +kernel
    have s3 : ¬ (("signals" : Str) = "tables") := by decide +kernel
    refine q _ (fun H0 h1 h2 => ?_) ⟨x, dx, putF "tables" v7 (putF "signals" v6 (putF "states" v5 [])), v7, rfl, ?_, ?_, ?_, ?_, (rT (rT rNat)).st (vis_back x) (by rw [vis_hide]; exact r7)⟩
    · have i5 : Es TT H0 G5 := (((h2.trans e2).trans e4).trans eG).trans e5
      have i5' : Es TT H0 (upd G5 x (.ins C dx (putF "states" v5 []))) := i5.mut h1 (e5.k _ _ hxG fun ps z => by cases z) (.ins _ _ _)
      have i6 : Es TT H0 G6 := i5'.trans e6
      have i6' : Es TT H0 (upd G6 x (.ins C dx (putF "signals" v6 (putF "states" v5 [])))) := i6.mut h1 (e6.k _ _ upd_same fun ps z => by cases z) (.ins _ _ _)
      exact (i6'.trans e7).mut h1 (e7.k _ _ upd_same fun ps z => by cases z) (.ins _ _ _)
    · rw [vis_ne hxM]
      exact upd_same
    · rw [lookup_putF, if_neg s1, lookup_putF, if_neg s2, lookup_putF, if_pos rfl, r5, h0]
    · rw [lookup_putF, if_neg s3, lookup_putF, if_pos rfl, r6]
    · rw [lookup_putF, if_pos rfl]
theorem e_make (C : Addr) {σ : L2.St} {H : Hp} {tabs : List (List Nat)} {te : TE} (h : Ev TT te σ H (rL (rL rNat)) tabs) (g : Gt tabs) : Ev TT (tMake C (sp_dev_init C TT) [] L2.E0 (tCons te tNil)) σ H (rDev C) tabs := fun N H1 e Q q =>
  h N H1 e _ fun v H2 e2 r => by
    intro x dx hx hdx hne
    have ok2 := (e.step e2).ok
    have hx2 : upd H2 dx (.own x) x = none := by rw [upd_ne hne.symm]; exact hx
    have n1 : Es TT H2 (upd (upd H2 dx (.own x)) x (.ins C dx [])) := (Es.new hdx).trans (.new hx2)
    refine ⟨N, x, dx, v, tabs, rfl, ok2.step n1, ok2.fresh hx, upd_same, ?_, g, fun H' k r' => ⟨rfl, q _ H' (e2.trans (k H2 hx n1)) r'⟩⟩
    have r2 := Rel.up r ok2 (Es.new (T := TT) (o := .own x) hdx)
    rw [vis_hide, vis_none hx2]
    exact r2
end


end K29
set_option autoImplicit false
set_option maxHeartbeats 4000000
namespace K29
open PySem PySem.Spec PyProof.Rows L2
/-! The walks, 5: states that pairs join. -/
/-- joined by a pair, or the same -/
def Sm (ps : List Pr) (i j : Nat) : Prop := i = j ∨ (i, j) ∈ ps ∨ (j, i) ∈ ps
theorem Sm.symm {ps : List Pr} {i j : Nat} (h : Sm ps i j) : Sm ps j i := by
  rcases h with h | h | h
  · exact .inl h.symm
  · exact .inr (.inr h)
  · exact .inr (.inl h)
/-- the classes that the pairs make -/
structure ClsOk (n : Nat) (ps : List Pr) (cs : List (List Nat)) : Prop where
  all : ∀ i, i < n → ∃ c ∈ cs, i ∈ c
  one : ∀ c ∈ cs, ∀ i ∈ c, ∀ j ∈ c, i < n ∧ Sm ps i j
  two : cs.Pairwise fun c c' => ∀ i ∈ c, ∀ j ∈ c', ¬ Sm ps i j
def stepH (home : List Nat) (p : Pr) : List Nat :=
  home.map fun a => if a = max (home.getD p.1 0) (home.getD p.2 0) then min (home.getD p.1 0) (home.getD p.2 0) else a
theorem stepH_len (home : List Nat) (p : Pr) : (stepH home p).length = home.length := by unfold stepH; rw [List.length_map]
theorem getD_map {α β : Type} (f : α → β) (xs : List α) (i : Nat) (d : α) (e : β) (h : i < xs.length) : (xs.map f).getD i e = f (xs.getD i d) := by
  rw [List.getD_eq_getElem?_getD, List.getD_eq_getElem?_getD, List.getElem?_map, List.getElem?_eq_getElem h]
  rfl
/-- the homes behind the pairs qs, all of them among ps -/
structure HomeOk (n : Nat) (ps qs : List Pr) (home : List Nat) : Prop where
  len : home.length = n
  lt : ∀ i, i < n → home.getD i 0 < n
  sm : ∀ i, i < n → Sm ps i (home.getD i 0)
  eq : ∀ p ∈ qs, home.getD p.1 0 = home.getD p.2 0
theorem HomeOk.step {n : Nat} {ps qs : List Pr} {home : List Nat} (h : HomeOk n ps qs home) (hv : ∀ p ∈ ps, p.1 < p.2 ∧ p.2 < n) (tr : ∀ i j k, i < n → j < n → k < n → Sm ps i j → Sm ps j k → Sm ps i k) (hq : ∀ p ∈ qs, p ∈ ps) {p : Pr} (hp : p ∈ ps) :
    HomeOk n ps (qs ++ [p]) (stepH home p) := by
  have ⟨v1, v2⟩ := hv p hp
  have l1 : p.1 < home.length := by rw [h.len]; omega
  have l2 : p.2 < home.length := by rw [h.len]; omega
  have g : ∀ i, i < n → (stepH home p).getD i 0 = if home.getD i 0 = max (home.getD p.1 0) (home.getD p.2 0) then min (home.getD p.1 0) (home.getD p.2 0) else home.getD i 0 := fun i hi => getD_map _ home i 0 0 (by rw [h.len]; exact hi)
  have h1 := h.sm p.1 (by omega)
  have h2 := h.sm p.2 v2
  have lt1 := h.lt p.1 (by omega)
  have lt2 := h.lt p.2 v2
  have h12 : Sm ps p.1 p.2 := .inr (.inl hp)
  have hh : Sm ps (home.getD p.1 0) (home.getD p.2 0) := tr _ p.1 _ lt1 (by omega) lt2 h1.symm (tr _ p.2 _ (by omega) v2 lt2 h12 h2)
  refine ⟨by rw [stepH_len]; exact h.len, fun i hi => ?_, fun i hi => ?_, fun q hq2 => ?_⟩
  · rw [g i hi]
    have := h.lt i hi
    split <;> omega
  · rw [g i hi]
    have hi2 := h.sm i hi
    have lti := h.lt i hi
    split
    · rename_i e
      rcases Nat.le_total (home.getD p.1 0) (home.getD p.2 0) with q | q
      · rw [Nat.max_eq_right q] at e
        rw [Nat.min_eq_left q]
        rw [e] at hi2
        exact tr _ _ _ hi lt2 lt1 hi2 hh.symm
      · rw [Nat.max_eq_left q] at e
        rw [Nat.min_eq_right q]
        rw [e] at hi2
        exact tr _ _ _ hi lt1 lt2 hi2 hh
    · exact hi2
  · rcases List.mem_append.mp hq2 with z | z
    · have ⟨w1, w2⟩ := hv q (hq q z)
      rw [g q.1 (by omega), g q.2 w2, h.eq q z]
    · rw [List.mem_singleton.mp z, g p.1 (by omega), g p.2 v2]
      rcases Nat.le_total (home.getD p.1 0) (home.getD p.2 0) with q | q
      · rw [Nat.max_eq_right q, Nat.min_eq_left q, if_pos rfl]
        by_cases e : home.getD p.1 0 = home.getD p.2 0
        · rw [if_pos e]
        · rw [if_neg e]
      · rw [Nat.max_eq_left q, Nat.min_eq_right q, if_pos rfl]
        by_cases e : home.getD p.2 0 = home.getD p.1 0
        · rw [if_pos e]
        · rw [if_neg e]
/-- the states below m whose home is h; the homes met below m, in turn -/
def grp (home : List Nat) (m h : Nat) : List Nat := (List.range m).filter fun s => decide (home.getD s 0 = h)
theorem grp_mem {home : List Nat} {m h s : Nat} : s ∈ grp home m h ↔ s < m ∧ home.getD s 0 = h := by
  unfold grp
  rw [List.mem_filter, List.mem_range, decide_eq_true_eq]
theorem grp_succ (home : List Nat) (m h : Nat) : grp home (m + 1) h = if home.getD m 0 = h then grp home m h ++ [m] else grp home m h := by
  unfold grp
  rw [List.range_succ, List.filter_append]
  split
  · rename_i e
    rw [List.filter_cons_of_pos (by simpa using e)]
    rfl
  · rename_i e
    rw [List.filter_cons_of_neg (by simpa using e)]
    simp
theorem classes_ok {n : Nat} {ps : List Pr} {home hs : List Nat} {cs : List (List Nat)} (h : HomeOk n ps ps home) (hv : ∀ p ∈ ps, p.1 < p.2 ∧ p.2 < n) (tr : ∀ i j k, i < n → j < n → k < n → Sm ps i j → Sm ps j k → Sm ps i k)
    (nd : hs.Nodup) (hm : ∀ a, a ∈ hs ↔ ∃ s, s < n ∧ home.getD s 0 = a) (hc : cs.Perm (hs.map (grp home n))) : ClsOk n ps cs := by
  have eqv : ∀ i j, i < n → j < n → (Sm ps i j ↔ home.getD i 0 = home.getD j 0) := fun i j hi hj => by
    constructor
    · rintro (e | e | e)
      · rw [e]
      · exact h.eq _ e
      · exact (h.eq _ e).symm
    · intro e
      have h1 := h.sm i hi
      have h2 := (h.sm j hj).symm
      rw [← e] at h2
      exact tr _ _ _ hi (h.lt i hi) hj h1 h2
  refine ⟨fun i hi => ?_, fun c hc2 i hi j hj => ?_, ?_⟩
  · exact ⟨grp home n (home.getD i 0), hc.mem_iff.mpr (List.mem_map.mpr ⟨_, (hm _).mpr ⟨i, hi, rfl⟩, rfl⟩), grp_mem.mpr ⟨hi, rfl⟩⟩
  · obtain ⟨a, _, rfl⟩ := List.mem_map.mp (hc.mem_iff.mp hc2)
    obtain ⟨i1, i2⟩ := grp_mem.mp hi
    obtain ⟨j1, j2⟩ := grp_mem.mp hj
    exact ⟨i1, (eqv i j i1 j1).mpr (i2.trans j2.symm)⟩
  · have key : (hs.map (grp home n)).Pairwise fun c c' => ∀ i ∈ c, ∀ j ∈ c', ¬ Sm ps i j := by
      rw [List.pairwise_map]
      refine List.Pairwise.imp (fun {a b} hab i hi j hj z => ?_) nd
      obtain ⟨i1, i2⟩ := grp_mem.mp hi
      obtain ⟨j1, j2⟩ := grp_mem.mp hj
      exact hab (i2.symm.trans (((eqv i j i1 j1).mp z).trans j2))
    exact hc.symm.pairwise key fun {a b} hab i hi j hj z => hab j hj i hi z.symm
section
variable {P : Program} {w : World} {K : PySem.W.Frag} {mg : Str → Option Value} {base : Heap} {C : Addr} {TT : List (Addr × Str)}
structure JPre (n : Nat) (ps : List Pr) : Prop where
  n5 : n ≤ 5
  len : ps.length ≤ 1000
  v : ∀ p ∈ ps, p.1 < p.2 ∧ p.2 < n
  tr : ∀ i j k, i < n → j < n → k < n → Sm ps i j → Sm ps j k → Sm ps i k
def sp_joined_classes (TT : List (Addr × Str)) : Sp := SpG TT (A2 rNat (rL rP) JPre) (rT (rT rNat)) fun z y => ClsOk z.1 z.2 y
theorem ok_joined_classes (T : Tx K mg C) : Cl P w K mg base 1 "joined_classes" (sp_joined_classes TT) := by
  refine cl_spG T.d_joined_classes sc_joined_classes A2.len fun f cdv A outer s H vs E M z hr ok h => ?_
  obtain ⟨v, u, rfl, hv, hu, pre⟩ := h
  obtain ⟨n, ps⟩ := z
  have pre : JPre n ps := pre
  have n5 := pre.n5
  refine ⟨_, (pss_cons (st_ 2 sc_joined_classes.nd (pe_listRg rfl rfl T.f_list (prg_1 rfl T.f_range (pv 0))))
(pss_cons (ps_for PassesOwn.never rfl (wList K (pv 1)) (wPg2 K (pgs_cons (gn_ 3 sc_joined_classes.nd) (pgs_cons (gn_ 4 sc_joined_classes.nd) pgs_nil)))
(pss_cons (ps_asg (pe_tup (pa_cons (pe_callB (call_min2 rfl) rfl T.f_min bo_min (pa_cons (pe_ix (wIxL K) (pv 2) (pv 3) (fun _ _ => rfl)) (pa_cons (pe_ix (wIxL K) (pv 2) (pv 4) (fun _ _ => rfl)) pa_nil))) (pa_cons (pe_callB (call_max2 rfl) rfl T.f_max bo_max (pa_cons (pe_ix (wIxL K) (pv 2) (pv 3) (fun _ _ => rfl)) (pa_cons (pe_ix (wIxL K) (pv 2) (pv 4) (fun _ _ => rfl)) pa_nil))) pa_nil))) (wPg2 K (pgs_cons (gn_ 5 sc_joined_classes.nd) (pgs_cons (gn_ 6 sc_joined_classes.nd) pgs_nil))))
(pss_one (ps_setLc (i := 2) (own := [("at", 7)]) (g := (gName 7)) rfl sc_joined_classes.nd rfl rfl (sw_true rfl rfl rfl (by decide +kernel)) (wList K (pv 2)) (blkOk_by (own := [("at", 7)]) (N := ["states", "pairs", "home", "one", "other", "low", "high", "at", "found", "state"]) (sc := defScope s_joined_classes) (by decide +kernel)) (fun _ _ _ _ _ => (gn_ 7 sc_joined_classes.nd)) (fun _ _ _ _ _ => pts_nil) (fun _ _ _ _ _ => (pe_ifExp (pt_cmpR op_eq (pv 7) (pv 6) (nomark _)) (pv 5) (pv 7)))))))
(pss_cons (st_ 8 sc_joined_classes.nd pe_dnewK)
(pss_cons (ps_for PassesOwn.never rfl (pi_range1 rfl T.f_range (pa_cons (pv 0) pa_nil)) (gn_ 9 sc_joined_classes.nd)
(pss_one (ps_expr (pe_bm PySem.F.plainAttrs_list PySem.F.slot_list_append PySem.F.type_list_append wAppend (pe_dsetd (pv 8) (pe_ix (wIxL K) (pv 2) (pv 9) (fun _ _ => rfl)) (pe_lst pa_nil) ⟨rfl, rfl, rfl, rfl⟩) (pa_cons (pv 9) pa_nil)))))
(pss_one (ps_ret (pe_callTy (wTup K) rfl T.f_tuple bo_tuple (pa_cons (pe_callB (cr_sortedRows (hu64_of hr)) rfl T.f_sorted bo_sorted (pa_cons (pe_lockR (pe_lc (own := [("at", 7)]) (g := (gName 7)) rfl sc_joined_classes.nd (pi_keys (pv 8)) (blkOk_by (own := [("at", 7)]) (N := ["states", "pairs", "home", "one", "other", "low", "high", "at", "found", "state"]) (sc := defScope s_joined_classes) (by decide +kernel)) (fun _ _ _ _ _ => (gn_ 7 sc_joined_classes.nd)) (fun _ _ _ _ _ => pts_nil) (fun _ _ _ _ _ => (pe_callTy (wTup K) rfl T.f_tuple bo_tuple (pa_cons (pe_dget (hu_of hr) (pv 8) (pv 7) (fun _ _ => rfl)) pa_nil))))) pa_nil)) pa_nil)))))))), fun Q q => ?_⟩
  -- the homes
  refine q_set (T := TT) ok (e_listRg (n := n) (by omega) (e_var rfl hv)) fun h0 H2 e2 r0 => ?_
  have ok2 := ok.step e2
  have hu2 := Rel.up hu ok e2
  refine q_for (T := TT) ok2 (i_list (e_var rfl hu2)) fun H4 e4 => ?_
  have ok4 := ok2.step e4
  refine ⟨fun i σ G => ∃ (hd : V) (a b c d e : Option V) (home : List Nat), σ = [some v, some u, some hd, a, b, c, d, e, none, none] ∧ Es TT H4 G ∧ (rL rNat).r (vis M G) hd home ∧ HomeOk n ps (ps.take i) home,
    ⟨h0, none, none, none, none, none, List.range n, rfl, .refl _, Rel.up r0 ok2 e4, ?_⟩, fun i σ G ⟨_, _, _, _, _, _, _, _, a, _⟩ => ⟨_, (At.self ok4).step a⟩, ?_, ?_⟩
  · have g : ∀ i, i < n → (List.range n).getD i 0 = i := fun i hi => by
      rw [List.getD_eq_getElem?_getD, List.getElem?_range hi]
      rfl
    refine ⟨List.length_range, fun i hi => by rw [g i hi]; exact hi, fun i hi => by rw [g i hi]; exact .inl rfl, fun p hp => by simp at hp⟩
  · rintro i x p σ G G' hi hp ⟨hd, a, b, c, d, e, home, rfl, eG, rh, ho⟩ eGG rx
    have hpm := List.mem_of_getElem? hp
    have ⟨v1, v2⟩ := pre.v p hpm
    have okG' := ok4.step (eG.trans eGG)
    refine g_pair (N := M) (rP_pair (rx M ((At.self ok4).step eG))) fun v3 v4 r3 r4 => ?_
    have rh' := Rel.up rh (ok4.step eG) eGG
    have l1 : p.1 < home.length := by rw [ho.len]; omega
    have l2 : p.2 < home.length := by rw [ho.len]; omega
    have eh : Ev TT (tVar 2) [some v, some u, some hd, some v3, some v4, c, d, e, none, none] (vis M G') (rL rNat) home := e_var rfl rh'
    have e1 : Ev TT (tOp (rIxL K) (tVar 2) (tVar 3)) [some v, some u, some hd, some v3, some v4, c, d, e, none, none] (vis M G') rInt ((home.getD p.1 0 : Nat) : Int) := (e_op eh (e_var (R := rInt) (x := (p.1 : Int)) rfl r3) (o_ixL (atI_of (d := 0) l1))).int
    have e2' : Ev TT (tOp (rIxL K) (tVar 2) (tVar 4)) [some v, some u, some hd, some v3, some v4, c, d, e, none, none] (vis M G') rInt ((home.getD p.2 0 : Nat) : Int) := (e_op eh (e_var (R := rInt) (x := (p.2 : Int)) rfl r4) (o_ixL (atI_of (d := 0) l2))).int
    generalize ha : home.getD p.1 0 = ha1 at *
    generalize hb : home.getD p.2 0 = hb1 at *
    have em1 := e_min2 e1 e2'
    have em2 := e_max2 e1 e2'
    refine q_asgP okG' (e_pair (R := rNat) (S := rNat) (x := min ha1 hb1) (y := max ha1 hb1) (em1.natI ?_) (em2.natI ?_)) fun v5 v6 G2 eg2 r5 r6 => ?_
    · rw [Nat.min_def]
      split <;> split <;> omega
    · rw [Nat.max_def]
      split <;> split <;> omega
    have okG2 := okG'.step eg2
    have rh2 := Rel.up rh' okG' eg2
    refine q_set (T := TT) okG2 (e_lc (S := rNat) (p := fun _ => true) (f := fun a => if a = max ha1 hb1 then min ha1 hb1 else a) (i_list (e_var rfl rh2)) (fun _ => rfl) (by rw [ho.len]; omega) fun H1 v7 t e7 _ r7 => ⟨t_yes, fun _ => ?_⟩) fun v8 G3 eg3 r8 => ?_
    · refine e_if (t_of (e_op (e_var (R := rInt) (x := (t : Int)) rfl r7) (e_var (R := rInt) (x := ((max ha1 hb1 : Nat) : Int)) rfl (Rel.es r6 e7)) o_eqI)) (fun h => ?_) fun h => ?_
      · have : t = max ha1 hb1 := by have := of_decide_eq_true h; omega
        rw [if_pos this]
        exact e_var rfl (Rel.es r5 e7)
      · have : ¬ t = max ha1 hb1 := by have := of_decide_eq_false h; omega
        rw [if_neg this]
        exact e_var rfl r7
    · refine ⟨v8, some v3, some v4, some v5, some v6, e, stepH home p, rfl, ((eG.trans eGG).trans eg2).trans eg3, ?_, ?_⟩
      · have hs : ((home.filter fun _ => true).map fun a => if a = max ha1 hb1 then min ha1 hb1 else a) = stepH home p := by
          unfold stepH
          rw [ha, hb, filt_true]
        rw [hs] at r8
        exact r8
      · rw [take_succ_of hp]
        exact ho.step pre.v pre.tr (fun p hp => List.mem_of_mem_take hp) hpm
  · -- the groups
    rintro σ G ⟨hd, a, b, c, d, e, home, rfl, eG, rh, ho⟩
    rw [List.take_length] at ho
    intro dd hdd
    have okG := ok4.step eG
    have hh0 : Hd TT M G [dd] (upd G dd (.dK [])) := (Hd.start okG).new hdd (.dK _)
    have hvG := Rel.up (Rel.up (Rel.up hv ok e2) ok2 e4) ok4 eG
    refine q_for (T := TT) hh0.okv (i_rng1 (n := n) (by omega) (e_var rfl (hh0.up hvG))) fun H6 e6 => ?_
    have hh6 := hh0.step e6
    have hhd : (rL rNat).r (vis ([dd] ++ M) H6) hd home := hh6.up rh
    refine ⟨fun i σ G7 => ∃ (x : Option V) (L : List Addr) (hs : List Nat) (ad : Nat → Addr), σ = [some v, some u, some hd, a, b, c, d, e, some (.ref dd), x] ∧ Lh TT M G ([dd] ++ M) H6 L G7 ∧ dd ∈ L ∧ G7 dd = some (.dK (hs.map fun h : Nat => ((.inl (h : Int) : Key), V.ref (ad h)))) ∧
      hs.Nodup ∧ hs.length ≤ i ∧ (∀ a, a ∈ hs ↔ ∃ s, s < i ∧ home.getD s 0 = a) ∧ (∀ h ∈ hs, ad h ∈ L ∧ ad h ≠ dd ∧ G7 (ad h) = some (.lst ((grp home i h).map fun n : Nat => V.int (n : Int)))) ∧ (∀ h ∈ hs, ∀ h' ∈ hs, ad h = ad h' → h = h'),
      ⟨none, [dd], [], fun _ => 0, rfl, .start hh6, by simp, e6.dK upd_same, List.nodup_nil, Nat.le_refl _, fun a => ⟨fun h => by simp at h, fun ⟨s, h, _⟩ => by omega⟩, fun h hh => by simp at hh, fun h hh => by simp at hh⟩, fun i σ G7 ⟨_, L, _, _, _, hh, _⟩ => ⟨_, hh.a⟩, ?_, ?_⟩
    · rintro i x1 m σ G7 G8 hi hm ⟨x, L, hs, ad, rfl, hh, hdL, hG, nd, hlen, hmem, had, hinj⟩ e78 rx
      rw [List.length_range] at hi
      have hmi : i = m := by
        rw [List.getElem?_range hi] at hm
        exact Option.some.inj hm
      subst hmi
      have hh8 := hh.step e78
      have r1 : rNat.r (vis (L ++ M) G8) x1 i := rx _ hh.a
      have eS : Ev TT (tOp (rIxL K) (tVar 2) (tVar 9)) [some v, some u, some hd, a, b, c, d, e, some (.ref dd), some x1] (vis (L ++ M) G8) rNat (home.getD i 0) := e_op (e_var rfl (hh8.up hhd)) (e_var (R := rInt) (x := (i : Int)) rfl r1) (o_ixL (atI_of (d := 0) (by rw [ho.len]; exact hi)))
      have hdd8 : G8 dd = some (.dK (hs.map fun h : Nat => ((.inl (h : Int) : Key), V.ref (ad h)))) := e78.dK hG
      refine ⟨_, rfl, dd, rfl, .inl ⟨_, .inl hdd8⟩, eS (L ++ M) G8 (.self hh8.ok) _ fun y G9 e89 ry => ⟨Nat.zero_le _, fun p hp => ?_⟩⟩
      have hh9 := hh8.step e89
      have hdd9 := e89.dK hdd8
      have npd : dd ≠ p := ne_of_none hdd9 hp
      have hh10 := hh9.new hp (.lst [])
      have i1 : rNat.r (vis (L ++ M) G8) x1 i := r1
      have hx1 : x1 = .int (i : Int) := r1
      have hkeys : ∀ g : Nat, valV (hs.map fun h : Nat => ((.inl (h : Int) : Key), V.ref (ad h))) (.inl (g : Int)) = if g ∈ hs then some (.ref (ad g)) else none := fun g => by
        clear hG hdd8 hdd9 hmem had hinj hlen nd
        induction hs with
        | nil => rfl
        | cons z zs ih =>
          rw [List.map_cons]
          by_cases ez : z = g
          · subst ez
            rw [valV_pos rfl, if_pos (List.mem_cons_self ..)]
          · have : ¬ ((.inl (z : Int) : Key) = .inl (g : Int)) := fun w => ez (by have : (z : Int) = (g : Int) := Sum.inl.inj w; omega)
            rw [valV_neg this, ih]
            by_cases eg : g ∈ zs
            · rw [if_pos eg, if_pos (List.mem_cons_of_mem _ eg)]
            · rw [if_neg eg, if_neg fun w => (List.mem_cons.mp w).elim (fun q => ez q.symm) eg]
      have ry : y = .int ((home.getD i 0 : Nat) : Int) := ry
      generalize hgd : home.getD i 0 = g at *
      refine ⟨_, .inl (g : Int), by rw [upd_ne npd]; exact hdd9, ry, ?_, fun v0 hv0 => ?_, fun hv0 => ?_⟩
      · rw [List.length_map]
        have : sizeLine = 16777216 := sizeLine_eq
        omega
      · -- the group is there
        rw [hkeys] at hv0
        by_cases hg : g ∈ hs
        · rw [if_pos hg] at hv0
          cases hv0
          obtain ⟨a1, a2, a3⟩ := had g hg
          have a9 : G9 (ad g) = some (.lst ((grp home i g).map fun n : Nat => V.int (n : Int))) := e89.lst (e78.lst a3)
          have np : ad g ≠ p := ne_of_none a9 hp
          have a10 : upd G9 p (.lst []) (ad g) = some (.lst ((grp home i g).map fun n : Nat => V.int (n : Int))) := by rw [upd_ne np]; exact a9
          refine ⟨.inl ⟨rfl, _, SqL.of a10⟩, _, rfl, ad g, _, x1, rfl, rfl, a10, ?_, ?_⟩
          · rw [List.length_map]
            have := List.length_filter_le (fun s => decide (home.getD s 0 = g)) (List.range i)
            rw [List.length_range] at this
            have : (grp home i g).length ≤ i := this
            have : sizeLine = 16777216 := sizeLine_eq
            omega
          · refine ⟨_, p :: L, hs, ad, rfl, hh10.put (List.mem_cons_of_mem _ a1) (.lst _), List.mem_cons_of_mem _ hdL, ?_, nd, by omega, fun a => ?_, fun h hh' => ?_, hinj⟩
            · rw [upd_ne a2.symm, upd_ne npd]
              exact hdd9
            · rw [hmem]
              constructor
              · rintro ⟨s, h1, h2⟩
                exact ⟨s, by omega, h2⟩
              · rintro ⟨s, h1, h2⟩
                by_cases hs' : s = i
                · rw [hs', hgd] at h2
                  rw [← h2]
                  exact (hmem g).mp hg
                · exact ⟨s, by omega, h2⟩
            · obtain ⟨b1, b2, b3⟩ := had h hh'
              refine ⟨List.mem_cons_of_mem _ b1, b2, ?_⟩
              rw [grp_succ, hgd]
              by_cases e1 : g = h
              · subst e1
                rw [if_pos rfl, upd_same, List.map_append, hx1]
                rfl
              · rw [if_neg e1, upd_ne fun z => e1 (hinj h hh' g hg z).symm, upd_ne (ne_of_none (e89.lst (e78.lst b3)) hp)]
                exact e89.lst (e78.lst b3)
        · rw [if_neg hg] at hv0
          cases hv0
      · -- a new group
        rw [hkeys] at hv0
        have hg : g ∉ hs := fun z => by
          rw [if_pos z] at hv0
          cases hv0
        have a10 : upd (upd G9 p (.lst [])) dd (.dK (putK (hs.map fun h : Nat => ((.inl (h : Int) : Key), V.ref (ad h))) (.inl (g : Int)) (.ref p))) p = some (.lst []) := by rw [upd_ne npd.symm, upd_same]
        refine ⟨.inl ⟨rfl, _, SqL.of a10⟩, _, rfl, p, [], x1, rfl, rfl, a10, by show 0 < sizeLine; decide, ?_⟩
        have hput : putK (hs.map fun h : Nat => ((.inl (h : Int) : Key), V.ref (ad h))) (.inl (g : Int)) (.ref p) = (hs ++ [g]).map fun h : Nat => ((.inl (h : Int) : Key), V.ref (if h = g then p else ad h)) := by
          unfold putK
          rw [if_neg]
          · rw [List.map_append]
            congr 1
            · refine List.map_congr_left fun h hh' => ?_
              rw [if_neg fun z => hg (by rw [← z]; exact hh')]
            · show _ = [((.inl (g : Int) : Key), V.ref (if g = g then p else ad g))]
              rw [if_pos rfl]
          · intro w
            rw [valV_any, hkeys, if_neg hg] at w
            cases w
        refine ⟨_, p :: L, hs ++ [g], fun h => if h = g then p else ad h, rfl, (hh10.put (List.mem_cons_of_mem _ hdL) (.dK _)).put (List.mem_cons_self ..) (.lst _), List.mem_cons_of_mem _ hdL, ?_, ?_, ?_, fun a => ?_, fun h hh' => ?_, fun h hh1 h' hh2 hq => ?_⟩
        · rw [upd_ne npd, upd_same, hput]
        · rw [List.nodup_append]
          exact ⟨nd, by simp, fun a ha b hb => by rw [List.mem_singleton.mp hb]; exact fun z => hg (by rw [← z]; exact ha)⟩
        · rw [List.length_append]
          exact Nat.succ_le_succ hlen
        · rw [List.mem_append, hmem, List.mem_singleton]
          constructor
          · rintro (⟨s, h1, h2⟩ | h)
            · exact ⟨s, by omega, h2⟩
            · exact ⟨i, by omega, by rw [hgd, h]⟩
          · rintro ⟨s, h1, h2⟩
            by_cases hs' : s = i
            · exact .inr (by rw [← h2, hs', hgd])
            · exact .inl ⟨s, by omega, h2⟩
        · simp only []
          by_cases e1 : h = g
          · subst e1
            rw [if_pos rfl]
            refine ⟨List.mem_cons_self .., npd.symm, ?_⟩
            rw [upd_same, grp_succ, hgd, if_pos rfl, hx1]
            have hnil : grp home i h = [] := by
              rw [List.eq_nil_iff_forall_not_mem]
              intro s hs'
              obtain ⟨s1, s2⟩ := grp_mem.mp hs'
              exact hg ((hmem h).mpr ⟨s, s1, s2⟩)
            rw [hnil]
            rfl
          · rw [if_neg e1]
            have hh3 : h ∈ hs := (List.mem_append.mp hh').resolve_right fun z => e1 (List.mem_singleton.mp z)
            obtain ⟨b1, b2, b3⟩ := had h hh3
            refine ⟨List.mem_cons_of_mem _ b1, b2, ?_⟩
            have b9 := e89.lst (e78.lst b3)
            rw [upd_ne (ne_of_none b9 hp), upd_ne b2, upd_ne (ne_of_none b9 hp), b9, grp_succ, hgd, if_neg fun z => e1 z.symm]
        · have h1' : ∀ z, z ∈ hs ++ [g] → z ≠ g → z ∈ hs := fun z hz hne => (List.mem_append.mp hz).resolve_right fun w => hne (List.mem_singleton.mp w)
          have hfr : ∀ z, z ∈ hs → ad z ≠ p := fun z hz => by
            obtain ⟨_, _, b3⟩ := had z hz
            exact ne_of_none (e89.lst (e78.lst b3)) hp
          by_cases c1 : h = g
          · by_cases c2 : h' = g
            · rw [c1, c2]
            · have hq : (if h = g then p else ad h) = if h' = g then p else ad h' := hq
              rw [if_pos c1, if_neg c2] at hq
              exact absurd hq.symm (hfr h' (h1' h' hh2 c2))
          · have hq : (if h = g then p else ad h) = if h' = g then p else ad h' := hq
            by_cases c2 : h' = g
            · rw [if_neg c1, if_pos c2] at hq
              exact absurd hq (hfr h (h1' h hh1 c1))
            · rw [if_neg c1, if_neg c2] at hq
              exact hinj h (h1' h hh1 c1) h' (h1' h' hh2 c2) hq
    · rintro σ G7 ⟨x, L, hs, ad, rfl, hh, hdL, hG, nd, hlen, hmem, had, hinj⟩
      rw [List.length_range] at hlen hmem had
      -- shown again
      have okM : Nok M G7 := hh.h.okm
      have vM : ∀ q, q ∈ L → q ∉ M := fun q hq => hh.h.sep q hq
      have hdv : vis M G7 dd = some (.dK (hs.map fun h : Nat => ((.inl (h : Int) : Key), V.ref (ad h)))) := vis_open hG (vM dd hdL)
      have hdi : DiR (rL rNat) (vis M G7) (hs.map fun h : Nat => ((.inl (h : Int) : Key), V.ref (ad h))) (hs.map fun h => (h, grp home n h)) := by
        clear hdv hG hmem hinj hlen nd
        induction hs with
        | nil => exact .nil
        | cons z zs ih =>
          obtain ⟨a1, a2, a3⟩ := had z (List.mem_cons_self ..)
          exact .cons ⟨rfl, ad z, _, rfl, vis_open a3 (vM _ a1), pr_of (g := fun n : Nat => V.int (n : Int)) _⟩ (ih fun h hh' => had h (List.mem_cons_of_mem _ hh'))
      have hkm : (hs.map fun h => (h, grp home n h)).map (·.1) = hs := by
        rw [List.map_map]
        exact List.map_id _
      have hlk : ∀ h ∈ hs, (hs.map fun h => (h, grp home n h)).lookup h = some (grp home n h) := fun h hh' => by
        clear hdi hkm hdv hG hmem had hinj hlen nd
        induction hs with
        | nil => simp at hh'
        | cons z zs ih =>
          rw [List.map_cons]
          by_cases e1 : h = z
          · subst e1
            rw [List.lookup_cons_self]
          · have : (h == z) = false := by simp [e1]
            rw [List.lookup_cons, this]
            exact ih ((List.mem_cons.mp hh').resolve_left e1)
      have rr : (rDI (rL rNat)).r (vis M G7) (.ref dd) (hs.map fun h => (h, grp home n h)) := ⟨dd, _, rfl, .inl hdv, hdi⟩
      have ecomp := e_lcI (T := TT) (td := tVar 8) (k := 7) (d := dd) (te := tCB (fun xs H Q => ∃ p ys, xs = [.ref p] ∧ ((SqL K H p ys ∧ ∀ l, H l = none → Q (.ref l) (upd H l (.tup ys))) ∨ (SqT K H p ys ∧ Q (.ref p) H))) (tCons (tDGet (tVar 8) (tVar 7)) tNil)) (S := rT rNat) (f := fun h => grp home n h) (σ := [some v, some u, some hd, a, b, c, d, e, some (.ref dd), x]) (fx_var rfl) hdv hdi (fun _ => rfl) (by rw [List.length_map]; omega) fun H1 v7 h kr hx r7 => e_tupL (e_dgetI (e_var rfl ((rDI (rL rNat)).st kr rr)) (e_var rfl r7) (hlk h (by rw [hkm] at hx; exact hx)))
      rw [hkm] at ecomp
      have hne : ∀ g ∈ hs.map (fun h => grp home n h), g ≠ [] := fun g hg => by
        obtain ⟨h, hh', rfl⟩ := List.mem_map.mp hg
        obtain ⟨s, s1, s2⟩ := (hmem h).mp hh'
        exact fun z => by
          have := grp_mem.mpr ⟨s1, s2⟩
          rw [z] at this
          simp at this
      refine q_sortedRows (T := TT) okM ecomp hne (by rw [List.length_map]; omega) fun v9 G9 ys e9 hp r9 => ?_
      obtain ⟨p9, vs9, rfl, h9, hp9⟩ := r9
      have ok9 := okM.step e9
      refine ⟨p9, vs9, rfl, .inl ⟨SqL.of (vis_sub h9), fun l hl => ?_⟩⟩
      have eall : Es TT H (upd G9 l (.tup vs9)) := (((((e2.trans e4).trans eG).trans hh.h.es).trans e9).trans (.new hl))
      exact q _ _ ys eall (classes_ok ho pre.v pre.tr nd hmem hp) ⟨l, vs9, rfl, vis_new ok9 hl, pr_st ((Es.new (T := TT) hl).vis ok9).kr hp9⟩
end


end K29
set_option autoImplicit false
set_option maxHeartbeats 4000000
namespace K29
open PySem PySem.Spec PyProof.Rows L2
/-! The walks, 10: ranks, groupings, tables. -/
section
variable {P : Program} {w : World} {K : PySem.W.Frag} {mg : Str → Option Value} {base : Heap} {C : Addr} {TT : List (Addr × Str)}
def sp_ranks_of (TT : List (Addr × Str)) : Sp := SpG TT (A1 (rD (rD rW)) WebS) (rD (rO rNat)) fun W F => RankOk W F
theorem ok_ranks_of (T : Tx K mg C) : Cl P w K mg base 2 "ranks_of" (sp_ranks_of TT) := by
  refine cl_spG T.d_ranks_of sc_ranks_of A1.len fun f cdv A outer s H vs E M W hr ok h => ?_
  obtain ⟨wv, rfl, rw_, hs⟩ := h
  have hw10 := hs.le
  refine ⟨_, (pss_cons (st_ 1 sc_ranks_of.nd (pe_cl (ok_levels_of (TT := TT) T) (hr.mono (by decide)) rfl (pa_cons (pv 0) pa_nil)))
(pss_cons (st_ 2 sc_ranks_of.nd pe_dnewT)
(pss_cons (ps_for PassesOwn.never rfl (pi_enum rfl T.f_enumerate (pa_cons (pv 1) pa_nil)) (wPg2 K (pgs_cons (gn_ 3 sc_ranks_of.nd) (pgs_cons (gn_ 4 sc_ranks_of.nd) pgs_nil)))
(pss_one (ps_for PassesOwn.never rfl (wList K (pv 4)) (gn_ 5 sc_ranks_of.nd)
(pss_one (ps_dput (hu_of hr) (pv 2) (pv 5) (pv 3) rfl)))))
(pss_cons (ps_for PassesOwn.never rfl (wList K (pe_ix (wIxL K) (pv 1) (pe_un un_neg pe_int) (fun _ _ => rfl))) (gn_ 5 sc_ranks_of.nd)
(pss_one (ps_dput (hu_of hr) (pv 2) (pv 5) pe_non rfl)))
(pss_one (ps_ret (pv 2))))))), fun Q q => ?_⟩
  refine q_setp (T := TT) (Post := fun L => LevOk W L) ok (e_c1p (e_var rfl rw_) hs fun _ h => h) fun lv H1 L e1 hL rL1 => ?_
  obtain ⟨N, rfl, hN, hne⟩ := hL
  have ok1 := ok.step e1
  have hN10 : N ≤ 10 := by have h1 := lev_fall (W := W) N hne; have h2 := lev_len hs 0; omega
  have hlen : ((List.range (N + 1)).map (lev W)).length = N + 1 := by rw [List.length_map, List.length_range]
  intro fd hfd
  have h2 : Hd TT M H1 [fd] (upd H1 fd (.dT [])) := (Hd.start ok1).new hfd (.dT _)
  refine q_for (T := TT) h2.okv (i_enum (e_var rfl (h2.up rL1))) fun H3 e3 => ?_
  have h3 := h2.step e3
  refine ⟨fun j σ' G' => ∃ (F : List (Pr × Option Nat)) (kvs : List (List Key × V)) (o3 o4 o5 : Option V), σ' = [some wv, some lv, some (.ref fd), o3, o4, o5] ∧ Lh TT M H1 ([fd] ++ M) H3 [fd] G' ∧ G' fd = some (.dT kvs) ∧ DpR (rO rNat) (vis ([fd] ++ M) G') kvs F ∧ RkI W j F, ⟨[], [], none, none, none, rfl, .start h3, e3.dT upd_same, .nil, rfl, fun e he => by simp at he⟩, fun j σ' G' ⟨_, _, _, _, _, _, hl, _⟩ => ⟨_, hl.a⟩, ?_, ?_⟩
  · rintro j v x σ' G2 G4 hj hjx ⟨F, kvs, o3, o4, o5, rfl, hl, hf, hp, hk⟩ e24 rx
    rw [enumL_len, hlen] at hj
    have hx2 : (j, lev W j) = x := by
      have := enumL_get (xs := (List.range (N + 1)).map (lev W)) (i := j) (x := lev W j) (by rw [List.getElem?_map, List.getElem?_range hj]; rfl)
      exact Option.some.inj (this.symm.trans hjx)
    subst hx2
    refine g_pair (N := [fd] ++ M) (rx _ hl.a) fun nv av rn ra => ?_
    have rn : nv = .int (j : Int) := rn
    subst rn
    have hl4 := hl.step e24
    have hFl : F.length ≤ 10 := by
      have h1 := congrArg List.length hk.1
      rw [List.length_map] at h1
      rw [h1]
      split
      · exact Nat.zero_le _
      · rw [List.length_map]; exact hs.le
    have hll := lev_len hs j
    refine q_fill (T := TT) (R := rO rNat) (x := some j) (F := F) hl4.h (by simp) (e24.dT hf) (hp.st (e24.vis hl.ok).kr) (by show F.length + (lev W j).length ≤ 1000; omega) (i_list (e_var rfl ra)) ⟨_, rfl⟩ (fun _ => rfl) (fun _ => rfl) (fun v B _ => Ev.some_ (e_var (R := rNat) (x := j) rfl rfl)) fun G' kvs' o hd' a' f' p' => ?_
    exact ⟨_, kvs', _, _, _, rfl, ⟨hd', a'.base hl4.a.e⟩, f', p', hk.step hs⟩
  · rintro σ' G' ⟨F, kvs, o3, o4, o5, rfl, hl, hf, hp, hk⟩
    rw [enumL_len, hlen] at hk
    have hFl : F.length ≤ 10 := by
      have h1 := congrArg List.length hk.1
      rw [List.length_map, if_neg (by omega), List.length_map] at h1
      omega
    have hll := lev_len hs N
    have hat : atI ((List.range (N + 1)).map (lev W)) (-1) = some (lev W N) := atI_last (n := N) hlen (by rw [List.getElem?_map, List.getElem?_range (by omega)]; rfl)
    refine q_fill (T := TT) (R := rO rNat) (x := none) (F := F) (A := lev W N) hl.h (by simp) hf hp (by omega) (i_list (e_op (e_var rfl (hl.h.up rL1)) (e_neg (e_int 1)) (o_ixL hat))) ⟨_, rfl⟩ (fun _ => rfl) (fun _ => rfl) (fun v B _ => e_non) fun G5 kvs' o hd' a' f' p' => ?_
    refine ⟨_, rfl, q _ G5 _ (e1.trans hd'.es) (hk.last hN) ⟨fd, kvs', rfl, .inl (vis_open f' (hd'.mem (by simp))), p'.st hd'.kr⟩⟩
/-- the pairs that are not in a level -/
def cmpl (W : Web) (t : Nat) : List Pr := (W.map (·.1)).filter fun p => !decide (p ∈ lev W t)
/-- the classes, level by level -/
def GrpOk (n : Nat) (W : Web) (gs : List (List (List Nat))) : Prop := ∃ N, (lev W (N + 1)).length = (lev W N).length ∧ (∀ t, t < N → (lev W (t + 1)).length ≠ (lev W t).length) ∧ gs.length = N + 1 ∧ ∀ t c, gs[t]? = some c → ClsOk n (cmpl W t) c
def sp_groupings_of (TT : List (Addr × Str)) : Sp := SpG TT (A2 rNat (rD (rD rW)) fun n W => WebS W ∧ ∀ t, JPre n (cmpl W t)) (rT (rT (rT rNat))) fun z gs => GrpOk z.1 z.2 gs
theorem ok_groupings_of (T : Tx K mg C) : Cl P w K mg base 2 "groupings_of" (sp_groupings_of TT) := by
  refine cl_spG T.d_groupings_of sc_groupings_of A2.len fun f cdv A outer s H vs E M z hr ok h => ?_
  obtain ⟨nv, wv, rfl, rn, rw_, hs, hj⟩ := h
  obtain ⟨n, W⟩ := z
  have hs : WebS W := hs
  have hj : ∀ t, JPre n (cmpl W t) := hj
  have hw10 := hs.le
  refine ⟨_, (pss_cons (st_ 2 sc_groupings_of.nd (pe_lst pa_nil))
(pss_cons (ps_for PassesOwn.never rfl (wList K (pe_cl (ok_levels_of (TT := TT) T) (hr.mono (by decide)) rfl (pa_cons (pv 1) pa_nil))) (gn_ 3 sc_groupings_of.nd)
(pss_cons (st_ 4 sc_groupings_of.nd (pe_dcT (own := [("pair", 5)]) (g := (gName 5)) (hu_of hr) rfl sc_groupings_of.nd (wList K (pv 3)) (blkOk_by (own := [("pair", 5)]) (N := ["states", "web", "found", "alive", "kept", "pair"]) (sc := defScope s_groupings_of) (by decide +kernel)) (fun _ _ _ _ _ => (gn_ 5 sc_groupings_of.nd)) (fun _ _ _ _ _ => pts_nil) (fun _ _ _ _ _ => (pv 5)) (fun _ _ _ _ _ => pe_bl)))
(pss_one (ps_expr (pe_bm PySem.F.plainAttrs_list PySem.F.slot_list_append PySem.F.type_list_append wAppend (pv 2) (pa_cons (pe_cl (ok_joined_classes (TT := TT) T) (hr.mono (by decide)) rfl (pa_cons (pv 0) (pa_cons (pe_lockR (pe_lc (own := [("pair", 5)]) (g := (gName 5)) rfl sc_groupings_of.nd (pi_keys (pv 1)) (blkOk_by (own := [("pair", 5)]) (N := ["states", "web", "found", "alive", "kept", "pair"]) (sc := defScope s_groupings_of) (by decide +kernel)) (fun _ _ _ _ _ => (gn_ 5 sc_groupings_of.nd)) (fun _ _ _ _ _ => (pts_one (pt_cmp (pc_dnotin (hu_of hr) (pv 5) (pv 4))))) (fun _ _ _ _ _ => (pv 5)))) pa_nil))) pa_nil))))))
(pss_one (ps_ret (pe_callTy (wTup K) rfl T.f_tuple bo_tuple (pa_cons (pv 2) pa_nil)))))), fun Q q => ?_⟩
  refine q_lst0 fun fd hfd => ?_
  have h2 : Hd TT M H [fd] (upd H fd (.lst [])) := (Hd.start ok).new hfd (.lst _)
  refine q_forp (T := TT) (R := rL rP) (Post := fun L => LevOk W L) h2.okv (e_c1p (e_var rfl (h2.up rw_)) hs fun _ h => h) fun L H3 hL e3 => ?_
  obtain ⟨N, rfl, hN, hne⟩ := hL
  have hN10 : N ≤ 10 := by have h1 := lev_fall (W := W) N hne; have h2 := lev_len hs 0; omega
  have hlen : ((List.range (N + 1)).map (lev W)).length = N + 1 := by rw [List.length_map, List.length_range]
  have h3 := h2.step e3
  refine ⟨fun j σ' G' => ∃ (gs : List (List (List Nat))) (vs : List V) (o3 o4 o5 : Option V), σ' = [some nv, some wv, some (.ref fd), o3, o4, o5] ∧ Lh TT M H ([fd] ++ M) H3 [fd] G' ∧ G' fd = some (.lst vs) ∧ Paired (fun v x => (rT (rT rNat)).r (vis ([fd] ++ M) G') v x) vs gs ∧ gs.length = j ∧ ∀ t c, gs[t]? = some c → ClsOk n (cmpl W t) c, ⟨[], [], none, none, none, rfl, .start h3, e3.lst upd_same, .nil, rfl, fun t c h => by simp at h⟩, fun j σ' G' ⟨_, _, _, _, _, _, hl, _⟩ => ⟨_, hl.a⟩, ?_, ?_⟩
  · rintro j v x σ' G2 G4 hj' hjx ⟨gs, vs, o3, o4, o5, rfl, hl, hf, hp, hg1, hg2⟩ e24 rx
    rw [hlen] at hj'
    have hx2 : lev W j = x := by
      rw [List.getElem?_map, List.getElem?_range hj'] at hjx
      exact Option.some.inj hjx
    subst hx2
    have hl4 := hl.step e24
    have ra := rx _ hl.a
    have hll := lev_len hs j
    refine q_set (T := TT) (i := 4) hl4.ok (e_dc (f := fun _ => true) (S := rB) (xs := lev W j) (lev_nd hs j) (by omega) (i_list (e_var rfl ra)) (fun _ => rfl) (fun _ => rfl) fun H1 v x _ _ _ => e_bl true) fun kv G5 e45 rk => ?_
    have hl5 := hl4.step e45
    have rw5 := hl5.h.up rw_
    have rn5 : rNat.r (vis ([fd] ++ M) G5) nv n := hl5.h.up rn
    have rk' := rk
    obtain ⟨wd, kvs, rfl, hwd, hdp⟩ := rw5
    have hcm : ((W.map (·.1)).filter fun x => !(getD ((lev W j).map fun x => (x, true)) x).isSome).map id = cmpl W j := by
      rw [List.map_id]
      refine List.filter_congr fun x _ => ?_
      rw [getD_some, List.map_map]
      congr 2
      have e2 : (lev W j).map ((fun x : Pr × Bool => x.1) ∘ fun x => (x, true)) = lev W j := by
        conv => rhs; rw [← List.map_id (lev W j)]
        rfl
      rw [e2]
    have hvl : vs.length = j := by have := Paired.length hp; omega
    refine q_appp (T := TT) (R := rT (rT rNat)) (Post := fun c => ClsOk n (cmpl W j) c) hl5.ok rfl (e_c2p (x := n) (y := cmpl W j) (e_var rfl rn5) (Ev.to (e_lcK (xs := W) (R := rD rW) (S := rP) (f := id) (p := fun x => !(getD ((lev W j).map fun x => (x, true)) x).isSome) (fx_var rfl) hwd hdp (fun _ => rfl) (by omega) fun H1 v x kr _ _ rx => ⟨e_nin (e_var rfl rx) (e_var rfl ((rD rB).st kr rk)), fun _ => e_var rfl rx⟩) hcm) (hj j) fun _ h => h) (e45.lst (e24.lst hf)) (by have : sizeLine = 16777216 := sizeLine_eq; omega) fun v' G6 c e56 hc rc => ?_
    refine ⟨gs ++ [c], _, _, _, _, rfl, (hl5.step e56).put (by simp) (.lst _), upd_same, pr_snoc (Paired.mapP hp fun _ _ h => ?_) ?_, by simp [hg1], fun t c' h => ?_⟩
    · show (rT (rT rNat)).r (vis (fd :: M) (upd G6 fd _)) _ _
      rw [vis_hide]
      exact Rel.up (Rel.up (Rel.up h hl.ok e24) hl4.ok e45) hl5.ok e56
    · show (rT (rT rNat)).r (vis (fd :: M) (upd G6 fd _)) _ _
      rw [vis_hide]
      exact rc
    · by_cases ht : t < gs.length
      · rw [List.getElem?_append_left ht] at h
        exact hg2 t c' h
      · rw [List.getElem?_append_right (by omega)] at h
        have : t = gs.length := by
          by_cases e : t - gs.length = 0
          · omega
          · rw [List.getElem?_eq_none (by simp; omega)] at h
            cases h
        subst this
        rw [Nat.sub_self] at h
        cases h
        rw [hg1]
        exact hc
  · rintro σ' G' ⟨gs, vs, o3, o4, o5, rfl, hl, hf, hp, hg1, hg2⟩
    rw [hlen] at hg1
    refine q_ret (T := TT) (R := rT (rT (rT rNat))) (x := gs) hl.h.okm (e_tupL (e_var (R := rL (rT (rT rNat))) (x := gs) rfl ⟨fd, vs, rfl, vis_open hf (hl.h.mem (by simp)), Paired.mapP hp fun _ _ h => (rT (rT rNat)).st hl.h.kr h⟩)) fun v' H' e r => q v' H' _ (hl.h.es.trans e) ⟨N, hN, hne, hg1, hg2⟩ r
end


end K29
set_option autoImplicit false
set_option maxHeartbeats 4000000
namespace K29
open PySem PySem.Spec PyProof.Rows L2
/-! What the levels are: the pairs that rows of so many rounds keep apart. -/
section
variable {tabs : List (List Nat)} {ls : List Wd} {W : Web}
/-- the number of cuts -/
def cuts (ls : List Wd) : Wd → Wd → Nat
  | _, [] => 0
  | h, s :: r => if fullB ls (mo h s) = true then cuts ls [] r + 1 else cuts ls (mo h s) r
theorem cuts_one : ∀ (h r r2 : Wd), One ls h r → cuts ls h (r ++ r2) = cuts ls [] r2 + 1
  | _, [], _, h => h.elim
  | h, s :: r, r2, o => by
    have o : if fullB ls (mo h s) = true then r = [] else One ls (mo h s) r := o
    show (if fullB ls (mo h s) = true then cuts ls [] (r ++ r2) + 1 else cuts ls (mo h s) (r ++ r2)) = _
    by_cases e : fullB ls (mo h s) = true
    · rw [if_pos e] at o ⊢
      rw [o]
      rfl
    · rw [if_neg e] at o ⊢
      exact cuts_one _ r r2 o
theorem cuts_split : ∀ (h r : Wd) (t : Nat), cuts ls h r = t + 1 → ∃ r1 r2, r = r1 ++ r2 ∧ One ls h r1 ∧ cuts ls [] r2 = t
  | _, [], t, h => by
    have h : 0 = t + 1 := h
    omega
  | h, s :: r, t, e => by
    have e : (if fullB ls (mo h s) = true then cuts ls [] r + 1 else cuts ls (mo h s) r) = t + 1 := e
    by_cases q : fullB ls (mo h s) = true
    · rw [if_pos q] at e
      refine ⟨[s], r, rfl, ?_, by omega⟩
      show if fullB ls (mo h s) = true then ([] : Wd) = [] else _
      rw [if_pos q]
    · rw [if_neg q] at e
      obtain ⟨r1, r2, h1, h2, h3⟩ := cuts_split _ r t e
      refine ⟨s :: r1, r2, by rw [h1]; rfl, ?_, h3⟩
      show if fullB ls (mo h s) = true then r1 = [] else One ls (mo h s) r1
      rw [if_neg q]
      exact h2
/-- some row with t cuts keeps p apart -/
def Kt (tabs : List (List Nat)) (ls : List Wd) (t : Nat) (p : Pr) : Prop := ∃ r : Wd, (∀ s ∈ r, s < tabs.length) ∧ cuts ls [] r = t ∧ bhv tabs (some p) r ≠ none
theorem lev_kt (h : WebOk tabs ls W) : ∀ (t : Nat) (p : Pr), p ∈ lev W t ↔ Vp tabs p ∧ Kt tabs ls t p
  | 0, p => by
    show p ∈ W.map (·.1) ↔ _
    rw [h.1, prs_mem]
    exact ⟨fun v => ⟨v, [], fun _ z => by simp at z, rfl, fun z => by cases z⟩, fun v => v.1⟩
  | t + 1, p => by
    rw [lev_mem]
    constructor
    · rintro ⟨e, h1, rfl, x, h2, h3⟩
      have hv : Vp tabs e.1 := by
        have : e.1 ∈ W.map (·.1) := List.mem_map.mpr ⟨e, h1, rfl⟩
        rw [h.1, prs_mem] at this
        exact this
      obtain ⟨_, r2, g1, g2, g3⟩ := (lev_kt h t x.1).mp h3
      obtain ⟨rn, _, _⟩ := (h.2 e h1).snd x h2
      refine ⟨hv, x.2 ++ r2, fun s hs => ?_, ?_, ?_⟩
      · rcases List.mem_append.mp hs with z | z
        · exact rn.lt s z
        · exact g1 s z
      · rw [cuts_one _ _ _ rn.one, g2]
      · rw [bhv_app, rn.bh]
        exact g3
    · rintro ⟨hv, r, g1, g2, g3⟩
      obtain ⟨r1, r2, rfl, o, c⟩ := cuts_split _ _ _ g2
      have hp : p ∈ W.map (·.1) := by rw [h.1, prs_mem]; exact hv
      obtain ⟨e, he, rfl⟩ := List.mem_map.mp hp
      rw [bhv_app] at g3
      cases hb : bhv tabs (some e.1) r1 with
      | none => rw [hb, bhv_none] at g3; exact absurd rfl g3
      | some q =>
        rw [hb] at g3
        have hc := (h.2 e he).cmp q r1 ⟨o, hb, fun s hs => g1 s (List.mem_append_left _ hs)⟩
        obtain ⟨x, hx, hxq⟩ := List.mem_map.mp hc
        refine ⟨e, he, rfl, x, hx, ?_⟩
        rw [hxq]
        refine (lev_kt h t q).mpr ⟨by rw [← hxq]; exact ((h.2 e he).snd x hx).2.2, r2, fun s hs => g1 s (List.mem_append_right _ hs), c, g3⟩
/-- a state behind a row -/
def run (tabs : List (List Nat)) (i : Nat) (r : Wd) : Nat := r.foldl (fun i s => cell tabs s i) i
theorem run_lt (g : Gt tabs) : ∀ (r : Wd) (i : Nat), i < many tabs → (∀ s ∈ r, s < tabs.length) → run tabs i r < many tabs
  | [], i, h, _ => h
  | s :: r, i, h, hr => run_lt g r _ (g.cell_lt (hr s (List.mem_cons_self ..)) h) fun s' h' => hr s' (List.mem_cons_of_mem _ h')
theorem prOf_comm (a b : Nat) : prOf a b = prOf b a := by
  unfold prOf
  by_cases e : a = b
  · rw [if_pos e, if_pos e.symm]
  · rw [if_neg e, if_neg (Ne.symm e)]
    by_cases l : a < b
    · rw [if_pos l, if_neg (by omega)]
    · rw [if_neg l, if_pos (by omega)]
/-- a pair behind a row: its states behind it -/
theorem bhv_run : ∀ (r : Wd) (a b : Nat), bhv tabs (prOf a b) r = prOf (run tabs a r) (run tabs b r)
  | [], a, b => rfl
  | s :: r, a, b => by
    rw [bhv_cons]
    have h : ((prOf a b).bind fun p => nx tabs p s) = prOf (cell tabs s a) (cell tabs s b) := by
      by_cases e : a = b
      · subst e
        unfold prOf
        rw [if_pos rfl, if_pos rfl]
        rfl
      · have : prOf a b = some (if a < b then (a, b) else (b, a)) := by unfold prOf; rw [if_neg e]
        rw [this]
        show nx tabs (if a < b then (a, b) else (b, a)) s = _
        by_cases l : a < b
        · rw [if_pos l]
          rfl
        · rw [if_neg l]
          exact prOf_comm _ _
    rw [h]
    exact bhv_run r _ _
theorem prOf_none {a b : Nat} : prOf a b = none ↔ a = b := by
  unfold prOf
  by_cases e : a = b
  · rw [if_pos e]
    exact ⟨fun _ => e, fun _ => rfl⟩
  · rw [if_neg e]
    exact ⟨fun z => (by cases z), fun z => absurd z e⟩
theorem prOf_vp {p : Pr} (h : p.1 < p.2) : prOf p.1 p.2 = some p := by
  unfold prOf
  rw [if_neg (by omega), if_pos h]
theorem bhv_ne {p : Pr} (h : p.1 < p.2) (r : Wd) : bhv tabs (some p) r ≠ none ↔ run tabs p.1 r ≠ run tabs p.2 r := by
  rw [← prOf_vp h, bhv_run, Ne, prOf_none]
/-- i and j, apart or not, by t rounds -/
def Nk (tabs : List (List Nat)) (ls : List Wd) (t i j : Nat) : Prop := ∀ r : Wd, (∀ s ∈ r, s < tabs.length) → cuts ls [] r = t → run tabs i r = run tabs j r
theorem kt_nk {t : Nat} {p : Pr} (h : p.1 < p.2) : ¬ Kt tabs ls t p ↔ Nk tabs ls t p.1 p.2 := by
  constructor
  · intro k r h1 h2
    exact Classical.byContradiction fun z => k ⟨r, h1, h2, (bhv_ne h r).mpr z⟩
  · rintro n ⟨r, h1, h2, h3⟩
    exact (bhv_ne h r).mp h3 (n r h1 h2)
theorem sm_nk (h : WebOk tabs ls W) {t i j : Nat} (hi : i < many tabs) (hj : j < many tabs) : Sm (cmpl W t) i j ↔ Nk tabs ls t i j := by
  have key : ∀ a b : Nat, a < b → b < many tabs → ((a, b) ∈ cmpl W t ↔ Nk tabs ls t a b) := fun a b h1 h2 => by
    unfold cmpl
    rw [List.mem_filter, h.1, prs_mem]
    have hd : (!decide ((a, b) ∈ lev W t)) = true ↔ (a, b) ∉ lev W t := by simp
    rw [hd, lev_kt h t, ← kt_nk (p := (a, b)) h1]
    exact ⟨fun z k => z.2 ⟨⟨h1, h2⟩, k⟩, fun z => ⟨⟨h1, h2⟩, fun q => z q.2⟩⟩
  have lt : ∀ a b : Nat, (a, b) ∈ cmpl W t → a < b := fun a b z => by
    have := (List.mem_filter.mp z).1
    rw [h.1, prs_mem] at this
    exact this.1
  constructor
  · rintro (z | z | z)
    · rw [z]; exact fun r _ _ => rfl
    · exact (key i j (lt _ _ z) hj).mp z
    · exact fun r h1 h2 => ((key j i (lt _ _ z) hi).mp z r h1 h2).symm
  · intro n
    rcases Nat.lt_trichotomy i j with l | l | l
    · exact .inr (.inl ((key i j l hj).mpr n))
    · exact .inl l
    · exact .inr (.inr ((key j i l hi).mpr fun r h1 h2 => (n r h1 h2).symm))
theorem web_j (g : Gt tabs) (h : WebOk tabs ls W) (t : Nat) : JPre (many tabs) (cmpl W t) := by
  have hs := h.s g
  refine ⟨g.m5, ?_, fun p hp => ?_, fun i j k hi hj hk h1 h2 => ?_⟩
  · have h1 : (cmpl W t).length ≤ (W.map (·.1)).length := List.length_filter_le _ _
    rw [List.length_map] at h1
    have := hs.le
    omega
  · have := (List.mem_filter.mp hp).1
    rw [h.1, prs_mem] at this
    exact this
  · rw [sm_nk h hi hk]
    rw [sm_nk h hi hj] at h1
    rw [sm_nk h hj hk] at h2
    exact fun r a b => (h1 r a b).trans (h2 r a b)
end

end K29
set_option autoImplicit false
set_option maxHeartbeats 4000000
namespace K29
open PySem PySem.Spec PyProof.Rows L2
/-! Chains of rounds. -/
def Chain (W : Web) : Nat → Pr → Wd → Prop
  | 0, _, r => r = []
  | t + 1, p, r => ∃ e ∈ W, e.1 = p ∧ ∃ x ∈ e.2, ∃ r2, Chain W t x.1 r2 ∧ r = x.2 ++ r2
def Short (W : Web) : Prop := ∀ e ∈ W, ∀ x ∈ e.2, x.2.length ≤ 80
theorem chain_len {W : Web} (h : Short W) : ∀ (t : Nat) (p : Pr) (r : Wd), Chain W t p r → r.length ≤ 80 * t
  | 0, _, r, c => by
    have c : r = [] := c
    rw [c]; exact Nat.le_refl _
  | t + 1, p, r, ⟨e, h1, h2, x, h3, r2, h4, h5⟩ => by
    have h6 := chain_len h t x.1 r2 h4
    have h7 := h e h1 x h3
    rw [h5, List.length_append]
    omega
structure ChOk (W : Web) (m : Nat) (F : List (Pr × Wd)) : Prop where
  keys : F.map (·.1) = lev W m
  ch : ∀ e ∈ F, Chain W m e.1 e.2
theorem short_of {tabs : List (List Nat)} {ls : List Wd} {W : Web} (h : WebOk tabs ls W) : Short W := fun e he x hx => ((h.2 e he).snd x hx).2.1
/-- a chain is a row of so many rounds that keeps the pair -/
theorem chain_row {tabs : List (List Nat)} {ls : List Wd} {W : Web} (h : WebOk tabs ls W) : ∀ (t : Nat) (p : Pr) (r : Wd), Chain W t p r → (∀ s ∈ r, s < tabs.length) ∧ cuts ls [] r = t ∧ bhv tabs (some p) r ≠ none
  | 0, _, r, c => by
    have c : r = [] := c
    rw [c]
    exact ⟨fun _ z => by simp at z, rfl, fun z => by cases z⟩
  | t + 1, p, r, ⟨e, h1, h2, x, h3, r2, h4, h5⟩ => by
    obtain ⟨g1, g2, g3⟩ := chain_row h t x.1 r2 h4
    obtain ⟨rn, _, _⟩ := (h.2 e h1).snd x h3
    rw [h5]
    refine ⟨fun s hs => ?_, by rw [cuts_one _ _ _ rn.one, g2], by rw [bhv_app, ← h2, rn.bh]; exact g3⟩
    rcases List.mem_append.mp hs with z | z
    · exact rn.lt s z
    · exact g1 s z
/-- one turn: the rows at a node -/
def stepL (F : List (Pr × Wd)) (row : List (Pr × Wd)) : List Wd := ((row.map (·.1)).filter fun y => (getD F y).isSome).map fun y => (getD row y).getD [] ++ (getD F y).getD []
theorem stepL_mem {W : Web} {m : Nat} {F : List (Pr × Wd)} (h : ChOk W m F) (s : WebS W) {e : Pr × List (Pr × Wd)} (he : e ∈ W) {l : Wd} (hl : l ∈ stepL F e.2) : Chain W (m + 1) e.1 l := by
  obtain ⟨y, h1, h2⟩ := List.mem_map.mp hl
  obtain ⟨h3, h4⟩ := List.mem_filter.mp h1
  obtain ⟨x, h5, rfl⟩ := List.mem_map.mp h3
  have g1 := getD_of_mem (s.row e he).2 (show (x.1, x.2) ∈ e.2 from h5)
  cases g2 : getD F x.1 with
  | none => rw [g2] at h4; cases h4
  | some r2 =>
    rw [g1, g2] at h2
    exact ⟨e, he, rfl, x, h5, r2, h.ch _ (getD_mem g2), h2.symm⟩
theorem stepL_nil {W : Web} {m : Nat} {F : List (Pr × Wd)} (h : ChOk W m F) (row : Pr × List (Pr × Wd)) : (0 < (stepL F row.2).length) ↔ toA (lev W m) row = true := by
  unfold stepL toA
  rw [List.length_map, List.length_pos_iff_exists_mem, List.any_eq_true]
  constructor
  · rintro ⟨y, hy⟩
    obtain ⟨h3, h4⟩ := List.mem_filter.mp hy
    obtain ⟨x, h5, rfl⟩ := List.mem_map.mp h3
    rw [getD_some, h.keys] at h4
    exact ⟨x, h5, h4⟩
  · rintro ⟨x, h5, h4⟩
    exact ⟨x.1, List.mem_filter.mpr ⟨List.mem_map.mpr ⟨x, h5, rfl⟩, by rw [getD_some, h.keys]; exact h4⟩⟩

end K29
set_option autoImplicit false
set_option maxHeartbeats 4000000
namespace K29
open PySem PySem.Spec PyProof.Rows L2
/-! The walks, 14: the law's helpers without a box. -/
section
variable {P : Program} {w : World} {K : PySem.W.Frag} {mg : Str → Option Value} {base : Heap} {C : Addr} {TT : List (Addr × Str)}
def sp_law_more (TT : List (Addr × Str)) : Sp := SpG TT (A2 rW rLt fun l n => Hd3 l ∧ n < 3) rW fun z y => y = mo z.1 z.2
theorem mo_five {l : Wd} {n : Nat} (h : Hd3 l) (hn : n < 3) : (([0, 1, 2, 3, 4] : List Nat).filter fun c => decide (c ∈ l) || decide (c = n)) = mo l n := by
  unfold mo
  show _ = List.filter _ [0, 1, 2]
  have h3 : (decide (3 ∈ l) || decide (3 = n)) = false := by
    rw [Bool.or_eq_false_iff, decide_eq_false_iff_not, decide_eq_false_iff_not]
    exact ⟨fun z => absurd (hd3_lt h 3 z) (by decide), by omega⟩
  have h4 : (decide (4 ∈ l) || decide (4 = n)) = false := by
    rw [Bool.or_eq_false_iff, decide_eq_false_iff_not, decide_eq_false_iff_not]
    exact ⟨fun z => absurd (hd3_lt h 4 z) (by decide), by omega⟩
  show List.filter _ ([0, 1, 2] ++ [3, 4]) = _
  rw [List.filter_append]
  have : List.filter (fun c => decide (c ∈ l) || decide (c = n)) [3, 4] = [] := by
    rw [List.filter_cons, h3, List.filter_cons, h4]
    rfl
  rw [this, List.append_nil]
theorem ok_law_more (T : Tx K mg C) : Cl P w K mg base 1 "_law_more" (sp_law_more TT) := by
  refine cl_spG T.d_law_more sc_law_more A2.len fun f cdv A outer s H vs E M z hr ok h => ?_
  obtain ⟨v, u, rfl, hv, hu, p1, p2⟩ := h
  obtain ⟨l, n⟩ := z
  have p1 : Hd3 l := p1
  have p2 : n < 3 := p2
  have hlen := hd3_len (hd3_mo l n)
  refine ⟨_, (pss_one (ps_ret (wJoin K pe_str (pe_lc (own := [("_law_sign", 2)]) (g := (gName 2)) rfl sc_law_more.nd (pi_str pe_str) (blkOk_by (own := [("_law_sign", 2)]) (N := ["_law_heard", "_law_signal", "_law_sign"]) (sc := defScope s_law_more) (by decide +kernel)) (fun _ _ _ _ _ => (gn_ 2 sc_law_more.nd)) (fun _ _ _ _ _ => (pts_one (PW.pt (pw_or (pt_cmpR op_in_sign (pv 2) (pv 0) rfl) (pw_or1 (pt_cmpR op_eq (pv 2) (pv 1) (nomark _))))))) (fun _ _ _ _ _ => (pv 2)))))), fun Q q => ?_⟩
  refine q_ret (T := TT) ok (e_joinW rfl (Ev.to (e_lc (R := rLt) (xs := [0, 1, 2, 3, 4]) (f := id) (p := fun c => decide (c ∈ l) || decide (c = n)) (i_word (e_c rfl)) (fun _ => rfl) (by decide) fun H1 v x e hx rx => ⟨t_or (t_of (e_op (e_var rfl rx) (e_var rfl (Rel.es hv e)) o_inW)) fun _ => t_of (e_op (e_var rfl rx) (e_var rfl (Rel.es hu e)) o_eqL), fun _ => e_var rfl rx⟩) (show _ = mo l n by rw [List.map_id]; exact mo_five p1 p2)) (by omega)) fun v H' e r => q v H' _ e rfl r
def sp_law_full (TT : List (Addr × Str)) : Sp := SpG TT (A2 (rL rW) rW fun ls h => (∀ l ∈ ls, ∀ c ∈ l, c < 3) ∧ ls.length ≤ 1000 ∧ ∀ l ∈ ls, l.length ≤ 1000) rB fun z b => b = fullB z.1 z.2
theorem ok_law_full (T : Tx K mg C) : Cl P w K mg base 1 "_law_full" (sp_law_full TT) := by
  refine cl_spG T.d_law_full sc_law_full A2.len fun f cdv A outer s H vs E M z hr ok h => ?_
  obtain ⟨v, u, rfl, hv, hu, p1, p2, p3⟩ := h
  obtain ⟨ls, h⟩ := z
  have p1 : ∀ l ∈ ls, ∀ c ∈ l, c < 3 := p1
  have p3 : ∀ l ∈ ls, l.length ≤ 1000 := p3
  refine ⟨_, (pss_cons (ps_for PassesOwn.never rfl (wList K (pv 0)) (gn_ 2 sc_law_full.nd)
(pss_one (ps_if (pt_cmpR (wEqD K (hu64_of hr)) (pe_lc (own := [("_law_sign", 3)]) (g := (gName 3)) rfl sc_law_full.nd (pi_str (pv 2)) (blkOk_by (own := [("_law_sign", 3)]) (N := ["_law_lots_here", "_law_heard", "_law_lot", "_law_sign"]) (sc := defScope s_law_full) (by decide +kernel)) (fun _ _ _ _ _ => (gn_ 3 sc_law_full.nd)) (fun _ _ _ _ _ => (pts_one (pt_cmpR op_notIn_sign (pv 3) (pv 1) rfl))) (fun _ _ _ _ _ => (pv 3))) (pe_lst pa_nil) (nomark _))
(pss_one (ps_ret pe_bl))
pss_nil)))
(pss_one (ps_ret pe_bl))), fun Q q => ?_⟩
  refine q_for (T := TT) ok (i_list (e_var rfl hv)) fun H2 e2 => ?_
  have ok2 := ok.step e2
  refine ⟨fun j σ' G => ∃ o2 o3 : Option V, σ' = [some v, some u, o2, o3] ∧ Hd TT M H2 [] G ∧ fullB (ls.take j) h = false, ⟨none, none, rfl, .start ok2, rfl⟩, fun j σ' G ⟨_, _, _, hh, _⟩ => ⟨_, hh.at_⟩, ?_, ?_⟩
  · rintro j x l σ' G0 G hj hjl ⟨o2, o3, rfl, hh0, hno⟩ e0 rx
    have rl := rx _ hh0.at_
    have hh := hh0.step e0
    have hl : l ∈ ls := List.mem_of_getElem? hjl
    have hwt : ls.take (j + 1) = ls.take j ++ [l] := by rw [List.take_add_one, hjl]; rfl
    have hul := hh.at_.e |> fun e => Rel.es (T := TT) (Rel.up hu ok e2) e
    have hf : ∀ c ∈ l.filter fun c => !decide (c ∈ h), c < 5 := fun c hc => by have := p1 l hl c (List.mem_filter.mp hc).1; omega
    refine q_if (T := TT) (b := decide ((l.filter fun c => !decide (c ∈ h)) = [])) hh.okm (t_of (e_op (Ev.to (e_lc (R := rLt) (f := id) (p := fun c => !decide (c ∈ h)) (i_word (e_var (R := rW) rfl rl)) (fun _ => rfl) (Nat.le_trans (p3 l hl) (by decide)) fun H1 v x e hx rx => ⟨t_of (e_op (e_var rfl rx) (e_var rfl (Rel.es hul e)) o_niW), fun _ => e_var rfl rx⟩) (List.map_id _)) (e_lst (R := rLt) (xs := []) a_nilP (by decide)) (o_eqNil hf))) (fun hb G4 e34 => ?_) fun hb G4 e34 => ?_
    · refine q_ret (T := TT) (R := rB) (x := true) (hh.step e34).okm (e_bl true) fun v' H' e r => q v' H' _ (((e2.trans hh.es).trans e34).trans e) ?_ r
      show true = fullB ls h
      symm
      unfold fullB
      refine List.any_eq_true.mpr ⟨l, hl, List.all_eq_true.mpr fun c hc => ?_⟩
      have h1 := of_decide_eq_true hb
      refine Classical.byContradiction fun hne => ?_
      have : c ∈ l.filter fun c => !decide (c ∈ h) := List.mem_filter.mpr ⟨hc, by simpa using hne⟩
      rw [h1] at this
      simp at this
    · refine ⟨_, _, rfl, hh.step e34, ?_⟩
      rw [hwt]
      unfold fullB at hno ⊢
      rw [List.any_append, hno, Bool.false_or, List.any_cons, List.any_nil, Bool.or_false]
      have h1 := of_decide_eq_false hb
      cases hq : l.all fun c => decide (c ∈ h) with
      | false => rfl
      | true =>
        refine absurd (List.filter_eq_nil_iff.mpr fun c hc => ?_) h1
        have := List.all_eq_true.mp hq c hc
        simpa using this
  · rintro σ' G ⟨o2, o3, rfl, hh, hno⟩
    rw [List.take_length] at hno
    exact q _ G _ (e2.trans hh.es) hno.symm rfl
def sp_law_next (TT : List (Addr × Str)) : Sp := SpG TT (A3 (rL (rL rNat)) rP rLt fun tabs p n => Gt tabs ∧ Vp tabs p ∧ n < tabs.length) (rO rP) fun z y => y = nx z.1 z.2.1 z.2.2
theorem ok_law_next (T : Tx K mg C) : Cl P w K mg base 1 "_law_next" (sp_law_next TT) := by
  refine cl_spG T.d_law_next sc_law_next A3.len fun f cdv A outer s H vs E M z hr ok h => ?_
  obtain ⟨v1, v2, v3, rfl, r1, r2, r3, gt, vp, hn⟩ := h
  obtain ⟨tabs, p, n⟩ := z
  have gt : Gt tabs := gt
  have vp : Vp tabs p := vp
  have hn : n < tabs.length := hn
  have hrow := (gt.row _ (gt.tab hn)).1
  have n3 := gt.n3
  refine ⟨_, (pss_cons (st_ 3 sc_law_next.nd (pe_ix (wIxL K) (pv 0) (pe_bmS PySem.F.plainAttrs_str PySem.F.slot_str_index PySem.F.type_str_index (mt_indexX rfl takes_none) pe_str (pa_cons (pv 2) pa_nil)) (fun _ _ => rfl)))
(pss_cons (ps_par (i := 4) (j := 5) rfl sc_law_next.nd rfl rfl (by decide) rfl rfl (pa_cons (pe_ix (wIxL K) (pv 3) (pe_ix (wIxT K) (pv 1) pe_int (fun _ _ => rfl)) (fun _ _ => rfl)) (pa_cons (pe_ix (wIxL K) (pv 3) (pe_ix (wIxT K) (pv 1) pe_int (fun _ _ => rfl)) (fun _ _ => rfl)) pa_nil)) (by rfl))
(pss_one (ps_ret (pe_ifExp (pt_cmpR op_eq (pv 4) (pv 5) (nomark _)) pe_non (pe_tup (pa_cons (pe_callB (call_min2 rfl) rfl T.f_min bo_min (pa_cons (pv 4) (pa_cons (pv 5) pa_nil))) (pa_cons (pe_callB (call_max2 rfl) rfl T.f_max bo_max (pa_cons (pv 4) (pa_cons (pv 5) pa_nil))) pa_nil)))))))), fun Q q => ?_⟩
  refine q_set (T := TT) ok (e_op (e_var rfl r1) (e_idx (e_var rfl r3) (idx5 (by show n < 5; omega))).int (o_ixL (atI_of (d := []) hn))) fun tv H1 e1 rt => ?_
  have ok1 := ok.step e1
  have hp1 := Rel.up r2 ok e1
  have p1 := Nat.lt_trans vp.1 vp.2
  have p2 := vp.2
  refine q_par (T := TT) (x := cell tabs n p.1) (y := cell tabs n p.2) (R := rNat) (R1 := rNat) ok1 (e_op (e_var rfl rt) (e_op (e_var rfl hp1) (e_int 0) o_ixP0).int (o_ixL (atI_of (d := 0) (by rw [hrow]; exact p1)))) (e_op (e_var rfl rt) (e_op (e_var rfl hp1) (e_int 1) o_ixP1).int (o_ixL (atI_of (d := 0) (by rw [hrow]; exact p2)))) fun a b H2 e2 ra rb => ?_
  have ok2 := ok1.step e2
  refine q_ret (T := TT) (R := rO rP) (x := prOf (cell tabs n p.1) (cell tabs n p.2)) ok2 (e_if (b := decide (((cell tabs n p.1 : Nat) : Int) = (cell tabs n p.2 : Nat))) (t_of (e_op (e_var (R := rInt) rfl ra) (e_var (R := rInt) rfl rb) o_eqI)) (fun hb => ?_) fun hb => ?_) fun v' H' e r => q v' H' _ ((e1.trans e2).trans e) rfl r
  · have h1 : cell tabs n p.1 = cell tabs n p.2 := by have := of_decide_eq_true hb; omega
    rw [prOf_none.mpr h1]
    exact e_non
  · have h1 : ¬ cell tabs n p.1 = cell tabs n p.2 := fun z => of_decide_eq_false hb (by rw [z])
    have h2 : prOf (cell tabs n p.1) (cell tabs n p.2) = some (min (cell tabs n p.1) (cell tabs n p.2), max (cell tabs n p.1) (cell tabs n p.2)) := by
      unfold prOf
      rw [if_neg h1]
      by_cases l : cell tabs n p.1 < cell tabs n p.2
      · rw [if_pos l, Nat.min_eq_left (by omega), Nat.max_eq_right (by omega)]
      · rw [if_neg l, Nat.min_eq_right (by omega), Nat.max_eq_left (by omega)]
    rw [h2]
    refine Ev.some_ (e_pr (Ev.natI (i := ((min (cell tabs n p.1) (cell tabs n p.2) : Nat) : Int)) (Ev.to (e_min2 (e_var (R := rInt) rfl ra) (e_var (R := rInt) rfl rb)) ?_) rfl) (Ev.natI (i := ((max (cell tabs n p.1) (cell tabs n p.2) : Nat) : Int)) (Ev.to (e_max2 (e_var (R := rInt) rfl ra) (e_var (R := rInt) rfl rb)) ?_) rfl))
    · split <;> omega
    · split <;> omega
end


end K29
set_option autoImplicit false
set_option maxHeartbeats 4000000
namespace K29
open PySem PySem.Spec PyProof.Rows L2
/-! The walks, 11: the tower and the table. -/
section
variable {P : Program} {w : World} {K : PySem.W.Frag} {mg : Str → Option Value} {base : Heap} {C : Addr} {TT : List (Addr × Str)}
def sp_tower_groupings (C : Addr) (TT : List (Addr × Str)) : Sp := SpT TT (A2 (rDev C) (rL rW) fun tabs ls => Gt tabs ∧ Fam tabs.length ls) (rT (rT (rT rNat))) fun z gs => ∃ W, WebOk z.1 z.2 W ∧ GrpOk (many z.1) W gs
theorem ok_tower_groupings (T : Tx K mg C) (D : Lx K mg base TT) : Cl P w K mg base 7 "tower_groupings" (sp_tower_groupings C TT) := by
  refine cl_spT T.d_tower_groupings sc_tower_groupings A2.len fun f cdv A outer s H vs E M z tb hr ok h => ?_
  obtain ⟨dv, lv, rfl, rdev, rls, gt, fam⟩ := h
  obtain ⟨tabs, ls⟩ := z
  have gt : Gt tabs := gt
  have fam : Fam tabs.length ls := fam
  refine ⟨_, (pss_one (ps_ret (pe_cl (ok_groupings_of (TT := TT) T) (hr.mono (by decide)) rfl (pa_cons (wFld K (pv 0)) (pa_cons (pe_cl (ok_pair_web (TT := TT) T D) (hr.mono (by decide)) rfl (pa_cons (pv 0) (pa_cons (pe_cl (ok_check_family (TT := TT) T) (hr.mono (by decide)) rfl (pa_cons (pv 0) (pa_cons (pv 1) pa_nil))) pa_nil))) pa_nil))))), fun Q q => ?_⟩
  have hweb := e_c2T (Po := fun W => WebOk tabs ls W) (T := TT) (x := tabs) (y := ls) (R := rD (rD rW)) (E := L2.E0) (Ps := fun z W => WebOk z.1 z.2 W) (Pre := fun tabs ls => Gt tabs ∧ Fam tabs.length ls) (ok.tabs tb) (e_var (k := 0) (σ := [some dv, some lv]) rfl rdev) (e_c2 (Post := fun z y => y = z.2) (Pre := fun tabs ls => Gt tabs ∧ Fam tabs.length ls) (R := rT rW) (z := ls) (E := L2.E0) (x := tabs) (y := ls) (e_var (k := 0) rfl rdev) (e_var (k := 1) rfl rls) ⟨gt, fam⟩ fun _ h => h) ⟨gt, fam⟩ fun _ h => h
  refine q_retp (T := TT) (Post := fun gs => ∃ W, WebOk tabs ls W ∧ GrpOk (many tabs) W gs) ok (e_callx (a_cons (e_states T (e_var rfl rdev)) (ap_cons hweb a_nil)) fun H1 vs e1 pp => ?_) fun v H' y e hy r => q v H' y e hy r
  obtain ⟨v1, _, rfl, r1, v2, _, W, rfl, hW, r2, rfl⟩ := pp
  exact ⟨(many tabs, W), ⟨v1, v2, rfl, r1, r2, hW.s gt, web_j gt hW⟩, fun y hy => ⟨W, hW, hy⟩⟩
def sp_rounds_table (C : Addr) (TT : List (Addr × Str)) : Sp := SpT TT (A2 (rDev C) (rL rW) fun tabs ls => Gt tabs ∧ Fam tabs.length ls) (rT (rPair rP (rO rNat))) fun z F => ∃ W, WebOk z.1 z.2 W ∧ RankOk W F
theorem ok_rounds_table (T : Tx K mg C) (D : Lx K mg base TT) : Cl P w K mg base 7 "rounds_table" (sp_rounds_table C TT) := by
  refine cl_spT T.d_rounds_table sc_rounds_table A2.len fun f cdv A outer s H vs E M z tb hr ok h => ?_
  obtain ⟨dv, lv, rfl, rdev, rls, gt, fam⟩ := h
  obtain ⟨tabs, ls⟩ := z
  have gt : Gt tabs := gt
  have fam : Fam tabs.length ls := fam
  have m5 := gt.m5
  refine ⟨_, (pss_cons (st_ 2 sc_rounds_table.nd (pe_cl (ok_ranks_of (TT := TT) T) (hr.mono (by decide)) rfl (pa_cons (pe_cl (ok_pair_web (TT := TT) T D) (hr.mono (by decide)) rfl (pa_cons (pv 0) (pa_cons (pe_cl (ok_check_family (TT := TT) T) (hr.mono (by decide)) rfl (pa_cons (pv 0) (pa_cons (pv 1) pa_nil))) pa_nil))) pa_nil)))
(pss_one (ps_ret (pe_callTy (wTup K) rfl T.f_tuple bo_tuple (pa_cons (pe_lc (own := [("pair", 3)]) (g := (gName 3)) rfl sc_rounds_table.nd (wList K (pe_cl (ok_pairs_of (TT := TT) T) (hr.mono (by decide)) rfl (pa_cons (pv 0) pa_nil))) (blkOk_by (own := [("pair", 3)]) (N := ["device", "family", "ranks", "pair"]) (sc := defScope s_rounds_table) (by decide +kernel)) (fun _ _ _ _ _ => (gn_ 3 sc_rounds_table.nd)) (fun _ _ _ _ _ => pts_nil) (fun _ _ _ _ _ => (pe_tup (pa_cons (pv 3) (pa_cons (pe_dget (hu_of hr) (pv 2) (pv 3) (fun _ _ => rfl)) pa_nil))))) pa_nil))))), fun Q q => ?_⟩
  have hweb := e_c2T (Po := fun W => WebOk tabs ls W) (T := TT) (x := tabs) (y := ls) (R := rD (rD rW)) (E := L2.E0) (Ps := fun z W => WebOk z.1 z.2 W) (Pre := fun tabs ls => Gt tabs ∧ Fam tabs.length ls) (ok.tabs tb) (e_var (k := 0) (σ := [some dv, some lv, none, none]) rfl rdev) (e_c2 (Post := fun z y => y = z.2) (Pre := fun tabs ls => Gt tabs ∧ Fam tabs.length ls) (R := rT rW) (z := ls) (E := L2.E0) (x := tabs) (y := ls) (e_var (k := 0) rfl rdev) (e_var (k := 1) rfl rls) ⟨gt, fam⟩ fun _ h => h) ⟨gt, fam⟩ fun _ h => h
  refine q_setp (T := TT) (Post := fun F => ∃ W, WebOk tabs ls W ∧ RankOk W F) ok (e_callx (ap_cons hweb a_nil) fun H1 vs e1 pp => ?_) fun v H1 F e1 hF rF => ?_
  · obtain ⟨v2, _, W, rfl, hW, r2, rfl⟩ := pp
    exact ⟨W, ⟨v2, rfl, r2, hW.s gt⟩, fun y hy => ⟨W, hW, hy⟩⟩
  · obtain ⟨W, hW, hF⟩ := hF
    have hk : F.map (·.1) = prs (many tabs) := hF.1.trans hW.1
    have hnd : (F.map (·.1)).Nodup := by rw [hk]; exact prs_nd m5
    have ok1 := ok.step e1
    have hEq : ((prs (many tabs)).filter fun _ => true).map (fun p => (p, (getD F p).getD none)) = F := by
      rw [filt_true, ← hk, List.map_map]
      conv => rhs; rw [← List.map_id F]
      refine List.map_congr_left fun e he => ?_
      show (e.1, (getD F e.1).getD none) = e
      rw [getD_of_mem hnd (show (e.1, e.2) ∈ F from he)]
      rfl
    refine q_ret (T := TT) (R := rT (rPair rP (rO rNat))) (x := F) ok1 (e_tupL (Ev.to (e_lc (f := fun p => (p, (getD F p).getD none)) (p := fun _ => true) (i_list (e_c1 (x := tabs) (e_var rfl (Rel.up rdev ok e1)) gt fun _ h => h)) (fun _ => rfl) (Nat.le_trans (prs_len m5) (by decide)) fun H2 v2 p e2 hp rp => ⟨t_yes, fun _ => ?_⟩) hEq)) fun v' H' e r => q v' H' _ (e1.trans e) ⟨W, hW, hF⟩ r
    refine e_pair (e_var rfl rp) (e_dget (xs := F) (e_var rfl (Rel.es rF e2)) (e_var rfl rp) ?_)
    rw [← hk] at hp
    obtain ⟨e, he, rfl⟩ := List.mem_map.mp hp
    rw [getD_of_mem hnd (show (e.1, e.2) ∈ F from he)]
    rfl
end


end K29
set_option autoImplicit false
set_option maxHeartbeats 4000000
namespace K29
open PySem PySem.Spec PyProof.Rows L2
/-! The walks, 12: rows that keep a pair. -/
section
variable {P : Program} {w : World} {K : PySem.W.Frag} {mg : Str → Option Value} {base : Heap} {C : Addr} {TT : List (Addr × Str)}
def sp_first_of (TT : List (Addr × Str)) : Sp := SpT TT (A1 (rL rW) fun rs => 0 < rs.length ∧ ∀ l ∈ rs, l.length ≤ 16000000) rW fun rs l => l ∈ rs
theorem ok_first_of (T : Tx K mg C) (D : Lx K mg base TT) : Cl P w K mg base 2 "first_of" (sp_first_of TT) := by
  refine cl_lm D.first_of sc_first_of A1.len fun f c P0 A outer s H vs E M rs TB hm hu tb hr ok h => ?_
  obtain ⟨rv, rfl, rr, hn, hw⟩ := h
  refine ⟨_, (pss_one (ps_ret (pe_ifExp (pt_cmpR op_gt (pe_callB (wLen K) rfl T.f_len bo_len (pa_cons (pv 0) pa_nil)) pe_int (nomark _)) (pe_minkey (T := TT) (k := 0) (a := "row") rfl rfl T.f_min (pv 0) TB rfl hm hu hr (lam1_by (by decide +kernel)) rfl (fun _ _ _ _ _ _ => rfl) (fun A outer s H f c1 => (pe_tup (pa_cons (pe_callB (wLen K) rfl T.f_len bo_len (pa_cons (pv 0) pa_nil)) (pa_cons (pv 0) pa_nil)))) rfl rfl) pe_non))), fun Q q => ?_⟩
  refine q_retp (T := TT) (Post := fun l => l ∈ rs) ok (e_ifT (EvT.to (t_of (e_op (e_lenL (e_var rfl rr)).int (e_int 0) o_B0)) ?_) (e_minkey (ok.tabs tb) (e_var rfl rr) hn hw)) fun v H' y e hy r => q v H' y e hy r
  have : (0 : Int) < (rs.length : Int) := by omega
  simpa using this
def sp_first_chains (TT : List (Addr × Str)) : Sp := SpT TT (A2 (rD (rD rW)) rNat fun W m => WebS W ∧ Short W ∧ m ≤ 60) (rD rW) fun z F => ChOk z.1 z.2 F
theorem ok_first_chains (T : Tx K mg C) (D : Lx K mg base TT) : Cl P w K mg base 3 "first_chains" (sp_first_chains TT) := by
  refine cl_spT T.d_first_chains sc_first_chains A2.len fun f cdv A outer s H vs E M z tb hr ok h => ?_
  obtain ⟨wv, mv, rfl, rw_, rm, hs, hsh, hm60⟩ := h
  obtain ⟨W, m0⟩ := z
  have hs : WebS W := hs
  have hsh : Short W := hsh
  have hm60 : m0 ≤ 60 := hm60
  have hw10 := hs.le
  have rw0 := rw_
  obtain ⟨wd, kvs0, rfl, hwd0, hdp0⟩ := rw0
  refine ⟨_, (pss_cons (st_ 2 sc_first_chains.nd (pe_lockR (pe_dcT (own := [("node", 3)]) (g := (gName 3)) (hu_of hr) rfl sc_first_chains.nd (pi_keys (pv 0)) (blkOk_by (own := [("node", 3)]) (N := ["web", "many", "found", "node", "turn", "after", "rows", "later"]) (sc := defScope s_first_chains) (by decide +kernel)) (fun _ _ _ _ _ => (gn_ 3 sc_first_chains.nd)) (fun _ _ _ _ _ => pts_nil) (fun _ _ _ _ _ => (pv 3)) (fun _ _ _ _ _ => pe_str))))
(pss_cons (ps_for PassesOwn.never rfl (pi_range1 rfl T.f_range (pa_cons (pv 1) pa_nil)) (gn_ 4 sc_first_chains.nd)
(pss_cons (st_ 5 sc_first_chains.nd pe_dnewT)
(pss_cons (ps_lockR (ps_for PassesOwn.never rfl (pi_keys (pv 0)) (gn_ 3 sc_first_chains.nd)
(pss_cons (ps_lockR (ps_setLc (i := 6) (own := [("later", 7)]) (g := (gName 7)) rfl sc_first_chains.nd rfl rfl (sw_true rfl rfl rfl (by decide +kernel)) (pi_keys (pe_dget (hu_of hr) (pv 0) (pv 3) (fun _ _ => rfl))) (blkOk_by (own := [("later", 7)]) (N := ["web", "many", "found", "node", "turn", "after", "rows", "later"]) (sc := defScope s_first_chains) (by decide +kernel)) (fun _ _ _ _ _ => (gn_ 7 sc_first_chains.nd)) (fun _ _ _ _ _ => (pts_one (pt_cmp (pc_din (hu_of hr) (pv 7) (pv 2))))) (fun _ _ _ _ _ => (pe_op op_add_str (pe_dget (hu_of hr) (pe_dget (hu_of hr) (pv 0) (pv 3) (fun _ _ => rfl)) (pv 7) (fun _ _ => rfl)) (pe_dget (hu_of hr) (pv 2) (pv 7) (fun _ _ => rfl))))))
(pss_one (ps_if (pt_cmpR op_gt (pe_callB (wLen K) rfl T.f_len bo_len (pa_cons (pv 6) pa_nil)) pe_int (nomark _))
(pss_one (ps_dput (hu_of hr) (pv 5) (pv 3) (pe_cl (ok_first_of (TT := TT) T D) (hr.mono (by decide)) rfl (pa_cons (pv 6) pa_nil)) rfl))
pss_nil)))))
(pss_one (st_ 2 sc_first_chains.nd (pv 5))))))
(pss_one (ps_ret (pv 2))))), fun Q q => ?_⟩
  refine q_set (T := TT) ok (e_dcK (S := rW) (f := fun _ => []) (fx_var rfl) hwd0 hdp0 hs.nd (fun _ => rfl) (fun _ => rfl) (by show W.length ≤ 1000; omega) fun H1 v x _ _ _ => e_c rfl) fun fv H1 e1 rf => ?_
  have ok1 := ok.step e1
  refine q_for (T := TT) ok1 (i_rng1 (by omega) (e_var rfl (Rel.up rm ok e1))) fun H2 e2 => ?_
  have ok2 := ok1.step e2
  refine ⟨fun j σ' G => ∃ (F : List (Pr × Wd)) (fv : V) (o3 o4 o5 o6 o7 : Option V), σ' = [some (.ref wd), some mv, some fv, o3, o4, o5, o6, o7] ∧ Hd TT M H2 [] G ∧ (rD rW).r (vis M G) fv F ∧ ChOk W j F,
    ⟨_, fv, none, none, none, none, none, rfl, .start ok2, Rel.up rf ok1 e2, ⟨by rw [List.map_map]; exact List.map_id (W.map (·.1)), fun e he => by
      obtain ⟨x, _, rfl⟩ := List.mem_map.mp he
      rfl⟩⟩, fun j σ' G ⟨_, _, _, _, _, _, _, _, hh, _⟩ => ⟨_, hh.at_⟩, ?_, ?_⟩
  · rintro j v x σ' G0 G hj hjx ⟨F, fv, o3, o4, o5, o6, o7, rfl, hh0, rf0, hF⟩ e0 rx
    rw [List.length_range] at hj
    have hh := hh0.step e0
    have ok3 : Nok M G := hh.okm
    have rfF : (rD rW).r (vis M G) fv F := Rel.up rf0 hh0.okm e0
    have rwG : (rD (rD rW)).r (vis M G) (.ref wd) W := hh.at_.e |> fun e => Rel.es (T := TT) (Rel.up (Rel.up rw_ ok e1) ok1 e2) e
    have tbG : LamX.Tabs TT G := hh.es.t (e2.t (e1.t tb))
    intro fd hfd
    have hd1 : Hd TT M G [fd] (upd G fd (.dT [])) := (Hd.start ok3).new hfd (.dT _)
    obtain ⟨_, kvs, ew, hwd, hdp⟩ := hd1.up rwG
    cases ew
    have rfF1 := hd1.up rfF
    refine q_forK (T := TT) (R := rD rW) hd1 (fx_var rfl) hwd hdp fun Gl sdl kr same tabl => ?_
    have tbl : LamX.Tabs TT Gl := tabl ((Es.new (T := TT) hfd).t tbG)
    have rfFl : (rD rW).r (vis ([fd] ++ M) Gl) fv F := (rD rW).st kr rfF1
    have hwdl := kr.rdT hwd
    have hdpl := hdp.st kr
    refine ⟨fun i σ' G' => ∃ (F' : List (Pr × Wd)) (kvs' : List (List Key × V)) (o3 o6 o7 : Option V), σ' = [some (.ref wd), some mv, some fv, o3, some v, some (.ref fd), o6, o7] ∧ Sd TT M [fd] Gl G' ∧ G' fd = some (.dT kvs') ∧ DpR rW (vis ([fd] ++ M) G') kvs' F' ∧ F'.map (·.1) = ((W.take i).filter (toA (lev W j))).map (·.1) ∧ ∀ e ∈ F', Chain W (j + 1) e.1 e.2,
      ⟨[], [], _, _, _, rfl, sdl, by rw [same fd (by simp)]; exact upd_same, .nil, rfl, fun e he => by simp at he⟩, fun i σ' G' ⟨_, _, _, _, _, _, hsd, _⟩ => hsd, ?_, ?_⟩
    · rintro i nv p σ' G1 G2 hi hip ⟨F', kvs', o3, o6, o7, rfl, sd1, hf1, hp1, hk1, hc1⟩ e12 rn rt bk
      have sd2 := sd1.step e12
      have hWi : W[i]? = some (W[i]) := List.getElem?_eq_getElem hi
      generalize W[i] = e at hWi
      rw [List.getElem?_map, hWi] at hip
      have hpe : e.1 = p := Option.some.inj hip
      subst hpe
      have he : e ∈ W := List.mem_of_getElem? hWi
      have hrow := hs.row e he
      have ke : Kr (vis ([fd] ++ M) Gl) (vis ([fd] ++ M) G2) := sd2.at_.e.kr
      have hwd2 := ke.rdT hwdl
      have hdp2 := hdpl.st ke
      have rf2 : (rD rW).r (vis ([fd] ++ M) G2) fv F := (rD rW).st ke rfFl
      obtain ⟨d', kvs2, g1, g2, g3⟩ := rDD_get hdp2 hs.nd (show (e.1, e.2) ∈ W from he)
      have rn' := rn
      obtain ⟨pa, rfl, hpa⟩ := rP_key rn'
      have hEq : ((e.2.map (·.1)).filter fun y => (getD F y).isSome).map (fun y => (getD e.2 y).getD [] ++ (getD F y).getD []) = stepL F e.2 := rfl
      refine q_setK (T := TT) (k := 7) (S := rW) (R := rW) (xs := e.2) (f := fun y => (getD e.2 y).getD [] ++ (getD F y).getD []) (p := fun y => (getD F y).isSome) sd2.ok (fx_dget (fx_var rfl) (fx_var rfl) hwd2 hpa g1) g2 g3 (fun _ => rfl) (by omega) (fun H3 u y kr3 _ hy ry => ⟨t_B (e_dinV (e_var rfl ry) (e_var rfl ((rD rW).st kr3 rf2))), fun hpy => ?_⟩) fun rv G3 e23 rr => ?_
      · obtain ⟨x, hx, rfl⟩ := List.mem_map.mp hy
        have hg1 := getD_of_mem hrow.2 (show (x.1, x.2) ∈ e.2 from hx)
        cases hg2 : getD F x.1 with
        | none => rw [hg2] at hpy; cases hpy
        | some r2 =>
          rw [hg1]
          have l1 := hsh e he x hx
          have l2 := chain_len hsh j x.1 r2 (hF.ch _ (getD_mem hg2))
          refine e_op (e_dget (xs := e.2) (R := rW) (e_dget (xs := W) (R := rD rW) (e_var (R := rD (rD rW)) (x := W) rfl ⟨wd, kvs, rfl, kr3.rdT hwd2, hdp2.st kr3⟩) (e_var rfl (rP.st kr3 rn)) (getD_of_mem hs.nd (show (e.1, e.2) ∈ W from he))) (e_var rfl ry) hg1) (e_dget (e_var rfl ((rD rW).st kr3 rf2)) (e_var rfl ry) hg2) (o_addW ?_)
          show x.2.length + r2.length ≤ _
          omega
      · have sd3 := sd2.step e23
        have rr : (rL rW).r (vis ([fd] ++ M) G3) rv (stepL F e.2) := rr
        have hwt : W.take (i + 1) = W.take i ++ [e] := by rw [List.take_add_one, hWi]; rfl
        refine q_if (T := TT) (b := decide ((0 : Int) < ((stepL F e.2).length : Int))) sd3.ok (t_of (e_op (e_lenL (e_var rfl rr)).int (e_int 0) o_B0)) (fun hb G4 e34 => ?_) fun hb G4 e34 => ?_
        · have hpos : 0 < (stepL F e.2).length := by have := of_decide_eq_true hb; omega
          have hto := (stepL_nil hF e).mp hpos
          have sd4 := sd3.step e34
          have hwl : ∀ l ∈ stepL F e.2, l.length ≤ 16000000 := fun l hl => by
            have := chain_len hsh _ _ _ (stepL_mem hF hs he hl)
            omega
          have tb4 : LamX.Tabs TT (vis ([fd] ++ M) G4) := sd4.at_.e.t (sdl.ok.tabs tbl)
          have hf4 : G4 fd = some (.dT kvs') := e34.dT (e23.dT (e12.dT hf1))
          have hp4 : DpR rW (vis ([fd] ++ M) G4) kvs' F' := hp1.st ((e12.trans (e23.trans e34)).vis sd1.ok).kr
          have hF'l : F'.length ≤ 10 := by
            have h1 := congrArg List.length hk1
            rw [List.length_map, List.length_map] at h1
            have h2 := List.length_filter_le (toA (lev W j)) (W.take i)
            rw [List.length_take] at h2
            omega
          refine q_dputp (T := TT) (Post := fun l => l ∈ stepL F e.2) (R := rW) (kk := e.1) (d := fd) sd4.ok (e_c1T (x := stepL F e.2) tb4 (e_var rfl (Rel.up rr sd3.ok e34)) ⟨hpos, hwl⟩ fun _ h => h) rfl (e_var rfl (Rel.up (Rel.up rn sd2.ok e23) sd3.ok e34)) hf4 (by have := Paired.length hp4; have : sizeLine = 16777216 := sizeLine_eq; omega) fun lv G5 l e45 hl rl => ?_
          have hnew : e.1 ∉ F'.map (·.1) := by
            rw [hk1]
            intro z
            obtain ⟨a, h1, h2⟩ := List.mem_map.mp z
            obtain ⟨h3, _⟩ := List.mem_filter.mp h1
            obtain ⟨b, hb1, hb2⟩ := List.mem_take_iff_getElem.mp h3
            have nd := hs.nd
            have i1 : (W.map (·.1))[b]? = some a.1 := by rw [List.getElem?_map, List.getElem?_eq_getElem (by omega), hb2]; rfl
            have i2 : (W.map (·.1))[i]? = some e.1 := by rw [List.getElem?_map, hWi]; rfl
            obtain ⟨k1, k2⟩ := List.getElem?_eq_some_iff.mp i1
            obtain ⟨k3, k4⟩ := List.getElem?_eq_some_iff.mp i2
            exact List.pairwise_iff_getElem.mp nd b i k1 k3 (by omega) (by rw [k2, k4, h2])
          refine ⟨F' ++ [(e.1, l)], _, _, _, _, rfl, (sd4.step e45).put (by simp) (.dT _), upd_same, ?_, ?_, ?_⟩
          · have h5 := dpr_put (k := e.1) (hp4.st (e45.vis sd4.ok).kr) rl
            rw [putP_new hnew] at h5
            show DpR rW (vis (fd :: M) (upd G5 fd _)) _ _
            rw [vis_hide]
            exact h5
          · rw [hwt, List.filter_append, List.map_append, List.map_append, hk1]
            congr 1
            rw [List.filter_cons, if_pos hto]
            rfl
          · intro a ha
            rcases List.mem_append.mp ha with z | z
            · exact hc1 a z
            · rw [List.mem_singleton.mp z]
              exact stepL_mem hF hs he hl
        · have hno : toA (lev W j) e = false := by
            cases hq : toA (lev W j) e with
            | false => rfl
            | true =>
              have := (stepL_nil hF e).mpr hq
              have := of_decide_eq_false hb
              omega
          refine ⟨F', kvs', _, _, _, rfl, sd3.step e34, e34.dT (e23.dT (e12.dT hf1)), hp1.st ((e12.trans (e23.trans e34)).vis sd1.ok).kr, ?_, hc1⟩
          rw [hwt, List.filter_append, List.map_append, hk1]
          rw [List.filter_cons, hno]
          simp
    · rintro σ' G' G'' ⟨F', kvs', o3, o6, o7, rfl, sd1, hf1, hp1, hk1, hc1⟩ hd2 same2 kr2
      rw [List.take_length] at hk1
      have hf2 : G'' fd = some (.dT kvs') := by rw [same2 fd (by simp)]; exact hf1
      refine ⟨_, rfl, F', .ref fd, _, _, _, _, _, rfl, hh.step hd2.es, ⟨fd, kvs', rfl, .inl (vis_open hf2 (hd2.mem (by simp))), (hp1.st kr2).st hd2.kr⟩, hk1, hc1⟩
  · rintro σ' G ⟨F, fv, o3, o4, o5, o6, o7, rfl, hh, rf0, hF⟩
    rw [List.length_range] at hF
    exact ⟨_, rfl, q _ G F ((e1.trans e2).trans hh.es) hF rf0⟩
end


end K29
set_option autoImplicit false
set_option maxHeartbeats 4000000
namespace K29
open PySem PySem.Spec PyProof.Rows L2
/-! The walks, 13: the row of so many rounds. -/
section
variable {P : Program} {w : World} {K : PySem.W.Frag} {mg : Str → Option Value} {base : Heap} {C : Addr} {TT : List (Addr × Str)}
theorem e_get1p {α : Type} {σ : L2.St} {H : Hp} {R : Rel α} {td ty : TE} {kk : Pr} {Post : List (Pr × α) → Prop} (hd : Evp TT td σ H (rD R) Post) (hk : Ev TT ty σ H rP kk) : Evp TT (tDGet1 td ty) σ H (rO R) fun o => ∃ F, Post F ∧ o = getD F kk := fun N H1 e Q q =>
  hd N H1 e _ fun v H2 F e2 hF r => (e_get1 (T := TT) (td := tC v) (e_c r) (hk.mono (e.step e2).e)) N H2 (.self (e.step e2).ok) Q fun v' H3 e3 r' => q v' H3 _ (e2.trans e3) ⟨F, hF, rfl⟩ r'
def sp_apart_row (C : Addr) (TT : List (Addr × Str)) : Sp := SpT TT (A4 (rDev C) (rL rW) rP rNat fun tabs ls p m => Gt tabs ∧ Fam tabs.length ls ∧ Vp tabs p ∧ m ≤ 60) (rO rW) fun z o => ∃ W F, WebOk z.1 z.2.1 W ∧ ChOk W z.2.2.2 F ∧ o = getD F z.2.2.1
theorem ok_apart_row (T : Tx K mg C) (D : Lx K mg base TT) : Cl P w K mg base 7 "apart_row" (sp_apart_row C TT) := by
  refine cl_spT T.d_apart_row sc_apart_row A4.len fun f cdv A outer s H vs E M z tb hr ok h => ?_
  obtain ⟨dv, lv, pav, mv, rfl, rdev, rls, rp, rm, gt, fam, vp, hm⟩ := h
  obtain ⟨tabs, ls, p, m⟩ := z
  have gt : Gt tabs := gt
  have fam : Fam tabs.length ls := fam
  have vp : Vp tabs p := vp
  have hm : m ≤ 60 := hm
  refine ⟨_, (pss_cons (st_ 4 sc_apart_row.nd (pe_cl (ok_check_family (TT := TT) T) (hr.mono (by decide)) rfl (pa_cons (pv 0) (pa_cons (pv 1) pa_nil))))
(pss_cons (ps_expr (pe_cl (ok_need_pair (TT := TT) T) (hr.mono (by decide)) rfl (pa_cons (pv 0) (pa_cons (pv 2) pa_nil))))
(pss_cons (ps_expr (pe_cl (ok_need_many (TT := TT) T) (hr.mono (by decide)) rfl (pa_cons (pv 3) pa_nil)))
(pss_one (ps_ret (pe_dget1 (hu_of hr) (pe_cl (ok_first_chains (TT := TT) T D) (hr.mono (by decide)) rfl (pa_cons (pe_cl (ok_pair_web (TT := TT) T D) (hr.mono (by decide)) rfl (pa_cons (pv 0) (pa_cons (pv 4) pa_nil))) (pa_cons (pv 3) pa_nil))) (pv 2) ⟨rfl, rfl, rfl, rfl⟩)))))), fun Q q => ?_⟩
  refine q_set (T := TT) ok (e_c2 (x := tabs) (y := ls) (z := ls) (e_var rfl rdev) (e_var rfl rls) ⟨gt, fam⟩ fun _ h => h) fun lt H1 e1 rlt => ?_
  have ok1 := ok.step e1
  refine q_drop (T := TT) ok1 (e_c2 (x := tabs) (y := p) (z := p) (e_var rfl (Rel.up rdev ok e1)) (e_var rfl (Rel.up rp ok e1)) vp fun _ h => h) fun H2 e2 => ?_
  have ok2 := ok1.step e2
  refine q_drop (T := TT) ok2 (e_c1 (x := m) (z := m) (e_var rfl (Rel.up (Rel.up rm ok e1) ok1 e2)) hm fun _ h => h) fun H3 e3 => ?_
  have ok3 := ok2.step e3
  have up3 : ∀ {α : Type} {R : Rel α} {v : V} {x : α}, R.r (vis M H) v x → R.r (vis M H3) v x := fun r => Rel.up (Rel.up (Rel.up r ok e1) ok1 e2) ok2 e3
  have tb3 : LamX.Tabs TT (vis M H3) := ok3.tabs (e3.t (e2.t (e1.t tb)))
  refine q_retp (T := TT) (R := rO rW) (Post := fun o => ∃ F, (∃ W, WebOk tabs ls W ∧ ChOk W m F) ∧ o = getD F p) ok3 (e_get1p (e_callTx tb3 (ap_cons (e_c2T (Po := fun W => WebOk tabs ls W) (x := tabs) (y := ls) tb3 (e_var rfl (up3 rdev)) (e_var rfl (Rel.up (Rel.up rlt ok1 e2) ok2 e3)) ⟨gt, fam⟩ fun _ h => h) (a_cons (x := m) (e_var rfl (up3 rm)) a_nil)) fun H4 vs e4 pp => ?_) (e_var rfl (up3 rp))) fun v H' y e hy r => ?_
  · obtain ⟨v1, _, W, rfl, hW, r1, v2, _, rfl, r2, rfl⟩ := pp
    exact ⟨(W, m), ⟨v1, v2, rfl, r1, r2, hW.s gt, short_of hW, hm⟩, fun y hy => ⟨W, hW, hy⟩⟩
  · obtain ⟨F, ⟨W, hW, hF⟩, rfl⟩ := hy
    exact q v H' _ (((e1.trans e2).trans e3).trans e) ⟨W, F, hW, hF, rfl⟩ r
end


end K29
set_option autoImplicit false
set_option maxHeartbeats 4000000
namespace K29
open PySem PySem.Spec PyProof.Rows L2
/-! The walks, 15: cuts, pairs behind rows, all pairs, classes. -/
section
variable {P : Program} {w : World} {K : PySem.W.Frag} {mg : Str → Option Value} {base : Heap} {C : Addr} {TT : List (Addr × Str)}
/-- the lots of a family, as far as the law's helpers ask -/
structure Lots (ls : List Wd) : Prop where
  lt : ∀ l ∈ ls, ∀ c ∈ l, c < 3
  len : ls.length ≤ 1000
  each : ∀ l ∈ ls, l.length ≤ 1000
def sp_law_cuts (TT : List (Addr × Str)) : Sp := SpG TT (A2 (rL rW) rW fun ls r => Lots ls ∧ (∀ c ∈ r, c < 3) ∧ r.length ≤ 100000) (rL rNat) fun z y => y.length = cuts z.1 [] z.2
theorem cuts_at {ls : List Wd} {r : Wd} {j : Nat} {c : Nat} (h : Wd) (hj : r[j]? = some c) : cuts ls h (r.drop j) = if fullB ls (mo h c) = true then cuts ls [] (r.drop (j + 1)) + 1 else cuts ls (mo h c) (r.drop (j + 1)) := by
  obtain ⟨h1, h2⟩ := List.getElem?_eq_some_iff.mp hj
  rw [List.drop_eq_getElem_cons h1, h2]
  rfl
theorem ok_law_cuts (T : Tx K mg C) : Cl P w K mg base 2 "_law_cuts" (sp_law_cuts TT) := by
  refine cl_spG T.d_law_cuts sc_law_cuts A2.len fun f cdv A outer s H vs E M z hr ok h => ?_
  obtain ⟨v, u, rfl, hv_, hu, p1, p2, p3⟩ := h
  obtain ⟨ls, r⟩ := z
  have p1 : Lots ls := p1
  have p2 : ∀ c ∈ r, c < 3 := p2
  have p3 : r.length ≤ 100000 := p3
  refine ⟨_, (pss_cons (ps_par (i := 2) (j := 3) rfl sc_law_cuts.nd rfl rfl (by decide) rfl rfl (pa_cons (pe_lst pa_nil) (pa_cons pe_str pa_nil)) (by rfl))
(pss_cons (ps_for PassesOwn.never rfl (pi_range1 rfl T.f_range (pa_cons (pe_callB (wLen K) rfl T.f_len bo_len (pa_cons (pv 1) pa_nil)) pa_nil)) (gn_ 4 sc_law_cuts.nd)
(pss_cons (st_ 3 sc_law_cuts.nd (pe_cl (ok_law_more (TT := TT) T) (hr.mono (by decide)) rfl (pa_cons (pv 3) (pa_cons (pe_ix ix_str (pv 1) (pv 4) (fun _ _ => rfl)) pa_nil))))
(pss_one (ps_if (pt_val (pe_cl (ok_law_full (TT := TT) T) (hr.mono (by decide)) rfl (pa_cons (pv 0) (pa_cons (pv 3) pa_nil))))
(pss_cons (ps_expr (pe_bm PySem.F.plainAttrs_list PySem.F.slot_list_append PySem.F.type_list_append wAppend (pv 2) (pa_cons (pe_op op_add (pv 4) pe_int) pa_nil)))
(pss_one (st_ 3 sc_law_cuts.nd pe_str)))
pss_nil))))
(pss_one (ps_ret (pv 2))))), fun Q q => ?_⟩
  refine ⟨by show 0 ≤ sizeLine; decide, fun fd hfd => ⟨_, _, rfl, ?_⟩⟩
  have h2 : Hd TT M H [fd] (upd H fd (.lst [])) := (Hd.start ok).new hfd (.lst _)
  have hul : r.length ≤ 16000000 := by omega
  refine q_for (T := TT) h2.okv (i_rng1 (n := r.length) (by omega) (e_lenW (l := r) (e_var rfl (h2.up hu)) hul)) fun H3 e3 => ?_
  have h3 := h2.step e3
  refine ⟨fun j σ' G => ∃ (h : Wd) (xs : List Nat) (vs : List V) (o4 : Option V), σ' = [some v, some u, some (.ref fd), some (.str (wS h)), o4] ∧ Lh TT M H ([fd] ++ M) H3 [fd] G ∧ G fd = some (.lst vs) ∧ Paired (rNat.r G) vs xs ∧ Hd3 h ∧ xs.length + cuts ls h (r.drop j) = cuts ls [] r ∧ xs.length ≤ j,
    ⟨[], [], [], none, rfl, .start h3, e3.lst upd_same, .nil, hd3_nil, by simp, Nat.le_refl _⟩, fun j σ' G ⟨_, _, _, _, _, hl, _⟩ => ⟨_, hl.a⟩, ?_, ?_⟩
  · rintro j x k σ' G0 G hj hjk ⟨h, xs, vs, o4, rfl, hl0, hf0, hp0, hd3, hc, hxl⟩ e0 rx
    rw [List.length_range] at hj
    have hk : j = k := by
      rw [List.getElem?_range hj] at hjk
      exact Option.some.inj hjk
    subst hk
    have rk := rx _ hl0.a
    have rk : x = .int (j : Int) := rk
    subst rk
    have hl := hl0.step e0
    have hrj : r[j]? = some (r[j]) := List.getElem?_eq_getElem hj
    generalize r[j] = c at hrj
    have hc3 := p2 c (List.mem_of_getElem? hrj)
    have hru := hl.h.up hu
    refine q_set (T := TT) hl.ok (e_c2 (x := h) (y := c) (z := mo h c) (e_var rfl rfl) (e_op (e_var (R := rW) (x := r) rfl hru) (e_var (R := rInt) (x := (j : Int)) rfl rfl) (o_ixW hul hrj)) ⟨hd3, hc3⟩ fun _ h => h) fun hv G2 e2 rh => ?_
    have rh : hv = .str (wS (mo h c)) := rh
    subst rh
    have hl2 := hl.step e2
    have hrv := hl2.h.up hv_
    refine q_if (T := TT) (b := fullB ls (mo h c)) hl2.ok (t_B (e_c2 (x := ls) (y := mo h c) (z := fullB ls (mo h c)) (e_var rfl hrv) (e_var rfl rfl) ⟨p1.lt, p1.len, p1.each⟩ fun _ h => h)) (fun hb G3 e23 => ?_) fun hb G3 e23 => ?_
    · have hl3 := hl2.step e23
      have hvl := Paired.length hp0
      refine q_app (T := TT) (R := rNat) (x := j + 1) hl3.ok rfl (Ev.natI (i := (j : Int) + 1) (e_op (e_var (R := rInt) (x := (j : Int)) rfl rfl) (e_int 1) o_I0) (by omega)) (e23.lst (e2.lst (e0.lst hf0))) (by have : sizeLine = 16777216 := sizeLine_eq; omega) fun v5 G4 e34 r5 => ?_
      refine ⟨[], xs ++ [j + 1], vs ++ [v5], _, rfl, (hl3.step e34).put (by simp) (.lst _), upd_same, pr_snoc (Paired.mapP hp0 fun _ _ h => h) r5, hd3_nil, ?_, by simp; omega⟩
      rw [cuts_at h hrj, if_pos hb] at hc
      rw [List.length_append]
      show xs.length + 1 + _ = _
      omega
    · refine ⟨_, xs, vs, _, rfl, hl2.step e23, e23.lst (e2.lst (e0.lst hf0)), Paired.mapP hp0 fun _ _ h => h, hd3_mo h c, ?_, by omega⟩
      rw [cuts_at h hrj, if_neg (by rw [hb]; simp)] at hc
      exact hc
  · rintro σ' G ⟨h, xs, vs, o4, rfl, hl, hf, hp, hd3, hc, hxl⟩
    rw [List.length_range, List.drop_length] at hc
    exact ⟨_, rfl, q _ G xs hl.h.es hc ⟨fd, vs, rfl, vis_open hf (hl.h.mem (by simp)), hp⟩⟩
def sp_law_behind (TT : List (Addr × Str)) : Sp := SpG TT (A3 (rL (rL rNat)) rP rW fun tabs p r => Gt tabs ∧ Vp tabs p ∧ ∀ s ∈ r, s < tabs.length) (rO rP) fun z y => y = bhv z.1 (some z.2.1) z.2.2
theorem bhv_vp {tabs : List (List Nat)} (g : Gt tabs) : ∀ (r : Wd) (o : Option Pr), (∀ p, o = some p → Vp tabs p) → (∀ s ∈ r, s < tabs.length) → ∀ q, bhv tabs o r = some q → Vp tabs q
  | [], o, h, _, q, e => h q e
  | s :: r, o, h, hs, q, e => by
    refine bhv_vp g r _ (fun p hp => ?_) (fun s' h' => hs s' (List.mem_cons_of_mem _ h')) q e
    cases o with
    | none => cases hp
    | some p0 => exact (h p0 rfl).next g (hs s (List.mem_cons_self ..)) hp
theorem ok_law_behind (T : Tx K mg C) : Cl P w K mg base 2 "_law_behind" (sp_law_behind TT) := by
  refine cl_spG T.d_law_behind sc_law_behind A3.len fun f cdv A outer s H vs E M z hr ok h => ?_
  obtain ⟨v1, v2, v3, rfl, r1, r2, r3, gt, vp, hs⟩ := h
  obtain ⟨tabs, p, r⟩ := z
  have gt : Gt tabs := gt
  have vp : Vp tabs p := vp
  have hs : ∀ s ∈ r, s < tabs.length := hs
  refine ⟨_, (pss_cons (st_ 3 sc_law_behind.nd (pv 1))
(pss_cons (ps_for PassesOwn.never rfl (pi_str (pv 2)) (gn_ 4 sc_law_behind.nd)
(pss_one (st_ 3 sc_law_behind.nd (pe_ifExp (pt_cmp (pc_isN (pv 3))) pe_non (pe_cl (ok_law_next (TT := TT) T) (hr.mono (by decide)) rfl (pa_cons (pv 0) (pa_cons (pv 3) (pa_cons (pv 4) pa_nil))))))))
(pss_one (ps_ret (pv 3))))), fun Q q => ?_⟩
  refine q_set (T := TT) (R := rP) (x := p) ok (e_var rfl r2) fun hv H1 e1 rh => ?_
  have ok1 := ok.step e1
  refine q_for (T := TT) ok1 (i_word (e_var rfl (Rel.up r3 ok e1))) fun H3 e3 => ?_
  have ok3 := ok1.step e3
  refine ⟨fun j σ' G => ∃ (hv : V) (o4 : Option V), σ' = [some v1, some v2, some v3, some hv, o4] ∧ Hd TT M H3 [] G ∧ (rO rP).r (vis M G) hv (bhv tabs (some p) (r.take j)), ⟨hv, none, rfl, .start ok3, Rel.up (R := rP) (x := p) rh ok1 e3⟩, fun j σ' G ⟨_, _, _, hh, _⟩ => ⟨_, hh.at_⟩, ?_, ?_⟩
  · rintro j x c σ' G0 G hj hjc ⟨hv, o4, rfl, hh0, rh⟩ e0 rx
    have rc := rx _ hh0.at_
    have hh := hh0.step e0
    have rh2 := Rel.up rh hh0.okm e0
    have hcs := hs c (List.mem_of_getElem? hjc)
    have hwt : r.take (j + 1) = r.take j ++ [c] := by rw [List.take_add_one, hjc]; rfl
    have hvp : ∀ q, bhv tabs (some p) (r.take j) = some q → Vp tabs q := fun q hq => bhv_vp gt _ _ (fun p' h => by cases h; exact vp) (fun s h => hs s (List.mem_of_mem_take h)) q hq
    have up : ∀ {α : Type} {R : Rel α} {v : V} {x : α}, R.r (vis M H) v x → R.r (vis M G) v x := fun r => Rel.es (T := TT) (Rel.up (Rel.up r ok e1) ok1 e3) hh.at_.e
    refine q_set (T := TT) (R := rO rP) (x := bhv tabs (some p) (r.take (j + 1))) hh.okm (e_if (b := (bhv tabs (some p) (r.take j)).isNone) (t_B (e_isN nv_P (e_var rfl rh2))) (fun hb => ?_) fun hb => ?_) fun hv2 G2 e2 rh3 => ⟨hv2, _, rfl, hh.step e2, rh3⟩
    · rw [hwt, bhv_app]
      cases hq : bhv tabs (some p) (r.take j) with
      | some q => rw [hq] at hb; cases hb
      | none =>
        rw [bhv_none]
        exact e_non
    · rw [hwt, bhv_app]
      cases hq : bhv tabs (some p) (r.take j) with
      | none => rw [hq] at hb; cases hb
      | some q =>
        rw [hq] at rh2
        exact e_c3 (x := tabs) (y := q) (u := c) (z := nx tabs q c) (e_var rfl (up r1)) (e_var (R := rP) rfl rh2) (e_var rfl rc) ⟨gt, hvp q hq, hcs⟩ fun _ h => h
  · rintro σ' G ⟨hv, o4, rfl, hh, rh⟩
    rw [List.take_length] at rh
    exact ⟨_, rfl, q _ G _ ((e1.trans e3).trans hh.es) rfl rh⟩
def withinB : List (List Nat) → Pr → Bool
  | [], _ => false
  | c :: cs, p => if p.1 ∈ c then decide (p.2 ∈ c) else withinB cs p
theorem within_skip : ∀ (cs ds : List (List Nat)) (p : Pr), (∀ c ∈ cs, p.1 ∉ c) → withinB (cs ++ ds) p = withinB ds p
  | [], _, _, _ => rfl
  | c :: cs, ds, p, h => by
    show (if p.1 ∈ c then decide (p.2 ∈ c) else withinB (cs ++ ds) p) = _
    rw [if_neg (h c (List.mem_cons_self ..))]
    exact within_skip cs ds p fun c' h' => h c' (List.mem_cons_of_mem _ h')
def sp_law_within (TT : List (Addr × Str)) : Sp := SpG TT (A2 (rT (rT rNat)) rP fun _ _ => True) rB fun z y => y = withinB z.1 z.2
theorem ok_law_within (T : Tx K mg C) : Cl P w K mg base 1 "_law_within" (sp_law_within TT) := by
  refine cl_spG T.d_law_within sc_law_within A2.len fun f cdv A outer s H vs E M z hr ok h => ?_
  obtain ⟨v, u, rfl, hv, hu, _⟩ := h
  obtain ⟨cs, p⟩ := z
  refine ⟨_, (pss_cons (ps_for PassesOwn.never rfl (wTupI K (pv 0)) (gn_ 2 sc_law_within.nd)
(pss_one (ps_if (pt_cmpR (wIn K) (pe_ix (wIxT K) (pv 1) pe_int (fun _ _ => rfl)) (pv 2) rfl)
(pss_one (ps_ret (pe_cmpR (wIn K) (pe_ix (wIxT K) (pv 1) pe_int (fun _ _ => rfl)) (pv 2) rfl)))
pss_nil)))
(pss_one (ps_ret pe_bl))), fun Q q => ?_⟩
  refine q_for (T := TT) ok (i_tup (e_var rfl hv)) fun H2 e2 => ?_
  have ok2 := ok.step e2
  refine ⟨fun j σ' G => ∃ o2 : Option V, σ' = [some v, some u, o2] ∧ Hd TT M H2 [] G ∧ ∀ c ∈ cs.take j, p.1 ∉ c, ⟨none, rfl, .start ok2, fun c h => by simp at h⟩, fun j σ' G ⟨_, _, hh, _⟩ => ⟨_, hh.at_⟩, ?_, ?_⟩
  · rintro j x c σ' G0 G hj hjc ⟨o2, rfl, hh0, hno⟩ e0 rx
    have rc := rx _ hh0.at_
    have hh := hh0.step e0
    have hwt : cs.take (j + 1) = cs.take j ++ [c] := by rw [List.take_add_one, hjc]; rfl
    have hul := Rel.es (T := TT) (Rel.up hu ok e2) hh.at_.e
    have hcs : cs = cs.take j ++ c :: cs.drop (j + 1) := by
      have hjl := (List.getElem?_eq_some_iff.mp hjc)
      obtain ⟨h1, h2⟩ := hjl
      conv => lhs; rw [← List.take_append_drop j cs, List.drop_eq_getElem_cons h1, h2]
    refine q_if (T := TT) (b := decide (p.1 ∈ c)) hh.okm (t_of (e_op (e_op (e_var rfl hul) (e_int 0) o_ixP0) (e_var rfl rc) o_inT)) (fun hb G3 e23 => ?_) fun hb G3 e23 => ?_
    · have hh3 := hh.step e23
      refine q_ret (T := TT) (R := rB) (x := decide (p.2 ∈ c)) hh3.okm (e_op (e_op (e_var rfl (Rel.up hul hh.okm e23)) (e_int 1) o_ixP1) (e_var rfl (Rel.up rc hh.okm e23)) o_inT) fun v' H' e r => q v' H' _ ((e2.trans hh3.es).trans e) ?_ r
      show _ = withinB cs p
      rw [hcs, within_skip _ _ _ hno]
      show _ = if p.1 ∈ c then decide (p.2 ∈ c) else _
      rw [if_pos (of_decide_eq_true hb)]
    · refine ⟨_, rfl, hh.step e23, fun c' h' => ?_⟩
      rw [hwt] at h'
      rcases List.mem_append.mp h' with z | z
      · exact hno c' z
      · rw [List.mem_singleton.mp z]
        exact of_decide_eq_false hb
  · rintro σ' G ⟨o2, rfl, hh, hno⟩
    rw [List.take_length] at hno
    refine q _ G _ (e2.trans hh.es) ?_ rfl
    show false = withinB cs p
    have := within_skip cs [] p hno
    rw [List.append_nil] at this
    exact this.symm
def sp_law_pairs (TT : List (Addr × Str)) : Sp := SpG TT (A1 rNat fun n => n ≤ 5) (rL rP) fun n y => y = prs n
theorem ok_law_pairs (T : Tx K mg C) : Cl P w K mg base 1 "_law_pairs" (sp_law_pairs TT) := by
  refine cl_spG T.d_law_pairs sc_law_pairs A1.len fun f cdv A outer s H vs E M n hr ok h => ?_
  obtain ⟨v, rfl, hv, hn⟩ := h
  have hn : n ≤ 5 := hn
  refine ⟨_, (pss_cons (st_ 1 sc_law_pairs.nd (pe_lst pa_nil))
(pss_cons (ps_for PassesOwn.never rfl (pi_range1 rfl T.f_range (pa_cons (pv 0) pa_nil)) (gn_ 2 sc_law_pairs.nd)
(pss_one (st_ 1 sc_law_pairs.nd (pe_op op_cat (pv 1) (pe_lc (own := [("_law_j", 3)]) (g := (gName 3)) rfl sc_law_pairs.nd (pi_range2 rfl T.f_range (pa_cons (pe_op op_add (pv 2) pe_int) (pa_cons (pv 0) pa_nil))) (blkOk_by (own := [("_law_j", 3)]) (N := ["_law_many", "_law_found", "_law_i", "_law_j"]) (sc := defScope s_law_pairs) (by decide +kernel)) (fun _ _ _ _ _ => (gn_ 3 sc_law_pairs.nd)) (fun _ _ _ _ _ => pts_nil) (fun _ _ _ _ _ => (pe_tup (pa_cons (pv 2) (pa_cons (pv 3) pa_nil)))))))))
(pss_one (ps_ret (pv 1))))), fun Q q => ?_⟩
  refine q_set (T := TT) (R := rL rP) (x := []) ok (e_lst a_nilP (by decide)) fun fv H1 e1 rf => ?_
  have ok1 := ok.step e1
  refine q_for (T := TT) ok1 (i_rng1 (n := n) (by omega) (e_var rfl (Rel.up hv ok e1))) fun H3 e3 => ?_
  have ok3 := ok1.step e3
  refine ⟨fun j σ' G => ∃ (fv : V) (o2 o3 : Option V), σ' = [some v, some fv, o2, o3] ∧ Hd TT M H3 [] G ∧ (rL rP).r (vis M G) fv ((List.range j).flatMap fun i => (List.range' (i + 1) (n - (i + 1))).map fun j => (i, j)), ⟨fv, none, none, rfl, .start ok3, Rel.up rf ok1 e3⟩, fun j σ' G ⟨_, _, _, _, hh, _⟩ => ⟨_, hh.at_⟩, ?_, ?_⟩
  · rintro j x i σ' G0 G hj hji ⟨fv, o2, o3, rfl, hh0, rf⟩ e0 rx
    rw [List.length_range] at hj
    have hk : j = i := by
      rw [List.getElem?_range hj] at hji
      exact Option.some.inj hji
    subst hk
    have ri := rx _ hh0.at_
    have hh := hh0.step e0
    have rf2 := Rel.up rf hh0.okm e0
    have hvG := Rel.es (T := TT) (Rel.up (Rel.up hv ok e1) ok1 e3) hh.at_.e
    have hlen : ∀ k : Nat, k ≤ n → ((List.range k).flatMap fun i => (List.range' (i + 1) (n - (i + 1))).map fun j => (i, j)).length ≤ 25 := fun k hk => by
      have : ∀ a b : Fin 6, ((List.range a.1).flatMap fun i => (List.range' (i + 1) (b.1 - (i + 1))).map fun j => (i, j)).length ≤ 25 := by decide +kernel
      exact this ⟨k, by omega⟩ ⟨n, by omega⟩
    refine q_set (T := TT) (R := rL rP) (x := (List.range (j + 1)).flatMap fun i => (List.range' (i + 1) (n - (i + 1))).map fun j => (i, j)) hh.okm (Ev.to (e_op (e_var rfl rf2) (e_lc (R := rNat) (S := rP) (xs := List.range' (j + 1) (n - (j + 1))) (f := fun j' => (j, j')) (p := fun _ => true) (i_rng2 (l := j + 1) (n := n) (by omega) (by omega) ((e_op (e_var (R := rInt) (x := (j : Int)) rfl ri) (e_int 1) o_I0).natI (by omega)) (e_var rfl hvG)) (fun _ => rfl) (by rw [List.length_range']; omega) fun H4 v4 j' e4 _ r4 => ⟨t_yes, fun _ => e_pr (e_var rfl (Rel.es ri e4)) (e_var rfl r4)⟩) (o_cat ?_)) ?_) fun fv2 G2 e2 rf3 => ⟨fv2, _, _, rfl, hh.step e2, rf3⟩
    · have h1 := hlen j (by omega)
      rw [filt_true, List.length_map, List.length_range']
      omega
    · rw [filt_true, List.range_succ, List.flatMap_append, List.flatMap_singleton]
  · rintro σ' G ⟨fv, o2, o3, rfl, hh, rf⟩
    rw [List.length_range] at rf
    exact ⟨_, rfl, q _ G _ ((e1.trans e3).trans hh.es) rfl rf⟩
end


end K29
set_option autoImplicit false
set_option maxHeartbeats 4000000
namespace K29
open PySem PySem.Spec PyProof.Rows L2
/-! The walks, 16: draws. -/
section
variable {P : Program} {w : World} {K : PySem.W.Frag} {mg : Str → Option Value} {base : Heap} {C : Addr} {TT : List (Addr × Str)}
def sp_law_take (TT : List (Addr × Str)) : Sp := SpB TT (A1 rNat fun n => 0 < n ∧ n ≤ 1000000) rNat fun n i => i < n
theorem emod_nat (x : Int) {n : Nat} (h : 0 < n) : (x % (n : Int)) = (((x % (n : Int)).toNat : Nat) : Int) ∧ (x % (n : Int)).toNat < n := by
  have h1 := Int.emod_nonneg x (show (n : Int) ≠ 0 by omega)
  have h2 := Int.emod_lt_of_pos x (show (0 : Int) < (n : Int) by omega)
  omega
theorem ok_law_take (T : Tx K mg C) : Cl P w K mg base 1 "_law_take" (sp_law_take TT) := by
  refine cl_spB T.d_law_take sc_law_take (fun G vs z h => by rw [A1.len G vs z h]; rfl) fun f cdv A outer s H vs E N b n hr hb ok hx h => ?_
  obtain ⟨v, rfl, hv, hn0, hn⟩ := h
  obtain ⟨g, r, hbx⟩ := hx
  have hv : v = .int (n : Int) := hv
  subst hv
  have okM : Nok (N.filter fun a => decide (a ≠ b)) H := box_nok ok
  have rb : ∀ {G : Hp} {g r : Int}, G b = some (.lst [.int g, .int r]) → (rL rInt).r (vis (N.filter fun a => decide (a ≠ b)) G) (.ref b) [g, r] := fun h => box_vis h
  have a0 : ∀ g r : Int, atI [g, r] 0 = some g := fun g r => rfl
  have a1 : ∀ g r : Int, atI [g, r] 1 = some r := fun g r => rfl
  have bx0 : Bx TT N b H H := .refl ok ⟨g, r, hbx⟩
  refine ⟨_, (pss_cons (ps_if (pt_cmpR op_gt (pe_ix (wIxL K) (pv 0) pe_int (fun _ _ => rfl)) pe_int (nomark _))
(pss_cons (st_ 2 sc_law_take.nd (pe_op op_mod (pe_callTy call_int1 rfl T.f_int bo_int (pa_cons (pe_ix (wIxL K) (pv 0) pe_int (fun _ _ => rfl)) pa_nil)) (pv 1)))
(pss_cons (ps_asg (pe_op op_fdiv (pe_ix (wIxL K) (pv 0) pe_int (fun _ _ => rfl)) (pv 1)) (pg_sub (pv 0) pe_int set_list))
(pss_one (ps_ret (pv 2)))))
pss_nil)
(pss_cons (st_ 3 sc_law_take.nd (pe_op op_mod (pe_callTy call_int1 rfl T.f_int bo_int (pa_cons (pe_op op_add (pe_op op_mul (pe_ix (wIxL K) (pv 0) pe_int (fun _ _ => rfl)) pe_int) pe_int) pa_nil)) pe_int))
(pss_cons (ps_asg (pe_op op_add (pe_op op_mod (pe_callTy call_int1 rfl T.f_int bo_int (pa_cons (pe_op op_add (pe_op op_mul (pv 3) pe_int) pe_int) pa_nil)) pe_int) pe_int) (pg_sub (pv 0) pe_int set_list))
(pss_one (ps_ret (pe_op op_mod (pe_callTy call_int1 rfl T.f_int bo_int (pa_cons (pe_op op_fdiv (pe_op op_add (pe_op op_mul (pv 3) pe_int) (pe_ix (wIxL K) (pv 0) pe_int (fun _ _ => rfl))) pe_int) pa_nil)) (pv 1))))))), fun Q q => ?_⟩
  refine q_if (T := TT) (b := decide ((0 : Int) < g)) okM (t_of (e_op (e_op (e_var rfl (rb hbx)) (e_int 0) (o_ixL (a0 g r))) (e_int 0) o_B0)) (fun hg H1 e1 => ?_) fun hg H1 e1 => ?_
  · have ok1 := okM.step e1
    have hb1 : H1 b = some (.lst [.int g, .int r]) := e1.lst hbx
    refine q_set (T := TT) ok1 (e_op (e_intC (e_op (e_var rfl (rb hb1)) (e_int 0) (o_ixL (a0 g r)))) (e_var (R := rInt) (x := (n : Int)) rfl rfl) (o_I (by show (0 : Int) < (n : Int); omega))) fun dv H2 e2 rd => ?_
    have ok2 := ok1.step e2
    have hb2 : H2 b = some (.lst [.int g, .int r]) := e2.lst hb1
    refine (e_op (T := TT) (e_op (e_var rfl (rb hb2)) (e_int 0) (o_ixL (a0 g r))) (e_var (R := rInt) (x := (n : Int)) rfl rfl) (o_I ⟨by omega, by omega⟩)) _ H2 (.self ok2) _ fun fv H3 e3 rf => ?_
    have rf : fv = .int (g / (n : Int)) := rf
    have rd : dv = .int (g % (n : Int)) := rd
    subst rf rd
    have bx3 : Bx TT N b H H3 := bx0.step ((e1.trans e2).trans e3)
    have h2 := emod_nat g hn0
    refine ⟨_, rfl, b, _, 0, 0, rfl, rfl, e3.lst hb2, rfl, ?_⟩
    refine ⟨_, rfl, q _ _ (g % (n : Int)).toNat (bx3.put hb (g / (n : Int)) r) h2.2 ?_⟩
    show V.int (g % (n : Int)) = V.int _
    rw [← h2.1]
  · have ok1 := okM.step e1
    have hb1 : H1 b = some (.lst [.int g, .int r]) := e1.lst hbx
    refine q_set (T := TT) ok1 (e_op (e_intC (e_op (e_op (e_op (e_var rfl (rb hb1)) (e_int 1) (o_ixL (a1 g r))) (e_int 40014) (o_I (.inr ⟨by decide, by decide⟩))) (e_int 53) o_I0)) (e_int 2147483563) (o_I (by decide))) fun rv H2 e2 rr => ?_
    have ok2 := ok1.step e2
    have hb2 : H2 b = some (.lst [.int g, .int r]) := e2.lst hb1
    have rr : rv = .int ((r * 40014 + 53) % 2147483563) := rr
    subst rr
    generalize (r * 40014 + 53) % 2147483563 = raw
    refine (e_op (T := TT) (e_op (e_intC (e_op (e_op (e_var (R := rInt) (x := raw) rfl rfl) (e_int 40692) (o_I (.inr ⟨by decide, by decide⟩))) (e_int 29) o_I0)) (e_int 2147483579) (o_I (by decide))) (e_int 1) o_I0) _ H2 (.self ok2) _ fun fv H3 e3 rf => ?_
    have rf : fv = .int ((raw * 40692 + 29) % 2147483579 + 1) := rf
    subst rf
    generalize (raw * 40692 + 29) % 2147483579 + 1 = r2
    have bx3 : Bx TT N b H H3 := bx0.step ((e1.trans e2).trans e3)
    refine ⟨_, rfl, b, _, 1, 1, rfl, rfl, e3.lst hb2, rfl, ?_⟩
    have bx4 := bx3.put hb g r2
    have ok4 : Nok (N.filter fun a => decide (a ≠ b)) (upd H3 b (.lst [.int g, .int r2])) := box_nok bx4.ok
    refine q_ret (T := TT) (R := rInt) ok4 (e_op (e_intC (e_op (e_op (e_op (e_var (R := rInt) (x := raw) rfl rfl) (e_int 2147483629) (o_I (.inr ⟨by decide, by decide⟩))) (e_op (e_var rfl (rb upd_same)) (e_int 1) (o_ixL (a1 g r2))) o_I0) (e_int 8191) (o_I ⟨by decide, by decide⟩))) (e_var (R := rInt) (x := (n : Int)) rfl rfl) (o_I (by show (0 : Int) < (n : Int); omega))) fun v' H5 e5 rv5 => ?_
    have h2 := emod_nat ((raw * 2147483629 + r2) / 8191) hn0
    refine q _ H5 ((raw * 2147483629 + r2) / 8191 % (n : Int)).toNat (bx4.step e5) h2.2 ?_
    have rv5 : v' = .int ((raw * 2147483629 + r2) / 8191 % (n : Int)) := rv5
    rw [rv5]
    show V.int _ = V.int _
    rw [← h2.1]
/-- one of some things: whatever the index reads -/
def sp_law_pick (K : PySem.W.Frag) (TT : List (Addr × Str)) : Sp := fun vs H Q _ => ∃ N b n sv, b ∈ N ∧ Nok N H ∧ IsBox H b ∧ vs = [.ref b, sv] ∧ 0 < n ∧ n ≤ 1000000 ∧ LenV K sv H n ∧ ∀ H' i, Bx TT N b H H' → i < n → rIx K sv (.int ((i : Nat) : Int)) H' Q
theorem ok_law_pick (T : Tx K mg C) : Cl P w K mg base 2 "_law_pick" (sp_law_pick K TT) := by
  refine cl_any T.d_law_pick sc_law_pick (fun vs H Q E ⟨N, b, n, sv, _, _, _, e, _⟩ => by rw [e]; rfl) fun f cdv A outer s H vs Q E hr ⟨N, b, n, sv, hb, ok, hx, e, h0, h1, hl, q⟩ => ?_
  subst e
  refine ⟨_, (pss_one (ps_ret (pe_ix (wIxA K) (pv 1) (pe_cl (ok_law_take (TT := TT) T) (hr.mono (by decide)) rfl (pa_cons (pv 0) (pa_cons (pe_callB (wLen K) rfl T.f_len bo_len (pa_cons (pv 1) pa_nil)) pa_nil))) (fun _ _ => rfl)))), ?_⟩
  refine ⟨_, rfl, _, rfl, _, rfl, _, n, rfl, hl, ?_⟩
  exact ⟨N, b, n, [.int (n : Int)], hb, ok, hx, rfl, ⟨_, rfl, rfl, h0, h1⟩, fun v H' i bx hi r => by
    have r : v = .int (i : Int) := r
    subst r
    exact q H' i bx hi⟩
end


end K29
set_option autoImplicit false
set_option maxHeartbeats 4000000
namespace K29
open PySem PySem.Spec PyProof.Rows L2
/-! The walks, 17: tables drawn. -/
section
variable {TT : List (Addr × Str)} {K : PySem.W.Frag} {α β : Type} {σ : L2.St} {H : Hp} {N : List Addr} {R : Rel α} {ta te : TE} {tr : TA} {i : Nat} {b : Addr} {Ps : α → Prop} {E : XK}
theorem e_pickL {Pl : List α → Prop} (hi : σ[i]? = some (some (.ref b))) (h : Evb TT b ta σ H (rL R) Pl) (hp : ∀ xs, Pl xs → 0 < xs.length ∧ xs.length ≤ 1000000 ∧ ∀ x ∈ xs, Ps x) : Evb TT b (tCall (sp_law_pick K TT) [] E (tCons (tVar i) (tCons ta tNil))) σ H R Ps := fun N H1 hb e hx Q q =>
  ⟨_, hi, h N H1 hb e hx _ fun v H2 xs bx hxs ⟨p, vs, hv, hpp, hpr⟩ => by
    obtain ⟨h1, h2, h3⟩ := hp xs hxs
    subst hv
    have hl : vs.length = xs.length := Paired.length hpr
    refine ⟨N, b, vs.length, .ref p, hb, bx.ok, bx.box, rfl, by omega, by omega, .inl ⟨vs, SqL.of (vis_sub hpp), rfl⟩, fun H' j bx' hj => ?_⟩
    obtain ⟨u, hu, ru⟩ := pr_get hpr (y := xs[j]'(by omega)) (List.getElem?_eq_getElem (by omega))
    exact .inl ⟨p, vs, _, u, rfl, rfl, SqL.of (vis_sub (bx'.at_.e.lst hpp)), atI_nat hu, q u H' _ (bx.trans bx') (h3 _ (List.getElem_mem ..)) (bx'.up ru)⟩⟩
theorem e_pickW {Pl : Wd → Prop} {Pn : Nat → Prop} (hi : σ[i]? = some (some (.ref b))) (h : Evb TT b ta σ H rW Pl) (hp : ∀ l, Pl l → 0 < l.length ∧ l.length ≤ 1000000 ∧ ∀ x ∈ l, Pn x) : Evb TT b (tCall (sp_law_pick K TT) [] E (tCons (tVar i) (tCons ta tNil))) σ H rLt Pn := fun N H1 hb e hx Q q =>
  ⟨_, hi, h N H1 hb e hx _ fun v H2 l bx hl rv => by
    obtain ⟨h1, h2, h3⟩ := hp l hl
    have rv : v = .str (wS l) := rv
    subst rv
    refine ⟨N, b, l.length, .str (wS l), hb, bx.ok, bx.box, rfl, h1, h2, ?_, fun H' j bx' hj => ?_⟩
    · show (wS l).length ≤ sizeLine ∧ l.length = (wS l).length
      rw [wS_len]
      have : sizeLine = 16777216 := sizeLine_eq
      exact ⟨by omega, rfl⟩
    · have hg : l[j]? = some (l[j]) := List.getElem?_eq_getElem hj
      refine .inr (.inr ⟨wS l, _, 97 + l[j], rfl, rfl, by rw [wS_len]; have : sizeLine = 16777216 := sizeLine_eq; omega, atI_nat (by rw [wS_codes, List.getElem?_map, hg]; rfl), q _ H' _ (bx.trans bx') (h3 _ (List.getElem_mem ..)) rfl⟩)⟩
/-- things of one kind, all with Ps -/
def AllOf (R : Rel α) (n : Nat) (Ps : α → Prop) : Hp → List V → Prop := fun G vs => ∃ xs, Paired (R.r G) vs xs ∧ xs.length = n ∧ ∀ x ∈ xs, Ps x
theorem ab_nilP : EvbA TT b tNil σ H (AllOf R 0 Ps) := fun N H1 _ e hx Q q => q [] H1 (.refl e.ok hx) ⟨[], .nil, rfl, fun x h => by simp at h⟩
theorem ab_consP {n : Nat} (h : Evb TT b ta σ H R Ps) (hr : EvbA TT b tr σ H (AllOf R n Ps)) : EvbA TT b (tCons ta tr) σ H (AllOf R (n + 1) Ps) := fun N H1 hb e hx Q q =>
  h N H1 hb e hx _ fun v H2 y e2 hy r => hr N H2 hb (e.bx e2) e2.box _ fun vs H3 e3 ⟨xs, h1, h2, h3⟩ => q _ H3 (e2.trans e3) ⟨y :: xs, .cons (e3.up r) h1, by rw [List.length_cons, h2], fun x hx => by
    rcases List.mem_cons.mp hx with z | z
    · rw [z]; exact hy
    · exact h3 x z⟩
theorem e_lstb {n : Nat} (h : EvbA TT b tr σ H (AllOf R n Ps)) (hn : n ≤ 100000) : Evb TT b (tLst tr) σ H (rL R) fun xs => xs.length = n ∧ ∀ x ∈ xs, Ps x := fun N H1 hb e hx Q q =>
  h N H1 hb e hx _ fun vs H2 e2 ⟨xs, h1, h2, h3⟩ => ⟨by rw [Paired.length h1, h2]; exact Nat.le_trans hn (by decide), fun p hp => q _ _ xs (e2.step (.new hp)) ⟨h2, h3⟩ ⟨p, vs, rfl, vis_new e2.ok hp, pr_st ((Es.new (T := TT) hp).vis e2.ok).kr h1⟩⟩
theorem e_takeb {n : Nat} (hi : σ[i]? = some (some (.ref b))) (h : Ev TT ta σ H rNat n) (h0 : 0 < n) (h1 : n ≤ 1000000) : Evb TT b (tCall (sp_law_take TT) [] E (tCons (tVar i) (tCons ta tNil))) σ H rNat fun i => i < n :=
  e_callB hi (ab_cons h.bx ab_nil) fun G vs ⟨v, r, y, e1, e2, r1, e3⟩ => ⟨n, ⟨v, by rw [e1, e3], by rw [← e2]; exact r1, h0, h1⟩, fun _ h => h⟩
end
/-- a table of n states -/
def TabOk (n : Nat) (t : List Nat) : Prop := t.length = n ∧ ∀ x ∈ t, x < n
theorem tab_of {n : Nat} {α : Type} {xs : List α} {ys : List Nat} (hl : xs.length = n) (h1 : ys.length = xs.length) (h2 : ∀ (i : Nat) (x : α) (y : Nat), xs[i]? = some x → ys[i]? = some y → y < n) : TabOk n ys := ⟨by omega, fun y hy => by
  obtain ⟨j, hj⟩ := List.getElem?_of_mem hy
  have hjl := (List.getElem?_eq_some_iff.mp hj).1
  exact h2 j _ y (List.getElem?_eq_getElem (by omega)) hj⟩
section
variable {P : Program} {w : World} {K : PySem.W.Frag} {mg : Str → Option Value} {base : Heap} {C : Addr} {TT : List (Addr × Str)}
def sp_law_falling (TT : List (Addr × Str)) : Sp := SpB TT (A1 rNat fun n => 1 ≤ n ∧ n ≤ 5) (rL rNat) TabOk
theorem ok_law_falling (T : Tx K mg C) : Cl P w K mg base 3 "_law_falling" (sp_law_falling TT) := by
  refine cl_spB T.d_law_falling sc_law_falling (fun G vs z h => by rw [A1.len G vs z h]; rfl) fun f cdv A outer s H vs E N b n hr hb ok hx h => ?_
  obtain ⟨v, rfl, hv, hn0, hn⟩ := h
  refine ⟨_, (pss_one (ps_ret (pe_lc (own := [("_law_s", 2)]) (g := (gName 2)) rfl sc_law_falling.nd (pi_range1 rfl T.f_range (pa_cons (pv 1) pa_nil)) (blkOk_by (own := [("_law_s", 2)]) (N := ["_law_box_here", "_law_many", "_law_s"]) (sc := defScope s_law_falling) (by decide +kernel)) (fun _ _ _ _ _ => (gn_ 2 sc_law_falling.nd)) (fun _ _ _ _ _ => pts_nil) (fun _ _ _ _ _ => (pe_cl (ok_law_pick (TT := TT) T) (hr.mono (by decide)) rfl (pa_cons (pv 0) (pa_cons (pe_lst (pa_cons (pv 2) (pa_cons (pe_callB (call_max2 rfl) rfl T.f_max bo_max (pa_cons pe_int (pa_cons (pe_op op_sub (pv 2) pe_int) pa_nil))) (pa_cons (pe_callB (call_max2 rfl) rfl T.f_max bo_max (pa_cons pe_int (pa_cons (pe_op op_sub (pv 2) pe_int) pa_nil))) (pa_cons (pe_cl (ok_law_take (TT := TT) T) (hr.mono (by decide)) rfl (pa_cons (pv 0) (pa_cons (pe_op op_add (pv 2) pe_int) pa_nil))) pa_nil))))) pa_nil))))))), fun Q q => ?_⟩
  refine q_retb hb ok hx (e_lcB (S := rNat) (Ps := fun s y => y < n) (i_rng1 (by omega) (e_var rfl hv)) (fun _ => rfl) (by rw [List.length_range]; omega) fun H1 v s e1 hs rs => ?_) fun v H' y bx hy r => q v H' y bx (tab_of (List.length_range) hy.1 hy.2) r
  rw [List.mem_range] at hs
  refine e_pickL (Pl := fun xs => xs.length = 4 ∧ ∀ x ∈ xs, x < n) rfl (e_lstb (ab_consP ((e_var rfl rs).bx.imp fun y hy => by rw [hy]; exact hs) (ab_consP ((Ev.natI (n := s - 1) (e_max2 (e_int 0) (e_op (e_var (R := rInt) (x := (s : Int)) rfl rs) (e_int 1) o_I0)) (by split <;> omega)).bx.imp fun y hy => by rw [hy]; omega) (ab_consP ((Ev.natI (n := s - 1) (e_max2 (e_int 0) (e_op (e_var (R := rInt) (x := (s : Int)) rfl rs) (e_int 1) o_I0)) (by split <;> omega)).bx.imp fun y hy => by rw [hy]; omega) (ab_consP ((e_takeb (n := s + 1) rfl (Ev.natI (e_op (e_var (R := rInt) (x := (s : Int)) rfl rs) (e_int 1) o_I0) (by omega)) (by omega) (by omega)).imp fun y hy => by omega) ab_nilP)))) (by decide)) fun xs h => ⟨by omega, by omega, h.2⟩
def sp_law_table (TT : List (Addr × Str)) : Sp := SpB TT (A1 rNat fun n => 1 ≤ n ∧ n ≤ 5) (rL rNat) TabOk
theorem ok_law_table (T : Tx K mg C) : Cl P w K mg base 4 "_law_table" (sp_law_table TT) := by
  refine cl_spB T.d_law_table sc_law_table (fun G vs z h => by rw [A1.len G vs z h]; rfl) fun f cdv A outer s H vs E N b n hr hb ok hx h => ?_
  obtain ⟨v, rfl, hv, hn0, hn⟩ := h
  refine ⟨_, (pss_cons (st_ 2 sc_law_table.nd (pe_cl (ok_law_take (TT := TT) T) (hr.mono (by decide)) rfl (pa_cons (pv 0) (pa_cons pe_int pa_nil))))
(pss_cons (ps_if (pt_cmpR op_lt (pv 2) pe_int (nomark _))
(pss_one (ps_ret (pe_cl (ok_law_falling (TT := TT) T) (hr.mono (by decide)) rfl (pa_cons (pv 0) (pa_cons (pv 1) pa_nil)))))
pss_nil)
(pss_cons (ps_if (pt_cmpR op_eq (pv 2) pe_int (nomark _))
(pss_one (ps_ret (pe_lc (own := [("_law_s", 3)]) (g := (gName 3)) rfl sc_law_table.nd (pi_range1 rfl T.f_range (pa_cons (pv 1) pa_nil)) (blkOk_by (own := [("_law_s", 3)]) (N := ["_law_box_here", "_law_many", "_law_style", "_law_s"]) (sc := defScope s_law_table) (by decide +kernel)) (fun _ _ _ _ _ => (gn_ 3 sc_law_table.nd)) (fun _ _ _ _ _ => pts_nil) (fun _ _ _ _ _ => (pe_op op_mod (pe_callTy call_int1 rfl T.f_int bo_int (pa_cons (pe_op op_add (pv 3) pe_int) pa_nil)) (pv 1))))))
pss_nil)
(pss_cons (ps_if (pt_cmpR op_lt (pv 2) pe_int (nomark _))
(pss_one (ps_ret (pe_lc (own := [("_law_s", 3)]) (g := (gName 3)) rfl sc_law_table.nd (pi_range1 rfl T.f_range (pa_cons (pv 1) pa_nil)) (blkOk_by (own := [("_law_s", 3)]) (N := ["_law_box_here", "_law_many", "_law_style", "_law_s"]) (sc := defScope s_law_table) (by decide +kernel)) (fun _ _ _ _ _ => (gn_ 3 sc_law_table.nd)) (fun _ _ _ _ _ => pts_nil) (fun _ _ _ _ _ => (pe_cl (ok_law_pick (TT := TT) T) (hr.mono (by decide)) rfl (pa_cons (pv 0) (pa_cons (pe_lst (pa_cons (pv 3) (pa_cons (pv 3) (pa_cons (pe_cl (ok_law_take (TT := TT) T) (hr.mono (by decide)) rfl (pa_cons (pv 0) (pa_cons (pv 1) pa_nil))) pa_nil)))) pa_nil)))))))
pss_nil)
(pss_one (ps_ret (pe_lc (own := [("_law_s", 3)]) (g := (gName 3)) rfl sc_law_table.nd (pi_range1 rfl T.f_range (pa_cons (pv 1) pa_nil)) (blkOk_by (own := [("_law_s", 3)]) (N := ["_law_box_here", "_law_many", "_law_style", "_law_s"]) (sc := defScope s_law_table) (by decide +kernel)) (fun _ _ _ _ _ => (gn_ 3 sc_law_table.nd)) (fun _ _ _ _ _ => pts_nil) (fun _ _ _ _ _ => (pe_cl (ok_law_take (TT := TT) T) (hr.mono (by decide)) rfl (pa_cons (pv 0) (pa_cons (pv 1) pa_nil))))))))))), fun Q q => ?_⟩
  refine q_setb hb ok hx (e_takeb (n := 7) rfl (e_nat 7) (by decide) (by decide)) fun sv H1 st bx1 _ rs => ?_
  have hv1 := bx1.up hv
  refine q_if (T := TT) (b := decide ((st : Int) < 3)) bx1.ok (t_of (e_op (e_var (R := rInt) rfl rs) (e_int 3) o_B0)) (fun _ H2 e2 => ?_) fun _ H2 e2 => ?_
  · have bx2 := bx1.step e2
    exact q_retb (T := TT) hb bx2.ok bx2.box (e_callB (Post := TabOk n) rfl (ab_cons (e_var (R := rNat) (x := n) rfl (bx2.up hv)).bx ab_nil) fun G vs ⟨v, r, y, e1, e2, r1, e3⟩ => ⟨n, ⟨v, by rw [e1, e3], by rw [← e2]; exact r1, hn0, hn⟩, fun _ h => h⟩) fun v H' y bx hy r => q v H' y (bx2.trans bx) hy r
  have bx2 := bx1.step e2
  have rs2 := Rel.up rs bx1.ok e2
  refine q_if (T := TT) (b := decide ((st : Int) = 3)) bx2.ok (t_of (e_op (e_var (R := rInt) rfl rs2) (e_int 3) o_eqI)) (fun _ H3 e3 => ?_) fun _ H3 e3 => ?_
  · have bx3 := bx2.step e3
    refine q_ret (T := TT) (R := rL rNat) (x := ((List.range n).filter fun _ => true).map fun s => (s + 1) % n) bx3.ok (e_lc (S := rNat) (i_rng1 (by omega) (e_var rfl (bx3.up hv))) (fun _ => rfl) (by rw [List.length_range]; omega) fun H4 v4 s4 e4 hs4 rs4 => ⟨t_yes, fun _ => Ev.natI (e_op (e_intC (e_op (e_var (R := rInt) (x := (s4 : Int)) rfl rs4) (e_int 1) o_I0)) (e_var (R := rInt) (x := (n : Int)) rfl (Rel.es (R := rNat) (bx3.up hv) e4)) (o_I (by show (0 : Int) < (n : Int); omega))) ?_⟩) fun v' H' e r => q v' H' _ (bx3.step e) ?_ r
    · show ((s4 : Int) + 1) % (n : Int) = (((s4 + 1) % n : Nat) : Int)
      rw [Int.natCast_emod]
      rfl
    · rw [filt_true]
      refine ⟨by rw [List.length_map, List.length_range], fun x hx => ?_⟩
      obtain ⟨a, _, rfl⟩ := List.mem_map.mp hx
      exact Nat.mod_lt _ (by omega)
  have bx3 := bx2.step e3
  have rs3 := Rel.up rs2 bx2.ok e3
  refine q_if (T := TT) (b := decide ((st : Int) < 6)) bx3.ok (t_of (e_op (e_var (R := rInt) rfl rs3) (e_int 6) o_B0)) (fun _ H4 e4 => ?_) fun _ H4 e4 => ?_
  · have bx4 := bx3.step e4
    refine q_retb (T := TT) hb bx4.ok bx4.box (e_lcB (S := rNat) (Ps := fun s y => y < n) (i_rng1 (by omega) (e_var rfl (bx4.up hv))) (fun _ => rfl) (by rw [List.length_range]; omega) fun H5 v5 s5 e5 hs5 rs5 => ?_) fun v H' y bx hy r => q v H' y (bx4.trans bx) (tab_of (List.length_range) hy.1 hy.2) r
    rw [List.mem_range] at hs5
    exact e_pickL (Pl := fun xs => xs.length = 3 ∧ ∀ x ∈ xs, x < n) rfl (e_lstb (ab_consP ((e_var rfl rs5).bx.imp fun y hy => by rw [hy]; exact hs5) (ab_consP ((e_var rfl rs5).bx.imp fun y hy => by rw [hy]; exact hs5) (ab_consP ((e_takeb (n := n) rfl (e_var rfl (Rel.es (R := rNat) (bx4.up hv) e5)) (by omega) (by omega)).imp fun y hy => hy) ab_nilP))) (by decide)) fun xs h => ⟨by omega, by omega, h.2⟩
  · have bx4 := bx3.step e4
    exact q_retb (T := TT) hb bx4.ok bx4.box (e_lcB (S := rNat) (Ps := fun s y => y < n) (i_rng1 (by omega) (e_var rfl (bx4.up hv))) (fun _ => rfl) (by rw [List.length_range]; omega) fun H5 v5 s5 e5 hs5 rs5 => e_takeb (n := n) rfl (e_var rfl (Rel.es (R := rNat) (bx4.up hv) e5)) (by omega) (by omega)) fun v H' y bx hy r => q v H' y (bx4.trans bx) (tab_of (List.length_range) hy.1 hy.2) r
end


end K29
set_option autoImplicit false
set_option maxHeartbeats 4000000
namespace K29
open PySem PySem.Spec PyProof.Rows L2
/-! The walks, 18: names, lots. -/
section
variable {P : Program} {w : World} {K : PySem.W.Frag} {mg : Str → Option Value} {base : Heap} {C : Addr} {TT : List (Addr × Str)}
theorem e_index {σ : L2.St} {H : Hp} {ta te : TE} {xs : List Nat} {s j : Nat} (h1 : Ev TT ta σ H (rL rNat) xs) (h2 : Ev TT te σ H rNat s) (hj : xs[j]? = some s) (hn : ∀ (m z : Nat), m < j → xs[m]? = some z → z ≠ s) : Ev TT (tBM K "list" (rIndex K) ta (tCons te tNil)) σ H rNat j := fun N H1 e Q q =>
  h1 N H1 e _ fun v H2 e2 ⟨p, vs, hv, hp, hr⟩ => by
    cases nat_vs hr
    subst hv
    refine ⟨.inl ⟨rfl, _, SqL.of (vis_sub hp)⟩, h2 N H2 (e.step e2) _ fun u H3 e3 ru => ?_⟩
    have ru : u = .int (s : Int) := ru
    subst ru
    refine ⟨p, _, _, j, .int (s : Int), rfl, rfl, SqL.of (e3.lst (vis_sub hp)), rfl, flat_nat xs, by rw [List.getElem?_map, hj]; rfl, ?_, fun m z hm hz => ?_, q _ H3 (e2.trans e3) rfl⟩
    · show ((s : Int) == (s : Int)) = true
      simp
    · rw [List.getElem?_map] at hz
      cases hx : xs[m]? with
      | none => rw [hx] at hz; cases hz
      | some y =>
        rw [hx] at hz
        cases hz
        have := hn m y hm hx
        show ((y : Int) == (s : Int)) = false
        simp; omega
/-- the name of state i -/
def nmF (n turn back i : Nat) : Nat := if back = 0 then (turn + i) % n else (turn + n - 1 - i) % n
theorem nm_sur {n turn back s : Nat} (h1 : 1 ≤ n) (h5 : n ≤ 5) (hs : s < n) : s ∈ (List.range n).map (nmF n turn back) := by
  have key : ∀ n t s : Fin 6, t.1 < n.1 → s.1 < n.1 → ∃ i : Fin 6, i.1 < n.1 ∧ (t.1 + i.1) % n.1 = s.1 := by decide +kernel
  obtain ⟨i, hi, e⟩ := key ⟨n, by omega⟩ ⟨turn % n, by have := Nat.mod_lt turn h1; omega⟩ ⟨s, by omega⟩ (Nat.mod_lt turn h1) hs
  have e : (turn % n + i.1) % n = s := e
  have hi : i.1 < n := hi
  rw [List.mem_map]
  by_cases hb : back = 0
  · refine ⟨i.1, List.mem_range.mpr hi, ?_⟩
    unfold nmF
    rw [if_pos hb, ← e, Nat.mod_add_mod]
  · refine ⟨n - 1 - i.1, List.mem_range.mpr (by omega), ?_⟩
    unfold nmF
    rw [if_neg hb, show turn + n - 1 - (n - 1 - i.1) = turn + i.1 by omega, ← e, Nat.mod_add_mod]
def sp_law_named (TT : List (Addr × Str)) : Sp := SpG TT (A3 (rL rNat) rNat rNat fun t turn back => 1 ≤ t.length ∧ t.length ≤ 5 ∧ ∀ x ∈ t, x < t.length) (rL rNat) fun z y => TabOk z.1.length y
theorem ok_law_named (T : Tx K mg C) : Cl P w K mg base 1 "_law_named" (sp_law_named TT) := by
  refine cl_spG T.d_law_named sc_law_named A3.len fun f cdv A outer s H vs E M z hr ok h => ?_
  obtain ⟨v1, v2, v3, rfl, r1, r2, r3, h1, h5, ht⟩ := h
  obtain ⟨t, turn, back⟩ := z
  have h1 : 1 ≤ t.length := h1
  have h5 : t.length ≤ 5 := h5
  have ht : ∀ x ∈ t, x < t.length := ht
  refine ⟨_, (pss_cons (st_ 3 sc_law_named.nd (pe_callB (wLen K) rfl T.f_len bo_len (pa_cons (pv 0) pa_nil)))
(pss_cons (st_ 4 sc_law_named.nd (pe_lc (own := [("_law_s", 5)]) (g := (gName 5)) rfl sc_law_named.nd (pi_range1 rfl T.f_range (pa_cons (pv 3) pa_nil)) (blkOk_by (own := [("_law_s", 5)]) (N := ["_law_table_here", "_law_turn", "_law_back", "_law_many", "_law_name", "_law_s"]) (sc := defScope s_law_named) (by decide +kernel)) (fun _ _ _ _ _ => (gn_ 5 sc_law_named.nd)) (fun _ _ _ _ _ => pts_nil) (fun _ _ _ _ _ => (pe_ifExp (pt_cmpR op_eq (pv 2) pe_int (nomark _)) (pe_op op_mod (pe_callTy call_int1 rfl T.f_int bo_int (pa_cons (pe_op op_add (pv 1) (pv 5)) pa_nil)) (pv 3)) (pe_op op_mod (pe_callTy call_int1 rfl T.f_int bo_int (pa_cons (pe_op op_sub (pe_op op_sub (pe_op op_add (pv 1) (pv 3)) pe_int) (pv 5)) pa_nil)) (pv 3))))))
(pss_one (ps_ret (pe_lc (own := [("_law_s", 5)]) (g := (gName 5)) rfl sc_law_named.nd (pi_range1 rfl T.f_range (pa_cons (pv 3) pa_nil)) (blkOk_by (own := [("_law_s", 5)]) (N := ["_law_table_here", "_law_turn", "_law_back", "_law_many", "_law_name", "_law_s"]) (sc := defScope s_law_named) (by decide +kernel)) (fun _ _ _ _ _ => (gn_ 5 sc_law_named.nd)) (fun _ _ _ _ _ => pts_nil) (fun _ _ _ _ _ => (pe_ix (wIxL K) (pv 4) (pe_ix (wIxL K) (pv 0) (wBm (K := K) PySem.F.plainAttrs_list PySem.F.slot_list_index PySem.F.type_list_index (wIndex K) (pv 4) (pa_cons (pv 5) pa_nil)) (fun _ _ => rfl)) (fun _ _ => rfl)))))))), fun Q q => ?_⟩
  refine q_set (T := TT) (R := rNat) (x := t.length) ok (e_lenL (e_var rfl r1)) fun nv H1 e1 rn => ?_
  have ok1 := ok.step e1
  have rt1 := Rel.up r2 ok e1
  have rb1 := Rel.up r3 ok e1
  refine q_set (T := TT) (R := rL rNat) (x := ((List.range t.length).filter fun _ => true).map (nmF t.length turn back)) ok1 (e_lc (S := rNat) (i_rng1 (by omega) (e_var rfl rn)) (fun _ => rfl) (by rw [List.length_range]; omega) fun H2 v s e hs rs => ⟨t_yes, fun _ => ?_⟩) fun lv H2 e2 rl => ?_
  · rw [List.mem_range] at hs
    have eT : Ev TT (tVar 1) [some v1, some v2, some v3, some nv, none, some v] H2 rInt (turn : Int) := e_var (R := rInt) rfl (Rel.es (R := rNat) rt1 e)
    have eN : Ev TT (tVar 3) [some v1, some v2, some v3, some nv, none, some v] H2 rInt (t.length : Int) := e_var (R := rInt) rfl (Rel.es (R := rNat) rn e)
    refine e_if (b := decide ((back : Int) = 0)) (t_of (e_op (e_var (R := rInt) rfl (Rel.es (R := rNat) rb1 e)) (e_int 0) o_eqI)) (fun hb => ?_) fun hb => ?_
    · have hb0 : back = 0 := by have := of_decide_eq_true hb; omega
      refine Ev.natI (e_op (e_intC (e_op eT (e_var (R := rInt) (x := (s : Int)) rfl rs) o_I0)) eN (o_I (by show (0 : Int) < (t.length : Int); omega))) ?_
      unfold nmF
      rw [if_pos hb0, Int.natCast_emod]
      rfl
    · have hb0 : ¬ back = 0 := fun z => of_decide_eq_false hb (by rw [z]; rfl)
      refine Ev.natI (e_op (e_intC (e_op (e_op (e_op eT eN o_I0) (e_int 1) o_I0) (e_var (R := rInt) (x := (s : Int)) rfl rs) o_I0)) eN (o_I (by show (0 : Int) < (t.length : Int); omega))) ?_
      unfold nmF
      rw [if_neg hb0, Int.natCast_emod]
      congr 1
      omega
  · rw [filt_true] at rl
    have ok2 := ok1.step e2
    have rn2 := Rel.up rn ok1 e2
    have rt2 := Rel.up (Rel.up r1 ok e1) ok1 e2
    have hnl : ((List.range t.length).map (nmF t.length turn back)).length = t.length := by rw [List.length_map, List.length_range]
    have hnlt : ∀ x ∈ (List.range t.length).map (nmF t.length turn back), x < t.length := fun x hx => by
      obtain ⟨i, _, rfl⟩ := List.mem_map.mp hx
      unfold nmF
      split <;> exact Nat.mod_lt _ h1
    generalize hnm : (List.range t.length).map (nmF t.length turn back) = nm at rl hnl hnlt
    have hsur : ∀ s, s < t.length → s ∈ nm := fun s hs => by rw [← hnm]; exact nm_sur h1 h5 hs
    refine q_ret (T := TT) (R := rL rNat) (x := ((List.range t.length).filter fun _ => true).map fun s => nm.getD (t.getD (nm.findIdx fun x => decide (x = s)) 0) 0) ok2 (e_lc (S := rNat) (i_rng1 (by omega) (e_var rfl rn2)) (fun _ => rfl) (by rw [List.length_range]; omega) fun H3 v s e hs rs => ⟨t_yes, fun _ => ?_⟩) fun v' H' e r => q v' H' _ ((e1.trans e2).trans e) ?_ r
    · rw [List.mem_range] at hs
      have hex : ∃ x ∈ nm, (fun x => decide (x = s)) x = true := ⟨s, hsur s hs, by simp⟩
      have hj := List.findIdx_lt_length_of_exists hex
      have hget : nm[nm.findIdx fun x => decide (x = s)]? = some s := by
        rw [List.getElem?_eq_getElem hj]
        have := List.findIdx_getElem (xs := nm) (p := fun x => decide (x = s)) (w := hj)
        rw [of_decide_eq_true this]
      have htl : (nm.findIdx fun x => decide (x = s)) < t.length := by omega
      have hx : t.getD (nm.findIdx fun x => decide (x = s)) 0 < nm.length := by rw [hnl]; exact ht _ (getDl_mem htl)
      exact e_op (e_var rfl (Rel.es (R := rL rNat) rl e)) (e_op (e_var rfl (Rel.es (R := rL rNat) rt2 e)) (e_index (e_var rfl (Rel.es (R := rL rNat) rl e)) (e_var rfl rs) hget fun m z hm hz => by
        have h7 := List.not_of_lt_findIdx hm
        obtain ⟨h8, h9⟩ := List.getElem?_eq_some_iff.mp hz
        intro e
        rw [h9, e] at h7
        simp at h7).int (o_ixL (atI_of (d := 0) htl))).int (o_ixL (atI_of (d := 0) hx))
    · rw [filt_true]
      refine ⟨by rw [List.length_map, List.length_range], fun x hx => ?_⟩
      obtain ⟨s, hs, rfl⟩ := List.mem_map.mp hx
      rw [List.mem_range] at hs
      have hex : ∃ x ∈ nm, (fun x => decide (x = s)) x = true := ⟨s, hsur s hs, by simp⟩
      have hj := List.findIdx_lt_length_of_exists hex
      exact hnlt _ (getDl_mem (by rw [hnl]; exact ht _ (getDl_mem (by omega))))
end


end K29
set_option autoImplicit false
set_option maxHeartbeats 4000000
namespace K29
open PySem PySem.Spec PyProof.Rows L2
/-! The walks, 19: lots. -/
section
variable {P : Program} {w : World} {K : PySem.W.Frag} {mg : Str → Option Value} {base : Heap} {C : Addr} {TT : List (Addr × Str)}
def lotsAt : Nat → List Wd
  | 0 => [[]]
  | j + 1 => lotsAt j ++ (lotsAt j).map fun l => l ++ [j]
def LotOk (k : Nat) (l : Wd) : Prop := l ≠ [] ∧ l = (List.range k).filter fun c => decide (c ∈ l)
instance (k : Nat) (l : Wd) : Decidable (LotOk k l) := by unfold LotOk; infer_instance
theorem lots_ok (k : Nat) (h : k ≤ 3) : (∀ l ∈ (lotsAt k).filter fun l => !decide (l = []), LotOk k l) ∧ (1 ≤ k → 0 < ((lotsAt k).filter fun l => !decide (l = [])).length) ∧ ((lotsAt k).filter fun l => !decide (l = [])).length ≤ 7 := by
  have : ∀ m : Fin 4, (∀ l ∈ (lotsAt m.1).filter fun l => !decide (l = []), LotOk m.1 l) ∧ (1 ≤ m.1 → 0 < ((lotsAt m.1).filter fun l => !decide (l = [])).length) ∧ ((lotsAt m.1).filter fun l => !decide (l = [])).length ≤ 7 := by decide +kernel
  exact this ⟨k, by omega⟩
theorem pull_words {Pp : Wd → Prop} : ∀ {ys : List Str}, (∀ y ∈ ys, ∃ l, Pp l ∧ y = wS l) → ∃ ls : List Wd, ys = ls.map wS ∧ ∀ l ∈ ls, Pp l
  | [], _ => ⟨[], rfl, fun _ h => by simp at h⟩
  | y :: ys, h => by
    obtain ⟨l, h1, h2⟩ := h y (List.mem_cons_self ..)
    obtain ⟨ls, h3, h4⟩ := pull_words (ys := ys) fun z hz => h z (List.mem_cons_of_mem _ hz)
    refine ⟨l :: ls, by rw [h2, h3]; rfl, fun m hm => ?_⟩
    rcases List.mem_cons.mp hm with z | z
    · rw [z]; exact h1
    · exact h4 m z
theorem e_sortedWs {σ : L2.St} {H : Hp} {ta : TE} {l : List Wd} (h : Ev TT ta σ H (rL rW) l) (hl : l.length < 64) : Evp TT (tCB (rSortedS K) (tCons ta tNil)) σ H (rL rW) fun m => m.length = l.length ∧ ∀ x ∈ m, x ∈ l := fun N H1 e Q q =>
  h N H1 e _ fun v H2 e2 ⟨p, vs, hv, hp, hr⟩ => by
    cases word_vs hr
    subst hv
    refine ⟨p, l.map wS, rfl, by rw [List.map_map]; exact SqL.of (vis_sub hp), by rw [List.length_map]; exact hl, fun ys p2 hpm _ hn => ?_⟩
    obtain ⟨ls, h1, h2⟩ := pull_words (Pp := fun x => x ∈ l) (ys := ys) fun y hy => by
      obtain ⟨x, hx, e⟩ := List.mem_map.mp (hpm.mem_iff.mp hy)
      exact ⟨x, hx, e.symm⟩
    have hlen : ls.length = l.length := by
      have := hpm.length_eq
      rw [h1, List.length_map, List.length_map] at this
      exact this
    refine q _ _ ls (e2.put hn) ⟨hlen, h2⟩ ⟨p2, _, rfl, vis_new (e.step e2).ok hn, ?_⟩
    rw [h1, List.map_map]
    exact pr_of (g := fun m : Wd => V.str (wS m)) ls
def sp_law_lots (TT : List (Addr × Str)) : Sp := SpG TT (A1 rW fun s => 1 ≤ s.length ∧ s.length ≤ 3 ∧ s = List.range s.length) (rL rW) fun s y => 0 < y.length ∧ y.length ≤ 7 ∧ ∀ l ∈ y, LotOk s.length l
theorem ok_law_lots (T : Tx K mg C) : Cl P w K mg base 1 "_law_lots" (sp_law_lots TT) := by
  refine cl_spG T.d_law_lots sc_law_lots A1.len fun f cdv A outer s0 H vs E M s hr ok h => ?_
  obtain ⟨v, rfl, hv, h1, h3, hs⟩ := h
  refine ⟨_, (pss_cons (st_ 1 sc_law_lots.nd (pe_lst (pa_cons pe_str pa_nil)))
(pss_cons (ps_for PassesOwn.never rfl (pi_str (pv 0)) (gn_ 2 sc_law_lots.nd)
(pss_one (st_ 1 sc_law_lots.nd (pe_op op_cat (pv 1) (pe_lc (own := [("_law_lot", 3)]) (g := (gName 3)) rfl sc_law_lots.nd (wList K (pv 1)) (blkOk_by (own := [("_law_lot", 3)]) (N := ["_law_signals", "_law_found", "_law_signal", "_law_lot"]) (sc := defScope s_law_lots) (by decide +kernel)) (fun _ _ _ _ _ => (gn_ 3 sc_law_lots.nd)) (fun _ _ _ _ _ => pts_nil) (fun _ _ _ _ _ => (pe_op op_add_str (pv 3) (pv 2))))))))
(pss_one (ps_ret (pe_callB cr_sortedS rfl T.f_sorted bo_sorted (pa_cons (pe_lc (own := [("_law_lot", 3)]) (g := (gName 3)) rfl sc_law_lots.nd (wList K (pv 1)) (blkOk_by (own := [("_law_lot", 3)]) (N := ["_law_signals", "_law_found", "_law_signal", "_law_lot"]) (sc := defScope s_law_lots) (by decide +kernel)) (fun _ _ _ _ _ => (gn_ 3 sc_law_lots.nd)) (fun _ _ _ _ _ => (pts_one (pt_cmpR op_ne (pv 3) pe_str (nomark _)))) (fun _ _ _ _ _ => (pv 3))) pa_nil)))))), fun Q q => ?_⟩
  refine q_set (T := TT) (R := rL rW) (x := [[]]) ok (e_lst (a_consP (e_c rfl) a_nilP) (by decide)) fun fv H1 e1 rf => ?_
  have ok1 := ok.step e1
  refine q_for (T := TT) ok1 (i_word (e_var rfl (Rel.up hv ok e1))) fun H3 e3 => ?_
  have ok3 := ok1.step e3
  have hlen : ∀ k : Nat, k ≤ 3 → (lotsAt k).length ≤ 8 ∧ ∀ l ∈ lotsAt k, l.length ≤ 3 := fun k hk => by
    have : ∀ m : Fin 4, (lotsAt m.1).length ≤ 8 ∧ ∀ l ∈ lotsAt m.1, l.length ≤ 3 := by decide +kernel
    exact this ⟨k, by omega⟩
  refine ⟨fun j σ' G => ∃ (fv : V) (o2 o3 : Option V), σ' = [some v, some fv, o2, o3] ∧ Hd TT M H3 [] G ∧ (rL rW).r (vis M G) fv (lotsAt j), ⟨fv, none, none, rfl, .start ok3, Rel.up rf ok1 e3⟩, fun j σ' G ⟨_, _, _, _, hh, _⟩ => ⟨_, hh.at_⟩, ?_, ?_⟩
  · rintro j x c σ' G0 G hj hjc ⟨fv, o2, o3, rfl, hh0, rf⟩ e0 rx
    have hk : j = c := by
      rw [hs, List.getElem?_range hj] at hjc
      exact Option.some.inj hjc
    subst hk
    have rc := rx _ hh0.at_
    have hh := hh0.step e0
    have rf2 := Rel.up rf hh0.okm e0
    have hl := hlen j (by omega)
    refine q_set (T := TT) (R := rL rW) (x := lotsAt (j + 1)) hh.okm (Ev.to (e_op (e_var rfl rf2) (e_lc (R := rW) (S := rW) (xs := lotsAt j) (f := fun l => l ++ [j]) (p := fun _ => true) (i_list (e_var rfl rf2)) (fun _ => rfl) (by omega) fun H4 v4 l e4 hl4 r4 => ⟨t_yes, fun _ => e_op (e_var rfl r4) (e_var (R := rLt) (x := j) rfl (Rel.es (R := rLt) rc e4)).word (o_addW (by have := hl.2 l hl4; simp; omega))⟩) (o_cat ?_)) ?_) fun fv2 G2 e2 rf3 => ⟨fv2, _, _, rfl, hh.step e2, rf3⟩
    · rw [filt_true, List.length_map]
      omega
    · rw [filt_true]
      rfl
  · rintro σ' G ⟨fv, o2, o3, rfl, hh, rf⟩
    have hl := hlen s.length h3
    have hk := lots_ok s.length h3
    refine q_retp (T := TT) (R := rL rW) (Post := fun m => m.length = ((lotsAt s.length).filter fun l => !decide (l = [])).length ∧ ∀ x ∈ m, x ∈ (lotsAt s.length).filter fun l => !decide (l = [])) hh.okm (e_sortedWs (Ev.to (e_lc (R := rW) (S := rW) (f := id) (p := fun l => !decide (l = [])) (i_list (e_var rfl rf)) (fun _ => rfl) (by omega) fun H4 v4 l e4 hl4 r4 => ⟨t_of (e_op (e_var rfl r4) (e_c (R := rW) (x := []) rfl) o_neW), fun _ => e_var rfl r4⟩) (List.map_id _)) (by have := hk.2.2; omega)) fun v' H' y e hy r => q v' H' y (((e1.trans e3).trans hh.es).trans e) ⟨by rw [hy.1]; exact hk.2.1 h1, by rw [hy.1]; exact hk.2.2, fun l hl => hk.1 l (hy.2 l hl)⟩ r
end


end K29
set_option autoImplicit false
set_option maxHeartbeats 4000000
namespace K29
open PySem PySem.Spec PyProof.Rows L2
/-! The walks, 20: the tables of a device. -/
section
variable {T : List (Addr × Str)} {K : PySem.W.Frag} {α β γ δ : Type} {σ : L2.St} {H H0 H1 : Hp} {N : List Addr} {R : Rel α} {R1 : Rel β} {R2 : Rel γ} {S : Rel δ} {ta tb tc te : TE} {tr : TA} {i j l : Nat} {D : Ends} {b p : Addr} {P1 : α → Prop} {P2 : β → Prop} {P3 : γ → Prop} {Ps : δ → Prop}
theorem q_tup3b (hb : b ∈ N) (ok : Nok N H) (hx : IsBox H b) (h1 : Evb T b ta σ (vis N H) R P1) (h2 : Evb T b tb σ (vis N H) R1 P2) (h3 : Evb T b tc σ (vis N H) R2 P3)
    (k : ∀ u v w x y z H', Bx T N b H H' → P1 x → P2 y → P3 z → R.r (vis N H') u x → R1.r (vis N H') v y → R2.r (vis N H') w z → D.nx (((σ.set i (some u)).set j (some v)).set l (some w)) H') :
    tAsg (tTup (tCons ta (tCons tb (tCons tc tNil)))) (gTup K 3 (gCons (gName i) (gCons (gName j) (gCons (gName l) gNil)))) D σ H := by
  unfold tAsg tTup
  refine (ab_cons h1 (ab_cons h2 (ab_cons h3 ab_nil))) N H hb (.self ok) hx _ fun vs H1 bx ⟨u, _, x, e1, p1, r1, v, _, y, e2, p2, r2, w, _, z, e3, p3, r3, e4⟩ => ?_
  subst e4
  subst e3
  subst e2
  subst e1
  exact ⟨by show 3 ≤ sizeLine; decide, fun p hp => ⟨p, [u, v, w], rfl, SqT.of upd_same, rfl, u, _, rfl, v, _, rfl, w, [], rfl, rfl, k u v w x y z _ (bx.step (.new hp)) p1 p2 p3 (Rel.up r1 bx.ok (Es.new (T := T) hp)) (Rel.up r2 bx.ok (Es.new (T := T) hp)) (Rel.up r3 bx.ok (Es.new (T := T) hp))⟩⟩
theorem ib_rng1 {Pn : Nat → Prop} (hb : b ∈ N) (ok : Nok N H) (hx : IsBox H b) (h : Evb T b te σ (vis N H) rNat Pn) (hn : ∀ n, Pn n → n ≤ 1000000) : EvIb T b (iRng1 (tCons te tNil)) σ N H rNat fun xs => ∃ n, Pn n ∧ xs = List.range n := fun Q q =>
  h N H hb (.self ok) hx _ fun v H2 n bx pn r => show iRng1 (tCons (tC v) tNil) σ H2 Q from i_rng1 (T := T) (hn n pn) (e_c (R := rNat) (x := n) r) N H2 (.self bx.ok) Q fun J H3 G Y e3 gs w hy => q _ J H3 G Y (bx.step e3) ⟨n, pn, rfl⟩ gs w hy
theorem e_callxb {A : Hp → List V → β → Prop} {Pq : β → δ → Prop} {E : XK} {P : Hp → List V → Prop} (h : EvbA T b tr σ H P) (hr : ∀ G vs, P G vs → ∃ z, A G vs z ∧ ∀ y, Pq z y → Ps y) : Evb T b (tCall (SpG T A S Pq) [] E tr) σ H S Ps := fun N H1 hb e hx Q q =>
  h N H1 hb e hx _ fun vs H2 e2 p => by
    show SpG T A S Pq (vs ++ []) H2 Q E
    rw [List.append_nil]
    obtain ⟨z, ha, hp⟩ := hr _ vs p
    exact ⟨N, z, e2.ok, ha, fun v H3 y e3 hy r3 => q v H3 y (e2.step e3) (hp y hy) r3⟩
/-- a list that was not there at H is written -/
theorem Bx.mut {o o' : HO} (a : Bx T N b H H1) (hp : p ∉ N) (hf : ∀ o, H p = some o → ∃ ps, o = .tbl ps) (ho : H1 p = some o') (k : Ok o') (hb : b ∈ N) : Bx T N b H (upd H1 p o) := by
  have nb : ∀ n ∈ N, n ≠ p := fun n hn z => hp (by rw [← z]; exact hn)
  refine ⟨⟨fun n hn => by rw [upd_ne (nb n hn)]; exact a.ok n hn, ?_⟩, fun n hn q => by rw [upd_ne (nb n hn)]; exact a.same n hn q, let ⟨g, r, z⟩ := a.box; ⟨g, r, by rw [upd_ne (nb b hb)]; exact z⟩⟩
  rw [vis_upd hp]
  have hov : vis N H1 p = some o' := vis_open ho hp
  refine ⟨fun c u h q => ?_, fun t x hx => ?_⟩
  · rw [upd_ne fun z => by
      rw [z] at h
      obtain ⟨ps, e⟩ := hf u (vis_sub h)
      exact q ps e]
    exact a.at_.e.k c u h q
  · obtain ⟨ps, h1, h2, h3⟩ := a.at_.e.t t x hx
    refine ⟨ps, ?_, h2, fun pos cv hc => ?_⟩
    · rw [upd_ne fun z => k.a ps (Option.some.inj (hov.symm.trans (by rw [← z]; exact h1)))]
      exact h1
    · obtain ⟨c, e1, e2⟩ := h3 pos cv hc
      refine ⟨c, e1, ?_⟩
      rw [upd_ne fun z => k.b _ _ (Option.some.inj (hov.symm.trans (by rw [← z]; exact e2)))]
      exact e2
/-- rows stand at other places than the list of them -/
theorem row_upd {v u : V} {t : List Nat} {vs : List V} {o : HO} {a : Addr} (h : (rL rNat).r H v t) (hp : H p = some (.lst vs)) (hv : vs.head? = some (.ref a)) : (rL rNat).r (upd H p o) v t := by
  obtain ⟨q, us, rfl, h2, h3⟩ := h
  have hne : q ≠ p := fun z => by
    rw [z, hp] at h2
    cases h2
    cases h3 with
    | nil => cases hv
    | cons r _ =>
      cases hv
      cases r
  exact ⟨q, us, rfl, by rw [upd_ne hne]; exact h2, Paired.mapP h3 fun _ _ h => h⟩
theorem pr_setAt {F : V → α → Prop} {v : V} {x : α} : ∀ {vs : List V} {xs : List α} (k : Nat), Paired F vs xs → F v x → Paired F (vs.set k v) (xs.set k x)
  | _, _, _, .nil, _ => .nil
  | _, _, 0, .cons _ t, h => .cons h t
  | _, _, k + 1, .cons r t, h => .cons r (pr_setAt k t h)
end
section
variable {P : Program} {w : World} {K : PySem.W.Frag} {mg : Str → Option Value} {base : Heap} {C : Addr} {TT : List (Addr × Str)}
def TabsOk (L : List (List Nat)) : Prop := ∃ n, 3 ≤ n ∧ n ≤ 5 ∧ 1 ≤ L.length ∧ L.length ≤ 2 ∧ ∀ t ∈ L, TabOk n t
def sp_law_tables (TT : List (Addr × Str)) : Sp := SpB TT (A2 (rL rNat) (rL rNat) fun ss ks => 0 < ss.length ∧ ss.length ≤ 1000 ∧ (∀ s ∈ ss, 3 ≤ s ∧ s ≤ 5) ∧ 0 < ks.length ∧ ks.length ≤ 1000 ∧ ∀ s ∈ ks, 1 ≤ s ∧ s ≤ 2) (rL (rL rNat)) fun _ L => TabsOk L
theorem ok_law_tables (T : Tx K mg C) : Cl P w K mg base 5 "_law_tables" (sp_law_tables TT) := by
  refine cl_spB T.d_law_tables sc_law_tables (fun G vs z h => by rw [A2.len G vs z h]; rfl) fun f cdv A outer s H vs E N b z hr hb ok hx h => ?_
  obtain ⟨v, u, rfl, hv, hu, s0, s1, s2, k0, k1, k2⟩ := h
  obtain ⟨ss, ks⟩ := z
  refine ⟨_, (pss_cons (ps_asg (pe_tup (pa_cons (pe_cl (ok_law_pick (TT := TT) T) (hr.mono (by decide)) rfl (pa_cons (pv 0) (pa_cons (pv 1) pa_nil))) (pa_cons (pe_cl (ok_law_take (TT := TT) T) (hr.mono (by decide)) rfl (pa_cons (pv 0) (pa_cons pe_int pa_nil))) (pa_cons (pe_cl (ok_law_take (TT := TT) T) (hr.mono (by decide)) rfl (pa_cons (pv 0) (pa_cons pe_int pa_nil))) pa_nil)))) (wPg2 K (pgs_cons (gn_ 3 sc_law_tables.nd) (pgs_cons (gn_ 4 sc_law_tables.nd) (pgs_cons (gn_ 5 sc_law_tables.nd) pgs_nil)))))
(pss_cons (ps_setLc (i := 6) (own := [("_law_k", 7)]) (g := (gName 7)) rfl sc_law_tables.nd rfl rfl (sw_true rfl rfl rfl (by decide +kernel)) (pi_range1 rfl T.f_range (pa_cons (pe_cl (ok_law_pick (TT := TT) T) (hr.mono (by decide)) rfl (pa_cons (pv 0) (pa_cons (pv 2) pa_nil))) pa_nil)) (blkOk_by (own := [("_law_k", 7)]) (N := ["_law_box_here", "_law_sizes", "_law_kinds", "_law_many", "_law_mode", "_law_turn", "_law_found", "_law_k", "_law_table_here", "_law_at"]) (sc := defScope s_law_tables) (by decide +kernel)) (fun _ _ _ _ _ => (gn_ 7 sc_law_tables.nd)) (fun _ _ _ _ _ => pts_nil) (fun _ _ _ _ _ => (pe_ifExp (pt_cmpR op_lt (pv 4) pe_int (nomark _)) (pe_cl (ok_law_falling (TT := TT) T) (hr.mono (by decide)) rfl (pa_cons (pv 0) (pa_cons (pv 3) pa_nil))) (pe_cl (ok_law_table (TT := TT) T) (hr.mono (by decide)) rfl (pa_cons (pv 0) (pa_cons (pv 3) pa_nil))))))
(pss_cons (ps_if (pt_cmpR op_eq (pv 4) pe_int (nomark _))
(pss_one (ps_setLc (i := 6) (own := [("_law_table_here", 8)]) (g := (gName 8)) rfl sc_law_tables.nd rfl rfl (sw_true rfl rfl rfl (by decide +kernel)) (wList K (pv 6)) (blkOk_by (own := [("_law_table_here", 8)]) (N := ["_law_box_here", "_law_sizes", "_law_kinds", "_law_many", "_law_mode", "_law_turn", "_law_found", "_law_k", "_law_table_here", "_law_at"]) (sc := defScope s_law_tables) (by decide +kernel)) (fun _ _ _ _ _ => (gn_ 8 sc_law_tables.nd)) (fun _ _ _ _ _ => pts_nil) (fun _ _ _ _ _ => (pe_cl (ok_law_named (TT := TT) T) (hr.mono (by decide)) rfl (pa_cons (pv 8) (pa_cons (pv 5) (pa_cons (pe_op op_mod (pe_callTy call_int1 rfl T.f_int bo_int (pa_cons (pv 5) pa_nil)) pe_int) pa_nil)))))))
pss_nil)
(pss_cons (ps_if (pt_cmpR op_eq (pv 4) pe_int (nomark _))
(pss_cons (st_ 9 sc_law_tables.nd (pe_cl (ok_law_take (TT := TT) T) (hr.mono (by decide)) rfl (pa_cons (pv 0) (pa_cons (pe_callB (wLen K) rfl T.f_len bo_len (pa_cons (pv 6) pa_nil)) pa_nil))))
(pss_one (ps_asg (pe_cl (ok_law_named (TT := TT) T) (hr.mono (by decide)) rfl (pa_cons (pe_ix (wIxL K) (pv 6) (pv 9) (fun _ _ => rfl)) (pa_cons (pv 5) (pa_cons (pe_cl (ok_law_take (TT := TT) T) (hr.mono (by decide)) rfl (pa_cons (pv 0) (pa_cons pe_int pa_nil))) pa_nil)))) (pg_sub (pv 6) (pv 9) set_list))))
pss_nil)
(pss_one (ps_ret (pv 6))))))), fun Q q => ?_⟩
  refine q_tup3b (T := TT) (R := rNat) (R1 := rNat) (R2 := rNat) (P1 := fun n => 3 ≤ n ∧ n ≤ 5) (P2 := fun m => m < 4) (P3 := fun m => m < 5) hb ok hx (e_pickL (Pl := fun xs => xs = ss) rfl (e_var rfl hv).bx fun xs h => by rw [h]; exact ⟨s0, Nat.le_trans s1 (by decide), s2⟩) (e_takeb (n := 4) rfl (e_nat 4) (by decide) (by decide)) (e_takeb (n := 5) rfl (e_nat 5) (by decide) (by decide)) fun nv mv tv n mode turn H1 bx1 hn hmo htu rn rm rt => ?_
  have hu1 := bx1.up hu
  refine q_asgR (q_lcB (T := TT) (S := rL rNat) (Px := fun xs => ∃ m, (1 ≤ m ∧ m ≤ 2) ∧ xs = List.range m) (Ps := fun _ t => TabOk n t) hb bx1.ok (ib_rng1 hb bx1.ok bx1.box (e_pickL (Ps := fun m => 1 ≤ m ∧ m ≤ 2) (Pl := fun xs => xs = ks) rfl (e_var rfl hu1).bx fun xs h => by rw [h]; exact ⟨k0, Nat.le_trans k1 (by decide), k2⟩) fun m h => by omega) (fun _ => rfl) (fun xs ⟨m, h, e⟩ => by rw [e, List.length_range]; omega) (fun H2 v2 x xs e2 _ _ _ => ?_) fun p H2 vs xs L bx2 hfr hpN hpl okp hpr ⟨m, hm, hxs⟩ hLl hLt => ?_)
  · have rn2 : rNat.r H2 nv n := Rel.es (T := TT) rn e2
    have rm2 : rNat.r H2 mv mode := Rel.es (T := TT) rm e2
    refine e_ifb (c := decide ((mode : Int) < 2)) (t_of (e_op (e_var (R := rInt) rfl rm2) (e_int 2) o_B0)) (fun _ => ?_) fun _ => ?_
    · exact e_callB rfl (ab_cons (e_var (R := rNat) (x := n) rfl rn2).bx ab_nil) fun G vs ⟨v, r, y, e1, e2, r1, e3⟩ => ⟨n, ⟨v, by rw [e1, e3], by rw [← e2]; exact r1, by omega, by omega⟩, fun _ h => h⟩
    · exact e_callB rfl (ab_cons (e_var (R := rNat) (x := n) rfl rn2).bx ab_nil) fun G vs ⟨v, r, y, e1, e2, r1, e3⟩ => ⟨n, ⟨v, by rw [e1, e3], by rw [← e2]; exact r1, by omega, by omega⟩, fun _ h => h⟩
  · have bxA : Bx TT N b H H2 := bx1.trans bx2
    have hfr : ∀ o, H p = some o → ∃ ps, o = HO.tbl ps := fun o ho => Classical.byContradiction fun hne => hne (hfr o (vis_sub (bx1.at_.e.k p o (vis_open ho hpN) fun ps z => hne ⟨ps, z⟩)))
    have hLl2 : L.length = m := by rw [hLl, hxs, List.length_range]
    have hall : ∀ t ∈ L, TabOk n t := fun t ht => by
      obtain ⟨j, hj⟩ := List.getElem?_of_mem ht
      have hjl := (List.getElem?_eq_some_iff.mp hj).1
      exact hLt j _ t (List.getElem?_eq_getElem (show j < xs.length by omega)) hj
    have rL2 : (rL (rL rNat)).r (vis N H2) (.ref p) L := ⟨p, vs, rfl, vis_open hpl hpN, pr_st (vis_back p) hpr⟩
    have rm2 := bx2.up rm
    have rt2 := bx2.up rt
    refine q_if (T := TT) (b := decide ((mode : Int) = 1)) bxA.ok (t_of (e_op (e_var (R := rInt) rfl rm2) (e_int 1) o_eqI)) (fun hb1 H3 e3 => ?_) fun hb1 H3 e3 => ?_
    · have bx3 := bxA.step e3
      have rL3 := Rel.up rL2 bxA.ok e3
      have rt3 := Rel.up rt2 bxA.ok e3
      refine q_setb (T := TT) hb bx3.ok bx3.box (e_lcB (S := rL rNat) (Ps := fun t t' => TabOk n t') (i_list (e_var rfl rL3)) (fun _ => rfl) (by omega) fun H4 v4 t e4 ht r4 => Evp.bx (e_c3p (x := t) (y := turn) (u := turn % 2) (Po := fun t' => TabOk n t') (e_var rfl r4) (e_var rfl (Rel.es (R := rNat) rt3 e4)) (Ev.natI (e_op (e_intC (e_var (R := rInt) (x := (turn : Int)) rfl (Rel.es (R := rNat) rt3 e4))) (e_int 2) (o_I (by decide))) (by rw [Int.natCast_emod]; rfl)) ?_ ?_)) fun fv H4 L' bx4 hL' r4 => ?_
      · have h9 := hall t ht
        exact ⟨by rw [h9.1]; omega, by rw [h9.1]; omega, by rw [h9.1]; exact h9.2⟩
      · intro t' h'
        have h9 := hall t ht
        have h' : TabOk t.length t' := h'
        rw [h9.1] at h'
        exact h'
      · have bxB := bx3.trans bx4
        have hmode : mode = 1 := by have := of_decide_eq_true hb1; omega
        have rm4 := bx4.up (Rel.up rm2 bxA.ok e3)
        refine q_no (T := TT) bxB.ok (EvT.to (t_of (e_op (e_var (R := rInt) (x := (mode : Int)) rfl rm4) (e_int 2) o_eqI)) (by rw [hmode]; rfl)) fun H5 e5 => ?_
        refine ⟨_, rfl, q _ _ L' (bxB.step e5) ⟨n, hn.1, hn.2, by omega, by omega, fun t ht => ?_⟩ (Rel.up r4 bxB.ok e5)⟩
        obtain ⟨j, hj⟩ := List.getElem?_of_mem ht
        have hjl := (List.getElem?_eq_some_iff.mp hj).1
        exact hL'.2 j _ t (List.getElem?_eq_getElem (show j < L.length by omega)) hj
    · have bx3 := bxA.step e3
      have rL3 := Rel.up rL2 bxA.ok e3
      have rt3 := Rel.up rt2 bxA.ok e3
      refine q_if (T := TT) (b := decide ((mode : Int) = 2)) bx3.ok (t_of (e_op (e_var (R := rInt) rfl (Rel.up rm2 bxA.ok e3)) (e_int 2) o_eqI)) (fun hb2 H4 e4 => ?_) fun hb2 H4 e4 => ?_
      · have bx4 := bx3.step e4
        have rL4 := Rel.up rL3 bx3.ok e4
        have rt4 := Rel.up rt3 bx3.ok e4
        refine q_setb (T := TT) hb bx4.ok bx4.box (e_takeb (n := L.length) rfl (e_lenL (e_var rfl rL4)) (by omega) (by omega)) fun av H5 at_ bx5 hat ra => ?_
        have rL5 := bx5.up rL4
        have rt5 := bx5.up rt4
        have ra5 : av = .int (at_ : Int) := ra
        subst ra5
        have hta := hall _ (getDl_mem (d := []) hat)
        refine (e_callxb (T := TT) (S := rL rNat) (Ps := fun t' => TabOk n t') (ab_cons (e_op (e_var rfl rL5) (e_var (R := rInt) (x := (at_ : Int)) rfl rfl) (o_ixL (atI_of (d := []) hat))).bx (ab_cons (e_var (R := rNat) (x := turn) rfl rt5).bx (ab_cons (e_takeb (n := 2) rfl (e_nat 2) (by decide) (by decide)) ab_nil))) fun G vs pp => ?_) N H5 hb (.self bx5.ok) bx5.box _ fun nv' H6 t' bx6 ht' r6 => ?_
        · obtain ⟨w1, _, y1, rfl, rfl, g1, w2, _, y2, rfl, rfl, g2, w3, _, y3, rfl, h3, g3, rfl⟩ := pp
          exact ⟨(_, _, y3), ⟨w1, w2, w3, rfl, g1, g2, g3, by show 1 ≤ (L.getD at_ []).length; rw [hta.1]; omega, by show (L.getD at_ []).length ≤ 5; rw [hta.1]; omega, by show ∀ x ∈ L.getD at_ [], x < (L.getD at_ []).length; rw [hta.1]; exact hta.2⟩, fun y hy => by
            have hy : TabOk (L.getD at_ []).length y := hy
            rw [hta.1] at hy
            exact hy⟩
        · have bx46 := bx5.trans bx6
          have rL6 := bx6.up rL5
          obtain ⟨p', vs6, ep, hp6, hpr6⟩ := rL6
          cases ep
          have hp60 := vis_sub hp6
          have hvl : vs6.length = L.length := Paired.length hpr6
          refine ⟨_, rfl, _, rfl, p, vs6, (at_ : Int), at_, rfl, rfl, hp60, ?_, ?_⟩
          · unfold ixN
            rw [if_pos (by omega), if_pos (by omega)]
            simp
          · have bxF : Bx TT N b H (upd H6 p (.lst (vs6.set at_ nv'))) := (bx4.trans bx46).mut hpN hfr hp60 (.lst _) hb
            have hhead : ∃ a, vs6.head? = some (.ref a) := by
              cases hpr6 with
              | nil => simp at hat
              | cons r _ => obtain ⟨a, _, e, _⟩ := r; exact ⟨a, by rw [e]; rfl⟩
            obtain ⟨a, hha⟩ := hhead
            refine ⟨_, rfl, q _ _ (L.set at_ t') bxF ⟨n, hn.1, hn.2, by rw [List.length_set]; omega, by rw [List.length_set]; omega, fun t ht => ?_⟩ ⟨p, _, rfl, vis_open upd_same hpN, ?_⟩⟩
            · rcases List.mem_or_eq_of_mem_set ht with z | z
              · exact hall t z
              · rw [z]; exact ht'
            · rw [vis_upd hpN]
              exact pr_setAt _ (Paired.mapP hpr6 fun _ _ h => row_upd (u := .non) h hp6 hha) (row_upd (u := .non) r6 hp6 hha)
      · exact ⟨_, rfl, q _ _ L (bx3.step e4) ⟨n, hn.1, hn.2, by omega, by omega, hall⟩ (Rel.up rL3 bx3.ok e4)⟩
end


end K29
set_option autoImplicit false
set_option maxHeartbeats 4000000
namespace K29
open PySem PySem.Spec PyProof.Rows L2
/-! The walks, 21: a family, a box. -/
/-- a test that may draw, told no more of -/
def EvTb (T : List (Addr × Str)) (b : Addr) (tt : TT) (σ : L2.St) (H : Hp) : Prop := ∀ N H1, b ∈ N → At T N H H1 → IsBox H1 b → ∀ Q : Bool → Hp → Prop, (∀ c H2, Bx T N b H1 H2 → Q c H2) → tt σ H1 Q
theorem tb_cmp {T : List (Addr × Str)} {σ : L2.St} {H : Hp} {b : Addr} {ta tb : TE} {g : Int → Int → Bool} {Pn : Nat → Prop} {j : Int} (ha : Evb T b ta σ H rNat Pn) (h2 : Ev T tb σ H rInt j) : EvTb T b (tTest (tOp (rI0 fun i j => .bl (g i j)) ta tb)) σ H := fun N H1 hb e hx Q q =>
  ha N H1 hb e hx _ fun u H2 y bx _ r => h2 N H2 (e.bx bx) _ fun v H3 e3 r3 => ⟨(y : Int), j, r, r3, _, rfl, q _ H3 (bx.step e3)⟩
theorem e_ifB {T : List (Addr × Str)} {α : Type} {σ : L2.St} {H : Hp} {b : Addr} {tt : TT} {ta te : TE} {R : Rel α} {Post : α → Prop} (h : EvTb T b tt σ H) (h1 : Evb T b ta σ H R Post) (h2 : Evb T b te σ H R Post) : Evb T b (tIf tt ta te) σ H R Post := fun N H1 hb e hx Q q => h N H1 hb e hx _ fun c H2 bx => by
  cases c with
  | true => exact h1 N H2 hb (e.bx bx) bx.box Q fun v H3 y e3 hy r => q v H3 y (bx.trans e3) hy r
  | false => exact h2 N H2 hb (e.bx bx) bx.box Q fun v H3 y e3 hy r => q v H3 y (bx.trans e3) hy r
section
variable {P : Program} {w : World} {K : PySem.W.Frag} {mg : Str → Option Value} {base : Heap} {C : Addr} {TT : List (Addr × Str)}
theorem q_forb {T : List (Addr × Str)} {α : Type} {σ : L2.St} {H : Hp} {N : List Addr} {R : Rel α} {b : Addr} {wi : TI} {g : TG} {ts : TS} {D : Ends} {Px : List α → Prop} (h : EvIb T b wi σ N H R Px)
    (k : ∀ xs H2, Px xs → Bx T N b H H2 → ∃ Pv : Nat → L2.St → Hp → Prop, Pv 0 σ H2 ∧ (∀ i σ G, Pv i σ G → Bx T N b H2 G) ∧
      (∀ i v x σ G G', i < xs.length → xs[i]? = some x → Pv i σ G → Es T G G' → R.r (vis N G') v x → g v σ G' fun σ2 G2 => ts { D with nx := Pv (i + 1), ct := Pv (i + 1), bk := D.nx } σ2 G2) ∧
      (∀ σ G, Pv xs.length σ G → D.nx σ G)) : tFor wi g ts D σ H := h _ fun xs J H2 G Y bx px gs w hy => by
  obtain ⟨Pv, h0, hA, hs, hd⟩ := k xs H2 px bx
  refine for_it w Pv h0 (fun i σ G' _ p => gs N G' (hA i σ G' p).at_) (fun i v σ G1 G2 hi p y => ?_) hd
  obtain ⟨e12, x, hx, rx⟩ := hy i G1 v G2 N hi (hA i σ G1 p).at_ y
  exact hs i v x σ G1 G2 hi hx p e12 rx
def sp_law_family (TT : List (Addr × Str)) : Sp := SpB TT (A1 rW fun s => 1 ≤ s.length ∧ s.length ≤ 3 ∧ s = List.range s.length) (rL rW) fun s ls => Fam s.length ls
theorem lot_full (k : Nat) (h1 : 1 ≤ k) : LotOk k (List.range k) := ⟨fun z => by
  have := congrArg List.length z
  rw [List.length_range] at this
  have : k = 0 := this
  omega, (List.filter_eq_self.mpr fun a ha => decide_eq_true ha).symm⟩
theorem ok_law_family (T : Tx K mg C) : Cl P w K mg base 3 "_law_family" (sp_law_family TT) := by
  refine cl_spB T.d_law_family sc_law_family (fun G vs z h => by rw [A1.len G vs z h]; rfl) fun f cdv A outer s0 H vs E N b s hr hb ok hx h => ?_
  obtain ⟨v, rfl, hv, h1, h3, hs⟩ := h
  have pickLot : ∀ {σ : L2.St} {G : Hp} {E1 E2 : XK}, σ[0]? = some (some (.ref b)) → σ[1]? = some (some v) → rW.r G v s → Evb TT b (tCall (sp_law_pick K TT) [] E1 (tCons (tVar 0) (tCons (tCall (sp_law_lots TT) [] E2 (tCons (tVar 1) tNil)) tNil))) σ G rW fun l => LotOk s.length l := fun h0 hv1 r =>
    e_pickL (Pl := fun y => 0 < y.length ∧ y.length ≤ 7 ∧ ∀ l ∈ y, LotOk s.length l) h0 (Evp.bx (e_c1p (x := s) (e_var hv1 r) ⟨h1, h3, hs⟩ fun _ h => h)) fun xs h => ⟨h.1, by have := h.2.1; omega, h.2.2⟩
  refine ⟨_, (pss_cons (st_ 2 sc_law_family.nd (pe_ifExp (pt_cmpR op_lt (pe_cl (ok_law_take (TT := TT) T) (hr.mono (by decide)) rfl (pa_cons (pv 0) (pa_cons pe_int pa_nil))) pe_int (nomark _)) (pe_lst (pa_cons (pv 1) pa_nil)) (pe_lst (pa_cons (pe_cl (ok_law_pick (TT := TT) T) (hr.mono (by decide)) rfl (pa_cons (pv 0) (pa_cons (pe_cl (ok_law_lots (TT := TT) T) (hr.mono (by decide)) rfl (pa_cons (pv 1) pa_nil)) pa_nil))) pa_nil))))
(pss_cons (ps_for PassesOwn.never rfl (pi_range1 rfl T.f_range (pa_cons (pe_cl (ok_law_pick (TT := TT) T) (hr.mono (by decide)) rfl (pa_cons (pv 0) (pa_cons (pe_lst (pa_cons pe_int (pa_cons pe_int (pa_cons pe_int (pa_cons pe_int pa_nil))))) pa_nil))) pa_nil)) (gn_ 3 sc_law_family.nd)
(pss_cons (st_ 4 sc_law_family.nd (pe_cl (ok_law_pick (TT := TT) T) (hr.mono (by decide)) rfl (pa_cons (pv 0) (pa_cons (pe_cl (ok_law_lots (TT := TT) T) (hr.mono (by decide)) rfl (pa_cons (pv 1) pa_nil)) pa_nil))))
(pss_one (st_ 2 sc_law_family.nd (pe_op op_cat (pv 2) (pe_ifExp (pt_cmpR (wNi K) (pv 4) (pv 2) rfl) (pe_lst (pa_cons (pv 4) pa_nil)) (pe_lst pa_nil)))))))
(pss_one (ps_ret (pe_revL (pv 2)))))), fun Q q => ?_⟩
  refine q_setb (R := rL rW) (Post := fun fs => fs.length = 1 ∧ ∀ l ∈ fs, LotOk s.length l) hb ok hx (e_ifB (tb_cmp (e_takeb (n := 5) rfl (e_nat 5) (by decide) (by decide)) (e_int 3)) (e_lstb (n := 1) (ab_consP ((e_var rfl hv).bx.imp fun y hy => by rw [hy, hs, List.length_range]; exact lot_full _ h1) ab_nilP) (by decide)) (e_lstb (n := 1) (ab_consP (pickLot rfl rfl hv) ab_nilP) (by decide))) fun fv H1 fs bx1 hfs rf => ?_
  have small : ∀ {G : Hp} {σ : L2.St} {n : Nat}, n ≤ 2 → Evb TT b (tC (.int (n : Int))) σ G rNat fun m => m ≤ 2 := fun h => (e_nat _).bx.imp fun y hy => by rw [hy]; exact h
  refine q_forb (T := TT) (R := rNat) (Px := fun xs => ∃ n, n ≤ 2 ∧ xs = List.range n) (ib_rng1 hb bx1.ok bx1.box (e_pickL (Pl := fun xs => xs.length = 4 ∧ ∀ x ∈ xs, x ≤ 2) rfl (e_lstb (ab_consP (small (n := 0) (by decide)) (ab_consP (small (n := 0) (by decide)) (ab_consP (small (n := 1) (by decide)) (ab_consP (small (n := 2) (by decide)) ab_nilP)))) (by decide)) fun xs h => ⟨by omega, by omega, h.2⟩) fun n h => by omega) fun xs H2 ⟨n, hn, hxs⟩ bx2 => ?_
  have bxA := bx1.trans bx2
  refine ⟨fun i σ' G => ∃ (fv : V) (fs : List Wd) (o3 o4 : Option V), σ' = [some (.ref b), some v, some fv, o3, o4] ∧ Bx TT N b H2 G ∧ (rL rW).r (vis N G) fv fs ∧ fs.Nodup ∧ 1 ≤ fs.length ∧ fs.length ≤ 1 + i ∧ ∀ l ∈ fs, LotOk s.length l,
    ⟨fv, fs, none, none, rfl, .refl bxA.ok bxA.box, bx2.up rf, ?_, by omega, by omega, hfs.2⟩, fun i σ' G ⟨_, _, _, _, _, h, _⟩ => h, ?_, ?_⟩
  · match fs, hfs.1 with
    | [a], _ => simp
  · rintro i x n' σ' G0 G hi hix ⟨fv, fs, o3, o4, rfl, bx3, rf, hnd, hl1, hl2, hall⟩ e0 rx
    have hi2 : i < 2 := by rw [hxs, List.length_range] at hi; omega
    have bx4 := bx3.step e0
    refine q_setb (T := TT) hb bx4.ok bx4.box (pickLot rfl rfl ((bxA.trans bx4).up hv)) fun lv G2 l bx5 hl rl => ?_
    have bx6 := bx4.trans bx5
    have rf6 := bx5.up (Rel.up rf bx3.ok e0)
    refine q_set (T := TT) (R := rL rW) (x := fs ++ if l ∈ fs then [] else [l]) bx6.ok (e_op (e_var rfl rf6) (e_if (R := rL rW) (x := if l ∈ fs then [] else [l]) (b := !decide (l ∈ fs)) (t_of (e_op (e_var (R := rW) rfl rl) (e_var rfl rf6) o_niL)) (fun hc => ?_) fun hc => ?_) (o_cat (by split <;> simp <;> omega))) fun fv2 G3 e3 rf3 => ⟨fv2, _, _, _, rfl, bx6.step e3, rf3, ?_, ?_, ?_, ?_⟩
    · have : ¬ l ∈ fs := by simpa using hc
      rw [if_neg this]
      exact e_lst (a_consP (e_var (R := rW) rfl rl) a_nilP) (by rw [List.length_singleton]; decide)
    · have : l ∈ fs := by simpa using hc
      rw [if_pos this]
      exact e_lst a_nilP (by decide)
    · split
      · rw [List.append_nil]; exact hnd
      · rename_i hm
        exact List.nodup_append.mpr ⟨hnd, by simp, fun a ha c hc e => hm (by rw [List.mem_singleton.mp hc] at e; rw [← e]; exact ha)⟩
    · rw [List.length_append]; omega
    · rw [List.length_append]
      split <;> simp <;> omega
    · intro a ha
      rcases List.mem_append.mp ha with z | z
      · exact hall a z
      · split at z
        · simp at z
        · rw [List.mem_singleton.mp z]; exact hl
  · rintro σ' G ⟨fv, fs, o3, o4, rfl, bx3, rf, hnd, hl1, hl2, hall⟩
    rw [hxs, List.length_range] at hl2
    have bxF := bxA.trans bx3
    refine q_ret (T := TT) (R := rL rW) (x := fs.reverse) bxF.ok (e_rev (e_var rfl rf)) fun v' H' e r => q v' H' _ (bxF.step e) ⟨by rw [List.length_reverse]; omega, by rw [List.length_reverse]; omega, (List.reverse_perm fs).nodup_iff.mpr hnd, fun l hl => hall l (List.mem_reverse.mp hl)⟩ r
end


end K29
set_option autoImplicit false
set_option maxHeartbeats 4000000
namespace K29
open PySem PySem.Spec PyProof.Rows L2
/-! The script: a list of whole numbers. -/
theorem kr_sql {K : PySem.W.Frag} {H H' : Hp} {a : Addr} {xs : List V} (e : Kr H H') (h : SqL K H a xs) : SqL K H' a xs := by
  rcases h with (h | ⟨o, h⟩) | h
  · rcases e a _ h (fun _ z => by cases z) with q | ⟨⟨_, z⟩ | ⟨_, z⟩, _⟩ | ⟨_, _, z, _, _⟩
    · exact .inl (.inl q)
    · cases z
    · cases z
    · cases z
  · rcases e a _ h (fun _ z => by cases z) with q | ⟨⟨_, z⟩ | ⟨_, z⟩, _⟩ | ⟨od, u, z, d, q⟩
    · exact .inl (.inr ⟨o, q⟩)
    · cases z
    · cases z
    · cases z
      rcases d with ⟨_, d⟩ | ⟨_, d⟩ <;> cases d
  · exact .inr h
def rQ (K : PySem.W.Frag) : Rel (List Int) := ⟨fun H v ns => ∃ a, v = .ref a ∧ SqL K H a (ns.map V.int), fun e ⟨a, h1, h2⟩ => ⟨a, h1, kr_sql e h2⟩⟩
section
variable {T : List (Addr × Str)} {K : PySem.W.Frag} {σ : L2.St} {H : Hp} {N : List Addr} {ta : TE} {ns : List Int}
theorem sql_sub {a : Addr} {xs : List V} (h : SqL K (vis N H) a xs) : SqL K H a xs := by
  rcases h with (h | ⟨o, h⟩) | h
  · exact .inl (.inl (vis_sub h))
  · exact .inl (.inr ⟨o, vis_sub h⟩)
  · exact .inr h
theorem e_lenQ (h : Ev T ta σ H (rQ K) ns) : Ev T (tCB (fun xs H Q => ∃ x n, xs = [x] ∧ LenV K x H n ∧ Q (.int n) H) (tCons ta tNil)) σ H rNat ns.length := fun N H1 e Q q =>
  h N H1 e _ fun v H2 e2 ⟨a, h1, h2⟩ => ⟨v, ns.length, rfl, by rw [h1]; exact .inl ⟨_, sql_sub h2, by rw [List.length_map]⟩, q _ _ e2 rfl⟩
theorem o_ixQ {i : Int} {x : Int} (h : atI ns i = some x) : RV T (rIxL K) (rQ K) ns rInt i rInt x := fun N H a b ok ⟨p, h1, h2⟩ rb Q q =>
  ⟨p, _, i, .int x, h1, rb, sql_sub h2, by
    unfold atI at h ⊢
    rw [List.length_map]
    cases hz : ixN ns.length i with
    | none => rw [hz] at h; cases h
    | some j =>
      rw [hz] at h
      show (ns.map V.int)[j]? = _
      rw [List.getElem?_map, show ns[j]? = some x from h]
      rfl, q _ H (.refl _) rfl⟩
end

end K29
set_option autoImplicit false
set_option maxHeartbeats 4000000
namespace K29
open PySem PySem.Spec PyProof.Rows L2
/-! The walks, 22: a box is made. -/
section
variable {P : Program} {w : World} {K : PySem.W.Frag} {mg : Str → Option Value} {base : Heap} {C : Addr} {TT : List (Addr × Str)}
def sp_law_box (K : PySem.W.Frag) (TT : List (Addr × Str)) : Sp := fun vs H Q _ => ∃ (M : List Addr) (a : Addr) (ns : List Int) (k : Nat), vs = [.ref a, .int (k : Int)] ∧ Nok M H ∧ SqL K (vis M H) a (ns.map V.int) ∧ ∀ H1 p g r, Es TT H H1 → H1 p = none → Q (.ref p) (upd H1 p (.lst [.int g, .int r]))
theorem q_retL2 {σ : L2.St} {H : Hp} {N : List Addr} {D : Ends} {ta tb : TE} {x y : Int} (ok : Nok N H) (h1 : Ev TT ta σ (vis N H) rInt x) (h2 : Ev TT tb σ (vis N H) rInt y) (k : ∀ H' p, Es TT H H' → H' p = none → D.rt (.ref p) (upd H' p (.lst [.int x, .int y]))) : tRet (tLst (tCons ta (tCons tb tNil))) D σ H :=
  h1 N H (.self ok) _ fun u H1 e1 r1 => h2 N H1 ((At.self ok).step e1) _ fun v H2 e2 r2 => by
    have r1 : u = .int x := r1
    have r2 : v = .int y := r2
    subst r1
    subst r2
    exact ⟨by show 2 ≤ sizeLine; decide, fun p hp => k H2 p (e1.trans e2) hp⟩
theorem ok_law_box (T : Tx K mg C) : Cl P w K mg base 1 "_law_box" (sp_law_box K TT) := by
  refine cl_any T.d_law_box sc_law_box (fun vs H Q E ⟨M, a, ns, k, e, _⟩ => by rw [e]; rfl) fun f cdv A outer s H vs Q E hr ⟨M, a, ns, k, e, ok, hq, q⟩ => ?_
  subst e
  have rq : (rQ K).r (vis M H) (.ref a) ns := ⟨a, rfl, hq⟩
  refine ⟨_, (pss_cons (st_ 2 sc_law_box.nd (pe_op op_add (pe_op op_mul pe_int (pv 1)) pe_int))
(pss_cons (ps_if (pt_cmpR op_lt (pv 1) (pe_callB (wLen K) rfl T.f_len bo_len (pa_cons (pv 0) pa_nil)) (nomark _))
(pss_one (st_ 2 sc_law_box.nd (pe_callB call_abs rfl T.f_abs bo_abs (pa_cons (pe_callTy call_int1 rfl T.f_int bo_int (pa_cons (pe_ix (wIxL K) (pv 0) (pv 1) (fun _ _ => rfl)) pa_nil)) pa_nil))))
(pss_one (ps_if (pt_cmpR op_gt (pe_callB (wLen K) rfl T.f_len bo_len (pa_cons (pv 0) pa_nil)) pe_int (nomark _))
(pss_one (st_ 2 sc_law_box.nd (pe_op op_add (pv 2) (pe_op op_mul (pe_op op_mod (pe_callTy call_int1 rfl T.f_int bo_int (pa_cons (pe_callB call_abs rfl T.f_abs bo_abs (pa_cons (pe_callTy call_int1 rfl T.f_int bo_int (pa_cons (pe_ix (wIxL K) (pv 0) (pe_op op_mod (pe_callTy call_int1 rfl T.f_int bo_int (pa_cons (pv 1) pa_nil)) (pe_callB (wLen K) rfl T.f_len bo_len (pa_cons (pv 0) pa_nil))) (fun _ _ => rfl)) pa_nil)) pa_nil)) pa_nil)) pe_int) pe_int))))
pss_nil)))
(pss_cons (st_ 3 sc_law_box.nd (pe_ifExp (pt_cmpR op_ge (pv 2) (pe_op op_pow pe_int pe_int) (nomark _)) (pv 2) pe_int))
(pss_one (ps_ret (pe_lst (pa_cons (pv 3) (pa_cons (pe_op op_add (pe_op op_mod (pe_callTy call_int1 rfl T.f_int bo_int (pa_cons (pe_op op_add (pe_op op_mul (pe_op op_mod (pe_callTy call_int1 rfl T.f_int bo_int (pa_cons (pv 2) pa_nil)) pe_int) pe_int) (pe_op op_mul pe_int (pv 1))) pa_nil)) pe_int) pe_int) pa_nil)))))))), ?_⟩
  refine q_set (T := TT) (R := rInt) (x := 7001 * (k : Int) + 1122) ok (e_op (e_op (e_int 7001) (e_var (R := rInt) (x := (k : Int)) rfl rfl) (o_I (.inl ⟨by decide, by decide⟩))) (e_int 1122) o_I0) fun c0 H1 e1 rc0 => ?_
  have rc0 : c0 = .int (7001 * (k : Int) + 1122) := rc0
  subst rc0
  have ok1 := ok.step e1
  have rq1 := Rel.up rq ok e1
  refine q_if (T := TT) (b := decide ((k : Int) < (ns.length : Int))) ok1 (t_of (e_op (e_var (R := rInt) (x := (k : Int)) rfl rfl) (e_lenQ (e_var rfl rq1)).int o_B0)) (fun hb H2 e2 => ?_) fun hb H2 e2 => ?_
  · have hk : k < ns.length := by have := of_decide_eq_true hb; omega
    have ok2 := ok1.step e2
    have rq2 := Rel.up rq1 ok1 e2
    refine q_set (T := TT) (R := rInt) (x := if ns.getD k 0 < 0 then -(ns.getD k 0) else ns.getD k 0) ok2 (e_abs (e_intC (e_op (e_var rfl rq2) (e_var (R := rInt) (x := (k : Int)) rfl rfl) (o_ixQ (atI_of (d := 0) hk))))) fun c1 Hc e3 rc => ?_
    have ec : Es TT H Hc := (e1.trans e2).trans e3
    have rc : c1 = .int (if ns.getD k 0 < 0 then -(ns.getD k 0) else ns.getD k 0) := rc
    subst rc
    generalize (if ns.getD k 0 < 0 then -(ns.getD k 0) else ns.getD k 0) = cell
    have okc := ok.step ec
    refine q_set (T := TT) (R := rInt) (x := if (cell : Int) ≥ (10 : Int) ^ (18 : Int).toNat then cell else 0) okc (e_if (b := decide (cell ≥ (10 : Int) ^ ((18 : Int)).toNat)) (t_of (e_op (e_var (R := rInt) (x := cell) rfl rfl) (e_op (e_int 10) (e_int 18) (o_I ⟨by decide, by decide, by decide⟩)) o_B0)) (fun hc => by
      rw [if_pos (of_decide_eq_true hc)]
      exact e_var (R := rInt) (x := cell) rfl rfl) fun hc => by
      rw [if_neg (of_decide_eq_false hc)]
      exact e_int 0) fun gv Hg eg rg => ?_
    have rg : gv = .int (if (cell : Int) ≥ (10 : Int) ^ (18 : Int).toNat then cell else 0) := rg
    subst rg
    have okg := okc.step eg
    refine q_retL2 okg (e_var (R := rInt) (x := if (cell : Int) ≥ (10 : Int) ^ (18 : Int).toNat then cell else 0) rfl rfl) (e_op (e_op (e_intC (e_op (e_op (e_op (e_intC (e_var (k := 2) (R := rInt) (x := cell) rfl rfl)) (e_int 2147483579) (o_I (by decide))) (e_int 48271) (o_I (.inr ⟨by decide, by decide⟩))) (e_op (e_int 577) (e_var (k := 1) (R := rInt) (x := (k : Int)) rfl rfl) (o_I (.inl ⟨by decide, by decide⟩))) o_I0)) (e_int 2147483579) (o_I (by decide))) (e_int 1) o_I0) fun Hz p ez hp => q Hz p _ _ ((ec.trans eg).trans ez) hp
  · have ok2 := ok1.step e2
    have rq2 := Rel.up rq1 ok1 e2
    refine q_if (T := TT) (b := decide ((ns.length : Int) > 0)) ok2 (t_of (e_op (e_lenQ (e_var rfl rq2)).int (e_int 0) o_B0)) (fun hb2 H3 e3 => ?_) fun hb2 Hc e3 => ?_
    · have ok3 := ok2.step e3
      have rq3 := Rel.up rq2 ok2 e3
      have hn : 0 < ns.length := by have := of_decide_eq_true hb2; omega
      have hm := emod_nat (k : Int) hn
      have hat : atI ns ((k : Int) % (ns.length : Int)) = some (ns.getD ((k : Int) % (ns.length : Int)).toNat 0) := by
        rw [hm.1]
        exact atI_of hm.2
      generalize ns.getD ((k : Int) % (ns.length : Int)).toNat 0 = z at hat
      refine q_set (T := TT) (R := rInt) (x := 7001 * (k : Int) + 1122 + (if z < 0 then -z else z) % 2147483579 * 60013) ok3 (e_op (e_var (R := rInt) (x := 7001 * (k : Int) + 1122) rfl rfl) (e_op (e_op (e_intC (e_abs (e_intC (e_op (e_var rfl rq3) (e_op (e_intC (e_var (R := rInt) (x := (k : Int)) rfl rfl)) (e_lenQ (e_var rfl rq3)).int (o_I (by show (0 : Int) < (ns.length : Int); omega))) (o_ixQ hat))))) (e_int 2147483579) (o_I (by decide))) (e_int 60013) (o_I (.inr ⟨by decide, by decide⟩))) o_I0) fun c1 Hc e4 rc => ?_
      have ec : Es TT H Hc := ((e1.trans e2).trans e3).trans e4
      have rc : c1 = .int (7001 * (k : Int) + 1122 + (if z < 0 then -z else z) % 2147483579 * 60013) := rc
      subst rc
      generalize (7001 * (k : Int) + 1122 + (if z < 0 then -z else z) % 2147483579 * 60013) = cell
      have okc := ok.step ec
      refine q_set (T := TT) (R := rInt) (x := if (cell : Int) ≥ (10 : Int) ^ (18 : Int).toNat then cell else 0) okc (e_if (b := decide (cell ≥ (10 : Int) ^ ((18 : Int)).toNat)) (t_of (e_op (e_var (R := rInt) (x := cell) rfl rfl) (e_op (e_int 10) (e_int 18) (o_I ⟨by decide, by decide, by decide⟩)) o_B0)) (fun hc => by
        rw [if_pos (of_decide_eq_true hc)]
        exact e_var (R := rInt) (x := cell) rfl rfl) fun hc => by
        rw [if_neg (of_decide_eq_false hc)]
        exact e_int 0) fun gv Hg eg rg => ?_
      have rg : gv = .int (if (cell : Int) ≥ (10 : Int) ^ (18 : Int).toNat then cell else 0) := rg
      subst rg
      have okg := okc.step eg
      refine q_retL2 okg (e_var (R := rInt) (x := if (cell : Int) ≥ (10 : Int) ^ (18 : Int).toNat then cell else 0) rfl rfl) (e_op (e_op (e_intC (e_op (e_op (e_op (e_intC (e_var (k := 2) (R := rInt) (x := cell) rfl rfl)) (e_int 2147483579) (o_I (by decide))) (e_int 48271) (o_I (.inr ⟨by decide, by decide⟩))) (e_op (e_int 577) (e_var (k := 1) (R := rInt) (x := (k : Int)) rfl rfl) (o_I (.inl ⟨by decide, by decide⟩))) o_I0)) (e_int 2147483579) (o_I (by decide))) (e_int 1) o_I0) fun Hz p ez hp => q Hz p _ _ ((ec.trans eg).trans ez) hp
    · have ec : Es TT H Hc := (e1.trans e2).trans e3
      show _
      generalize (7001 * (k : Int) + 1122) = cell
      have okc := ok.step ec
      refine q_set (T := TT) (R := rInt) (x := if (cell : Int) ≥ (10 : Int) ^ (18 : Int).toNat then cell else 0) okc (e_if (b := decide (cell ≥ (10 : Int) ^ ((18 : Int)).toNat)) (t_of (e_op (e_var (R := rInt) (x := cell) rfl rfl) (e_op (e_int 10) (e_int 18) (o_I ⟨by decide, by decide, by decide⟩)) o_B0)) (fun hc => by
        rw [if_pos (of_decide_eq_true hc)]
        exact e_var (R := rInt) (x := cell) rfl rfl) fun hc => by
        rw [if_neg (of_decide_eq_false hc)]
        exact e_int 0) fun gv Hg eg rg => ?_
      have rg : gv = .int (if (cell : Int) ≥ (10 : Int) ^ (18 : Int).toNat then cell else 0) := rg
      subst rg
      have okg := okc.step eg
      refine q_retL2 okg (e_var (R := rInt) (x := if (cell : Int) ≥ (10 : Int) ^ (18 : Int).toNat then cell else 0) rfl rfl) (e_op (e_op (e_intC (e_op (e_op (e_op (e_intC (e_var (k := 2) (R := rInt) (x := cell) rfl rfl)) (e_int 2147483579) (o_I (by decide))) (e_int 48271) (o_I (.inr ⟨by decide, by decide⟩))) (e_op (e_int 577) (e_var (k := 1) (R := rInt) (x := (k : Int)) rfl rfl) (o_I (.inl ⟨by decide, by decide⟩))) o_I0)) (e_int 2147483579) (o_I (by decide))) (e_int 1) o_I0) fun Hz p ez hp => q Hz p _ _ ((ec.trans eg).trans ez) hp
end


end K29
set_option autoImplicit false
set_option maxHeartbeats 4000000
namespace K29
open PySem PySem.Spec PyProof.Rows L2
/-! The walks, 23: rows that are shown. -/
section
variable {T : List (Addr × Str)} {K : PySem.W.Frag} {α : Type} {σ : L2.St} {H : Hp} {R : Rel α} {ta te : TE} {x : α}
theorem Evp.ev {Post : α → Prop} (h : Evp T te σ H R Post) (hp : ∀ y, Post y → y = x) : Ev T te σ H R x := fun N H1 e Q q => h N H1 e Q fun v H2 y e2 hy r => q v H2 e2 (hp y hy ▸ r)
theorem e_lenLp {n : Nat} {Post : List α → Prop} (h : Evp T ta σ H (rL R) Post) (hn : ∀ y, Post y → y.length = n) : Ev T (tCB (fun xs H Q => ∃ x n, xs = [x] ∧ LenV K x H n ∧ Q (.int n) H) (tCons ta tNil)) σ H rNat n := fun N H1 e Q q =>
  h N H1 e _ fun v H2 y e2 hy ⟨p, vs, h1, h2, h3⟩ => ⟨v, vs.length, rfl, by rw [h1]; exact .inl ⟨vs, SqL.of (vis_sub h2), rfl⟩, q _ _ e2 (by rw [Paired.length h3, hn y hy]; rfl)⟩
end
theorem rank_le {W : Web} (s : WebS W) {p : Pr} {t : Nat} (h1 : p ∈ lev W t) (h2 : p ∉ lev W (t + 1)) : t ≤ 9 := by
  have hf : ∀ u, u < t + 1 → (lev W (u + 1)).length ≠ (lev W u).length := fun u hu e => by
    have h3 := lev_stable e (t + 1) (by omega)
    have h4 := lev_stable e t (by omega)
    rw [h3, ← h4] at h2
    exact h2 h1
  have h3 := lev_fall (W := W) (t + 1) hf
  have h4 := lev_len s 0
  omega
theorem lev_same {tabs : List (List Nat)} {ls : List Wd} {W W' : Web} (h : WebOk tabs ls W) (h' : WebOk tabs ls W') (t : Nat) (p : Pr) : p ∈ lev W t ↔ p ∈ lev W' t := by rw [lev_kt h, lev_kt h']
/-- the number of rounds that is wanted -/
def wantN (m : Nat) (o : Option Nat) : Nat := o.getD m
theorem shown_row {tabs : List (List Nat)} {ls : List Wd} {W W' : Web} (hW : WebOk tabs ls W) (hW' : WebOk tabs ls W') {p : Pr} {o : Option Nat} {m : Nat} {F' : List (Pr × Wd)} (hr : RankAt W p o) (hc : ChOk W' (wantN m o) F') :
    ∃ r, getD F' p = some r ∧ Chain W' (wantN m o) p r := by
  have hp : p ∈ lev W (wantN m o) := by
    cases o with
    | none => exact hr _
    | some t => exact hr.1
  have h1 : p ∈ F'.map (·.1) := by rw [hc.keys]; exact (lev_same hW hW' _ p).mp hp
  have h2 : (getD F' p).isSome = true := by rw [getD_some]; exact decide_eq_true h1
  obtain ⟨r, hr⟩ := Option.isSome_iff_exists.mp h2
  exact ⟨r, hr, hc.ch _ (getD_mem hr)⟩
theorem shown_none {tabs : List (List Nat)} {ls : List Wd} {W W' : Web} (hW : WebOk tabs ls W) (hW' : WebOk tabs ls W') {p : Pr} {t : Nat} {F' : List (Pr × Wd)} (hr : RankAt W p (some t)) (hc : ChOk W' (t + 1) F') : getD F' p = none := by
  rw [getD_none, hc.keys]
  exact fun z => hr.2 ((lev_same hW hW' _ p).mpr z)
section
variable {P : Program} {w : World} {K : PySem.W.Frag} {mg : Str → Option Value} {base : Heap} {C : Addr} {TT : List (Addr × Str)}
/-- device, tables, lots, ranks, pairs, states -/
structure ShArg where
  tabs : List (List Nat)
  ls : List Wd
  F : List (Pr × Option Nat)
  ps : List Pr
structure ShOk (C : Addr) (G : Hp) (vs : List V) (z : ShArg) : Prop where
  ex : ∃ v1 v2 v3 v4 v5 v6, vs = [v1, v2, v3, v4, v5, v6] ∧ (rDev C).r G v1 z.tabs ∧ (rL (rL rNat)).r G v2 z.tabs ∧ (rL rW).r G v3 z.ls ∧ (rD (rO rNat)).r G v4 z.F ∧ (rL rP).r G v5 z.ps ∧ rNat.r G v6 (many z.tabs)
  gt : Gt z.tabs
  fam : Fam z.tabs.length z.ls
  told : ∃ W, WebOk z.tabs z.ls W ∧ RankOk W z.F
  some_ : ∀ p ∈ z.ps, Vp z.tabs p
def sp_law_shown (C : Addr) (TT : List (Addr × Str)) : Sp := SpT TT (ShOk C) rB fun _ y => y = true
theorem fam_lots {k : Nat} {ls : List Wd} (h : Fam k ls) (hk : k ≤ 3) : Lots ls := ⟨fun l hl c hc => by
  have h1 := (h.lot l hl).2
  rw [h1] at hc
  have := List.mem_range.mp (List.mem_filter.mp hc).1
  omega, Nat.le_trans h.n31 (by decide), h.short hk⟩
theorem ok_law_shown (T : Tx K mg C) (D : Lx K mg base TT) : Cl P w K mg base 8 "_law_shown" (sp_law_shown C TT) := by
  refine cl_spT T.d_law_shown sc_law_shown (fun G vs z h => by obtain ⟨_, _, _, _, _, _, e, _⟩ := h.ex; rw [e]; rfl) fun f cdv A outer s H vs E M z tb hr ok h => ?_
  obtain ⟨v1, v2, v3, v4, v5, v6, rfl, r1, r2, r3, r4, r5, r6⟩ := h.ex
  have gt := h.gt
  have fam := h.fam
  obtain ⟨W, hW, hF⟩ := h.told
  have hps := h.some_
  obtain ⟨tabs, ls, F, ps⟩ := z
  have gt : Gt tabs := gt
  have fam : Fam tabs.length ls := fam
  have hW : WebOk tabs ls W := hW
  have hF : RankOk W F := hF
  have hps : ∀ p ∈ ps, Vp tabs p := hps
  have n3 := gt.n3
  have m5 := gt.m5
  have hws := hW.s gt
  have hkeys : F.map (·.1) = prs (many tabs) := hF.1.trans hW.1
  have hnd : (F.map (·.1)).Nodup := by rw [hkeys]; exact prs_nd m5
  refine ⟨_, (pss_cons (ps_for PassesOwn.never rfl (wList K (pv 4)) (gn_ 6 sc_law_shown.nd)
(pss_cons (st_ 7 sc_law_shown.nd (pe_ifExp (pt_cmp (pc_isN (pe_dget (hu_of hr) (pv 3) (pv 6) (fun _ _ => rfl)))) (pv 5) (pe_dget (hu_of hr) (pv 3) (pv 6) (fun _ _ => rfl))))
(pss_cons (st_ 8 sc_law_shown.nd (pe_cl (ok_apart_row (TT := TT) T D) (hr.mono (by decide)) rfl (pa_cons (pv 0) (pa_cons (pv 2) (pa_cons (pv 6) (pa_cons (pv 7) pa_nil))))))
(pss_cons (ps_if (PW.pt (pw_or (pt_not (pt_val (pe_callB (wIsi K) rfl T.f_isinstance bo_isinstance (pa_cons (pv 8) (pa_cons (pe_bltn (v := .ty "str") rfl T.f_str bo_str rfl) pa_nil))))) (pw_or (pt_cmpR op_gt (pe_callB (wLen K) rfl T.f_len bo_len (pa_cons (pv 8) pa_nil)) pe_int (nomark _)) (pw_or1 (pt_cmpR (wNeD K (hu64_of hr)) (pe_lc (own := [("_law_sign", 9)]) (g := (gName 9)) rfl sc_law_shown.nd (pi_str (pv 8)) (blkOk_by (own := [("_law_sign", 9)]) (N := ["_law_device", "_law_tables_here", "_law_lots_here", "_law_told", "_law_some", "_law_many", "_law_pair", "_law_wanted", "_law_row", "_law_sign"]) (sc := defScope s_law_shown) (by decide +kernel)) (fun _ _ _ _ _ => (gn_ 9 sc_law_shown.nd)) (fun _ _ _ _ _ => (pts_one (pt_cmpR op_notIn_sign (pv 9) (pe_slice sl_str pe_str po_none (po_some (pe_callB (wLen K) rfl T.f_len bo_len (pa_cons (pv 1) pa_nil)))) rfl))) (fun _ _ _ _ _ => (pv 9))) (pe_lst pa_nil) (nomark _))))))
(pss_one (ps_ret pe_bl))
pss_nil)
(pss_cons (ps_if (PW.pt (pw_or (pt_cmpR op_ne (pe_callB (wLen K) rfl T.f_len bo_len (pa_cons (pe_cl (ok_law_cuts (TT := TT) T) (hr.mono (by decide)) rfl (pa_cons (pv 2) (pa_cons (pv 8) pa_nil))) pa_nil)) (pv 7) (nomark _)) (pw_or1 (pt_cmp (pc_isN (pe_cl (ok_law_behind (TT := TT) T) (hr.mono (by decide)) rfl (pa_cons (pv 1) (pa_cons (pv 6) (pa_cons (pv 8) pa_nil)))))))))
(pss_one (ps_ret pe_bl))
pss_nil)
(pss_one (ps_if (PW.pt (pw_and (pt_cmp (pc_notN (pe_dget (hu_of hr) (pv 3) (pv 6) (fun _ _ => rfl)))) (pw_and1 (pt_cmp (pc_notN (pe_cl (ok_apart_row (TT := TT) T D) (hr.mono (by decide)) rfl (pa_cons (pv 0) (pa_cons (pv 2) (pa_cons (pv 6) (pa_cons (pe_op op_add (pv 7) pe_int) pa_nil))))))))))
(pss_one (ps_ret pe_bl))
pss_nil)))))))
(pss_one (ps_ret pe_bl))), fun Q q => ?_⟩
  refine q_for (T := TT) ok (i_list (e_var rfl r5)) fun H2 e2 => ?_
  have ok2 := ok.step e2
  refine ⟨fun j σ' G => ∃ o6 o7 o8 o9 : Option V, σ' = [some v1, some v2, some v3, some v4, some v5, some v6, o6, o7, o8, o9] ∧ Hd TT M H2 [] G, ⟨none, none, none, none, rfl, .start ok2⟩, fun j σ' G ⟨_, _, _, _, _, hh⟩ => ⟨_, hh.at_⟩, ?_, ?_⟩
  · rintro j x p σ' G0 G hj hjp ⟨o6, o7, o8, o9, rfl, hh0⟩ e0 rx
    have rp := rx _ hh0.at_
    have hh := hh0.step e0
    have hp : p ∈ ps := List.mem_of_getElem? hjp
    have vp := hps p hp
    have hpF : p ∈ F.map (·.1) := by rw [hkeys, prs_mem]; exact vp
    obtain ⟨e, he, rfl⟩ := List.mem_map.mp hpF
    have hg := getD_of_mem hnd (show (e.1, e.2) ∈ F from he)
    have hrk := hF.2 e he
    generalize e.2 = o at hg hrk
    generalize e.1 = p at hg hrk rp vp
    have hwant : wantN (many tabs) o ≤ 10 := by
      cases o with
      | none => show many tabs ≤ 10; omega
      | some t => have := rank_le hws hrk.1 hrk.2; show t ≤ 10; omega
    have up : ∀ {α : Type} {R : Rel α} {v : V} {x : α} {G' : Hp}, Es TT G G' → R.r (vis M H) v x → R.r (vis M G') v x := fun e r => Rel.es (T := TT) (Rel.up r ok e2) (hh.step e).at_.e
    have tbG : ∀ {G' : Hp}, Es TT G G' → LamX.Tabs TT (vis M G') := fun e => (hh.step e).okm.tabs ((hh.step e).es.t (e2.t tb))
    refine q_set (T := TT) (R := rNat) (x := wantN (many tabs) o) hh.okm (e_if (b := o.isNone) (t_B (e_isN nv_nat (e_dget (xs := F) (e_var rfl (up (.refl _) r4)) (e_var rfl rp) hg))) (fun hb => ?_) fun hb => ?_) fun wv G1 e1 rw1 => ?_
    · cases o with
      | some t => cases hb
      | none => exact e_var rfl (up (.refl _) r6)
    · cases o with
      | none => cases hb
      | some t => exact (e_dget (R := rO rNat) (xs := F) (x := some t) (e_var rfl (up (.refl _) r4)) (e_var rfl rp) hg).as fun _ _ r => r
    have okG1 := hh.okm.step e1
    have rp1 := Rel.up rp hh.okm e1
    refine q_setp (T := TT) (R := rO rW) (Post := fun o' => ∃ W' F', WebOk tabs ls W' ∧ ChOk W' (wantN (many tabs) o) F' ∧ o' = getD F' p) okG1 (e_c4T (x := tabs) (y := ls) (u := p) (t := wantN (many tabs) o) (tbG e1) (e_var rfl (up e1 r1)) (e_var rfl (up e1 r3)) (e_var rfl rp1) (e_var rfl rw1) ⟨gt, fam, vp, by omega⟩ fun _ h => h) fun rv G2 o' e3 ho' rr => ?_
    obtain ⟨W', F', hW', hF', rfl⟩ := ho'
    obtain ⟨r, hgr, hch⟩ := shown_row hW hW' hrk hF'
    rw [hgr] at rr
    have rr : rW.r (vis M G2) rv r := rr
    obtain ⟨hlet, hcut, hbh⟩ := chain_row hW' _ p r hch
    have hrl := chain_len (short_of hW') _ p r hch
    have hrl2 : r.length ≤ 10000 := by omega
    have e13 := e1.trans e3
    have okG2 := okG1.step e3
    have rp2 := Rel.up rp1 okG1 e3
    have rw2 := Rel.up rw1 okG1 e3
    have h5 : ∀ c ∈ r, c < 3 := fun c hc => by have := hlet c hc; omega
    have er : ∀ {σ : L2.St} {B : Hp}, σ[8]? = some (some rv) → Es TT (vis M G2) B → Ev TT (tVar 8) σ B rW r := fun h e => e_var h (Rel.es (R := rW) rr e)
    have et : Ev TT (tVar 1) [some v1, some v2, some v3, some v4, some v5, some v6, some x, some wv, some rv, o9] (vis M G2) (rL (rL rNat)) tabs := e_var rfl (up e13 r2)
    refine q_no (T := TT) okG2 ((t_or (t_not (t_B (e_isi (r := true) (er rfl (.refl _)) ty_W (by decide +kernel)))) fun _ => t_or (t_of (e_op (e_lenW (er rfl (.refl _)) (by omega)).int (e_int 10000) o_B0)) fun _ => t_of (e_op (Ev.to (x' := []) (e_lc (R := rLt) (S := rLt) (f := id) (p := fun c => !decide (c ∈ List.range tabs.length)) (i_word (er rfl (.refl _))) (fun _ => rfl) (by omega) fun H1 v c e hc rc => ⟨t_of (e_op (e_var rfl rc) (Ev.as (R := rS) (S := rW) (x := wS (List.range tabs.length)) (y := List.range tabs.length) (Ev.to (e_slS (e_str "abc") s_none (s_some (e_lenL (e_var (R := rL (rL rNat)) rfl (Rel.es (R := rL (rL rNat)) (up e13 r2) e))).int) (by decide)) (cut_abc2 ⟨tabs.length, by omega⟩)) fun _ _ r => r) o_niW), fun _ => e_var rfl rc⟩) ?_) (e_lst (R := rLt) (xs := []) a_nilP (by decide)) o_neNil)).to ?_) fun G3 e4 => ?_
    · rw [List.map_id]
      refine List.filter_eq_nil_iff.mpr fun c hc => ?_
      have := hlet c hc
      simp [this]
    · have : ¬ (r.length : Int) > 10000 := by omega
      simp [this]
    have e14 := e13.trans e4
    have okG3 := okG2.step e4
    have rr3 := Rel.up (R := rW) rr okG2 e4
    have rp3 := Rel.up rp2 okG2 e4
    have rw3 := Rel.up rw2 okG2 e4
    refine q_no (T := TT) okG3 ((t_or (t_of (e_op (e_lenLp (e_c2p (x := ls) (y := r) (Po := fun y => y.length = cuts ls [] r) (e_var rfl (up e14 r3)) (e_var (R := rW) rfl rr3) ⟨fam_lots fam n3, h5, by omega⟩ fun _ h => h) (fun y hy => hy)).int (e_var (R := rInt) (x := ((wantN (many tabs) o : Nat) : Int)) rfl rw3) o_neI)) fun _ => t_B (e_isN nv_P (e_c3 (x := tabs) (y := p) (u := r) (z := bhv tabs (some p) r) (e_var rfl (up e14 r2)) (e_var rfl rp3) (e_var (R := rW) rfl rr3) ⟨gt, vp, hlet⟩ fun _ h => h))).to ?_) fun G4 e5 => ?_
    · rw [hcut]
      cases hq : bhv tabs (some p) r with
      | none => exact absurd hq hbh
      | some _ => simp
    have e15 := e14.trans e5
    have okG4 := okG3.step e5
    have rp4 := Rel.up rp3 okG3 e5
    have rw4 := Rel.up rw3 okG3 e5
    refine q_no (T := TT) okG4 (EvT.to (t_and (b := o.isSome) (c := false) (t_B (e_notN nv_nat (e_dget (xs := F) (e_var rfl (up e15 r4)) (e_var rfl rp4) hg))) fun hb => ?_) (by simp)) fun G5 e6 => ?_
    · cases o with
      | none => cases hb
      | some t =>
        have ht : t ≤ 10 := hwant
        refine t_B (e_notN (u := none) nv_W (Evp.ev (Post := fun o' => ∃ W' F', WebOk tabs ls W' ∧ ChOk W' (t + 1) F' ∧ o' = getD F' p) (e_c4T (x := tabs) (y := ls) (u := p) (t := t + 1) (tbG e15) (e_var rfl (up e15 r1)) (e_var rfl (up e15 r3)) (e_var rfl rp4) (Ev.natI (e_op (e_var (R := rInt) (x := (t : Int)) rfl rw4) (e_int 1) o_I0) (by omega)) ⟨gt, fam, vp, by omega⟩ fun _ h => h) fun o' ⟨W2, F2, hW2, hF2, e⟩ => by rw [e]; exact shown_none hW hW2 hrk hF2))
    · exact ⟨_, _, _, _, rfl, hh.step (e15.trans e6)⟩
  · rintro σ' G ⟨o6, o7, o8, o9, rfl, hh⟩
    exact q _ G true (e2.trans hh.es) rfl rfl
end


end K29
set_option autoImplicit false
set_option maxHeartbeats 4000000
namespace K29
open PySem PySem.Spec PyProof.Rows L2
/-! The law's own sums: ranks, classes, sides, rows. -/
/-- a pair's rank as it is told -/
def rk (F : List (Pr × Option Nat)) (p : Pr) : Option Nat := (getD F p).getD none
section
variable {tabs : List (List Nat)} {ls : List Wd} {W W' : Web} {F : List (Pr × Option Nat)}
theorem rk_at (s : WebS W) (h : RankOk W F) {p : Pr} (hp : p ∈ W.map (·.1)) : getD F p = some (rk F p) ∧ RankAt W p (rk F p) := by
  have hnd : (F.map (·.1)).Nodup := by rw [h.1]; exact s.nd
  rw [← h.1] at hp
  obtain ⟨e, he, rfl⟩ := List.mem_map.mp hp
  have hg := getD_of_mem hnd (show (e.1, e.2) ∈ F from he)
  have : rk F e.1 = e.2 := by unfold rk; rw [hg]; rfl
  rw [this]
  exact ⟨hg, h.2 e he⟩
theorem rank_lt {p : Pr} {o : Option Nat} (h : RankAt W p o) (t : Nat) : p ∉ lev W t ↔ ∃ r, o = some r ∧ r < t := by
  cases o with
  | none => exact ⟨fun z => absurd (h t) z, fun ⟨r, e, _⟩ => by cases e⟩
  | some r =>
    obtain ⟨h1, h2⟩ := h
    refine ⟨fun z => ⟨r, rfl, ?_⟩, fun ⟨r', e, hl⟩ z => ?_⟩
    · exact Nat.lt_of_not_le fun hle => z (lev_le hle p h1)
    · cases e
      exact h2 (lev_le hl p z)
theorem vp_web (hW : WebOk tabs ls W) {p : Pr} : p ∈ W.map (·.1) ↔ Vp tabs p := by rw [hW.1]; exact prs_mem
theorem rank_range (g : Gt tabs) (hW : WebOk tabs ls W) (hW' : WebOk tabs ls W') (h : RankOk W F) {N : Nat} (h1 : (lev W' (N + 1)).length = (lev W' N).length) (h2 : ∀ t, t < N → (lev W' (t + 1)).length ≠ (lev W' t).length) (c : Nat) :
    c < N ↔ ∃ p, p ∈ prs (many tabs) ∧ rk F p = some c := by
  constructor
  · intro hc
    have : ∃ p, p ∈ lev W' c ∧ p ∉ lev W' (c + 1) := Classical.byContradiction fun hno => h2 c hc (Nat.le_antisymm (lev_sub c) (len_le_of_sub (lev_nd (hW'.s g) c) fun p hp => Classical.byContradiction fun z => hno ⟨p, hp, z⟩))
    obtain ⟨p, hp, hnp⟩ := this
    have hp0 : p ∈ W'.map (·.1) := lev_le (Nat.zero_le c) p hp
    have hpm : p ∈ prs (many tabs) := by rw [hW'.1] at hp0; exact hp0
    refine ⟨p, hpm, ?_⟩
    have hr := (rk_at (hW.s g) h (by rw [hW.1]; exact hpm)).2
    rw [← lev_same hW hW'] at hp hnp
    obtain ⟨r, e, hl⟩ := (rank_lt hr (c + 1)).mp hnp
    have : ¬ r < c := fun z => (rank_lt hr c).mpr ⟨r, e, z⟩ hp
    rw [e]
    congr 1
    omega
  · rintro ⟨p, hp, e⟩
    have hr := (rk_at (hW.s g) h (by rw [hW.1]; exact hp)).2
    rw [e] at hr
    obtain ⟨a, b⟩ := hr
    refine Nat.lt_of_not_le fun hle => b ?_
    rw [lev_same hW hW'] at a ⊢
    rw [lev_stable h1 (c + 1) (by omega), ← lev_stable h1 c hle]
    exact a
theorem within_iff {ps : List Pr} {p : Pr} : ∀ {cs : List (List Nat)}, (cs.Pairwise fun c c' => ∀ i ∈ c, ∀ j ∈ c', ¬ Sm ps i j) → (withinB cs p = true ↔ ∃ c, c ∈ cs ∧ p.1 ∈ c ∧ p.2 ∈ c)
  | [], _ => by simp [withinB]
  | c :: cs, h => by
    obtain ⟨h1, h2⟩ := List.pairwise_cons.mp h
    show (if p.1 ∈ c then decide (p.2 ∈ c) else withinB cs p) = true ↔ _
    by_cases e : p.1 ∈ c
    · rw [if_pos e, decide_eq_true_eq]
      refine ⟨fun z => ⟨c, List.mem_cons_self .., e, z⟩, fun ⟨d, hd, a, b⟩ => ?_⟩
      rcases List.mem_cons.mp hd with z | z
      · rw [← z]; exact b
      · exact absurd (.inl rfl) (h1 d z p.1 e p.1 a)
    · rw [if_neg e, within_iff h2]
      refine ⟨fun ⟨d, hd, a⟩ => ⟨d, List.mem_cons_of_mem _ hd, a⟩, fun ⟨d, hd, a, b⟩ => ?_⟩
      rcases List.mem_cons.mp hd with z | z
      · exact absurd (z ▸ a) e
      · exact ⟨d, z, a, b⟩
theorem same_cls {n : Nat} {ps : List Pr} {cs : List (List Nat)} (h : ClsOk n ps cs) {i j : Nat} {c d : List Nat} (hc : c ∈ cs) (hd : d ∈ cs) (a : i ∈ c) (b : j ∈ d) (hs : Sm ps i j) : c = d := by
  obtain ⟨k, hk, ek⟩ := List.mem_iff_getElem.mp hc
  obtain ⟨m, hm, em⟩ := List.mem_iff_getElem.mp hd
  have h2 := List.pairwise_iff_getElem.mp h.two
  rcases Nat.lt_trichotomy k m with z | z | z
  · exact absurd hs (h2 k m hk hm z i (by rw [ek]; exact a) j (by rw [em]; exact b))
  · subst z
    rw [← ek, ← em]
  · exact absurd hs.symm (h2 m k hm hk z j (by rw [em]; exact b) i (by rw [ek]; exact a))
theorem within_sm {n : Nat} {ps : List Pr} {cs : List (List Nat)} (h : ClsOk n ps cs) {p : Pr} (h1 : p.1 < n) (h2 : p.2 < n) : withinB cs p = true ↔ Sm ps p.1 p.2 := by
  rw [within_iff h.two]
  constructor
  · rintro ⟨c, hc, a, b⟩
    exact (h.one c hc _ a _ b).2
  · intro hs
    obtain ⟨c, hc, a⟩ := h.all _ h1
    obtain ⟨d, hd, b⟩ := h.all _ h2
    have := same_cls h hc hd a b hs
    subst this
    exact ⟨c, hc, a, b⟩
theorem cmpl_mem {t : Nat} {p : Pr} : p ∈ cmpl W t ↔ p ∈ W.map (·.1) ∧ p ∉ lev W t := by
  unfold cmpl
  rw [List.mem_filter]
  simp
theorem sm_lev (hW : WebOk tabs ls W) {t : Nat} {p : Pr} (vp : Vp tabs p) : Sm (cmpl W t) p.1 p.2 ↔ p ∉ lev W t := by
  unfold Sm
  have v1 := vp.1
  constructor
  · rintro (z | z | z)
    · omega
    · exact (cmpl_mem.mp z).2
    · have := (vp_web hW).mp (cmpl_mem.mp z).1
      have h := this.1
      have h : p.2 < p.1 := h
      omega
  · intro z
    exact .inr (.inl (cmpl_mem.mpr ⟨(vp_web hW).mpr vp, z⟩))
/-- a class test says what is told -/
theorem class_told (g : Gt tabs) (hW : WebOk tabs ls W) (hW' : WebOk tabs ls W') (hF : RankOk W F) {gs : List (List (List Nat))} (hg : GrpOk (many tabs) W' gs) {t : Nat} {c : List (List Nat)} (hc : gs[t]? = some c) {p : Pr} (vp : Vp tabs p) :
    withinB c p = (match rk F p with | none => false | some r => decide (r < t)) := by
  obtain ⟨N, _, _, _, hcls⟩ := hg
  have hk := hcls t c hc
  have hr := (rk_at (hW.s g) hF ((vp_web hW).mpr vp)).2
  have e1 := within_sm hk (show p.1 < many tabs from Nat.lt_trans vp.1 vp.2) vp.2
  rw [sm_lev hW' vp, ← lev_same hW hW', rank_lt hr t] at e1
  cases hq : rk F p with
  | none =>
    rw [hq] at e1
    cases hb : withinB c p with
    | false => rfl
    | true =>
      obtain ⟨r, z, _⟩ := e1.mp hb
      cases z
  | some r =>
    rw [hq] at e1
    show withinB c p = decide (r < t)
    rw [Bool.eq_iff_iff, e1, decide_eq_true_eq]
    exact ⟨fun ⟨r', z, l⟩ => by cases z; exact l, fun l => ⟨r, rfl, l⟩⟩
/-! ### of three pairs none is kept longer than the longer of the others -/
theorem ult (g : Gt tabs) (hW : WebOk tabs ls W) {i j k t : Nat} (hij : i < j) (hjk : j < k) (hk : k < many tabs) :
    ((i, j) ∈ lev W t → (i, k) ∈ lev W t ∨ (j, k) ∈ lev W t) ∧ ((i, k) ∈ lev W t → (i, j) ∈ lev W t ∨ (j, k) ∈ lev W t) ∧ ((j, k) ∈ lev W t → (i, j) ∈ lev W t ∨ (i, k) ∈ lev W t) := by
  have tr := (web_j g hW t).tr
  have e1 := sm_lev (t := t) hW (p := (i, j)) ⟨hij, by show j < _; omega⟩
  have e2 := sm_lev (t := t) hW (p := (i, k)) ⟨by show i < k; omega, hk⟩
  have e3 := sm_lev (t := t) hW (p := (j, k)) ⟨hjk, hk⟩
  have e1 : Sm (cmpl W t) i j ↔ (i, j) ∉ lev W t := e1
  have e2 : Sm (cmpl W t) i k ↔ (i, k) ∉ lev W t := e2
  have e3 : Sm (cmpl W t) j k ↔ (j, k) ∉ lev W t := e3
  have li : i < many tabs := by omega
  have lj : j < many tabs := by omega
  refine ⟨fun h => Classical.byContradiction fun z => ?_, fun h => Classical.byContradiction fun z => ?_, fun h => Classical.byContradiction fun z => ?_⟩
  · exact e1.mp (tr i k j li hk lj (e2.mpr fun q => z (.inl q)) (e3.mpr fun q => z (.inr q)).symm) h
  · exact e2.mp (tr i j k li lj hk (e1.mpr fun q => z (.inl q)) (e3.mpr fun q => z (.inr q))) h
  · exact e3.mp (tr j i k lj li hk (e1.mpr fun q => z (.inl q)).symm (e2.mpr fun q => z (.inr q))) h
theorem side_le {m : Nat} {pa pb pc : Pr} {a b c : Option Nat} (ha : RankAt W pa a) (hb : RankAt W pb b) (hc : RankAt W pc c) (la : ∀ r, a = some r → r ≤ m) (u : ∀ t, pa ∈ lev W t → pb ∈ lev W t ∨ pc ∈ lev W t) : a.getD m ≤ max (b.getD m) (c.getD m) := by
  refine Nat.le_of_not_lt fun hlt => ?_
  have hb1 : b.getD m < a.getD m := Nat.lt_of_le_of_lt (Nat.le_max_left ..) hlt
  have hc1 : c.getD m < a.getD m := Nat.lt_of_le_of_lt (Nat.le_max_right ..) hlt
  have ham : a.getD m ≤ m := by
    cases a with
    | none => exact Nat.le_refl _
    | some r => exact la r rfl
  have kept : pa ∈ lev W (a.getD m) := Classical.byContradiction fun z => by
    obtain ⟨r, e, l⟩ := (rank_lt ha _).mp z
    rw [e] at l
    exact Nat.lt_irrefl _ l
  have no : ∀ {q : Pr} {o : Option Nat}, RankAt W q o → o.getD m < a.getD m → q ∉ lev W (a.getD m) := fun {q o} ho hl => by
    cases o with
    | none =>
      have hl : m < a.getD m := hl
      omega
    | some r => exact (rank_lt ho _).mpr ⟨r, rfl, hl⟩
  rcases u _ kept with z | z
  · exact no hb hb1 z
  · exact no hc hc1 z
theorem sorted3 {a b c : Int} {ns : List Int} (hp : ns.Perm [a, b, c]) (ho : ns.Pairwise (· ≤ ·)) (h1 : a ≤ max b c) (h2 : b ≤ max a c) (h3 : c ≤ max a b) : ∃ x y, ns = [x, y, y] := by
  have hl := hp.length_eq
  match ns, hl with
  | [x, y, z], _ =>
    have hxy : x ≤ y ∧ y ≤ z := by
      rw [List.pairwise_cons, List.pairwise_cons] at ho
      exact ⟨ho.1 y (by simp), ho.2.1 z (by simp)⟩
    have hm : ∀ v, v ∈ [x, y, z] ↔ v ∈ [a, b, c] := fun v => hp.mem_iff
    have hc : ∀ v, [x, y, z].count v = [a, b, c].count v := fun v => hp.count_eq v
    refine ⟨x, y, ?_⟩
    have hz : z = a ∨ z = b ∨ z = c := by simpa using (hm z).mp (by simp)
    have ha : a = x ∨ a = y ∨ a = z := by simpa using (hm a).mpr (by simp)
    have hb : b = x ∨ b = y ∨ b = z := by simpa using (hm b).mpr (by simp)
    have hcc : c = x ∨ c = y ∨ c = z := by simpa using (hm c).mpr (by simp)
    have key : y = z := by
      refine Classical.byContradiction fun hne => ?_
      have hcz := hc z
      have hxz : ¬ x = z := by omega
      have e1 : [x, y, z].count z = 1 := by simp [List.count_cons, hxz, hne]
      rw [e1, List.count_cons, List.count_cons, List.count_cons, List.count_nil] at hcz
      by_cases qa : a = z <;> by_cases qb : b = z <;> by_cases qc : c = z <;> simp [qa, qb, qc] at hcz <;> omega
    rw [key]
/-! ### rows -/
/-- what is heard and how often it was cut, one letter on -/
def stp (ls : List Wd) (z : Wd × Nat) (s : Nat) : Wd × Nat := if fullB ls (mo z.1 s) = true then ([], z.2 + 1) else (mo z.1 s, z.2)
theorem stp_cuts : ∀ (r : Wd) (h : Wd) (c : Nat), (r.foldl (stp ls) (h, c)).2 = c + cuts ls h r
  | [], h, c => rfl
  | s :: r, h, c => by
    show (r.foldl (stp ls) (stp ls (h, c) s)).2 = c + (if fullB ls (mo h s) = true then cuts ls [] r + 1 else cuts ls (mo h s) r)
    unfold stp
    by_cases e : fullB ls (mo h s) = true
    · rw [if_pos e, if_pos e]
      have := stp_cuts r [] (c + 1)
      unfold stp at this
      rw [this]
      omega
    · rw [if_neg e, if_neg e]
      have := stp_cuts r (mo h s) c
      unfold stp at this
      exact this
theorem stp_hd3 : ∀ (r : Wd) (z : Wd × Nat), Hd3 z.1 → Hd3 (r.foldl (stp ls) z).1
  | [], z, h => h
  | s :: r, z, h => by
    refine stp_hd3 r (stp ls z s) ?_
    unfold stp
    by_cases e : fullB ls (mo z.1 s) = true
    · rw [if_pos e]; exact hd3_nil
    · rw [if_neg e]; exact hd3_mo _ _
/-- a pair that is still apart has heard no more rounds than it is told -/
theorem row_told (g : Gt tabs) (hW : WebOk tabs ls W) (hF : RankOk W F) {p : Pr} (vp : Vp tabs p) {r : Wd} (hr : ∀ s ∈ r, s < tabs.length) (hb : bhv tabs (some p) r ≠ none) {t : Nat} (ht : rk F p = some t) : cuts ls [] r ≤ t := by
  have hk := (rk_at (hW.s g) hF ((vp_web hW).mpr vp)).2
  have h1 : p ∈ lev W (cuts ls [] r) := (lev_kt hW _ _).mpr ⟨vp, r, hr, rfl, hb⟩
  exact Nat.le_of_not_lt fun z => (rank_lt hk _).mpr ⟨t, ht, z⟩ h1
/-- the states that a row comes to -/
def plc (tabs : List (List Nat)) (r : Wd) : List Nat := (List.range (many tabs)).filter fun c => (List.range (many tabs)).any fun i => decide (run tabs i r = c)
theorem plc_asc (r : Wd) : (plc tabs r).Pairwise (· < ·) := List.Pairwise.filter _ List.pairwise_lt_range
theorem plc_mem (g : Gt tabs) {r : Wd} (hr : ∀ s ∈ r, s < tabs.length) {c : Nat} : c ∈ plc tabs r ↔ ∃ i, i < many tabs ∧ run tabs i r = c := by
  unfold plc
  rw [List.mem_filter, List.mem_range, List.any_eq_true]
  constructor
  · rintro ⟨_, i, hi, e⟩
    exact ⟨i, List.mem_range.mp hi, of_decide_eq_true e⟩
  · rintro ⟨i, hi, e⟩
    exact ⟨by rw [← e]; exact run_lt g r i hi hr, i, List.mem_range.mpr hi, decide_eq_true e⟩
theorem plc_nil : plc tabs [] = List.range (many tabs) := by
  unfold plc
  refine List.filter_eq_self.mpr fun c hc => List.any_eq_true.mpr ⟨c, hc, decide_eq_true rfl⟩
theorem run_snoc (i : Nat) (r : Wd) (s : Nat) : run tabs i (r ++ [s]) = cell tabs s (run tabs i r) := by
  unfold run
  rw [List.foldl_append]
  rfl
theorem plc_snoc (g : Gt tabs) {r : Wd} {s : Nat} (hr : ∀ x ∈ r ++ [s], x < tabs.length) (c : Nat) : c ∈ plc tabs (r ++ [s]) ↔ c ∈ (plc tabs r).map (cell tabs s) := by
  have hr0 : ∀ x ∈ r, x < tabs.length := fun x hx => hr x (List.mem_append_left _ hx)
  rw [plc_mem g hr, List.mem_map]
  constructor
  · rintro ⟨i, hi, e⟩
    exact ⟨run tabs i r, (plc_mem g hr0).mpr ⟨i, hi, rfl⟩, by rw [← e, run_snoc]⟩
  · rintro ⟨x, hx, e⟩
    obtain ⟨i, hi, e2⟩ := (plc_mem g hr0).mp hx
    exact ⟨i, hi, by rw [run_snoc, e2, e]⟩
theorem plc_len (tabs : List (List Nat)) (r : Wd) : (plc tabs r).length ≤ many tabs := by
  unfold plc
  have := List.length_filter_le (fun c => (List.range (many tabs)).any fun i => decide (run tabs i r = c)) (List.range (many tabs))
  rw [List.length_range] at this
  exact this
theorem inj_len {f : Nat → Nat} : ∀ {m : List Nat}, m.Nodup → (∀ x ∈ m, ∀ y ∈ m, f x = f y → x = y) → (m.map f).Nodup
  | [], _, _ => List.nodup_nil
  | a :: m, nd, h => by
    obtain ⟨n1, n2⟩ := List.nodup_cons.mp nd
    rw [List.map_cons, List.nodup_cons]
    refine ⟨fun z => ?_, inj_len n2 fun x hx y hy => h x (List.mem_cons_of_mem _ hx) y (List.mem_cons_of_mem _ hy)⟩
    obtain ⟨b, hb, e⟩ := List.mem_map.mp z
    have := h b (List.mem_cons_of_mem _ hb) a (List.mem_cons_self ..) e
    exact n1 (this ▸ hb)
theorem cmpl_stable {N : Nat} (h : (lev W (N + 1)).length = (lev W N).length) (t : Nat) : cmpl W t = cmpl W (min t N) := by
  unfold cmpl
  by_cases q : t ≤ N
  · rw [Nat.min_eq_left q]
  · rw [Nat.min_eq_right (by omega), lev_stable h t (by omega)]
/-- states taken are no more than the classes -/
theorem places_le (g : Gt tabs) (hW : WebOk tabs ls W) {gs : List (List (List Nat))} (hg : GrpOk (many tabs) W gs) {r : Wd} (hr : ∀ s ∈ r, s < tabs.length) {c : List (List Nat)} (hc : gs[min (cuts ls [] r) (gs.length - 1)]? = some c) : (plc tabs r).length ≤ c.length := by
  obtain ⟨N, hN, _, hlen, hcls⟩ := hg
  have hk := hcls _ c hc
  have e1 : gs.length - 1 = N := by omega
  rw [e1] at hk
  rw [← cmpl_stable hN] at hk
  have hex : ∀ x, x ∈ plc tabs r → ∃ k, k < c.length ∧ ∃ i, i < many tabs ∧ run tabs i r = x ∧ ∃ d, c[k]? = some d ∧ i ∈ d := fun x hx => by
    obtain ⟨i, hi, e⟩ := (plc_mem g hr).mp hx
    obtain ⟨d, hd, hid⟩ := hk.all i hi
    obtain ⟨k, hkl, ek⟩ := List.mem_iff_getElem.mp hd
    exact ⟨k, hkl, i, hi, e, d, by rw [List.getElem?_eq_getElem hkl, ek], hid⟩
  have hf : ∀ x : Nat, ∃ k : Nat, x ∈ plc tabs r → k < c.length ∧ ∃ i, i < many tabs ∧ run tabs i r = x ∧ ∃ d, c[k]? = some d ∧ i ∈ d := fun x => by
    by_cases hx : x ∈ plc tabs r
    · obtain ⟨k, h⟩ := hex x hx
      exact ⟨k, fun _ => h⟩
    · exact ⟨0, fun z => absurd z hx⟩
  let f : Nat → Nat := fun x => Classical.choose (hf x)
  have hfs : ∀ x, x ∈ plc tabs r → f x < c.length ∧ ∃ i, i < many tabs ∧ run tabs i r = x ∧ ∃ d, c[f x]? = some d ∧ i ∈ d := fun x => Classical.choose_spec (hf x)
  have nd : (plc tabs r).Nodup := (plc_asc r).imp fun h => Nat.ne_of_lt h
  have hinj := inj_len (f := f) nd fun x hx y hy e => by
    obtain ⟨_, i, hi, ei, d, hd, hid⟩ := hfs x hx
    obtain ⟨_, j, hj, ej, d2, hd2, hjd⟩ := hfs y hy
    rw [e, hd2] at hd
    cases hd
    have hs := (hk.one d (List.mem_of_getElem? hd2) i hid j hjd).2
    have hn := (sm_nk hW hi hj).mp hs
    rw [← ei, ← ej]
    exact hn r hr rfl
  have := len_le_of_sub (m := List.range c.length) hinj fun k hk => by
    obtain ⟨x, hx, e⟩ := List.mem_map.mp hk
    rw [← e]
    exact List.mem_range.mpr (hfs x hx).1
  rw [List.length_map, List.length_range] at this
  exact this
end

end K29
set_option autoImplicit false
set_option maxHeartbeats 4000000
namespace K29
open PySem PySem.Spec PyProof.Rows L2
/-! repr, sorted, sets. -/
section
variable {X : Cx} {w : World}
theorem wSetL (hw : X.w = w) (hc : X.calm = true) : CallR X (.type "set") (rSetL X.K w) := by
  subst hw
  exact cr_setL hc
theorem wSortedSet (hw : X.w = w) (hc : X.calm = true) : CallR X (.builtin "sorted") (rSortedSet w) := by
  subst hw
  exact cr_sortedSet hc
end
section
variable {T : List (Addr × Str)} {K : PySem.W.Frag} {w : World} {α : Type} {σ : L2.St} {H : Hp} {N : List Addr} {R : Rel α} {ta te : TE} {x : α}
theorem e_repr {d : PyData} (h : Ev T ta σ H R x) (hd : ∀ (N : List Addr) (G : Hp) (v : V), R.r (vis N G) v x → ∃ a, v = .ref a ∧ Dp K G (.ref a) d) (h1 : d.showable = true) (h2 : d.hasDict = false) (h3 : d.depth ≤ 8) (h4 : d.shown.length ≤ 16777216) : Ev T (tCB (rRepr K) (tCons ta tNil)) σ H rS d.shown := fun N H1 e Q q =>
  h N H1 e _ fun v H2 e2 r => by
    obtain ⟨a, rfl, hdp⟩ := hd N H2 v r
    exact ⟨a, d, rfl, hdp, h1, h2, h3, by rw [sizeLine_eq]; exact h4, q _ H2 e2 rfl⟩
def dPs (ps : List Pr) : PyData := .list (ps.map fun p => .tuple [.int (p.1 : Int), .int (p.2 : Int)])
def dNs (ns : List Nat) : PyData := .list (ns.map fun n : Nat => PyData.int (n : Int))
theorem dpa_ps {N : List Addr} {G : Hp} : ∀ {vs : List V} {ps : List Pr}, Paired (rP.r (vis N G)) vs ps → DpAll K G vs (ps.map fun p => PyData.tuple [.int (p.1 : Int), .int (p.2 : Int)])
  | _, _, .nil => .nil
  | _, _, .cons r t => .cons (by
    obtain ⟨p, rfl, h⟩ := r
    exact .tup (SqT.of (vis_sub h)) (.cons (.int _) (.cons (.int _) .nil))) (dpa_ps t)
theorem dpa_ns {N : List Addr} {G : Hp} : ∀ {vs : List V} {ns : List Nat}, Paired (rNat.r (vis N G)) vs ns → DpAll K G vs (ns.map fun n : Nat => PyData.int (n : Int))
  | _, _, .nil => .nil
  | _, _, .cons r t => .cons (by rw [show _ = V.int _ from r]; exact .int _) (dpa_ns t)
theorem e_reprP {n : Nat} (hn : n ≤ 5) (h : Ev T ta σ H (rL rP) (prs n)) : Ev T (tCB (rRepr K) (tCons ta tNil)) σ H rS (dPs (prs n)).shown := by
  have key : ∀ m : Fin 6, (dPs (prs m.1)).showable = true ∧ (dPs (prs m.1)).hasDict = false ∧ (dPs (prs m.1)).depth ≤ 8 ∧ (dPs (prs m.1)).shown.length ≤ 16777216 := by decide +kernel
  obtain ⟨h1, h2, h3, h4⟩ := key ⟨n, by omega⟩
  exact e_repr (d := dPs (prs n)) h (fun N G v ⟨p, vs, h1, h2, h3⟩ => ⟨p, h1, .lst (SqL.of (vis_sub h2)) (dpa_ps h3)⟩) h1 h2 h3 h4
theorem e_reprN {n : Nat} (hn : n ≤ 12) (h : Ev T ta σ H (rL rNat) (List.range n)) : Ev T (tCB (rRepr K) (tCons ta tNil)) σ H rS (dNs (List.range n)).shown := by
  have key : ∀ m : Fin 13, (dNs (List.range m.1)).showable = true ∧ (dNs (List.range m.1)).hasDict = false ∧ (dNs (List.range m.1)).depth ≤ 8 ∧ (dNs (List.range m.1)).shown.length ≤ 16777216 := by decide +kernel
  obtain ⟨h1, h2, h3, h4⟩ := key ⟨n, by omega⟩
  exact e_repr (d := dNs (List.range n)) h (fun N G v ⟨p, vs, h1, h2, h3⟩ => ⟨p, h1, .lst (SqL.of (vis_sub h2)) (dpa_ns h3)⟩) h1 h2 h3 h4
theorem int_nats : ∀ {ns : List Int}, (∀ k ∈ ns, 0 ≤ k) → ns = (ns.map Int.toNat).map fun n : Nat => (n : Int)
  | [], _ => rfl
  | k :: ns, h => by
    show k :: ns = ((k.toNat : Nat) : Int) :: _
    rw [← int_nats fun j hj => h j (List.mem_cons_of_mem _ hj), show ((k.toNat : Nat) : Int) = k by have := h k (List.mem_cons_self ..); omega]
theorem e_sortedSetL {l m : List Nat} (h : Ev T ta σ H (rL rNat) l) (hl : l.length < 64) (hm : m.Pairwise (· < ·)) (he : ∀ c, c ∈ m ↔ c ∈ l) : Ev T (tCB (rSortedSet w) (tCons (tCB (rSetL K w) (tCons ta tNil)) tNil)) σ H (rL rNat) m := fun N H1 e Q q =>
  h N H1 e _ fun v H2 e2 ⟨p, vs, hv, hp, hr⟩ => by
    cases nat_vs hr
    subst hv
    refine ⟨p, l.map fun n : Nat => (n : Int), rfl, by rw [List.map_map]; exact SqL.of (vis_sub hp), by rw [List.length_map]; omega, fun p2 c hp2 hc => ?_⟩
    rw [List.length_map] at hc
    refine ⟨p2, _, c, rfl, upd_same, by omega, fun ns p3 hpw hmem hlen hp3 => ?_⟩
    have hnn : ∀ k ∈ ns, 0 ≤ k ∧ k.toNat ∈ l := fun k hk => by
      have h1 := of_decide_eq_true ((hmem k).mp hk)
      obtain ⟨n, hn, rfl⟩ := List.mem_map.mp h1
      exact ⟨by omega, by rw [Int.toNat_natCast]; exact hn⟩
    have hns := int_nats fun k hk => (hnn k hk).1
    have hmm : ns.map Int.toNat = m := by
      refine asc_ext ?_ hm fun c => ?_
      · rw [List.pairwise_map]
        exact hpw.imp_of_mem fun {a b} ha hb hab => by have h1 := (hnn a ha).1; have h2 := (hnn b hb).1; omega
      · rw [he, List.mem_map]
        constructor
        · rintro ⟨k, hk, rfl⟩
          exact (hnn k hk).2
        · intro hc
          exact ⟨(c : Int), (hmem _).mpr (decide_eq_true (List.mem_map.mpr ⟨c, hc, rfl⟩)), Int.toNat_natCast c⟩
    have e4 : Es T H2 (upd (upd H2 p2 (SetO w p2 (fun j => decide (j ∈ l.map fun n : Nat => (n : Int))) c)) p3 (.lst (ns.map V.int))) := (Es.new hp2).trans (.new hp3)
    refine q _ _ (e2.trans e4) ⟨p3, _, rfl, vis_new ((e.step e2).ok.step (Es.new (T := T) hp2)) hp3, ?_⟩
    rw [hns, hmm, List.map_map]
    exact pr_of (g := fun n : Nat => V.int (n : Int)) m
end

end K29
set_option autoImplicit false
set_option maxHeartbeats 4000000
namespace K29
open PySem PySem.Spec PyProof.Rows L2
/-! The walks, 24: the law's end. -/
abbrev Nlaw : List Str := ["_law_script", "_law_box_here", "_law_tables_here", "_law_many", "_law_signals", "_law_lots_here", "_law_device", "_law_table_here", "_law_tower", "_law_pair", "_law_most", "_law_told", "_law_now", "_law_one", "_law_at", "_law_classes", "_law_great", "_law_i", "_law_j", "_law_k", "_law_sides", "_law_row", "_law_heard", "_law_cuts_here", "_law_turn", "_law_states", "_law_places", "_law_signal", "_law_s", "_law_some"]
abbrev XL (P : Program) (w : World) (K : PySem.W.Frag) (mg : Str → Option Value) (base : Heap) (f : Addr) (cdv : Value) (A : Around) (outer : List Env) (s : Shared) (H : Hp) (E : XK) : Cx := (cxOf L2.CX0 P w K mg base Nlaw "law" (defScope s_law) f cdv A outer s H E).nox
/-- the room that the law has -/
structure RmL (A : Around) (s : Shared) (f : Addr) (cdv : Value) : Prop where
  hr : Room 8 (A.deeper (envOfC "law" (defScope s_law) s.heap.objs.size f cdv))
  hg : (A.deeper (envOfC "law" (defScope s_law) s.heap.objs.size f cdv)).guards = some []
/-- script, tables, states, signals, lots, device -/
def rB1 (K : PySem.W.Frag) (C : Addr) (ns : List Int) (tabs : List (List Nat)) (ls : List Wd) (v0 v2 v3 v4 v5 v6 : V) : Rel Unit := ⟨fun H _ _ => (rQ K).r H v0 ns ∧ (rL (rL rNat)).r H v2 tabs ∧ rNat.r H v3 (many tabs) ∧ rW.r H v4 (List.range tabs.length) ∧ (rL rW).r H v5 ls ∧ (rDev C).r H v6 tabs,
  fun e ⟨h1, h2, h3, h4, h5, h6⟩ => ⟨(rQ K).st e h1, (rL (rL rNat)).st e h2, h3, h4, (rL rW).st e h5, (rDev C).st e h6⟩⟩
/-- and the tower, what is told -/
def rB2 (K : PySem.W.Frag) (C : Addr) (ns : List Int) (tabs : List (List Nat)) (ls : List Wd) (gs : List (List (List Nat))) (F : List (Pr × Option Nat)) (v0 v2 v3 v4 v5 v6 v8 v11 : V) : Rel Unit := ⟨fun H u x => (rB1 K C ns tabs ls v0 v2 v3 v4 v5 v6).r H u x ∧ (rT (rT (rT rNat))).r H v8 gs ∧ (rD (rO rNat)).r H v11 F,
  fun e ⟨h1, h2, h3⟩ => ⟨(rB1 K C ns tabs ls v0 v2 v3 v4 v5 v6).st e h1, (rT (rT (rT rNat))).st e h2, (rD (rO rNat)).st e h3⟩⟩
/-- what is known of the device, the lots, the tower, the table -/
structure Kn (tabs : List (List Nat)) (ls : List Wd) (gs : List (List (List Nat))) (F : List (Pr × Option Nat)) (W W' : Web) : Prop where
  gt : Gt tabs
  fam : Fam tabs.length ls
  hW : WebOk tabs ls W
  hW' : WebOk tabs ls W'
  hF : RankOk W F
  hG : GrpOk (many tabs) W' gs
section
variable {P : Program} {w : World} {K : PySem.W.Frag} {mg : Str → Option Value} {base : Heap} {C : Addr} {TT : List (Addr × Str)} {f : Addr} {cdv : Value} {A : Around} {outer : List Env} {s : Shared} {H : Hp} {E : XK}
theorem law_6 (T : Tx K mg C) (D : Lx K mg base TT) (rm : RmL A s f cdv) : ∃ t, PSs (XL P w K mg base f cdv A outer s H E) ((defBody s_law).drop 21) t ∧
    ∀ (Q : VK) (G : Hp) (b : Addr) (ns : List Int) (tabs : List (List Nat)) (ls : List Wd) (gs : List (List (List Nat))) (F : List (Pr × Option Nat)) (W W' : Web) (v0 v2 v3 v4 v5 v6 v8 v11 v25 : V) (o7 o9 o10 o12 o13 o14 o15 o16 o17 o18 o19 o20 o21 o22 o23 o24 o26 o27 o28 o29 : Option V),
      Nok [b] G → IsBox G b → LamX.Tabs TT G → Kn tabs ls gs F W W' → (rB2 K C ns tabs ls gs F v0 v2 v3 v4 v5 v6 v8 v11).r (vis [b] G) .non () → (rL rP).r (vis [b] G) v25 (prs (many tabs)) → (∀ H', Q (.bl true) H') →
      t { nx := fun _ H' => Q .non H', rt := Q } [some v0, some (.ref b), some v2, some v3, some v4, some v5, some v6, o7, some v8, o9, o10, some v11, o12, o13, o14, o15, o16, o17, o18, o19, o20, o21, o22, o23, o24, some v25, o26, o27, o28, o29] G := by
  have hr := rm.hr
  refine ⟨_, pss_cons (st_ 29 sc_law.nd (pe_lst (pa_cons (pe_cl (ok_law_pick (TT := TT) T) (hr.mono (by decide)) rfl (pa_cons (pv 1) (pa_cons (pv 25) pa_nil))) (pa_cons (pe_cl (ok_law_pick (TT := TT) T) (hr.mono (by decide)) rfl (pa_cons (pv 1) (pa_cons (pv 25) pa_nil))) pa_nil)))) (pss_one (ps_ret (pe_cl (ok_law_shown (TT := TT) T D) (hr.mono (by decide)) rfl (pa_cons (pv 6) (pa_cons (pv 2) (pa_cons (pv 5) (pa_cons (pv 11) (pa_cons (pv 29) (pa_cons (pv 3) pa_nil))))))))), fun Q G b ns tabs ls gs F W W' v0 v2 v3 v4 v5 v6 v8 v11 v25 o7 o9 o10 o12 o13 o14 o15 o16 o17 o18 o19 o20 o21 o22 o23 o24 o26 o27 o28 o29 ok hx tb kn rb rs q => ?_⟩
  have gt := kn.gt
  have m5 := gt.m5
  have m3 := gt.m3
  have hb : b ∈ [b] := List.mem_singleton.mpr rfl
  have hps : ∀ xs : List Pr, xs = prs (many tabs) → 0 < xs.length ∧ xs.length ≤ 1000000 ∧ ∀ x ∈ xs, Vp tabs x := fun xs h => by
    subst h
    have key : ∀ m : Fin 6, 3 ≤ m.1 → 0 < (prs m.1).length ∧ (prs m.1).length ≤ 10 := by decide +kernel
    have h1 := key ⟨many tabs, by omega⟩ m3
    exact ⟨h1.1, Nat.le_trans h1.2 (by decide), fun x hx => prs_mem.mp hx⟩
  refine q_setb (T := TT) hb ok hx (e_lstb (Ps := fun p => Vp tabs p) (ab_consP (e_pickL (Pl := fun xs => xs = prs (many tabs)) rfl (e_var rfl rs).bx hps) (ab_consP (e_pickL (Pl := fun xs => xs = prs (many tabs)) rfl (e_var rfl rs).bx hps) ab_nilP)) (by decide)) fun sv G1 ps bx hp rp => ?_
  have tb1 : LamX.Tabs TT (vis [b] G1) := bx.at_.e.t (ok.tabs tb)
  obtain ⟨⟨h0, h2, h3, h4, h5, h6⟩, h8, h11⟩ := bx.up rb
  refine q_retp (T := TT) (R := rB) (Post := fun y => y = true) bx.ok (e_callT (⟨tabs, ls, F, ps⟩ : ShArg) tb1 (a_cons (e_var rfl h6) (a_cons (e_var rfl h2) (a_cons (e_var rfl h5) (a_cons (e_var rfl h11) (a_cons (e_var rfl rp) (a_cons (e_var rfl h3) a_nil)))))) (fun G2 vs e ⟨u1, _, e1, g1, u2, _, e2, g2, u3, _, e3, g3, u4, _, e4, g4, u5, _, e5, g5, u6, _, e6, g6, e7⟩ => ?_) fun y h => h) fun v H' y _ hy r => ?_
  · have r : v = .bl y := r
    rw [r, hy]
    exact q H'
  · subst e7 e6 e5 e4 e3 e2 e1
    exact ⟨⟨u1, u2, u3, u4, u5, u6, rfl, g1, g2, g3, g4, g5, g6⟩, gt, kn.fam, ⟨W, kn.hW, kn.hF⟩, hp.2⟩
end


end K29
set_option autoImplicit false
set_option maxHeartbeats 4000000
namespace K29
open PySem PySem.Spec PyProof.Rows L2
/-! The walks, 25: the row is heard. -/
section
variable {T : List (Addr × Str)} {α : Type} {σ : L2.St} {H : Hp} {N : List Addr} {tt : TT} {b : Bool} {D : Ends} {ts us : TS}
/-- an if whose ways meet -/
theorem q_ifJ (Pj : L2.St → Hp → Prop) (ok : Nok N H) (h : EvT T tt σ (vis N H) b) (kj : ∀ σ' H', Pj σ' H' → D.nx σ' H') (k1 : (∀ σ' H', Pj σ' H' → D.nx σ' H') → b = true → ∀ H', Es T H H' → ts D σ H') (k2 : (∀ σ' H', Pj σ' H' → D.nx σ' H') → b = false → ∀ H', Es T H H' → us D σ H') : tIfS tt ts us D σ H :=
  q_if (T := T) ok h (k1 kj) (k2 kj)
theorem rP_hide {G : Hp} {v : V} {x : Pr} (k : Nok N G) (h : rP.r G v x) : rP.r (vis N G) v x := by
  obtain ⟨p, h1, h2⟩ := h
  exact ⟨p, h1, k.tup h2⟩
theorem rOP_hide {G : Hp} {v : V} {x : Option Pr} (k : Nok N G) (h : (rO rP).r G v x) : (rO rP).r (vis N G) v x := by
  cases x with
  | none => exact h
  | some y => exact rP_hide k h
end
theorem Sd.trans {T : List (Addr × Str)} {M L : List Addr} {G0 G G' : Hp} (a : Sd T M L G0 G) (b : Sd T M L G G') : Sd T M L G0 G' := ⟨b.at_.base a.at_.e, fun n hn => by rw [b.same n hn, a.same n hn], a.sep⟩
/-- a dict over all pairs -/
def tb (ps : List Pr) {α : Type} (g : Pr → α) : List (Pr × α) := ps.map fun p => (p, g p)
theorem tb_keys {α : Type} (ps : List Pr) (g : Pr → α) : (tb ps g).map (·.1) = ps := by
  unfold tb
  rw [List.map_map]
  exact List.map_id ps
theorem tb_get {α : Type} {ps : List Pr} (nd : ps.Nodup) (g : Pr → α) {p : Pr} (h : p ∈ ps) : getD (tb ps g) p = some (g p) := getD_of_mem (by rw [tb_keys]; exact nd) (List.mem_map.mpr ⟨p, h, rfl⟩)
theorem tb_put {α : Type} {ps : List Pr} (g : Pr → α) {p : Pr} (x : α) (h : p ∈ ps) : putP (tb ps g) p x = tb ps fun q => if q = p then x else g q := by
  rw [putP_in (by rw [tb_keys]; exact h)]
  unfold tb
  rw [List.map_map]
  refine List.map_congr_left fun q _ => ?_
  show (if q = p then (q, x) else (q, g q)) = (q, if q = p then x else g q)
  by_cases e : q = p
  · rw [if_pos e, if_pos e]
  · rw [if_neg e, if_neg e]
theorem tb_congr {α : Type} {ps : List Pr} {g g' : Pr → α} (h : ∀ p ∈ ps, g p = g' p) : tb ps g = tb ps g' := List.map_congr_left fun p hp => by rw [h p hp]
section
variable {P : Program} {w : World} {K : PySem.W.Frag} {mg : Str → Option Value} {base : Heap} {C : Addr} {TT : List (Addr × Str)} {f : Addr} {cdv : Value} {A : Around} {outer : List Env} {s : Shared} {H : Hp} {E : XK}
theorem law_5 (T : Tx K mg C) (D : Lx K mg base TT) (rm : RmL A s f cdv) : ∃ t, PSs (XL P w K mg base f cdv A outer s H E) ((defBody s_law).drop 20) t ∧
    ∀ (Q : VK) (G : Hp) (b nd : Addr) (row : Wd) (kvs : List (List Key × V)) (ns : List Int) (tabs : List (List Nat)) (ls : List Wd) (gs : List (List (List Nat))) (F : List (Pr × Option Nat)) (W W' : Web) (v0 v2 v3 v4 v5 v6 v8 v11 v25 v26 : V) (o7 o9 o10 o13 o14 o15 o16 o17 o18 o19 o20 o24 o27 o28 o29 : Option V),
      Nok ([nd] ++ [b]) G → nd ≠ b → IsBox G b → LamX.Tabs TT G → Kn tabs ls gs F W W' → (rB2 K C ns tabs ls gs F v0 v2 v3 v4 v5 v6 v8 v11).r (vis ([nd] ++ [b]) G) .non () → (rL rP).r (vis ([nd] ++ [b]) G) v25 (prs (many tabs)) → (rL rNat).r (vis ([nd] ++ [b]) G) v26 (List.range (many tabs)) →
      G nd = some (.dT kvs) → DpR (rO rP) (vis ([nd] ++ [b]) G) kvs (tb (prs (many tabs)) fun p => some p) → (∀ c ∈ row, c < tabs.length) → row.length ≤ 10000 → (∀ H', Q (.bl true) H') →
      t { nx := fun _ H' => Q .non H', rt := Q } [some v0, some (.ref b), some v2, some v3, some v4, some v5, some v6, o7, some v8, o9, o10, some v11, some (.ref nd), o13, o14, o15, o16, o17, o18, o19, o20, some (.str (wS row)), some (.str (wS [])), some (.int 0), o24, some v25, some v26, o27, o28, o29] G := by
  have hr := rm.hr
  obtain ⟨t6, p6, h6⟩ := law_6 (P := P) (w := w) (outer := outer) (H := H) (E := E) T D rm
  refine ⟨_, pss_cons (ps_for PassesOwn.never rfl (pi_str (pv 21)) (gn_ 27 sc_law.nd)
(pss_cons (st_ 22 sc_law.nd (pe_cl (ok_law_more (TT := TT) T) (hr.mono (by decide)) rfl (pa_cons (pv 22) (pa_cons (pv 27) pa_nil))))
(pss_cons (ps_if (pt_val (pe_cl (ok_law_full (TT := TT) T) (hr.mono (by decide)) rfl (pa_cons (pv 5) (pa_cons (pv 22) pa_nil))))
(pss_one (ps_par (i := 22) (j := 23) rfl sc_law.nd rfl rfl (by decide) rfl rfl (pa_cons pe_str (pa_cons (pe_op op_add (pv 23) pe_int) pa_nil)) (by rfl)))
pss_nil)
(pss_cons (ps_for PassesOwn.never rfl (wList K (pv 25)) (gn_ 9 sc_law.nd)
(pss_cons (ps_dput (hu_of hr) (pv 12) (pv 9) (pe_ifExp (pt_cmp (pc_isN (pe_dget (hu_of hr) (pv 12) (pv 9) (fun _ _ => rfl)))) pe_non (pe_cl (ok_law_next (TT := TT) T) (hr.mono (by decide)) rfl (pa_cons (pv 2) (pa_cons (pe_dget (hu_of hr) (pv 12) (pv 9) (fun _ _ => rfl)) (pa_cons (pv 27) pa_nil))))) rfl)
(pss_one (ps_if (PW.pt (pw_and (pt_cmp (pc_notN (pe_dget (hu_of hr) (pv 12) (pv 9) (fun _ _ => rfl)))) (pw_and (pt_cmp (pc_notN (pe_dget (hu_of hr) (pv 11) (pv 9) (fun _ _ => rfl)))) (pw_and1 (pt_cmpR op_gt (pv 23) (pe_dget (hu_of hr) (pv 11) (pv 9) (fun _ _ => rfl)) (nomark _))))))
(pss_one (ps_ret pe_bl))
pss_nil))))
(pss_cons (st_ 26 sc_law.nd (pe_callB (wSortedSet (w := w) rfl rfl) rfl T.f_sorted bo_sorted (pa_cons (pe_callTy (wSetL (w := w) rfl rfl) rfl T.f_set bo_set (pa_cons (pe_lc (own := [("_law_s", 28)]) (g := (gName 28)) rfl sc_law.nd (wList K (pv 26)) (blkOk_by (own := [("_law_s", 28)]) (N := ["_law_script", "_law_box_here", "_law_tables_here", "_law_many", "_law_signals", "_law_lots_here", "_law_device", "_law_table_here", "_law_tower", "_law_pair", "_law_most", "_law_told", "_law_now", "_law_one", "_law_at", "_law_classes", "_law_great", "_law_i", "_law_j", "_law_k", "_law_sides", "_law_row", "_law_heard", "_law_cuts_here", "_law_turn", "_law_states", "_law_places", "_law_signal", "_law_s", "_law_some"]) (sc := defScope s_law) (by decide +kernel)) (fun _ _ _ _ _ => (gn_ 28 sc_law.nd)) (fun _ _ _ _ _ => pts_nil) (fun _ _ _ _ _ => (pe_ix (wIxL K) (pe_ix (wIxL K) (pv 2) (wBmS (K := K) PySem.F.plainAttrs_str PySem.F.slot_str_index PySem.F.type_str_index (mt_indexX rfl takes_none) pe_str (pa_cons (pv 27) pa_nil)) (fun _ _ => rfl)) (pv 28) (fun _ _ => rfl)))) pa_nil)) pa_nil)))
(pss_one (ps_if (pt_cmpR op_gt (pe_callB (wLen K) rfl T.f_len bo_len (pa_cons (pv 26) pa_nil)) (pe_callB (wLen K) rfl T.f_len bo_len (pa_cons (pe_ix (wIxT K) (pv 8) (pe_callB (call_min2 rfl) rfl T.f_min bo_min (pa_cons (pv 23) (pa_cons (pe_op op_sub (pe_callB (wLen K) rfl T.f_len bo_len (pa_cons (pv 8) pa_nil)) pe_int) pa_nil))) (fun _ _ => rfl)) pa_nil)) (nomark _))
(pss_one (ps_ret pe_bl))
pss_nil))))))) p6, fun Q G b nd row kvs ns tabs ls gs F W W' v0 v2 v3 v4 v5 v6 v8 v11 v25 v26 o7 o9 o10 o13 o14 o15 o16 o17 o18 o19 o20 o24 o27 o28 o29 ok hnb hx tbs kn rb rs rpl hnd hdp hrow hrl q => ?_⟩
  have gt := kn.gt
  have m5 := gt.m5
  have n3 := gt.n3
  have hW := kn.hW
  have hF := kn.hF
  have pnd : (prs (many tabs)).Nodup := prs_nd m5
  have sepL : ∀ n ∈ [nd], n ∉ [b] := fun n hn => by rw [List.mem_singleton.mp hn]; simpa using hnb
  refine q_for (T := TT) ok (i_word (e_var (R := rW) (x := row) rfl rfl)) fun H2 e2 => ?_
  have ok2 := ok.step e2
  have rb2 := Rel.up rb ok e2
  have rs2 := Rel.up rs ok e2
  refine ⟨fun j σ' G' => ∃ (kvs : List (List Key × V)) (v26 : V) (o9 o27 o28 : Option V), σ' = [some v0, some (.ref b), some v2, some v3, some v4, some v5, some v6, o7, some v8, o9, o10, some v11, some (.ref nd), o13, o14, o15, o16, o17, o18, o19, o20, some (.str (wS row)), some (.str (wS ((row.take j).foldl (stp ls) ([], 0)).1)), some (.int (((row.take j).foldl (stp ls) ([], 0)).2 : Int)), o24, some v25, some v26, o27, o28, o29] ∧ Sd TT [b] [nd] H2 G' ∧
      G' nd = some (.dT kvs) ∧ DpR (rO rP) (vis ([nd] ++ [b]) G') kvs (tb (prs (many tabs)) fun p => bhv tabs (some p) (row.take j)) ∧ (rL rNat).r (vis ([nd] ++ [b]) G') v26 (plc tabs (row.take j)),
    ⟨kvs, v26, o9, o27, o28, rfl, .of ok2 sepL, e2.dT hnd, hdp.st (e2.vis ok).kr, by rw [List.take_zero, plc_nil]; exact Rel.up rpl ok e2⟩, fun j σ' G' ⟨_, _, _, _, _, _, hsd, _⟩ => ⟨_, hsd.at_⟩, ?_, ?_⟩
  · rintro j x c σ' G0 G1 hj hjc ⟨kvs, v26, o9, o27, o28, rfl, sd0, hnd0, hdp0, rpl0⟩ e0 rx
    have rc := rx _ sd0.at_
    have sd1 := sd0.step e0
    have hc : c < tabs.length := hrow c (List.mem_of_getElem? hjc)
    have hwt : row.take (j + 1) = row.take j ++ [c] := by rw [List.take_add_one, hjc]; rfl
    have hst : (row.take (j + 1)).foldl (stp ls) ([], 0) = stp ls ((row.take j).foldl (stp ls) ([], 0)) c := by rw [hwt, List.foldl_append]; rfl
    have hh3 : Hd3 ((row.take j).foldl (stp ls) ([], 0)).1 := stp_hd3 _ _ hd3_nil
    generalize (row.take j).foldl (stp ls) ([], 0) = z at hst hh3
    refine q_set (T := TT) sd1.ok (e_c2 (x := z.1) (y := c) (z := mo z.1 c) (e_var rfl rfl) (e_var rfl rc) ⟨hh3, by omega⟩ fun _ h => h) fun hv G2 e12 rh => ?_
    have rh : hv = .str (wS (mo z.1 c)) := rh
    subst rh
    have sd2 := sd1.step e12
    have up2 : ∀ {α : Type} {R : Rel α} {v : V} {x : α}, R.r (vis ([nd] ++ [b]) H2) v x → R.r (vis ([nd] ++ [b]) G2) v x := fun r => Rel.es r sd2.at_.e
    obtain ⟨⟨g0, g2, g3, g4, g5, g6⟩, g8, g11⟩ := up2 rb2
    refine q_ifJ (T := TT) (fun σ' G' => ∃ (o9 o28 : Option V), σ' = [some v0, some (.ref b), some v2, some v3, some v4, some v5, some v6, o7, some v8, o9, o10, some v11, some (.ref nd), o13, o14, o15, o16, o17, o18, o19, o20, some (.str (wS row)), some (.str (wS (stp ls z c).1)), some (.int ((stp ls z c).2 : Int)), o24, some v25, some v26, some x, o28, o29] ∧ Es TT G2 G')
      sd2.ok (t_B (e_c2 (x := ls) (y := mo z.1 c) (z := fullB ls (mo z.1 c)) (e_var rfl g5) (e_var rfl rfl) ⟨(fam_lots kn.fam n3).lt, (fam_lots kn.fam n3).len, (fam_lots kn.fam n3).each⟩ fun _ h => h)) ?_ (fun kj hb G3 e23 => ?_) fun kj hb G3 e23 => kj _ _ ⟨o9, o28, ?_, e23⟩
    · rintro σ' G3 ⟨o9, o28, rfl, e23⟩
      have hcut : (stp ls z c).2 = cuts ls [] (row.take (j + 1)) := by
        have := stp_cuts (ls := ls) (row.take (j + 1)) [] 0
        rw [hst] at this
        omega
      generalize stp ls z c = z' at hcut hst
      have sd3 := sd2.step e23
      have e03 := e0.trans (e12.trans e23)
      have hnd3 : G3 nd = some (.dT kvs) := e03.dT hnd0
      have hdp3 := hdp0.st (e03.vis sd0.ok).kr
      have rs3 := Rel.es rs2 sd3.at_.e
      have rb3 := Rel.es rb2 sd3.at_.e
      have rpl3 := Rel.up rpl0 sd0.ok e03
      have rc3 := Rel.up rc sd1.ok (e12.trans e23)
      have hlet : ∀ s ∈ row.take (j + 1), s < tabs.length := fun s hs => hrow s (List.mem_of_mem_take hs)
      have hlet0 : ∀ s ∈ row.take j, s < tabs.length := fun s hs => hrow s (List.mem_of_mem_take hs)
      refine q_for (T := TT) sd3.ok (i_list (e_var rfl rs3)) fun H4 e4 => ?_
      have ok4 := sd3.ok.step e4
      have rb4 := Rel.up rb3 sd3.ok e4
      have rpl4 := Rel.up rpl3 sd3.ok e4
      have rc4 := Rel.up rc3 sd3.ok e4
      refine ⟨fun i σ' G' => ∃ (kvs : List (List Key × V)) (o9 : Option V), σ' = [some v0, some (.ref b), some v2, some v3, some v4, some v5, some v6, o7, some v8, o9, o10, some v11, some (.ref nd), o13, o14, o15, o16, o17, o18, o19, o20, some (.str (wS row)), some (.str (wS z'.1)), some (.int (z'.2 : Int)), o24, some v25, some v26, some x, o28, o29] ∧ Sd TT [b] [nd] H4 G' ∧ G' nd = some (.dT kvs) ∧
          DpR (rO rP) (vis ([nd] ++ [b]) G') kvs (tb (prs (many tabs)) fun p => if p ∈ (prs (many tabs)).take i then bhv tabs (some p) (row.take (j + 1)) else bhv tabs (some p) (row.take j)), ⟨kvs, o9, rfl, .of ok4 sepL, e4.dT hnd3, ?_⟩, fun i σ' G' ⟨_, _, _, hsd, _⟩ => ⟨_, hsd.at_⟩, ?_, ?_⟩
      · have : (tb (prs (many tabs)) fun p => if p ∈ (prs (many tabs)).take 0 then bhv tabs (some p) (row.take (j + 1)) else bhv tabs (some p) (row.take j)) = tb (prs (many tabs)) fun p => bhv tabs (some p) (row.take j) := tb_congr fun p _ => by simp
        rw [this]
        exact hdp3.st (e4.vis sd3.ok).kr
      · rintro i xp p σ' G5 G6 hi hip ⟨kvs, o9, rfl, sd5, hnd5, hdp5⟩ e56 rxp
        have rp := rxp _ sd5.at_
        have sd6 := sd5.step e56
        have hp : p ∈ prs (many tabs) := List.mem_of_getElem? hip
        have vp : Vp tabs p := prs_mem.mp hp
        have hnt : p ∉ (prs (many tabs)).take i := not_mem_take pnd hip
        have hwi : (prs (many tabs)).take (i + 1) = (prs (many tabs)).take i ++ [p] := by rw [List.take_add_one, hip]; rfl
        have okb : ∀ {G}, Nok ([nd] ++ [b]) G → Nok [b] G := fun k n hn => k n (List.mem_append_right _ hn)
        have kb : ∀ G, Kr (vis ([nd] ++ [b]) G) (vis [b] G) := fun G => vis_back nd
        have hnb' : nd ∉ [b] := by simpa using hnb
        have hnd6 := e56.dT hnd5
        have hdp6 := hdp5.st (e56.vis sd5.ok).kr
        have rb6 := Rel.es rb4 sd6.at_.e
        obtain ⟨⟨g0, g2, g3, g4, g5, g6⟩, g8, g11⟩ := (rB2 K C ns tabs ls gs F v0 v2 v3 v4 v5 v6 v8 v11).st (kb G6) rb6
        have rnow : (rD (rO rP)).r (vis [b] G6) (.ref nd) (tb (prs (many tabs)) fun p => if p ∈ (prs (many tabs)).take i then bhv tabs (some p) (row.take (j + 1)) else bhv tabs (some p) (row.take j)) := ⟨nd, kvs, rfl, .inl (vis_open hnd6 hnb'), hdp6.st (kb G6)⟩
        have hget : getD (tb (prs (many tabs)) fun p => if p ∈ (prs (many tabs)).take i then bhv tabs (some p) (row.take (j + 1)) else bhv tabs (some p) (row.take j)) p = some (bhv tabs (some p) (row.take j)) := by rw [tb_get pnd _ hp, if_neg hnt]
        have rp6 : rP.r (vis [b] G6) xp p := rP.st (kb G6) rp
        have rc6 : rLt.r (vis [b] G6) x c := rc4
        have hvp : ∀ q, bhv tabs (some p) (row.take j) = some q → Vp tabs q := fun q hq => bhv_vp gt _ _ (fun p' h => by cases h; exact vp) hlet0 q hq
        refine q_dput (T := TT) (R := rO rP) (x := bhv tabs (some p) (row.take (j + 1))) (kk := p) (d := nd) (okb sd6.ok) (e_if (b := (bhv tabs (some p) (row.take j)).isNone) (t_B (e_isN nv_P (e_dget (e_var rfl rnow) (e_var rfl rp6) hget))) (fun hb => ?_) fun hb => ?_) rfl (e_var rfl rp6) hnd6 ?_ fun v G7 e67 rv => ?_
        · rw [hwt, bhv_app]
          cases hq : bhv tabs (some p) (row.take j) with
          | some q => rw [hq] at hb; cases hb
          | none =>
            rw [bhv_none]
            exact e_non
        · rw [hwt, bhv_app]
          cases hq : bhv tabs (some p) (row.take j) with
          | none => rw [hq] at hb; cases hb
          | some q =>
            rw [hq] at hget
            exact e_c3 (x := tabs) (y := q) (u := c) (z := nx tabs q c) (e_var rfl g2) ((e_dget (R := rO rP) (x := some q) (e_var rfl rnow) (e_var rfl rp6) hget).as fun _ _ r => r) (e_var rfl rc6) ⟨gt, hvp q hq, hc⟩ fun _ h => h
        · have h1 := Paired.length hdp6
          have h2 := prs_len m5
          have h3 : (tb (prs (many tabs)) fun p => if p ∈ (prs (many tabs)).take i then bhv tabs (some p) (row.take (j + 1)) else bhv tabs (some p) (row.take j)).length = (prs (many tabs)).length := List.length_map _
          have : sizeLine = 16777216 := sizeLine_eq
          omega
        · have sd7 := sd6.step e67
          have sd8 : Sd TT [b] [nd] H4 (upd G7 nd (.dT (putK kvs (pK p) v))) := sd7.put (by simp) (.dT _)
          have hdp8 : DpR (rO rP) (vis ([nd] ++ [b]) (upd G7 nd (.dT (putK kvs (pK p) v)))) (putK kvs (pK p) v) (tb (prs (many tabs)) fun p => if p ∈ (prs (many tabs)).take (i + 1) then bhv tabs (some p) (row.take (j + 1)) else bhv tabs (some p) (row.take j)) := by
            have h5 := dpr_put (k := p) (hdp6.st (e67.vis sd6.ok).kr) (rOP_hide sd7.ok (Rel.out rv))
            rw [tb_put _ _ hp] at h5
            show DpR (rO rP) (vis (nd :: [b]) (upd G7 nd _)) _ _
            rw [vis_hide]
            refine (tb_congr fun a ha => ?_) ▸ h5
            rw [hwi]
            by_cases ea : a = p
            · rw [if_pos ea, if_pos (by rw [ea]; simp), ea]
            · rw [if_neg ea]
              by_cases et : a ∈ (prs (many tabs)).take i
              · rw [if_pos et, if_pos (List.mem_append_left _ et)]
              · rw [if_neg et, if_neg fun z => (List.mem_append.mp z).elim et fun z => ea (List.mem_singleton.mp z)]
          generalize hG8 : upd G7 nd (.dT (putK kvs (pK p) v)) = G8 at sd8 hdp8
          have hnd8 : G8 nd = some (.dT (putK kvs (pK p) v)) := by rw [← hG8]; exact upd_same
          have rb8 := Rel.es rb4 sd8.at_.e
          obtain ⟨_, _, h11⟩ := (rB2 K C ns tabs ls gs F v0 v2 v3 v4 v5 v6 v8 v11).st (kb G8) rb8
          have rp8 : rP.r (vis [b] G8) xp p := by
            obtain ⟨pa, e1, hpa⟩ := rp6
            have h1 := e67.tup (vis_sub hpa)
            refine rP_hide (okb sd8.ok) ⟨pa, e1, ?_⟩
            rw [← hG8, upd_ne fun z => by rw [z] at hpa; rw [vis_open hnd6 hnb'] at hpa; cases hpa]
            exact h1
          have rnow8 : (rD (rO rP)).r (vis [b] G8) (.ref nd) _ := ⟨nd, _, rfl, .inl (vis_open hnd8 hnb'), hdp8.st (kb G8)⟩
          have hget8 := tb_get pnd (fun p => if p ∈ (prs (many tabs)).take (i + 1) then bhv tabs (some p) (row.take (j + 1)) else bhv tabs (some p) (row.take j)) hp
          rw [if_pos (by rw [hwi]; simp)] at hget8
          have hgF := (rk_at (hW.s gt) hF ((vp_web hW).mpr vp)).1
          refine q_no (T := TT) (okb sd8.ok) ((t_and (b := (bhv tabs (some p) (row.take (j + 1))).isSome) (c := (rk F p).isSome && false) (t_B (e_notN nv_P (e_dget (e_var rfl rnow8) (e_var rfl rp8) hget8))) fun hb1 => t_and (b := (rk F p).isSome) (c := false) (t_B (e_notN nv_nat (e_dget (e_var rfl h11) (e_var rfl rp8) hgF))) fun hb2 => ?_).to (by simp)) fun G9 e89 => ⟨_, _, rfl, sd8.step e89, e89.dT hnd8, hdp8.st (e89.vis sd8.ok).kr⟩
          cases ht : rk F p with
          | none => rw [ht] at hb2; cases hb2
          | some t =>
            rw [ht] at hgF
            have hle := row_told gt hW hF vp hlet (fun z => by rw [z] at hb1; cases hb1) ht
            refine (t_of (e_op (e_var (R := rInt) (x := (z'.2 : Int)) rfl rfl) (((e_dget (R := rO rNat) (x := some t) (e_var rfl h11) (e_var rfl rp8) hgF).as (S := rInt) (y := (t : Int)) fun _ _ r => r)) o_B0)).to ?_
            exact decide_eq_false (by omega)
      · rintro σ' G5 ⟨kvs, o9, rfl, sd5, hnd5, hdp5⟩
        have sdA : Sd TT [b] [nd] H2 G5 := sd3.trans (sd5.base e4 sd3.ok)
        have rb5 := Rel.es rb4 sd5.at_.e
        have rpl5 := Rel.es rpl4 sd5.at_.e
        have rc5 := Rel.es rc4 sd5.at_.e
        obtain ⟨⟨g0, g2, g3, g4, g5, g6⟩, g8, g11⟩ := rb5
        have hpl : (plc tabs (row.take j)).length ≤ 5 := Nat.le_trans (plc_len _ _) m5
        refine q_set (T := TT) (R := rL rNat) (x := plc tabs (row.take (j + 1))) sd5.ok (e_sortedSetL (w := w) (l := (plc tabs (row.take j)).map (cell tabs c)) (Ev.to (e_lc (R := rNat) (S := rNat) (xs := plc tabs (row.take j)) (f := cell tabs c) (p := fun _ => true) (i_list (e_var rfl rpl5)) (fun _ => rfl) (by omega) fun H6 v6 x6 e6 hx6 r6 => ⟨t_yes, fun _ => ?_⟩) (by rw [filt_true])) (by rw [List.length_map]; omega) (plc_asc _) fun a => by rw [hwt]; exact plc_snoc gt (by rw [← hwt]; exact hlet) a) fun v26' G6 e56 rpl6 => ?_
        · have hx6' := ((plc_mem gt hlet0).mp hx6)
          obtain ⟨i0, hi0, e0⟩ := hx6'
          have hx6l : x6 < many tabs := by rw [← e0]; exact run_lt gt _ _ hi0 hlet0
          have hrow6 := (gt.row _ (gt.tab hc)).1
          exact e_op (e_op (e_var rfl (Rel.es (R := rL (rL rNat)) g2 e6)) (e_idx (e_var rfl (Rel.es (R := rLt) rc5 e6)) (idx3 (by omega))).int (o_ixL (atI_of (d := []) hc))) (e_var (R := rInt) (x := (x6 : Int)) rfl r6) (o_ixL (atI_of (d := 0) (by rw [hrow6]; exact hx6l)))
        · have sd6 := sdA.step e56
          obtain ⟨⟨k0, k2, k3, k4, k5, k6⟩, k8, k11⟩ := Rel.up (R := rB2 K C ns tabs ls gs F v0 v2 v3 v4 v5 v6 v8 v11) (x := ()) (v := .non) ⟨⟨g0, g2, g3, g4, g5, g6⟩, g8, g11⟩ sd5.ok e56
          obtain ⟨N, hN1, hN2, hgl, hcls⟩ := kn.hG
          have hmin : min (cuts ls [] (row.take (j + 1))) (gs.length - 1) < gs.length := by omega
          have hgc : gs[min (cuts ls [] (row.take (j + 1))) (gs.length - 1)]? = some (gs[min (cuts ls [] (row.take (j + 1))) (gs.length - 1)]) := List.getElem?_eq_getElem hmin
          have hle := places_le gt kn.hW' kn.hG hlet hgc
          refine q_no (T := TT) sd6.ok ((t_of (e_op (e_lenL (e_var rfl rpl6)).int (e_lenT (e_op (e_var rfl k8) (Ev.to (e_min2 (e_var (R := rInt) (x := (z'.2 : Int)) rfl rfl) (e_op (e_lenT (e_var rfl k8)).int (e_int 1) o_I0)) (x' := ((min (cuts ls [] (row.take (j + 1))) (gs.length - 1) : Nat) : Int)) ?_) (o_ixT (atI_nat hgc)))).int o_B0)).to (decide_eq_false ?_)) fun G7 e67 => ⟨kvs, v26', o9, some x, o28, ?_, sd6.step e67, e67.dT (e56.dT hnd5), ?_, Rel.up rpl6 sd6.ok e67⟩
          · rw [hcut]
            split <;> omega
          · omega
          · rw [hst]
            rfl
          · have : (tb (prs (many tabs)) fun p => if p ∈ (prs (many tabs)).take (prs (many tabs)).length then bhv tabs (some p) (row.take (j + 1)) else bhv tabs (some p) (row.take j)) = tb (prs (many tabs)) fun p => bhv tabs (some p) (row.take (j + 1)) := tb_congr fun p hp => by rw [List.take_length, if_pos hp]
            rw [← this]
            exact hdp5.st ((e56.trans e67).vis sd5.ok).kr
    · refine q_par (T := TT) (R := rW) (R1 := rNat) (x := []) (y := z.2 + 1) (sd2.step e23).ok (e_word rfl) (Ev.natI (e_op (e_var (R := rInt) (x := (z.2 : Int)) rfl rfl) (e_int 1) o_I0) (by omega)) fun a a2 G4 e34 ra ra2 => kj _ _ ⟨o9, o28, ?_, e23.trans e34⟩
      have ra : a = .str (wS []) := ra
      have ra2 : a2 = .int ((z.2 + 1 : Nat) : Int) := ra2
      subst ra ra2
      unfold stp
      rw [if_pos hb]
      rfl
    · unfold stp
      rw [if_neg (by rw [hb]; simp)]
      rfl
  · rintro σ' G' ⟨kvs', v26', o9', o27', o28', rfl, sd, hnd', hdp', rpl'⟩
    have rb' := Rel.es rb2 sd.at_.e
    have rs' := Rel.es rs2 sd.at_.e
    have kb : Kr (vis ([nd] ++ [b]) G') (vis [b] G') := vis_back nd
    have hbx : IsBox G' b := by
      obtain ⟨g, r, h⟩ := hx
      exact ⟨g, r, by rw [sd.same b (by simp)]; exact e2.lst h⟩
    have tbG : LamX.Tabs TT G' := (sd.at_.e.t (ok2.tabs (e2.t tbs))).ext fun _ _ h => vis_sub h
    exact h6 Q G' b ns tabs ls gs F W W' v0 v2 v3 v4 v5 v6 v8 v11 v25 o7 o9' o10 _ o13 o14 o15 o16 o17 o18 o19 o20 _ _ _ o24 _ o27' o28' o29 (fun n hn => sd.ok n (List.mem_append_right _ hn)) hbx tbG kn ((rB2 K C ns tabs ls gs F v0 v2 v3 v4 v5 v6 v8 v11).st kb rb') ((rL rP).st kb rs') q
end


end K29
set_option autoImplicit false
set_option maxHeartbeats 4000000
namespace K29
open PySem PySem.Spec PyProof.Rows L2
/-! The walks, 26: a row is drawn. -/
section
variable {T : List (Addr × Str)} {K : PySem.W.Frag} {α β : Type} {σ : L2.St} {H H1 : Hp} {N M : List Addr} {R : Rel α} {S : Rel β} {b p : Addr} {i k : Nat} {te tb ta : TE} {wi : TI} {D : Ends} {E : XK}
/-- a new box -/
theorem q_box {ns : List Int} (j : Nat) (ok : Nok M H) (h : Ev T ta σ (vis M H) (rQ K) ns) (q : ∀ H1 p g r, Es T H H1 → H1 p = none → D.nx (σ.set i (some (.ref p))) (upd H1 p (.lst [.int g, .int r]))) : tAsg (tCall (sp_law_box K T) [] E (tCons ta (tCons (tC (.int (j : Int))) tNil))) (gName i) D σ H :=
  h M H (.self ok) _ fun v H1 e1 ⟨a, hv, hq⟩ => by
    subst hv
    exact ⟨M, a, ns, j, rfl, ok.step e1, hq, fun H2 p g r e2 hp => q H2 p g r (e1.trans e2) hp⟩
theorem vis_swap {L : List Addr} : K29.vis (L ++ [p]) H = K29.vis (p :: L) H := by
  funext c
  unfold K29.vis
  by_cases h : c ∈ p :: L
  · rw [if_pos h, if_pos (by rcases List.mem_cons.mp h with z | z <;> simp [z])]
  · rw [if_neg h, if_neg fun z => h (by rcases List.mem_append.mp z with z | z <;> simp_all)]
/-- a list whose source draws -/
theorem e_lcBb {Px : List α → Prop} {Ps : β → Prop} (h : ∀ N H1, b ∈ N → At T N H H1 → IsBox H1 b → EvIb T b wi σ N H1 R Px) (hw : ∀ v, wipe ((wipe σ [k]).set k (some v)) [k] = wipe σ [k]) (hl : ∀ xs, Px xs → xs.length ≤ 1000000)
    (he : ∀ H1 v x xs, Es T H H1 → Px xs → x ∈ xs → R.r H1 v x → Evb T b te ((wipe σ [k]).set k (some v)) H1 S Ps) : Evb T b (tLc wi (gName k) tYes te [k]) σ H (rL S) fun ys => ∃ xs, Px xs ∧ ys.length = xs.length ∧ ∀ y ∈ ys, Ps y := fun N H1 hb e hx Q q =>
  q_lcB (Ps := fun _ y => Ps y) hb e.ok (h N H1 hb e hx) hw hl (fun H2 v x xs e2 hpx hxs r => he H2 v x xs (e.e.trans e2) hpx hxs r) fun p H2 vs xs ys bx hf hpN hpl okp hpr hpx hyl hys => q _ H2 ys bx ⟨xs, hpx, hyl, fun y hy => by
    obtain ⟨j, hj⟩ := List.getElem?_of_mem hy
    have hjl := (List.getElem?_eq_some_iff.mp hj).1
    exact hys j _ y (List.getElem?_eq_getElem (show j < xs.length by omega)) hj⟩ ⟨p, vs, rfl, vis_open hpl hpN, pr_st (vis_back p) hpr⟩
theorem e_joinB {s : Str} {Pl : Wd → Prop} (hs : s = wS []) (h : Evb T b tb σ H (rL rLt) Pl) (hz : ∀ l, Pl l → l.length ≤ 16000000) :
    Evb T b (tM1 (fun x xs H Q => ∃ a p, ∃ ys : List Str, x = .str a ∧ xs = [.ref p] ∧ (SqL K H p (ys.map V.str) ∨ SqT K H p (ys.map V.str)) ∧ (ys.map (·.length)).sum + ys.length * a.length ≤ 16777216 ∧ Q (.str (Txt.join a ys)) H) (tC (.str s)) tb) σ H rW Pl := fun N H1 hb e hx Q q => by
  subst hs
  refine ⟨⟨_, rfl⟩, h N H1 hb e hx _ fun v H2 l bx hl r => ?_⟩
  exact (e_joinW (T := T) (K := K) (σ := σ) (H := vis N H2) (tb := tC v) rfl (e_c r) (hz l hl) N H2 (.self bx.ok) (fun v' H3 => Q v' H3) fun v' H3 e3 r3 => q v' H3 l (bx.step e3) hl r3).2
theorem q_par3b {α β γ : Type} {R : Rel α} {R1 : Rel β} {R2 : Rel γ} {tc : TE} {i j l : Nat} {P1 : α → Prop} {P2 : β → Prop} {P3 : γ → Prop} (hb : b ∈ N) (ok : Nok N H) (hx : IsBox H b) (h1 : Evb T b ta σ (vis N H) R P1) (h2 : Evb T b tb σ (vis N H) R1 P2) (h3 : Evb T b tc σ (vis N H) R2 P3)
    (k : ∀ u v w x y z H', Bx T N b H H' → P1 x → P2 y → P3 z → R.r (vis N H') u x → R1.r (vis N H') v y → R2.r (vis N H') w z → D.nx (((σ.set i (some u)).set j (some v)).set l (some w)) H') :
    tPar3 i j l (tCons ta (tCons tb (tCons tc tNil))) D σ H := by
  unfold tPar3
  refine (ab_cons h1 (ab_cons h2 (ab_cons h3 ab_nil))) N H hb (.self ok) hx _ fun vs H1 bx ⟨u, _, x, e1, p1, r1, v, _, y, e2, p2, r2, w, _, z, e3, p3, r3, e4⟩ => ?_
  subst e4
  subst e3
  subst e2
  subst e1
  exact ⟨u, v, w, rfl, k u v w x y z _ bx p1 p2 p3 r1 r2 r3⟩
end
section
variable {P : Program} {w : World} {K : PySem.W.Frag} {mg : Str → Option Value} {base : Heap} {C : Addr} {TT : List (Addr × Str)} {f : Addr} {cdv : Value} {A : Around} {outer : List Env} {s : Shared} {H : Hp} {E : XK}
theorem law_4 (T : Tx K mg C) (D : Lx K mg base TT) (rm : RmL A s f cdv) : ∃ t, PSs (XL P w K mg base f cdv A outer s H E) ((defBody s_law).drop 16) t ∧
    ∀ (Q : VK) (G : Hp) (nd : Addr) (kvs : List (List Key × V)) (ns : List Int) (tabs : List (List Nat)) (ls : List Wd) (gs : List (List (List Nat))) (F : List (Pr × Option Nat)) (W W' : Web) (v0 v2 v3 v4 v5 v6 v8 v11 : V) (o1 o7 o9 o10 o13 o14 o15 o16 o17 o18 o19 o20 o21 o22 o23 o24 o25 o26 o27 o28 o29 : Option V),
      Nok [nd] G → LamX.Tabs TT G → Kn tabs ls gs F W W' → (rB2 K C ns tabs ls gs F v0 v2 v3 v4 v5 v6 v8 v11).r (vis [nd] G) .non () →
      G nd = some (.dT kvs) → DpR (rO rP) (vis [nd] G) kvs (tb (prs (many tabs)) fun p => some p) → ns.length ≤ 1000 → (∀ H', Q (.bl true) H') →
      t { nx := fun _ H' => Q .non H', rt := Q } [some v0, o1, some v2, some v3, some v4, some v5, some v6, o7, some v8, o9, o10, some v11, some (.ref nd), o13, o14, o15, o16, o17, o18, o19, o20, o21, o22, o23, o24, o25, o26, o27, o28, o29] G := by
  have hr := rm.hr
  obtain ⟨t5, p5, h5⟩ := law_5 (P := P) (w := w) (outer := outer) (H := H) (E := E) T D rm
  refine ⟨_, pss_cons (st_ 1 sc_law.nd (pe_cl (ok_law_box (TT := TT) T) (hr.mono (by decide)) rfl (pa_cons (pv 0) (pa_cons pe_int pa_nil)))) (pss_cons (ps_par3 (i := 21) (j := 22) (l := 23) rfl sc_law.nd rfl rfl rfl (by decide) (by decide) (by decide) rfl rfl rfl (pa_cons (wJoin K pe_str (pe_lc (own := [("_law_turn", 24)]) (g := (gName 24)) rfl sc_law.nd (pi_range1 rfl T.f_range (pa_cons (pe_cl (ok_law_pick (TT := TT) T) (hr.mono (by decide)) rfl (pa_cons (pv 1) (pa_cons (pe_lst (pa_cons pe_int (pa_cons pe_int (pa_cons pe_int (pa_cons pe_int pa_nil))))) pa_nil))) pa_nil)) (blkOk_by (own := [("_law_turn", 24)]) (N := ["_law_script", "_law_box_here", "_law_tables_here", "_law_many", "_law_signals", "_law_lots_here", "_law_device", "_law_table_here", "_law_tower", "_law_pair", "_law_most", "_law_told", "_law_now", "_law_one", "_law_at", "_law_classes", "_law_great", "_law_i", "_law_j", "_law_k", "_law_sides", "_law_row", "_law_heard", "_law_cuts_here", "_law_turn", "_law_states", "_law_places", "_law_signal", "_law_s", "_law_some"]) (sc := defScope s_law) (by decide +kernel)) (fun _ _ _ _ _ => (gn_ 24 sc_law.nd)) (fun _ _ _ _ _ => pts_nil) (fun _ _ _ _ _ => (pe_cl (ok_law_pick (TT := TT) T) (hr.mono (by decide)) rfl (pa_cons (pv 1) (pa_cons (pv 4) pa_nil)))))) (pa_cons pe_str (pa_cons pe_int pa_nil))) (by rfl)) (pss_cons (ps_for PassesOwn.never rfl (pi_range2 rfl T.f_range (pa_cons pe_int (pa_cons (pe_callB (call_min2 rfl) rfl T.f_min bo_min (pa_cons (pe_callB (wLen K) rfl T.f_len bo_len (pa_cons (pv 0) pa_nil)) (pa_cons pe_int pa_nil))) pa_nil))) (gn_ 19 sc_law.nd)
(pss_one (st_ 21 sc_law.nd (pe_ifExp (pt_cmpR op_lt (pe_callB (wLen K) rfl T.f_len bo_len (pa_cons (pv 21) pa_nil)) pe_int (nomark _)) (pe_op op_add_str (pv 21) (pe_ix ix_str (pv 4) (pe_op op_mod (pe_callTy call_int1 rfl T.f_int bo_int (pa_cons (pe_callB call_abs rfl T.f_abs bo_abs (pa_cons (pe_callTy call_int1 rfl T.f_int bo_int (pa_cons (pe_ix (wIxL K) (pv 0) (pv 19) (fun _ _ => rfl)) pa_nil)) pa_nil)) pa_nil)) (pe_callB (wLen K) rfl T.f_len bo_len (pa_cons (pv 4) pa_nil))) (fun _ _ => rfl))) (pv 21))))) (pss_cons (ps_par (i := 25) (j := 26) rfl sc_law.nd rfl rfl (by decide) rfl rfl (pa_cons (pe_callTy (call_list_dT rfl) rfl T.f_list bo_list (pa_cons (pv 11) pa_nil)) (pa_cons (pe_listRg rfl rfl T.f_list (prg_1 rfl T.f_range (pv 3))) pa_nil)) (by rfl)) p5))), fun Q G nd kvs ns tabs ls gs F W W' v0 v2 v3 v4 v5 v6 v8 v11 o1 o7 o9 o10 o13 o14 o15 o16 o17 o18 o19 o20 o21 o22 o23 o24 o25 o26 o27 o28 o29 ok tbs kn rb hnd hdp hnl q => ?_⟩
  have gt := kn.gt
  have m5 := gt.m5
  have n1 := gt.n1
  have n3 := gt.n3
  refine q_box (T := TT) 2 ok (e_var rfl rb.1.1) fun H1 b g0 r0 e1 hb1 => ?_
  have ok1 := ok.step e1
  have hbn : b ∉ [nd] := ok1.fresh hb1
  have hnb : nd ≠ b := fun z => hbn (by rw [z]; simp)
  have hnd1 := e1.dT hnd
  generalize hG2 : upd H1 b (.lst [.int g0, .int r0]) = G2
  have hvis : vis ([nd] ++ [b]) G2 = vis [nd] H1 := by rw [vis_swap, ← hG2, vis_hide, vis_none hb1]
  have ok2 : Nok ([nd] ++ [b]) G2 := fun n hn => by
    rw [← hG2]
    rcases List.mem_append.mp hn with z | z
    · obtain ⟨o, h1, h2⟩ := ok1 n z
      exact ⟨o, new_sub hb1 _ _ h1, h2⟩
    · rw [List.mem_singleton.mp z]
      exact ⟨_, upd_same, .lst _⟩
  have hx2 : IsBox G2 b := ⟨g0, r0, by rw [← hG2]; exact upd_same⟩
  have tb2 : LamX.Tabs TT G2 := by rw [← hG2]; exact (Es.new (T := TT) hb1).t (e1.t tbs)
  have hnd2 : G2 nd = some (.dT kvs) := by rw [← hG2]; exact new_sub hb1 _ _ hnd1
  have rb2 : (rB2 K C ns tabs ls gs F v0 v2 v3 v4 v5 v6 v8 v11).r (vis ([nd] ++ [b]) G2) .non () := by rw [hvis]; exact Rel.up rb ok e1
  have hdp2 : DpR (rO rP) (vis ([nd] ++ [b]) G2) kvs (tb (prs (many tabs)) fun p => some p) := by rw [hvis]; exact hdp.st (e1.vis ok).kr
  have hbN : b ∈ [nd] ++ [b] := by simp
  have sepL : ∀ n ∈ [nd], n ∉ [b] := fun n hn => by rw [List.mem_singleton.mp hn]; simpa using hnb
  have small : ∀ {G : Hp} {σ : L2.St} {n : Nat}, n ≤ 48 → Evb TT b (tC (.int (n : Int))) σ G rNat fun m => m ≤ 48 := fun h => (e_nat _).bx.imp fun y hy => by rw [hy]; exact h
  refine q_par3b (T := TT) (R1 := rW) (R2 := rNat) hbN ok2 hx2 (e_joinB (T := TT) (b := b) (K := K) (Pl := fun l => l.length ≤ 48 ∧ ∀ c ∈ l, c < tabs.length) rfl ((e_lcBb (R := rNat) (S := rLt) (Px := fun xs => ∃ n, n ≤ 48 ∧ xs = List.range n) (Ps := fun c => c < tabs.length) (fun N H3 hbN a hx => ib_rng1 hbN a.ok hx (e_pickL (Pl := fun xs => xs.length = 4 ∧ ∀ x ∈ xs, x ≤ 48) rfl (e_lstb (ab_consP (small (n := 12) (by decide)) (ab_consP (small (n := 20) (by decide)) (ab_consP (small (n := 48) (by decide)) (ab_consP (small (n := 30) (by decide)) ab_nilP)))) (by decide)) fun xs h => ⟨by omega, by omega, h.2⟩) fun n h => by omega) (fun _ => rfl) (fun xs ⟨n, h, e⟩ => by rw [e, List.length_range]; omega) fun H3 v x xs e3 _ _ _ =>
      e_pickW (Pl := fun l => l = List.range tabs.length) rfl (e_var rfl (Rel.es (R := rW) rb2.1.2.2.2.1 e3)).bx fun l h => by rw [h, List.length_range]; exact ⟨by omega, by omega, fun x hx => List.mem_range.mp hx⟩).imp fun l ⟨xs, ⟨n, hn, hxs⟩, h1, h2⟩ => ⟨by rw [h1, hxs, List.length_range]; exact hn, h2⟩) fun l h => by omega) (e_word (l := []) rfl).bx (e_nat 0).bx fun rv hv cv row hw0 c0 G3 bx3 hrow hw0e hc0 rr rh rc => ?_
  subst hw0e hc0
  have rr : rv = .str (wS row) := rr
  have rh : hv = .str (wS []) := rh
  have rc : cv = .int ((0 : Nat) : Int) := rc
  subst rr rh rc
  have rb3 := bx3.up rb2
  have hmin : ∃ m : Nat, m ≤ ns.length ∧ m ≤ 51 ∧ (if (51 : Int) < (ns.length : Int) then (51 : Int) else (ns.length : Int)) = (m : Int) := by
    by_cases h : (51 : Int) < (ns.length : Int)
    · exact ⟨51, by omega, by omega, by rw [if_pos h]; rfl⟩
    · exact ⟨ns.length, by omega, by omega, by rw [if_neg h]⟩
  obtain ⟨m, hm1, hm2, hme⟩ := hmin
  refine q_for (T := TT) bx3.ok (i_rng2 (l := 3) (n := m) (by decide) (by omega) (e_nat 3) (Ev.natI (e_min2 (e_lenQ (e_var rfl rb3.1.1)).int (e_int 51)) hme)) fun H4 e4 => ?_
  have bx4 := bx3.step e4
  have rb4 := Rel.up rb3 bx3.ok e4
  refine ⟨fun j σ' G' => ∃ (row : Wd) (o19 : Option V), σ' = [some v0, some (.ref b), some v2, some v3, some v4, some v5, some v6, o7, some v8, o9, o10, some v11, some (.ref nd), o13, o14, o15, o16, o17, o18, o19, o20, some (.str (wS row)), some (.str (wS [])), some (.int ((0 : Nat) : Int)), o24, o25, o26, o27, o28, o29] ∧ Bx TT ([nd] ++ [b]) b H4 G' ∧ row.length ≤ 48 ∧ ∀ c ∈ row, c < tabs.length,
    ⟨row, o19, rfl, .refl bx4.ok bx4.box, hrow⟩, fun j σ' G' ⟨_, _, _, h, _⟩ => ⟨_, h.at_⟩, ?_, ?_⟩
  · rintro j x c σ' G5 G6 hj hjc ⟨row, o19, rfl, bx5, hr1, hr2⟩ e56 rx
    have rcx : x = .int (c : Int) := rx _ bx5.at_
    subst rcx
    have bx6 := bx5.step e56
    have hcm : c < ns.length := by
      have := List.mem_range'_1.mp (List.mem_of_getElem? hjc)
      omega
    obtain ⟨⟨g0, g2, g3, g4, g5, g6⟩, g8, g11⟩ := bx6.up rb4
    have hat : atI ns (c : Int) = some (ns.getD c 0) := atI_of hcm
    generalize ns.getD c 0 = z at hat
    have hem := emod_nat (if z < 0 then -z else z) (n := tabs.length) n1
    refine q_set (T := TT) (R := rW) (x := if row.length < 48 then row ++ [((if z < 0 then -z else z) % (tabs.length : Int)).toNat] else row) bx6.ok (e_if (b := decide ((row.length : Int) < 48)) (t_of (e_op (e_lenW (e_var (R := rW) (x := row) rfl rfl) (by omega)).int (e_int 48) o_B0)) (fun hb => ?_) fun hb => ?_) fun v' G7 e67 r' => ?_
    · have hl : row.length < 48 := by have := of_decide_eq_true hb; omega
      rw [if_pos hl]
      exact e_op (e_var (R := rW) (x := row) rfl rfl) (Ev.word (e_op (e_var rfl g4) (Ev.to (e_op (e_intC (e_abs (e_intC (e_op (e_var rfl g0) (e_var (R := rInt) (x := (c : Int)) rfl rfl) (o_ixQ hat))))) (e_lenW (e_var (R := rW) (x := List.range tabs.length) rfl g4) (by rw [List.length_range]; omega)).int (o_I (by rw [List.length_range]; show (0 : Int) < (tabs.length : Int); omega))) (by rw [List.length_range]; exact hem.1)) (o_ixW (by rw [List.length_range]; omega) (List.getElem?_range hem.2)))) (o_addW (by simp; omega))
    · have hl : ¬ row.length < 48 := by have := of_decide_eq_false hb; omega
      rw [if_neg hl]
      exact e_var (R := rW) (x := row) rfl rfl
    · have r' : v' = .str (wS (if row.length < 48 then row ++ [((if z < 0 then -z else z) % (tabs.length : Int)).toNat] else row)) := r'
      subst r'
      refine ⟨_, _, rfl, bx6.step e67, ?_, fun a ha => ?_⟩
      · split
        · simp; omega
        · exact hr1
      · split at ha
        · rcases List.mem_append.mp ha with y | y
          · exact hr2 a y
          · rw [List.mem_singleton.mp y]
            exact hem.2
        · exact hr2 a ha
  · rintro σ' G5 ⟨row, o19, rfl, bx5, hr1, hr2⟩
    have rb5 := bx5.up rb4
    have hFk : F.map (·.1) = prs (many tabs) := kn.hF.1.trans kn.hW.1
    refine q_par (T := TT) (R := rL rP) (R1 := rL rNat) (x := prs (many tabs)) (y := List.range (many tabs)) bx5.ok (Ev.to (e_listD (e_var rfl rb5.2.2)) hFk) (e_listRg (by omega) (e_var rfl rb5.1.2.2.1)) fun a a2 G6 e56 ra ra2 => ?_
    have bxA : Bx TT ([nd] ++ [b]) b G2 G6 := (bx4.trans bx5).step e56
    have tb6 : LamX.Tabs TT G6 := (bxA.at_.e.t (ok2.tabs tb2)).ext fun _ _ h => vis_sub h
    exact h5 Q G6 b nd row kvs ns tabs ls gs F W W' v0 v2 v3 v4 v5 v6 v8 v11 a a2 o7 o9 o10 o13 o14 o15 o16 o17 o18 o19 o20 o24 o27 o28 o29 bxA.ok hnb bxA.box tb6 kn (Rel.up rb5 bx5.ok e56) ra ra2 (by rw [bxA.same nd (by simp) hnb]; exact hnd2) (hdp2.st bxA.at_.e.kr) hr2 (by omega) q
end


end K29
set_option autoImplicit false
set_option maxHeartbeats 4000000
namespace K29
open PySem PySem.Spec PyProof.Rows L2
/-! The walks, 27: classes and sides. -/
section
variable {T : List (Addr × Str)} {K : PySem.W.Frag} {σ : L2.St} {H : Hp} {ta : TE}
theorem o_neB {a b : Bool} : RV T rNe rB a rB b rB (!decide (a = b)) := .pure (V' := .bl (!decide (a = b))) (fun H u v ra rb Q q => by
  have ra : u = .bl a := ra
  have rb : v = .bl b := rb
  subst ra rb
  refine ⟨rfl, ?_⟩
  rw [show decide (V.bl a = V.bl b) = decide (a = b) from by by_cases e : a = b <;> simp [e]]
  exact q) fun _ => rfl
theorem int_vs {H : Hp} {vs : List V} {l : List Int} (h : Paired (rInt.r H) vs l) : vs = l.map V.int := pr_eq (g := V.int) h
theorem e_sortedI {l : List Int} (h : Ev T ta σ H (rL rInt) l) (hl : l.length < 64) : Evp T (tCB (rSorted K) (tCons ta tNil)) σ H (rL rInt) fun m => m.Perm l ∧ m.Pairwise (· ≤ ·) := fun N H1 e Q q =>
  h N H1 e _ fun v H2 e2 ⟨p, vs, hv, hp, hr⟩ => by
    cases int_vs hr
    subst hv
    exact ⟨p, l, rfl, SqL.of (vis_sub hp), hl, fun ms p2 hpm hpw hn => q _ _ ms (e2.put hn) ⟨hpm, hpw⟩ ⟨p2, _, rfl, vis_new (e.step e2).ok hn, pr_of (g := V.int) ms⟩⟩
end
section
variable {P : Program} {w : World} {K : PySem.W.Frag} {mg : Str → Option Value} {base : Heap} {C : Addr} {TT : List (Addr × Str)} {f : Addr} {cdv : Value} {A : Around} {outer : List Env} {s : Shared} {H : Hp} {E : XK}
theorem law_3 (T : Tx K mg C) (D : Lx K mg base TT) (rm : RmL A s f cdv) : ∃ t, PSs (XL P w K mg base f cdv A outer s H E) ((defBody s_law).drop 13) t ∧
    ∀ (Q : VK) (G : Hp) (nd : Addr) (kvs : List (List Key × V)) (ns : List Int) (tabs : List (List Nat)) (ls : List Wd) (gs : List (List (List Nat))) (F : List (Pr × Option Nat)) (W W' : Web) (v0 v2 v3 v4 v5 v6 v8 v11 : V) (o1 o7 o9 o10 o13 o14 o15 o16 o17 o18 o19 o20 o21 o22 o23 o24 o25 o26 o27 o28 o29 : Option V),
      Nok [nd] G → LamX.Tabs TT G → Kn tabs ls gs F W W' → (rB2 K C ns tabs ls gs F v0 v2 v3 v4 v5 v6 v8 v11).r (vis [nd] G) .non () →
      G nd = some (.dT kvs) → DpR (rO rP) (vis [nd] G) kvs (tb (prs (many tabs)) fun p => some p) → ns.length ≤ 1000 → (∀ H', Q (.bl true) H') →
      t { nx := fun _ H' => Q .non H', rt := Q } [some v0, o1, some v2, some v3, some v4, some v5, some v6, o7, some v8, o9, o10, some v11, some (.ref nd), o13, o14, o15, o16, o17, o18, o19, o20, o21, o22, o23, o24, o25, o26, o27, o28, o29] G := by
  have hr := rm.hr
  obtain ⟨t4, p4, h4⟩ := law_4 (P := P) (w := w) (outer := outer) (H := H) (E := E) T D rm
  refine ⟨_, pss_cons (ps_for PassesOwn.never rfl (pi_enumT rfl T.f_enumerate (pa_cons (pv 8) pa_nil)) (wPg2 K (pgs_cons (gn_ 14 sc_law.nd) (pgs_cons (gn_ 15 sc_law.nd) pgs_nil)))
(pss_one (ps_if (pt_cmpR (wNeD K (hu64_of hr)) (pe_lockR (pe_lc (own := [("_law_pair", 9)]) (g := (gName 9)) rfl sc_law.nd (pi_keys (pv 11)) (blkOk_by (own := [("_law_pair", 9)]) (N := ["_law_script", "_law_box_here", "_law_tables_here", "_law_many", "_law_signals", "_law_lots_here", "_law_device", "_law_table_here", "_law_tower", "_law_pair", "_law_most", "_law_told", "_law_now", "_law_one", "_law_at", "_law_classes", "_law_great", "_law_i", "_law_j", "_law_k", "_law_sides", "_law_row", "_law_heard", "_law_cuts_here", "_law_turn", "_law_states", "_law_places", "_law_signal", "_law_s", "_law_some"]) (sc := defScope s_law) (by decide +kernel)) (fun _ _ _ _ _ => (gn_ 9 sc_law.nd)) (fun _ _ _ _ _ => (pts_one (pt_cmpR op_ne (pe_cl (ok_law_within (TT := TT) T) (hr.mono (by decide)) rfl (pa_cons (pv 15) (pa_cons (pv 9) pa_nil))) (pe_and (pe_cmp (pc_notN (pe_dget (hu_of hr) (pv 11) (pv 9) (fun _ _ => rfl)))) (pe_one (pe_cmpR op_lt (pe_dget (hu_of hr) (pv 11) (pv 9) (fun _ _ => rfl)) (pv 14) (nomark _)))) (nomark _)))) (fun _ _ _ _ _ => (pv 9)))) (pe_lst pa_nil) (nomark _))
(pss_one (ps_ret pe_bl))
pss_nil))) (pss_cons (st_ 16 sc_law.nd (pe_op op_add (pe_op op_mul (pv 3) (pv 3)) pe_int)) (pss_cons (ps_for PassesOwn.never rfl (wList K (pe_callTy (call_list_dT rfl) rfl T.f_list bo_list (pa_cons (pv 11) pa_nil))) (wPg2 K (pgs_cons (gn_ 17 sc_law.nd) (pgs_cons (gn_ 18 sc_law.nd) pgs_nil)))
(pss_one (ps_for PassesOwn.never rfl (pi_range2 rfl T.f_range (pa_cons (pe_op op_add (pv 18) pe_int) (pa_cons (pv 3) pa_nil))) (gn_ 19 sc_law.nd)
(pss_cons (st_ 20 sc_law.nd (pe_callB cr_sorted rfl T.f_sorted bo_sorted (pa_cons (pe_lc (own := [("_law_pair", 9)]) (g := (gName 9)) rfl sc_law.nd (wTupI K (pe_tup (pa_cons (pe_tup (pa_cons (pv 17) (pa_cons (pv 18) pa_nil))) (pa_cons (pe_tup (pa_cons (pv 17) (pa_cons (pv 19) pa_nil))) (pa_cons (pe_tup (pa_cons (pv 18) (pa_cons (pv 19) pa_nil))) pa_nil))))) (blkOk_by (own := [("_law_pair", 9)]) (N := ["_law_script", "_law_box_here", "_law_tables_here", "_law_many", "_law_signals", "_law_lots_here", "_law_device", "_law_table_here", "_law_tower", "_law_pair", "_law_most", "_law_told", "_law_now", "_law_one", "_law_at", "_law_classes", "_law_great", "_law_i", "_law_j", "_law_k", "_law_sides", "_law_row", "_law_heard", "_law_cuts_here", "_law_turn", "_law_states", "_law_places", "_law_signal", "_law_s", "_law_some"]) (sc := defScope s_law) (by decide +kernel)) (fun _ _ _ _ _ => (gn_ 9 sc_law.nd)) (fun _ _ _ _ _ => pts_nil) (fun _ _ _ _ _ => (pe_ifExp (pt_cmp (pc_isN (pe_dget (hu_of hr) (pv 11) (pv 9) (fun _ _ => rfl)))) (pv 16) (pe_dget (hu_of hr) (pv 11) (pv 9) (fun _ _ => rfl))))) pa_nil)))
(pss_one (ps_if (pt_cmpR op_ne (pe_ix (wIxL K) (pv 20) pe_int (fun _ _ => rfl)) (pe_ix (wIxL K) (pv 20) pe_int (fun _ _ => rfl)) (nomark _))
(pss_one (ps_ret pe_bl))
pss_nil)))))) p4)), fun Q G nd kvs ns tabs ls gs F W W' v0 v2 v3 v4 v5 v6 v8 v11 o1 o7 o9 o10 o13 o14 o15 o16 o17 o18 o19 o20 o21 o22 o23 o24 o25 o26 o27 o28 o29 ok tbs kn rb hnd hdp hnl q => ?_⟩
  have gt := kn.gt
  have m5 := gt.m5
  have m3 := gt.m3
  have hF := kn.hF
  have hFk : F.map (·.1) = prs (many tabs) := kn.hF.1.trans kn.hW.1
  have hrk : ∀ p, Vp tabs p → getD F p = some (rk F p) ∧ RankAt W p (rk F p) := fun p vp => rk_at (kn.hW.s gt) hF ((vp_web kn.hW).mpr vp)
  refine q_for (T := TT) ok (i_enumT (e_var rfl rb.2.1)) fun H2 e2 => ?_
  have ok2 := ok.step e2
  have rb2 := Rel.up rb ok e2
  refine ⟨fun j σ' G' => ∃ (o14 o15 : Option V), σ' = [some v0, o1, some v2, some v3, some v4, some v5, some v6, o7, some v8, o9, o10, some v11, some (.ref nd), o13, o14, o15, o16, o17, o18, o19, o20, o21, o22, o23, o24, o25, o26, o27, o28, o29] ∧ Hd TT [nd] H2 [] G',
    ⟨o14, o15, rfl, .start ok2⟩, fun j σ' G' ⟨_, _, _, h⟩ => ⟨_, h.at_⟩, ?_, ?_⟩
  · rintro j x ⟨at_, c⟩ σ' G3 G4 hj hjc ⟨o14, o15, rfl, a3⟩ e34 rx
    have rx := rx _ a3.at_
    have a4 := a3.step e34
    have hjg : j < gs.length := by rw [enumL_len] at hj; exact hj
    have hgc : gs[j]? = some (gs[j]) := List.getElem?_eq_getElem hjg
    have hen := enumL_get hgc
    rw [hen] at hjc
    cases hjc
    refine g_pair rx fun va vc ra rc => ?_
    have ra : va = .int (j : Int) := ra
    subst ra
    generalize gs[j] = c at hgc rc
    have rb4 := Rel.es rb2 a4.at_.e
    obtain ⟨_, _, d, kvt, hd, hrd, hdt⟩ := rb4
    subst hd
    refine q_no (T := TT) a4.okm ((t_of (e_op (Ev.to (x' := []) (e_lcK (S := rP) (R := rO rNat) (k := 9) (xs := F) (f := id) (p := fun _ => false) (fx_var rfl) hrd hdt (fun _ => rfl) (by have := congrArg List.length hFk; rw [List.length_map] at this; have := prs_len m5; omega) fun H5 v p kr _ hp rp => ?_) (by simp)) (e_lst (R := rP) (xs := []) a_nilP (by decide)) o_neNil)).to rfl) fun G5 e45 => ⟨_, _, rfl, a4.step e45⟩
    have vp : Vp tabs p := by rw [hFk] at hp; exact prs_mem.mp hp
    have hk := hrk p vp
    have eT : ∀ {σ : L2.St} {tk : TE}, σ[11]? = some (some (.ref d)) → Ev TT tk σ H5 rP p → Ev TT (tDGet (tVar 11) tk) σ H5 (rO rNat) (rk F p) := fun h1 h2 => e_dget (xs := F) (e_var (R := rD (rO rNat)) h1 ⟨d, kvt, rfl, kr.rdT hrd, hdt.st kr⟩) h2 hk.1
    refine ⟨(t_of (e_op (e_c2 (x := c) (y := p) (z := withinB c p) (e_var rfl ((rT (rT rNat)).st kr rc)) (e_var rfl rp) trivial fun _ h => h) (e_and (b := (rk F p).isSome) (c := withinB c p) (e_notN nv_nat (eT rfl (e_var rfl rp))) fun hb => ?_) o_neB)).to ?_, fun z => by cases z⟩
    · have hc2 := class_told gt kn.hW kn.hW' hF kn.hG hgc vp
      cases ht : rk F p with
      | none => rw [ht] at hb; cases hb
      | some t =>
        rw [ht] at hc2 eT
        rw [hc2]
        exact (e_op ((eT rfl (e_var rfl rp)).as (S := rInt) (y := (t : Int)) fun _ _ r => r) (e_var (R := rInt) (x := (j : Int)) rfl rfl) o_B0).to (by simp)
    · have hc2 := class_told gt kn.hW kn.hW' hF kn.hG hgc vp
      cases ht : rk F p with
      | none =>
        rw [ht] at hc2
        rw [hc2]
        rfl
      | some t => simp
  · rintro σ' G3 ⟨o14, o15, rfl, a3⟩
    have rb3 := Rel.es rb2 a3.at_.e
    have e3 : Es TT G G3 := e2.trans a3.es
    have hnd3 : G3 nd = some (.dT kvs) := e3.dT hnd
    have hdp3 := hdp.st ((e2.vis ok).trans a3.at_.e).kr
    have tb3 := e3.t tbs
    have ok3 := a3.okm
    refine q_set (T := TT) (R := rInt) (x := (many tabs : Int) * (many tabs : Int) + 9) ok3 (e_op (e_op (e_var rfl rb3.1.2.2.1).int (e_var rfl rb3.1.2.2.1).int (o_I (.inl ⟨by omega, by omega⟩))) (e_int 9) o_I0) fun gv G4 e4 rg => ?_
    have rg : gv = .int (((many tabs * many tabs + 9 : Nat)) : Int) := by
      rw [show gv = .int _ from rg]
      congr 1
    generalize hgr : many tabs * many tabs + 9 = gr at rg
    subst rg
    have hgr9 : 9 ≤ gr := by omega
    have ok4 := ok3.step e4
    have rb4 := Rel.up rb3 ok3 e4
    refine q_for (T := TT) ok4 (i_list (Ev.to (e_listD (e_var rfl rb4.2.2)) hFk)) fun H5 e5 => ?_
    have ok5 := ok4.step e5
    have rb5 := Rel.up rb4 ok4 e5
    refine ⟨fun i' σ' G' => ∃ (o17 o18 o19 o20 : Option V), σ' = [some v0, o1, some v2, some v3, some v4, some v5, some v6, o7, some v8, o9, o10, some v11, some (.ref nd), o13, o14, o15, some (.int (gr : Int)), o17, o18, o19, o20, o21, o22, o23, o24, o25, o26, o27, o28, o29] ∧ Hd TT [nd] H5 [] G',
      ⟨o17, o18, o19, o20, rfl, .start ok5⟩, fun j σ' G' ⟨_, _, _, _, _, h⟩ => ⟨_, h.at_⟩, ?_, ?_⟩
    · rintro n' x ⟨i, j⟩ σ' G6 G7 hn' hnj ⟨o17, o18, o19, o20, rfl, a6⟩ e67 rx
      have rx := rx _ a6.at_
      have a7 := a6.step e67
      have vij : i < j ∧ j < many tabs := prs_mem.mp (List.mem_of_getElem? hnj)
      refine g_pair (rP_pair rx) fun vi vj ri rj => ?_
      have ri : vi = .int (i : Int) := ri
      have rj : vj = .int (j : Int) := rj
      subst ri rj
      have rb7 := Rel.es rb5 a7.at_.e
      refine q_for (T := TT) a7.okm (i_rng2 (l := j + 1) (n := many tabs) (by omega) (by omega) (Ev.natI (e_op (e_var (R := rInt) (x := (j : Int)) rfl rfl) (e_int 1) o_I0) (by omega)) (e_var rfl rb7.1.2.2.1)) fun H8 e8 => ?_
      have a8 := a7.step e8
      have rb8 := Rel.es rb5 a8.at_.e
      refine ⟨fun m' σ' G' => ∃ (o19 o20 : Option V), σ' = [some v0, o1, some v2, some v3, some v4, some v5, some v6, o7, some v8, o9, o10, some v11, some (.ref nd), o13, o14, o15, some (.int (gr : Int)), some (.int (i : Int)), some (.int (j : Int)), o19, o20, o21, o22, o23, o24, o25, o26, o27, o28, o29] ∧ Lh TT [nd] H5 [nd] H8 [] G',
        ⟨o19, o20, rfl, .start a8⟩, fun j σ' G' ⟨_, _, _, h⟩ => ⟨_, h.a⟩, ?_, fun σ' G' ⟨o19, o20, e, h⟩ => ⟨_, _, o19, o20, e, h.h⟩⟩
      · rintro m' xk k σ' G9 G10 hm' hmk ⟨o19, o20, rfl, a9⟩ e910 rxk
        have rxk : xk = .int (k : Int) := rxk _ a9.a
        subst rxk
        have a10 := a9.step e910
        have hk := List.mem_range'_1.mp (List.mem_of_getElem? hmk)
        have hkm : j < k ∧ k < many tabs := by omega
        have rb10 := Rel.es rb8 a10.a.e
        have v1 : Vp tabs (i, j) := vij
        have v2' : Vp tabs (i, k) := ⟨by show i < k; omega, hkm.2⟩
        have v3' : Vp tabs (j, k) := hkm
        have hlow : ∀ p, Vp tabs p → ∀ r, rk F p = some r → r ≤ gr := fun p vp r e => by
          have h := (hrk p vp).2
          rw [e] at h
          have := rank_le (kn.hW.s gt) h.1 h.2
          omega
        refine q_setp (T := TT) (R := rL rInt) (Post := fun l => l.Perm [(((rk F (i, j)).getD gr : Nat) : Int), (((rk F (i, k)).getD gr : Nat) : Int), (((rk F (j, k)).getD gr : Nat) : Int)] ∧ l.Pairwise (· ≤ ·)) a10.ok (e_sortedI (Ev.to (x' := [(((rk F (i, j)).getD gr : Nat) : Int), (((rk F (i, k)).getD gr : Nat) : Int), (((rk F (j, k)).getD gr : Nat) : Int)]) (e_lc (R := rP) (S := rInt) (xs := [(i, j), (i, k), (j, k)]) (f := fun p => (((rk F p).getD gr : Nat) : Int)) (p := fun _ => true) (i_tup (e_tup (a_consP (e_pr (e_var (R := rNat) (x := i) rfl rfl) (e_var (R := rNat) (x := j) rfl rfl)) (a_consP (e_pr (e_var (R := rNat) (x := i) rfl rfl) (e_var (R := rNat) (x := k) rfl rfl)) (a_consP (e_pr (e_var (R := rNat) (x := j) rfl rfl) (e_var (R := rNat) (x := k) rfl rfl)) a_nilP))) (by simp))) (fun _ => rfl) (by simp) fun H11 v p e11 hp rp => ⟨t_yes, fun _ => ?_⟩) (by rw [filt_true]; rfl)) (by simp)) fun sv G11 l e11 hl rs => ?_
        · have vp : Vp tabs p := by
            rcases List.mem_cons.mp hp with z | z
            · rw [z]; exact v1
            · rcases List.mem_cons.mp z with z | z
              · rw [z]; exact v2'
              · rw [List.mem_singleton.mp z]; exact v3'
          have hg := (hrk p vp).1
          have rt := Rel.es (R := rD (rO rNat)) rb10.2.2 e11
          refine e_if (b := (rk F p).isNone) (t_B (e_isN nv_nat (e_dget (xs := F) (e_var rfl rt) (e_var rfl rp) hg))) (fun hb => ?_) fun hb => ?_
          · cases ht : rk F p with
            | some t => rw [ht] at hb; cases hb
            | none => exact e_var (R := rInt) (x := (gr : Int)) rfl rfl
          · cases ht : rk F p with
            | none => rw [ht] at hb; cases hb
            | some t =>
              rw [ht] at hg
              exact (e_dget (R := rO rNat) (xs := F) (x := some t) (e_var rfl rt) (e_var rfl rp) hg).as fun _ _ r => r
        · have u := fun t => ult (t := t) gt kn.hW vij.1 hkm.1 hkm.2
          have h1 := (hrk _ v1).2
          have h2 := (hrk _ v2').2
          have h3 := (hrk _ v3').2
          have s1 := side_le (m := gr) h1 h2 h3 (hlow _ v1) fun t => (u t).1
          have s2 := side_le (m := gr) h2 h1 h3 (hlow _ v2') fun t => (u t).2.1
          have s3 := side_le (m := gr) h3 h1 h2 (hlow _ v3') fun t => (u t).2.2
          obtain ⟨xx, yy, hxy⟩ := sorted3 hl.1 hl.2 (by omega) (by omega) (by omega)
          rw [hxy] at rs
          have a11 := a10.step e11
          exact q_no (T := TT) a11.ok ((t_of (e_op (e_op (e_var rfl rs) (e_int 1) (o_ixL (show atI [xx, yy, yy] 1 = some yy from rfl))) (e_op (e_var rfl rs) (e_int 2) (o_ixL (show atI [xx, yy, yy] 2 = some yy from rfl))) o_neI)).to (by simp)) fun G12 e12 => ⟨_, _, rfl, a11.step e12⟩
    · rintro σ' G6 ⟨o17, o18, o19, o20, rfl, a6⟩
      have e36 : Es TT G3 G6 := (e4.trans e5).trans a6.es
      have kv : Es TT (vis [nd] G3) (vis [nd] G6) := ((e4.vis ok3).trans (e5.vis ok4)).trans a6.at_.e
      exact h4 Q G6 nd kvs ns tabs ls gs F W W' v0 v2 v3 v4 v5 v6 v8 v11 o1 o7 o9 o10 o13 o14 o15 _ o17 o18 o19 o20 o21 o22 o23 o24 o25 o26 o27 o28 o29 a6.okm (e36.t tb3) kn (Rel.es rb5 a6.at_.e) (e36.dT hnd3) (hdp3.st kv.kr) hnl q
end


end K29
set_option autoImplicit false
set_option maxHeartbeats 4000000
namespace K29
open PySem PySem.Spec PyProof.Rows L2
/-! The walks, 28: what is told. -/
section
variable {T : List (Addr × Str)} {K : PySem.W.Frag} {σ : L2.St} {G H : Hp} {D : Ends} {N N' : List Addr} {td nd b : Addr} {o : HO}
/-- d[k], e[k] = v, k: two dicts, the key a tuple -/
theorem q_put2 {i1 i2 it jn : Nat} {u : V} {kk : List Key} {k1 k2 : List (List Key × V)} (h1 : σ[i1]? = some (some u)) (h2 : σ[i2]? = some (some (.ref b))) (ht : σ[it]? = some (some (.ref td))) (hn : σ[jn]? = some (some (.ref nd))) (hb : G b = some (.tup (kk.map kV))) (hne : nd ≠ td)
    (hT : G td = some (.dT k1)) (hN : G nd = some (.dT k2)) (l1 : k1.length < sizeLine) (l2 : k2.length < sizeLine) (q : ∀ p, G p = none → D.nx σ (upd (upd (upd G p (.tup [u, .ref b])) td (.dT (putK k1 kk u))) nd (.dT (putK k2 kk (.ref b))))) :
    tAsg (tTup (tCons (tVar i1) (tCons (tVar i2) tNil))) (gTup K 2 (gCons (gSub (tVar it) (tVar i2) rSetD) (gCons (gSub (tVar jn) (tVar i2) rSetD) gNil))) D σ G :=
  ⟨u, h1, .ref b, h2, by show 2 ≤ sizeLine; decide, fun p hp => ⟨p, [u, .ref b], rfl, SqT.of upd_same, rfl, u, _, rfl, .ref td, ht, .ref b, h2, td, _, rfl, DPut.t (new_sub hp _ _ hT) (new_sub hp _ _ hb) l1, .ref b, [], rfl, .ref nd, hn, .ref b, h2, nd, _, rfl,
    DPut.t (by rw [upd_ne hne]; exact new_sub hp _ _ hN) (by rw [upd_ne fun z => by rw [z, hT] at hb; cases hb]; exact new_sub hp _ _ hb) l2, rfl, q p hp⟩⟩
theorem vis_less (h : ∀ a ∈ N', a ∈ N) : Kr (K29.vis N H) (K29.vis N' H) := fun c u hc _ => .inl (by
  unfold K29.vis at hc ⊢
  by_cases q : c ∈ N
  · rw [if_pos q] at hc; cases hc
  · rw [if_neg q] at hc
    rw [if_neg fun z => q (h c z)]
    exact hc)
theorem vis_hid {d : Addr} (h : d ∈ N) : K29.vis N (upd H d o) = K29.vis N H := by
  funext c
  unfold K29.vis
  by_cases q : c ∈ N
  · rw [if_pos q, if_pos q]
  · rw [if_neg q, if_neg q, upd_ne fun z => q (by rw [z]; exact h)]
end
theorem fst_nodup {F : List (Pr × Option Nat)} {i : Nat} {e : Pr × Option Nat} (nd : (F.map (·.1)).Nodup) (h : F[i]? = some e) : e.1 ∉ (F.take i).map (·.1) := by
  have h1 : (F.map (·.1))[i]? = some e.1 := by rw [List.getElem?_map, h]; rfl
  rw [List.map_take]
  exact not_mem_take nd h1
section
variable {P : Program} {w : World} {K : PySem.W.Frag} {mg : Str → Option Value} {base : Heap} {C : Addr} {TT : List (Addr × Str)} {f : Addr} {cdv : Value} {A : Around} {outer : List Env} {s : Shared} {H : Hp} {E : XK}
theorem law_2 (T : Tx K mg C) (D : Lx K mg base TT) (rm : RmL A s f cdv) : ∃ t, PSs (XL P w K mg base f cdv A outer s H E) ((defBody s_law).drop 8) t ∧
    ∀ (Q : VK) (G : Hp) (ns : List Int) (tabs : List (List Nat)) (ls : List Wd) (gs : List (List (List Nat))) (F : List (Pr × Option Nat)) (W W' : Web) (v0 v2 v3 v4 v5 v6 v7 v8 : V) (o1 o9 o10 o11 o12 o13 o14 o15 o16 o17 o18 o19 o20 o21 o22 o23 o24 o25 o26 o27 o28 o29 : Option V),
      LamX.Tabs TT G → Kn tabs ls gs F W W' → (rB1 K C ns tabs ls v0 v2 v3 v4 v5 v6).r (vis [] G) .non () → (rT (rPair rP (rO rNat))).r (vis [] G) v7 F → (rT (rT (rT rNat))).r (vis [] G) v8 gs → ns.length ≤ 1000 → (∀ H', Q (.bl true) H') →
      t { nx := fun _ H' => Q .non H', rt := Q } [some v0, o1, some v2, some v3, some v4, some v5, some v6, some v7, some v8, o9, o10, o11, o12, o13, o14, o15, o16, o17, o18, o19, o20, o21, o22, o23, o24, o25, o26, o27, o28, o29] G := by
  have hr := rm.hr
  have hg := rm.hg
  obtain ⟨t3, p3, h3⟩ := law_3 (P := P) (w := w) (outer := outer) (H := H) (E := E) T D rm
  refine ⟨_, pss_cons (ps_asg (pe_tup (pa_cons pe_dnewT (pa_cons pe_dnewT pa_nil))) (wPg2 K (pgs_cons (gn_ 11 sc_law.nd) (pgs_cons (gn_ 12 sc_law.nd) pgs_nil)))) (pss_cons (ps_for PassesOwn.never rfl (wTupI K (pv 7)) (wPg2 K (pgs_cons (gn_ 9 sc_law.nd) (pgs_cons (gn_ 10 sc_law.nd) pgs_nil)))
(pss_one (ps_asg (pe_tup (pa_cons (pv 10) (pa_cons (pv 9) pa_nil))) (wPg2 K (pgs_cons (pg_sub (pv 11) (pv 9) (set_dict (hu_of hr))) (pgs_cons (pg_sub (pv 12) (pv 9) (set_dict (hu_of hr))) pgs_nil)))))) (pss_cons (ps_lockR (ps_setLc (i := 10) (own := [("_law_pair", 9)]) (g := (gName 9)) rfl sc_law.nd rfl rfl (sw_true rfl rfl rfl (by decide +kernel)) (pi_keys (pv 11)) (blkOk_by (own := [("_law_pair", 9)]) (N := ["_law_script", "_law_box_here", "_law_tables_here", "_law_many", "_law_signals", "_law_lots_here", "_law_device", "_law_table_here", "_law_tower", "_law_pair", "_law_most", "_law_told", "_law_now", "_law_one", "_law_at", "_law_classes", "_law_great", "_law_i", "_law_j", "_law_k", "_law_sides", "_law_row", "_law_heard", "_law_cuts_here", "_law_turn", "_law_states", "_law_places", "_law_signal", "_law_s", "_law_some"]) (sc := defScope s_law) (by decide +kernel)) (fun _ _ _ _ _ => (gn_ 9 sc_law.nd)) (fun _ _ _ _ _ => (pts_one (pt_cmp (pc_notN (pe_dget (hu_of hr) (pv 11) (pv 9) (fun _ _ => rfl)))))) (fun _ _ _ _ _ => (pe_dget (hu_of hr) (pv 11) (pv 9) (fun _ _ => rfl))))) (pss_cons (ps_if (pt_cmpR (wNeD K (hu64_of hr)) (pe_lc (own := [("_law_one", 13)]) (g := (gName 13)) rfl sc_law.nd (wList K (pv 10)) (blkOk_by (own := [("_law_one", 13)]) (N := ["_law_script", "_law_box_here", "_law_tables_here", "_law_many", "_law_signals", "_law_lots_here", "_law_device", "_law_table_here", "_law_tower", "_law_pair", "_law_most", "_law_told", "_law_now", "_law_one", "_law_at", "_law_classes", "_law_great", "_law_i", "_law_j", "_law_k", "_law_sides", "_law_row", "_law_heard", "_law_cuts_here", "_law_turn", "_law_states", "_law_places", "_law_signal", "_law_s", "_law_some"]) (sc := defScope s_law) (by decide +kernel)) (fun _ _ _ _ _ => (gn_ 13 sc_law.nd)) (fun _ _ _ _ _ => (pts_one (PW.pt (pw_or (pt_not (pt_val (pe_callB (wIsi K) rfl T.f_isinstance bo_isinstance (pa_cons (pv 13) (pa_cons (pe_bltn (v := .ty "int") rfl T.f_int bo_int rfl) pa_nil))))) (pw_or1 (pt_val (pe_callB (wIsi K) rfl T.f_isinstance bo_isinstance (pa_cons (pv 13) (pa_cons (pe_bltn (v := .ty "bool") rfl T.f_bool bo_bool rfl) pa_nil))))))))) (fun _ _ _ _ _ => (pv 13))) (pe_lst pa_nil) (nomark _))
(pss_one (ps_ret pe_bl))
pss_nil) (pss_cons (ps_if (pt_cmpR op_ne (pe_callB (cr_repr hg (hu64_of hr)) rfl T.f_repr bo_repr (pa_cons (pe_callB (wSortedSet (w := w) rfl rfl) rfl T.f_sorted bo_sorted (pa_cons (pe_callTy (wSetL (w := w) rfl rfl) rfl T.f_set bo_set (pa_cons (pv 10) pa_nil)) pa_nil)) pa_nil)) (pe_callB (cr_repr hg (hu64_of hr)) rfl T.f_repr bo_repr (pa_cons (pe_listRg rfl rfl T.f_list (prg_1 rfl T.f_range (pe_op op_sub (pe_callB (wLen K) rfl T.f_len bo_len (pa_cons (pv 8) pa_nil)) pe_int))) pa_nil)) (nomark _))
(pss_one (ps_ret pe_bl))
pss_nil) p3)))), fun Q G ns tabs ls gs F W W' v0 v2 v3 v4 v5 v6 v7 v8 o1 o9 o10 o11 o12 o13 o14 o15 o16 o17 o18 o19 o20 o21 o22 o23 o24 o25 o26 o27 o28 o29 tbs kn rb r7 r8 hnl q => ?_⟩
  have gt := kn.gt
  have m5 := gt.m5
  have m3 := gt.m3
  have hF := kn.hF
  have hFk : F.map (·.1) = prs (many tabs) := kn.hF.1.trans kn.hW.1
  have pnd : (prs (many tabs)).Nodup := prs_nd m5
  have hFnd : (F.map (·.1)).Nodup := by rw [hFk]; exact pnd
  have hFl : F.length ≤ 1000 := by
    have := congrArg List.length hFk
    rw [List.length_map] at this
    have := prs_len m5
    omega
  have hrk : ∀ p, Vp tabs p → getD F p = some (rk F p) ∧ RankAt W p (rk F p) := fun p vp => rk_at (kn.hW.s gt) hF ((vp_web kn.hW).mpr vp)
  refine fun td htd nd hnd => ⟨by show 2 ≤ sizeLine; decide, fun pt hpt => ⟨pt, [.ref td, .ref nd], rfl, SqT.of upd_same, rfl, .ref td, _, rfl, .ref nd, [], rfl, rfl, ?_⟩⟩
  have hne : nd ≠ td := fun z => by rw [z, upd_same] at hnd; cases hnd
  have hd0 : Hd TT [] G [nd, td] (upd (upd (upd G td (.dT [])) nd (.dT [])) pt (.tup [.ref td, .ref nd])) := (((Hd.start .nil).new htd (.dT _)).new hnd (.dT _)).step (.new hpt)
  have gT0 : upd (upd (upd G td (.dT [])) nd (.dT [])) pt (.tup [.ref td, .ref nd]) td = some (.dT []) := new_sub hpt _ _ (by rw [upd_ne fun z => hne z.symm]; exact upd_same)
  have gN0 : upd (upd (upd G td (.dT [])) nd (.dT [])) pt (.tup [.ref td, .ref nd]) nd = some (.dT []) := new_sub hpt _ _ upd_same
  generalize upd (upd (upd G td (.dT [])) nd (.dT [])) pt (.tup [.ref td, .ref nd]) = G1 at hd0 gT0 gN0
  have rb1 := hd0.up rb
  have r71 := hd0.up r7
  have r81 := hd0.up r8
  have tb1 : LamX.Tabs TT G1 := hd0.es.t tbs
  have hTL : td ∈ [nd, td] := by simp
  have hNL : nd ∈ [nd, td] := by simp
  refine q_for (T := TT) hd0.okv (i_tup (e_var rfl r71)) fun H2 e2 => ?_
  have hd2 := hd0.step e2
  refine ⟨fun j σ' G' => ∃ (kT kN : List (List Key × V)) (o9 o10 : Option V), σ' = [some v0, o1, some v2, some v3, some v4, some v5, some v6, some v7, some v8, o9, o10, some (.ref td), some (.ref nd), o13, o14, o15, o16, o17, o18, o19, o20, o21, o22, o23, o24, o25, o26, o27, o28, o29] ∧ Lh TT [] G ([nd, td] ++ []) H2 [nd, td] G' ∧
      G' td = some (.dT kT) ∧ G' nd = some (.dT kN) ∧ DpR (rO rNat) (vis ([nd, td] ++ []) G') kT (F.take j) ∧ DpR (rO rP) (vis ([nd, td] ++ []) G') kN ((F.take j).map fun e => (e.1, some e.1)),
    ⟨[], [], o9, o10, rfl, .start hd2, e2.dT gT0, e2.dT gN0, .nil, .nil⟩, fun j σ' G' ⟨_, _, _, _, _, h, _⟩ => ⟨_, h.a⟩, ?_, ?_⟩
  · rintro j x e σ' G3 G4 hj hje ⟨kT, kN, o9, o10, rfl, l3, gT, gN, dT_, dN⟩ e34 rx
    have rx := rx _ l3.a
    have l4 := l3.step e34
    refine g_pair rx fun va vb ra rb => ?_
    have gT4 := e34.dT gT
    have gN4 := e34.dT gN
    obtain ⟨pa, rfl, hpa⟩ := rP_key ra
    have hjk := fst_nodup hFnd hje
    have hwt : F.take (j + 1) = F.take j ++ [e] := by rw [List.take_add_one, hje]; rfl
    have lT : kT.length < sizeLine ∧ kN.length < sizeLine := by
      have h1 := Paired.length dT_
      have h2 := Paired.length dN
      rw [List.length_map] at h2
      have h5 : (F.take j).length ≤ 1000 := by rw [List.length_take]; omega
      have : sizeLine = 16777216 := sizeLine_eq
      omega
    refine q_put2 (σ := [some v0, o1, some v2, some v3, some v4, some v5, some v6, some v7, some v8, some (.ref pa), some vb, some (.ref td), some (.ref nd), o13, o14, o15, o16, o17, o18, o19, o20, o21, o22, o23, o24, o25, o26, o27, o28, o29]) rfl rfl rfl rfl (vis_sub hpa) hne gT4 gN4 lT.1 lT.2 fun p hp => ⟨_, _, some (.ref pa), some vb, rfl, ((l4.step (.new hp)).put hTL (.dT _)).put hNL (.dT _), by rw [upd_ne fun z => hne z.symm]; exact upd_same, upd_same, ?_, ?_⟩
    · rw [vis_hid (by simp), vis_hid (by simp), hwt]
      have h5 := dpr_put (k := e.1) ((dT_.st (e34.vis l3.ok).kr).st ((Es.new (T := TT) (o := .tup [vb, .ref pa]) hp).vis l4.ok).kr) (Rel.up rb l4.ok (Es.new (T := TT) (o := .tup [vb, .ref pa]) hp))
      rw [putP_new hjk] at h5
      exact h5
    · rw [vis_hid (by simp), vis_hid (by simp), hwt, List.map_append]
      have h5 := dpr_put (k := e.1) ((dN.st (e34.vis l3.ok).kr).st ((Es.new (T := TT) (o := .tup [vb, .ref pa]) hp).vis l4.ok).kr) (Rel.up (R := rO rP) (x := some e.1) ra l4.ok (Es.new (T := TT) (o := .tup [vb, .ref pa]) hp))
      rw [putP_new (by rw [List.map_map]; exact hjk)] at h5
      exact h5
  · rintro σ' G3 ⟨kT, kN, o9, o10, rfl, l3, gT, gN, dT_, dN⟩
    rw [List.take_length] at dT_ dN
    have okn : Nok [nd] G3 := fun n hn => l3.ok n (by rw [List.mem_singleton.mp hn]; simp)
    have kv : Kr (vis ([nd, td] ++ []) G3) (vis [nd] G3) := vis_less fun a ha => by rw [List.mem_singleton.mp ha]; simp
    have htn : td ∉ [nd] := fun z => hne (List.mem_singleton.mp z).symm
    have hrd : Rd (vis [nd] G3) td (.dT kT) := .inl (vis_open gT htn)
    have dT3 := dT_.st kv
    have rb3 : (rB2 K C ns tabs ls gs F v0 v2 v3 v4 v5 v6 v8 (.ref td)).r (vis [nd] G3) .non () := ⟨(rB1 K C ns tabs ls v0 v2 v3 v4 v5 v6).st kv (l3.h.up rb), (rT (rT (rT rNat))).st kv (l3.h.up r8), td, kT, rfl, hrd, dT3⟩
    have dN3 : DpR (rO rP) (vis [nd] G3) kN (tb (prs (many tabs)) fun p => some p) := by
      have h5 := dN.st kv
      rw [show (F.map fun e => (e.1, some e.1)) = tb (prs (many tabs)) fun p => some p from by
        unfold tb
        rw [← hFk, List.map_map]
        rfl] at h5
      exact h5
    have tb3 : LamX.Tabs TT G3 := l3.h.es.t tbs
    obtain ⟨N, hN1, hN2, hgl, hcls⟩ := kn.hG
    have hN10 : N ≤ 10 := by
      have h1 := lev_fall (W := W') N hN2
      have h2 := lev_len (kn.hW'.s gt) 0
      omega
    have hrange := fun c => rank_range gt kn.hW kn.hW' hF hN1 hN2 c
    refine q_setK (T := TT) (k := 9) (S := rNat) (R := rO rNat) (xs := F) (f := fun p => (rk F p).getD 0) (p := fun p => (rk F p).isSome) okn (fx_var rfl) hrd dT3 (fun _ => rfl) (by omega) (fun H4 v p kr _ hp rp => ?_) fun mv G4 e4 rm4 => ?_
    · have vp : Vp tabs p := by rw [hFk] at hp; exact prs_mem.mp hp
      have hk := (hrk p vp).1
      have eT : ∀ {σ : L2.St} {tk : TE}, σ[11]? = some (some (.ref td)) → Ev TT tk σ H4 rP p → Ev TT (tDGet (tVar 11) tk) σ H4 (rO rNat) (rk F p) := fun h1 h2 => e_dget (xs := F) (e_var (R := rD (rO rNat)) h1 ⟨td, kT, rfl, kr.rdT hrd, dT3.st kr⟩) h2 hk
      refine ⟨t_B (e_notN nv_nat (eT rfl (e_var rfl rp))), fun hp => ?_⟩
      cases ht : rk F p with
      | none => rw [ht] at hp; cases hp
      | some t =>
        rw [ht] at eT
        exact (eT rfl (e_var rfl rp)).as fun _ _ r => r
    have rm4 : (rL rNat).r (vis [nd] G4) mv (((F.map (·.1)).filter fun p => (rk F p).isSome).map fun p => (rk F p).getD 0) := rm4
    have hmem : ∀ c, c ∈ List.range N ↔ c ∈ ((F.map (·.1)).filter fun p => (rk F p).isSome).map fun p => (rk F p).getD 0 := fun c => by
      rw [List.mem_range, hrange c, List.mem_map, hFk]
      constructor
      · rintro ⟨p, hp, e⟩
        exact ⟨p, List.mem_filter.mpr ⟨hp, by rw [e]; rfl⟩, by rw [e]; rfl⟩
      · rintro ⟨p, hp, e⟩
        obtain ⟨h1, h2⟩ := List.mem_filter.mp hp
        refine ⟨p, h1, ?_⟩
        cases ht : rk F p with
        | none => rw [ht] at h2; cases h2
        | some t => rw [ht] at e; rw [← e]; rfl
    have hml : (((F.map (·.1)).filter fun p => (rk F p).isSome).map fun p => (rk F p).getD 0).length < 64 := by
      rw [List.length_map]
      have h1 := List.length_filter_le (fun p => (rk F p).isSome) (F.map (·.1))
      have key : ∀ m : Fin 6, (prs m.1).length ≤ 10 := by decide +kernel
      have h2 := key ⟨many tabs, by omega⟩
      rw [hFk] at h1 ⊢
      have h2 : (prs (many tabs)).length ≤ 10 := h2
      omega
    generalize (((F.map (·.1)).filter fun p => (rk F p).isSome).map fun p => (rk F p).getD 0) = ms at rm4 hmem hml
    have ok4 := okn.step e4
    have rb4 := Rel.up rb3 okn e4
    refine q_no (T := TT) ok4 ((t_of (e_op (Ev.to (x' := []) (e_lc (R := rNat) (S := rNat) (xs := ms) (f := id) (p := fun _ => false) (i_list (e_var rfl rm4)) (fun _ => rfl) (by omega) fun H5 v x e5 hx rx => ⟨EvT.to (t_or (t_not (t_B (e_isi (R := rNat) (r := true) (e_var rfl rx) ty_nat (by decide +kernel)))) fun _ => t_B (e_isi (R := rNat) (r := false) (e_var rfl rx) ty_nat (by decide +kernel))) rfl, fun z => by cases z⟩) (by simp)) (e_lst (R := rNat) (xs := []) a_nilP (by decide)) o_neNil)).to rfl) fun G5 e5 => ?_
    have ok5 := ok4.step e5
    have rb5 := Rel.up rb4 ok4 e5
    have rm5 := Rel.up rm4 ok4 e5
    refine q_no (T := TT) ok5 ((t_of (e_op (e_reprN (n := N) (by omega) (e_sortedSetL (w := w) (e_var rfl rm5) hml List.pairwise_lt_range hmem)) (e_reprN (n := N) (by omega) (e_listRg (n := N) (by omega) (Ev.natI (e_op (e_lenT (e_var rfl rb5.2.1)).int (e_int 1) o_I0) (by omega)))) o_neS)).to (by simp)) fun G6 e6 => ?_
    have e36 : Es TT G3 G6 := (e4.trans e5).trans e6
    exact h3 Q G6 nd kN ns tabs ls gs F W W' v0 v2 v3 v4 v5 v6 v8 (.ref td) o1 (some v7) o9 _ o13 o14 o15 o16 o17 o18 o19 o20 o21 o22 o23 o24 o25 o26 o27 o28 o29 (okn.step e36) (e36.t tb3) kn (Rel.up rb5 ok5 e6) (e36.dT gN) (dN3.st (e36.vis okn).kr) hnl q
end


end K29
set_option autoImplicit false
set_option maxHeartbeats 4000000
namespace K29
open PySem PySem.Spec PyProof.Rows L2
/-! The walks, 29: device, table, tower. -/
section
variable {T : List (Addr × Str)} {α β : Type} {σ : L2.St} {H : Hp} {N : List Addr} {R : Rel α} {R1 : Rel β} {ta tb : TE} {i j : Nat} {D : Ends} {P1 : α → Prop} {P2 : β → Prop}
theorem q_parp (ok : Nok N H) (ha : Evp T ta σ (vis N H) R P1) (hb : Evp T tb σ (vis N H) R1 P2) (k : ∀ a b H' x y, Es T H H' → P1 x → P2 y → R.r (vis N H') a x → R1.r (vis N H') b y → D.nx ((σ.set i (some a)).set j (some b)) H') : tPar i j (tCons ta (tCons tb tNil)) D σ H :=
  ha N H (.self ok) _ fun u H1 x e1 px r1 => hb N H1 ((At.self ok).step e1) _ fun v H2 y e2 py r2 => ⟨u, v, rfl, k u v H2 x y (e1.trans e2) px py (Rel.up r1 (ok.step e1) e2) r2⟩
end
section
variable {P : Program} {w : World} {K : PySem.W.Frag} {mg : Str → Option Value} {base : Heap} {C : Addr} {TT : List (Addr × Str)} {f : Addr} {cdv : Value} {A : Around} {outer : List Env} {s : Shared} {H : Hp} {E : XK}
theorem law_1 (T : Tx K mg C) (D : Lx K mg base TT) (rm : RmL A s f cdv) : ∃ t, PSs (XL P w K mg base f cdv A outer s H E) ((defBody s_law).drop 5) t ∧
    ∀ (Q : VK) (G : Hp) (ns : List Int) (tabs : List (List Nat)) (ls : List Wd) (v0 v2 v3 v4 v5 : V) (o1 o6 o7 o8 o9 o10 o11 o12 o13 o14 o15 o16 o17 o18 o19 o20 o21 o22 o23 o24 o25 o26 o27 o28 o29 : Option V),
      LamX.Tabs TT G → Gt tabs → Fam tabs.length ls → (rQ K).r (vis [] G) v0 ns → (rL (rL rNat)).r (vis [] G) v2 tabs → rNat.r (vis [] G) v3 (many tabs) → rW.r (vis [] G) v4 (List.range tabs.length) → (rL rW).r (vis [] G) v5 ls → ns.length ≤ 1000 → (∀ H', Q (.bl true) H') →
      t { nx := fun _ H' => Q .non H', rt := Q } [some v0, o1, some v2, some v3, some v4, some v5, o6, o7, o8, o9, o10, o11, o12, o13, o14, o15, o16, o17, o18, o19, o20, o21, o22, o23, o24, o25, o26, o27, o28, o29] G := by
  have hr := rm.hr
  have hg := rm.hg
  obtain ⟨t2, p2, h2⟩ := law_2 (P := P) (w := w) (outer := outer) (H := H) (E := E) T D rm
  refine ⟨_, pss_cons (st_ 6 sc_law.nd (pe_mkl (ok_dev_init (TT := TT) T) (hr.mono (by decide)) rfl (pa_cons (pv 2) pa_nil))) (pss_cons (ps_par (i := 7) (j := 8) rfl sc_law.nd rfl rfl (by decide) rfl rfl (pa_cons (pe_cl (ok_rounds_table (TT := TT) T D) (hr.mono (by decide)) rfl (pa_cons (pv 6) (pa_cons (pv 5) pa_nil))) (pa_cons (pe_cl (ok_tower_groupings (TT := TT) T D) (hr.mono (by decide)) rfl (pa_cons (pv 6) (pa_cons (pv 5) pa_nil))) pa_nil)) (by rfl)) (pss_cons (ps_if (PW.pt (pw_or (pt_not (pt_val (pe_callB (wIsi K) rfl T.f_isinstance bo_isinstance (pa_cons (pv 7) (pa_cons (pe_bltn (v := .ty "tuple") rfl T.f_tuple bo_tuple rfl) pa_nil))))) (pw_or1 (pt_cmpR op_ne (pe_callB (cr_repr hg (hu64_of hr)) rfl T.f_repr bo_repr (pa_cons (pe_lc (own := [("_law_pair", 9), ("_law_most", 10)]) (g := (gTup K 2 (gCons (gName 9) (gCons (gName 10) gNil)))) rfl sc_law.nd (wTupI K (pv 7)) (blkOk_by (own := [("_law_pair", 9), ("_law_most", 10)]) (N := ["_law_script", "_law_box_here", "_law_tables_here", "_law_many", "_law_signals", "_law_lots_here", "_law_device", "_law_table_here", "_law_tower", "_law_pair", "_law_most", "_law_told", "_law_now", "_law_one", "_law_at", "_law_classes", "_law_great", "_law_i", "_law_j", "_law_k", "_law_sides", "_law_row", "_law_heard", "_law_cuts_here", "_law_turn", "_law_states", "_law_places", "_law_signal", "_law_s", "_law_some"]) (sc := defScope s_law) (by decide +kernel)) (fun _ _ _ _ _ => (wPg2 K (pgs_cons (gn_ 9 sc_law.nd) (pgs_cons (gn_ 10 sc_law.nd) pgs_nil)))) (fun _ _ _ _ _ => pts_nil) (fun _ _ _ _ _ => (pv 9))) pa_nil)) (pe_callB (cr_repr hg (hu64_of hr)) rfl T.f_repr bo_repr (pa_cons (pe_cl (ok_law_pairs (TT := TT) T) (hr.mono (by decide)) rfl (pa_cons (pv 3) pa_nil)) pa_nil)) (nomark _)))))
(pss_one (ps_ret pe_bl))
pss_nil) p2)), fun Q G ns tabs ls v0 v2 v3 v4 v5 o1 o6 o7 o8 o9 o10 o11 o12 o13 o14 o15 o16 o17 o18 o19 o20 o21 o22 o23 o24 o25 o26 o27 o28 o29 tbs gt fam r0 r2 r3 r4 r5 hnl q => ?_⟩
  have m5 := gt.m5
  refine q_set (T := TT) (R := rDev C) (x := tabs) .nil (e_make C (e_var rfl r2) gt) fun dv G1 e1 rd => ?_
  have rb1 : (rB1 K C ns tabs ls v0 v2 v3 v4 v5 dv).r (vis [] G1) .non () := ⟨Rel.up r0 .nil e1, Rel.up r2 .nil e1, r3, r4, Rel.up r5 .nil e1, rd⟩
  have tb1 : LamX.Tabs TT G1 := e1.t tbs
  have tbv : LamX.Tabs TT (vis [] G1) := Nok.nil.tabs tb1
  refine q_parp (T := TT) (R := rT (rPair rP (rO rNat))) (R1 := rT (rT (rT rNat))) (P1 := fun F => ∃ W, WebOk tabs ls W ∧ RankOk W F) (P2 := fun gs => ∃ W, WebOk tabs ls W ∧ GrpOk (many tabs) W gs) .nil
    (e_c2T (x := tabs) (y := ls) tbv (e_var rfl rb1.2.2.2.2.2) (e_var rfl rb1.2.2.2.2.1) ⟨gt, fam⟩ fun _ h => h) (e_c2T (x := tabs) (y := ls) tbv (e_var rfl rb1.2.2.2.2.2) (e_var rfl rb1.2.2.2.2.1) ⟨gt, fam⟩ fun _ h => h) fun v7 v8 G2 F gs e2 ⟨W, hW, hF⟩ ⟨W', hW', hG⟩ r7 r8 => ?_
  have kn : Kn tabs ls gs F W W' := ⟨gt, fam, hW, hW', hF, hG⟩
  have rb2 := Rel.up rb1 .nil e2
  have hFk : F.map (·.1) = prs (many tabs) := hF.1.trans hW.1
  have hFl : F.length ≤ 1000 := by
    have := congrArg List.length hFk
    rw [List.length_map] at this
    have := prs_len m5
    omega
  refine q_no (T := TT) (N := []) .nil ((t_or (t_not (t_B (e_isi (r := true) (e_var rfl r7) ty_T (by decide +kernel)))) fun _ => t_of (e_op (e_reprP (n := many tabs) m5 (Ev.to (e_lcP (R := rP) (S := rO rNat) (U := rP) (f := fun x => x.1) (p := fun _ => true) (i_tup (e_var rfl r7)) (fun _ _ => rfl) (by omega) fun H3 a b x e3 hx ra rb => ⟨t_yes, fun _ => e_var rfl ra⟩) (by rw [filt_true]; exact hFk))) (e_reprP (n := many tabs) m5 (e_c1 (x := many tabs) (z := prs (many tabs)) (e_var rfl rb2.2.2.1) m5 fun _ h => h)) o_neS)).to (by simp)) fun G3 e3 => ?_
  exact h2 Q G3 ns tabs ls gs F W W' v0 v2 v3 v4 v5 dv v7 v8 o1 o9 o10 o11 o12 o13 o14 o15 o16 o17 o18 o19 o20 o21 o22 o23 o24 o25 o26 o27 o28 o29 (e3.t (e2.t tb1)) kn (Rel.up rb2 .nil e3) (Rel.up r7 .nil e3) (Rel.up r8 .nil e3) hnl q
end


end K29
set_option autoImplicit false
set_option maxHeartbeats 4000000
namespace K29
open PySem PySem.Spec PyProof.Rows L2
/-! The walks, 30: the law. -/
section
variable {T : List (Addr × Str)} {K : PySem.W.Frag} {α β : Type} {σ : L2.St} {G H : Hp} {N : List Addr} {R : Rel α} {S : Rel β} {b d a : Addr} {ta tb tv : TE} {tt tu : TT} {i j : Nat} {D : Ends} {ts us : TS} {o : HO} {vs : List V}
theorem tb_eqN {Pn : Nat → Prop} {n : Nat} (ha : Evb T b ta σ H rNat Pn) (h2 : Ev T tb σ H rNat n) : EvTb T b (tTest (tOp rEq ta tb)) σ H := fun N H1 hb e hx Q q =>
  ha N H1 hb e hx _ fun u H2 y bx _ r => h2 N H2 (e.bx bx) _ fun v H3 e3 r3 => by
    have r : u = .int (y : Int) := r
    have r3 : v = .int (n : Int) := r3
    subst r r3
    exact ⟨rfl, _, rfl, q _ H3 (bx.step e3)⟩
theorem tb_and (h1 : EvT T tt σ H true) (h2 : EvTb T b tu σ H) : EvTb T b (tAnd tt tu) σ H := fun N H1 hb e hx Q q => h1 N H1 e _ fun H2 e2 => h2 N H2 hb (e.step e2) (hx.es e2) Q fun c H3 bx => q c H3 (Bx.trans (.of e.ok hx e2) bx)
theorem q_ifb (hb : b ∈ N) (ok : Nok N H) (hx : IsBox H b) (h : EvTb T b tt σ (vis N H)) (k1 : ∀ H', Bx T N b H H' → ts D σ H') (k2 : ∀ H', Bx T N b H H' → us D σ H') : tIfS tt ts us D σ H := h N H hb (.self ok) hx _ fun c H' bx => by
  cases c with
  | true => exact k1 H' bx
  | false => exact k2 H' bx
/-- ways that meet -/
theorem q_meet (Pj : L2.St → Hp → Prop) (kj : ∀ σ' H', Pj σ' H' → D.nx σ' H') (h : (∀ σ' H', Pj σ' H' → D.nx σ' H') → tIfS tt ts us D σ H) : tIfS tt ts us D σ H := h kj
theorem q_appb {Post : α → Prop} (hb : b ∈ N) (ok : Nok N G) (hx : IsBox G b) (hi : σ[i]? = some (some (.ref d))) (hd : vis N G d = some (.lst vs)) (hl : vs.length < sizeLine) (hv : Evb T b tv σ (vis N G) R Post)
    (q : ∀ v G' y, Bx T N b G G' → Post y → R.r (vis N G') v y → D.nx σ (upd G' d (.lst (vs ++ [v])))) : tDrop (tBM K "list" rAppend (tVar i) (tCons tv tNil)) D σ G :=
  ⟨_, hi, .inl ⟨rfl, vs, SqL.of (vis_sub hd)⟩, hv N G hb (.self ok) hx _ fun v G' y bx hy rv => ⟨d, vs, v, rfl, rfl, vis_sub (bx.at_.e.lst hd), hl, q v G' y bx hy rv⟩⟩
theorem tabs_put (t : LamX.Tabs T G) (hd : G d = some (.lst vs)) : LamX.Tabs T (upd G d o) := fun x hx => by
  obtain ⟨ps, h1, h2, h3⟩ := t x hx
  refine ⟨ps, ?_, h2, fun pos cv hc => ?_⟩
  · rw [upd_ne fun z => by rw [z, hd] at h1; cases h1]
    exact h1
  · obtain ⟨c, e1, e2⟩ := h3 pos cv hc
    refine ⟨c, e1, ?_⟩
    rw [upd_ne fun z => by rw [z, hd] at e2; unfold LamX.CodeO at e2; cases e2]
    exact e2
/-- the script stands at another place than the rows' list -/
theorem q_upd {v : V} {ns : List Int} {a' : Addr} (h : (rQ K).r G v ns) (hd : G d = some (.lst vs)) (hv : vs.head? = some (.ref a')) : (rQ K).r (upd G d o) v ns := by
  obtain ⟨a, e, hq⟩ := h
  refine ⟨a, e, ?_⟩
  rcases hq with (hq | ⟨ob, hq⟩) | hq
  · refine .inl (.inl ?_)
    rw [upd_ne fun z => by
      rw [z, hd] at hq
      cases hq
      cases ns <;> cases hv]
    exact hq
  · refine .inl (.inr ⟨ob, ?_⟩)
    rw [upd_ne fun z => by rw [z, hd] at hq; cases hq]
    exact hq
  · exact .inr hq
theorem app_rows {tabs : List (List Nat)} {v : V} {t : List Nat} {a' : Addr} (hp : Paired ((rL rNat).r G) vs tabs) (hd : G d = some (.lst vs)) (hv : vs.head? = some (.ref a')) (r : (rL rNat).r G v t) : (rL (rL rNat)).r (upd G d (.lst (vs ++ [v]))) (.ref d) (tabs ++ [t]) :=
  ⟨d, _, rfl, upd_same, pr_snoc (Paired.mapP hp fun _ _ h => row_upd (u := .non) h hd hv) (row_upd (u := .non) r hd hv)⟩
theorem gt_mk {n : Nat} {L : List (List Nat)} (h3 : 3 ≤ n) (h5 : n ≤ 5) (l1 : 1 ≤ L.length) (l3 : L.length ≤ 3) (h : ∀ t ∈ L, TabOk n t) : many L = n ∧ Gt L := by
  have hm : many L = n := by
    cases L with
    | nil => simp at l1
    | cons t L => exact (h t (List.mem_cons_self ..)).1
  exact ⟨hm, l1, l3, by omega, by omega, fun t ht => by rw [hm]; exact h t ht⟩
/-- a family of a new box -/
theorem q_fam {ns : List Int} {l : Wd} {k : Nat} {E1 E2 : XK} (ha : Ev T ta σ (vis [] H) (rQ K) ns) (hb : Ev T tb σ (vis [] H) rW l) (h1 : 1 ≤ l.length) (h3 : l.length ≤ 3) (hs : l = List.range l.length)
    (q : ∀ p v H' ls, At T [p] (vis [] H) H' → Fam l.length ls → (rL rW).r (vis [p] H') v ls → D.nx (σ.set i (some v)) H') :
    tAsg (tCall (sp_law_family T) [] E1 (tCons (tCall (sp_law_box K T) [] E2 (tCons ta (tCons (tC (.int (k : Int))) tNil))) (tCons tb tNil))) (gName i) D σ H :=
  ha [] H (.self .nil) _ fun v H1 e1 ⟨a, hv, hq⟩ => by
    subst hv
    refine ⟨[], a, ns, k, rfl, .nil, hq, fun H2 p g r e2 hp => ?_⟩
    have a2 : At T [p] (vis [] H) (upd H2 p (.lst [.int g, .int r])) := ((At.self .nil).step (e1.trans e2)).hide hp (.lst _)
    exact hb [p] _ a2 _ fun u H3 e3 ru => by
      have a3 := a2.step e3
      exact ⟨[p], p, l, [u], by simp, a3.ok, ⟨g, r, e3.lst upd_same⟩, rfl, ⟨u, rfl, ru, h1, h3, hs⟩, fun v H' y bx hy r => q p v H' y (bx.at_.base a3.e) hy r⟩
end
section
variable {P : Program} {w : World} {K : PySem.W.Frag} {mg : Str → Option Value} {base : Heap} {C : Addr} {TT : List (Addr × Str)} {f : Addr} {cdv : Value} {A : Around} {outer : List Env} {s : Shared} {H : Hp} {E : XK}
theorem law_0 (T : Tx K mg C) (D : Lx K mg base TT) (rm : RmL A s f cdv) : ∃ t, PSs (XL P w K mg base f cdv A outer s H E) (defBody s_law) t ∧
    ∀ (Q : VK) (G : Hp) (a : Addr) (ns : List Int), LamX.Tabs TT G → SqL K G a (ns.map V.int) → ns.length ≤ 1000 → (∀ H', Q (.bl true) H') → t { nx := fun _ H' => Q .non H', rt := Q } (L2.start Nlaw [.ref a]) G := by
  have hr := rm.hr
  obtain ⟨t1, p1, h1⟩ := law_1 (P := P) (w := w) (outer := outer) (H := H) (E := E) T D rm
  refine ⟨_, pss_cons (st_ 1 sc_law.nd (pe_cl (ok_law_box (TT := TT) T) (hr.mono (by decide)) rfl (pa_cons (pv 0) (pa_cons pe_int pa_nil)))) (pss_cons (st_ 2 sc_law.nd (pe_cl (ok_law_tables (TT := TT) T) (hr.mono (by decide)) rfl (pa_cons (pv 1) (pa_cons (pe_lst (pa_cons pe_int (pa_cons pe_int (pa_cons pe_int (pa_cons pe_int (pa_cons pe_int pa_nil)))))) (pa_cons (pe_lst (pa_cons pe_int (pa_cons pe_int (pa_cons pe_int (pa_cons pe_int pa_nil))))) pa_nil))))) (pss_cons (ps_if (PW.pt (pw_and (pt_cmpR op_eq (pe_callB (wLen K) rfl T.f_len bo_len (pa_cons (pe_ix (wIxL K) (pv 2) pe_int (fun _ _ => rfl)) pa_nil)) pe_int (nomark _)) (pw_and1 (pt_cmpR op_eq (pe_cl (ok_law_take (TT := TT) T) (hr.mono (by decide)) rfl (pa_cons (pv 1) (pa_cons pe_int pa_nil))) pe_int (nomark _)))))
(pss_one (ps_expr (pe_bm PySem.F.plainAttrs_list PySem.F.slot_list_append PySem.F.type_list_append wAppend (pv 2) (pa_cons (pe_cl (ok_law_table (TT := TT) T) (hr.mono (by decide)) rfl (pa_cons (pv 1) (pa_cons pe_int pa_nil))) pa_nil))))
pss_nil) (pss_cons (ps_asg (pe_tup (pa_cons (pe_callB (wLen K) rfl T.f_len bo_len (pa_cons (pe_ix (wIxL K) (pv 2) pe_int (fun _ _ => rfl)) pa_nil)) (pa_cons (pe_slice sl_str pe_str po_none (po_some (pe_callB (wLen K) rfl T.f_len bo_len (pa_cons (pv 2) pa_nil)))) pa_nil))) (wPg2 K (pgs_cons (gn_ 3 sc_law.nd) (pgs_cons (gn_ 4 sc_law.nd) pgs_nil)))) (pss_cons (st_ 5 sc_law.nd (pe_cl (ok_law_family (TT := TT) T) (hr.mono (by decide)) rfl (pa_cons (pe_cl (ok_law_box (TT := TT) T) (hr.mono (by decide)) rfl (pa_cons (pv 0) (pa_cons pe_int pa_nil))) (pa_cons (pv 4) pa_nil)))) p1)))), fun Q G a ns tbs hq hnl q => ?_⟩
  have rq : (rQ K).r (vis [] G) (.ref a) ns := by rw [vis_nil]; exact ⟨a, rfl, hq⟩
  refine q_box (T := TT) (σ := [some (.ref a), none, none, none, none, none, none, none, none, none, none, none, none, none, none, none, none, none, none, none, none, none, none, none, none, none, none, none, none, none]) 0 .nil (e_var rfl rq) fun H1 b g0 r0 e1 hb1 => ?_
  have a1 : At TT [b] (vis [] G) (upd H1 b (.lst [.int g0, .int r0])) := ((At.self .nil).step e1).hide hb1 (.lst _)
  have hx1 : IsBox (upd H1 b (.lst [.int g0, .int r0])) b := ⟨g0, r0, upd_same⟩
  generalize upd H1 b (.lst [.int g0, .int r0]) = G1 at a1 hx1
  have hb : b ∈ [b] := by simp
  have tbs0 : LamX.Tabs TT (vis [] G) := Nok.nil.tabs tbs
  have lit : ∀ {G : Hp} {σ : L2.St} (n : Nat), Ev TT (tC (.int (n : Int))) σ G rNat n := fun n => e_nat n
  refine q_setb (T := TT) (R := rL (rL rNat)) (Post := TabsOk) hb a1.ok hx1 (e_callB rfl (ab_cons (e_lst (R := rNat) (xs := [3, 4, 3, 4, 5]) (a_consP (lit 3) (a_consP (lit 4) (a_consP (lit 3) (a_consP (lit 4) (a_consP (lit 5) a_nilP))))) (by decide)).bx (ab_cons (e_lst (R := rNat) (xs := [2, 2, 1, 2]) (a_consP (lit 2) (a_consP (lit 2) (a_consP (lit 1) (a_consP (lit 2) a_nilP)))) (by decide)).bx ab_nil)) fun G vs ⟨u1, _, x1, e1, p1, r1, u2, _, x2, e2, p2, r2, e3⟩ => ?_) fun tv G2 L bx2 hL rL2 => ?_
  · subst e3 e2 e1 p1 p2
    exact ⟨([3, 4, 3, 4, 5], [2, 2, 1, 2]), ⟨u1, u2, rfl, r1, r2, by decide +kernel, by decide +kernel, by decide +kernel, by decide +kernel, by decide +kernel, by decide +kernel⟩, fun y hy => hy⟩
  · have a2 := a1.bx bx2
    obtain ⟨n, hn3, hn5, hl1, hl2, hall⟩ := hL
    have hgt := gt_mk hn3 hn5 hl1 (by omega) hall
    have h00 : (L.getD 0 []).length = n := by
      rw [← hgt.1]
      cases L <;> rfl
    have hat0 : atI L 0 = some (L.getD 0 []) := atI_of (i := 0) (by omega)
    have tb2 : LamX.Tabs TT G2 := (a2.e.t tbs0).ext fun _ _ h => vis_sub h
    have kr2 : ∀ G, Kr (vis [b] G) (vis [] G) := fun G => vis_less fun _ h => by simp at h
    have rq2 : (rQ K).r (vis [b] G2) (.ref a) ns := Rel.es rq a2.e
    dsimp only
    show tSeq (tIfS _ _ _) _ _ _ _
    refine q_seq ?_
    refine q_meet (fun σ' H' => ∃ (tabs : List (List Nat)) (v2 : V), σ' = [some (.ref a), some (.ref b), some v2, none, none, none, none, none, none, none, none, none, none, none, none, none, none, none, none, none, none, none, none, none, none, none, none, none, none, none] ∧ Gt tabs ∧ LamX.Tabs TT H' ∧ (rQ K).r (vis [] H') (.ref a) ns ∧ (rL (rL rNat)).r (vis [] H') v2 tabs) ?_ fun kj => ?_
    · rintro σ' H' ⟨tabs, v2, rfl, gt, tb', rq', rt'⟩
      have n1 := gt.n1
      have n3 := gt.n3
      have hat : atI tabs 0 = some (tabs.getD 0 []) := atI_of (i := 0) (by omega)
      have hmt : (tabs.getD 0 []).length = many tabs := by cases tabs <;> rfl
      refine q_asgP (T := TT) (R := rNat) (S := rW) (z := (many tabs, List.range tabs.length)) (N := []) .nil (e_pair (Ev.to (e_lenL (e_op (e_var rfl rt') (e_int 0) (o_ixL hat))) hmt) (Ev.as (R := rS) (S := rW) (x := wS (List.range tabs.length)) (y := List.range tabs.length) (Ev.to (e_slS (e_str "abc") s_none (s_some (e_lenL (e_var rfl rt')).int) (by decide)) (cut_abc2 ⟨tabs.length, by omega⟩)) fun _ _ r => r)) fun v3 v4 H5 e5 r3 r4 => ?_
      have rq5 := Rel.up rq' .nil e5
      have rt5 := Rel.up rt' .nil e5
      have r3 : rNat.r (vis [] H5) v3 (many tabs) := r3
      have r4 : rW.r (vis [] H5) v4 (List.range tabs.length) := r4
      refine q_fam (T := TT) (k := 1) (l := List.range tabs.length) (e_var rfl rq5) (e_var rfl r4) (by rw [List.length_range]; exact n1) (by rw [List.length_range]; exact n3) (by rw [List.length_range]) fun p v5 H6 ls a6 fam r5 => ?_
      rw [List.length_range] at fam
      have kr6 : Kr (vis [p] H6) (vis [] H6) := vis_less fun _ h => by simp at h
      have tb6 : LamX.Tabs TT H6 := (a6.e.t (Nok.nil.tabs (e5.t tb'))).ext fun _ _ h => vis_sub h
      exact h1 Q H6 ns tabs ls (.ref a) v2 v3 v4 v5 _ _ _ _ _ _ _ _ _ _ _ _ _ _ _ _ _ _ _ _ _ _ _ _ _ tb6 gt fam ((rQ K).st kr6 (Rel.es rq5 a6.e)) ((rL (rL rNat)).st kr6 (Rel.es rt5 a6.e)) r3 r4 ((rL rW).st kr6 r5) hnl q
    · by_cases hn : n = 3
      · subst hn
        refine q_ifb hb a2.ok bx2.box (tb_and (EvT.to (t_of (e_op (e_lenL (e_op (e_var rfl rL2) (e_int 0) (o_ixL hat0))).int (e_int 3) o_eqI)) (decide_eq_true (by rw [h00]; rfl))) (tb_eqN (e_takeb (n := 2) rfl (e_nat 2) (by decide) (by decide)) (e_nat 0))) (fun H3 bx3 => ?_) fun H3 bx3 => kj _ _ ⟨L, tv, rfl, hgt.2, ?_, (rQ K).st (kr2 H3) (bx3.up rq2), (rL (rL rNat)).st (kr2 H3) (bx3.up rL2)⟩
        · obtain ⟨d, vs, rfl, hvd, hpr⟩ := bx3.up rL2
          have hvl := Paired.length hpr
          refine q_appb (T := TT) (R := rL rNat) (Post := TabOk 3) hb bx3.ok bx3.box rfl hvd (by have : sizeLine = 16777216 := sizeLine_eq; omega) (e_callB rfl (ab_cons (e_nat 3).bx ab_nil) fun G vs ⟨v, r, y, e1, e2, r1, e3⟩ => ⟨3, ⟨v, by rw [e1, e3], by rw [← e2]; exact r1, by decide, by decide⟩, fun _ h => h⟩) fun v G4 y bx4 hy rv => kj _ _ ⟨L ++ [y], .ref d, rfl, ?_, ?_, ?_, ?_⟩
          · exact (gt_mk (n := 3) (by decide) (by decide) (by rw [List.length_append]; omega) (by rw [List.length_append]; simp; omega) fun t ht => by
              rcases List.mem_append.mp ht with z | z
              · exact hall t z
              · rw [List.mem_singleton.mp z]; exact hy).2
          · exact tabs_put (((a2.bx bx3).bx bx4).e.t tbs0 |>.ext fun _ _ h => vis_sub h) (vis_sub (bx4.at_.e.lst hvd))
          · have hd4 := vis_sub (bx4.at_.e.lst hvd)
            have hr4 := bx4.up (bx3.up rq2)
            obtain ⟨a', ha'⟩ : ∃ a', vs.head? = some (.ref a') := by
              cases hpr with
              | nil => simp at hl1
              | cons r _ => obtain ⟨a', _, e, _⟩ := r; exact ⟨a', by rw [e]; rfl⟩
            rw [vis_nil]
            exact q_upd (Rel.out hr4) hd4 ha'
          · have hd4 := vis_sub (bx4.at_.e.lst hvd)
            have hp4 := pr_st bx4.at_.e.kr hpr
            obtain ⟨a', ha'⟩ : ∃ a', vs.head? = some (.ref a') := by
              cases hpr with
              | nil => simp at hl1
              | cons r _ => obtain ⟨a', _, e, _⟩ := r; exact ⟨a', by rw [e]; rfl⟩
            rw [vis_nil]
            exact app_rows (pr_st (Es.sub (T := TT) [b] G4).kr hp4) hd4 ha' (Rel.out rv)
        · exact ((a2.bx bx3).e.t tbs0).ext fun _ _ h => vis_sub h
      · refine q_no (T := TT) a2.ok (EvT.to (t_and (b := decide (((L.getD 0 []).length : Int) = 3)) (c := true) (t_of (e_op (e_lenL (e_op (e_var rfl rL2) (e_int 0) (o_ixL hat0))).int (e_int 3) o_eqI)) fun hb => absurd (of_decide_eq_true hb) (by rw [h00]; omega)) (by rw [decide_eq_false (by rw [h00]; omega)]; rfl)) fun H3 e3 => kj _ _ ⟨L, tv, rfl, hgt.2, e3.t tb2, (rQ K).st (kr2 H3) (Rel.up rq2 a2.ok e3), (rL (rL rNat)).st (kr2 H3) (Rel.up rL2 a2.ok e3)⟩
end


end K29
set_option autoImplicit false
set_option maxHeartbeats 4000000
namespace K29
open PySem PySem.Spec PyProof.Rows L2
/-! The end, 1: the law called once, from outside, where nothing is being shown. -/
section
variable {P : Program} {w : World} {K : PySem.W.Frag} {mg mb : Str → Option Value} {fa a : Addr} {cs : List (Addr × Addr)} {st1 : Shared} {us : List Value} {ns : List Int}
/-- what the heap holds as the call begins: the tables, the script -/
theorem first_heap (lst : st1.heap.get? a = some { cls := .type "list", data := .seq us.toArray }) (nms : IntsAre us ns) (few : ns.length ≤ sizeLine) (inK : K.In st1.heap) (tabs : ∀ p ∈ cs, st1.heap.get? p.2 = some { cls := .none, data := .fields #[] }) :
    ∃ H : Hp, (∀ p ∈ cs, H p.2 = some (.tbl #[])) ∧ SqL K H a (ns.map V.int) ∧ ∀ b u, H b = some u → ((∃ p ∈ cs, p.2 = b) ∧ u = .tbl #[]) ∨ (b = a ∧ K.lookup a = none ∧ u = .frz { cls := .type "list", data := .seq us.toArray } (.lst (ns.map V.int))) := by
  have apart : ¬ ∃ p ∈ cs, p.2 = a := fun ⟨p, hp, e⟩ => by
    have h := tabs p hp
    rw [e, lst] at h
    cases congrArg Obj.data (Option.some.inj h)
  cases look : K.lookup a with
  | none =>
    refine ⟨fun b => if ∃ p ∈ cs, p.2 = b then some (.tbl #[]) else if b = a then some (.frz { cls := .type "list", data := .seq us.toArray } (.lst (ns.map V.int))) else none, fun p hp => if_pos ⟨p, hp, rfl⟩, .inl (.inr ⟨_, (if_neg apart).trans (if_pos rfl)⟩), fun b u h => ?_⟩
    have h : (if ∃ p ∈ cs, p.2 = b then some (.tbl #[]) else if b = a then some (.frz { cls := .type "list", data := .seq us.toArray } (.lst (ns.map V.int))) else none) = some u := h
    by_cases q : ∃ p ∈ cs, p.2 = b
    · rw [if_pos q] at h
      exact .inl ⟨q, (Option.some.inj h).symm⟩
    · rw [if_neg q] at h
      by_cases z : b = a
      · rw [if_pos z] at h
        exact .inr ⟨z, rfl, (Option.some.inj h).symm⟩
      · rw [if_neg z] at h
        cases h
  | some o =>
    refine ⟨fun b => if ∃ p ∈ cs, p.2 = b then some (.tbl #[]) else none, fun p hp => if_pos ⟨p, hp, rfl⟩, .inr ?_, fun b u h => ?_⟩
    · have h := inK a o look
      rw [lst] at h
      cases h
      exact ⟨_, us.toArray, _, look, rfl, rfl, rfl, by rw [List.size_toArray, nms.length]; exact few, by simpa using vals_ints nms⟩
    · have h : (if ∃ p ∈ cs, p.2 = b then some (.tbl #[]) else none) = some u := h
      by_cases q : ∃ p ∈ cs, p.2 = b
      · rw [if_pos q] at h
        exact .inl ⟨q, (Option.some.inj h).symm⟩
      · rw [if_neg q] at h
        cases h
/-- nothing that the heap does not track has changed -/
theorem law_end (inK : K.In st1.heap) (glob : st1.heap.Ns mainGlobals mg) (blt : st1.heap.Ns builtinsNs mb) (same : ∀ x : Str, x ≠ "__name__" → mb x = bootBuiltins x) (lim : st1.heap.NoLimit) (gens : st1.gens = #[])
    (tabs : ∀ p ∈ cs, st1.heap.get? p.2 = some { cls := .none, data := .fields #[] }) (outK : ∀ p ∈ cs, K.lookup p.2 = none) (codes : ∀ p ∈ cs, PySem.W.CodeHd st1.heap p.1 p.2)
    (bm : ∃ (m : Addr) (ob : Obj), mg "__builtins__" = some (.ref m) ∧ m ≠ builtinsNs ∧ st1.heap.get? m = some ob ∧ ob.cls = .type "module" ∧ ob.dict = some builtinsNs ∧ ob.data = .plain)
    (lst : st1.heap.get? a = some { cls := .type "list", data := .seq us.toArray }) (nms : IntsAre us ns) (few : ns.length ≤ sizeLine)
    (go : ∀ (base : Heap) (H : Hp), K.In base → base.Ns mainGlobals mg → (∀ p ∈ cs, LamX.TabB base mg p.1 p.2) → Env0 P w K mg base callerA [] st1 H → (∀ p ∈ cs, H p.2 = some (.tbl #[])) → SqL K H a (ns.map V.int) →
      codeAny (model P w) callerA (.call (.ref fa) ⟨[.ref a], []⟩) (CR L2.CX0 [] P w H st1 (fun v _ => v = .bl true) fun _ _ _ => False) st1) :
    codeAny (model P w) callerA (.call (.ref fa) ⟨[.ref a], []⟩) (fun r st2 => r = .ok (.ret (.bool true)) ∧ OldK st1.heap st2.heap ∧ st2.os = st1.os ∧ AllBare st2.gens) st1 := by
  obtain ⟨H, hT, hS, hH⟩ := first_heap lst nms few inK tabs
  have rv := vals_ints nms
  -- a tracked object is a table or the script
  have plain : ∀ {b : Addr} {o : Obj}, st1.heap.get? b = some o → (∀ xs n, o.data ≠ .seq xs n) → o.data ≠ .fields #[] → H b = none := fun {b o} e n1 n2 => by
    cases q : H b with
    | none => rfl
    | some u =>
      rcases hH b u q with ⟨⟨p, hp, z⟩, _⟩ | ⟨z, _, _⟩
      · have h := tabs p hp
        rw [z, e] at h
        exact absurd (congrArg Obj.data (Option.some.inj h)) n2
      · rw [z, lst] at e
        exact absurd (congrArg Obj.data (Option.some.inj e)).symm (n1 _ _)
  have keep : ∀ {b : Addr} {o : Obj}, st1.heap.get? b = some o → H b = none → (hidT st1.heap H).get? b = some o := fun e n => hidT_get e n
  have spaces : ∀ {b : Addr} {m : Str → Option Value}, st1.heap.Ns b m → (hidT st1.heap H).Ns b m := fun {b m} ⟨o, es, ep, e, d, r⟩ => ⟨o, es, ep, keep e (plain e (fun _ _ z => by rw [d] at z; cases z) fun z => by rw [d] at z; cases z), d, r⟩
  have inB : K.In (hidT st1.heap H) := fun b o e => keep (inK b o e) (by
    cases q : H b with
    | none => rfl
    | some u =>
      rcases hH b u q with ⟨⟨p, hp, z⟩, _⟩ | ⟨z, n, _⟩
      · rw [← z, outK p hp] at e
        cases e
      · rw [z, n] at e
        cases e)
  have hok : HOk P w H st1.heap := fun b u q => by
    rcases hH b u q with ⟨⟨p, hp, z⟩, e⟩ | ⟨z, _, e⟩
    · subst e
      rw [← z]
      exact tabs p hp
    · subst e
      subst z
      exact ⟨lst, by rw [List.length_map]; exact few, us, _, rv, lst⟩
  have tab : ∀ p ∈ cs, LamX.TabB (hidT st1.heap H) mg p.1 p.2 := fun p hp => by
    have hp2 := tabs p hp
    refine ⟨?_, ?_, fun z => ?_⟩
    · obtain ⟨o, xs, file, tf, flags, tg, inF, text, tt, e1, r1, r2, r3, r4⟩ := codes p hp
      refine ⟨o, xs, file, tf, flags, tg, inF, text, tt, keep e1 (plain e1 (fun _ _ z => by rw [r2] at z; cases z) fun z => ?_), r1, r2, r3, r4⟩
      rw [r2] at z
      cases z
      simp at r3
    · obtain ⟨m, ob, b1, b2, b3, b4, b5, b6⟩ := bm
      refine ⟨m, ob, b1, b2, fun q => ?_, fun q => ?_, keep b3 (plain b3 (fun _ _ z => by rw [b6] at z; cases z) fun z => by rw [b6] at z; cases z), b4, b5, b6⟩
      · obtain ⟨o, es, ep, e, hd, _⟩ := glob
        rw [q, e] at b3
        cases b3
        rw [hd] at b6
        cases b6
      · rw [q, hp2] at b3
        cases b3
        cases b6
    · obtain ⟨o, es, ep, e, hd, _⟩ := glob
      rw [z, hp2] at e
      cases e
      cases hd
  have env : Env0 P w K mg (hidT st1.heap H) callerA [] st1 H := ⟨rfl, ⟨inB, spaces glob, ⟨mb, spaces blt, same⟩, let ⟨mc, l1, l2⟩ := lim; ⟨mc, spaces l1, l2⟩⟩, fun b o e => of_hidT e, Nat.le_of_eq (hidT_size _ _), trivial, fun b z => absurd (show b ∈ ([] : List Addr) from z) (by simp), hok, .of_eq gens⟩
  refine codeAny_mono (go _ H inB (spaces glob) tab env hT hS) fun r st2 h => ?_
  cases r with
  | error e => exact False.elim h
  | ok fl =>
    cases fl with
    | next => exact False.elim h
    | brk => exact False.elim h
    | cont => exact False.elim h
    | ret u =>
      obtain ⟨v, H2, os, bare, un, hok2, ru, hv⟩ := h
      have hv : v = .bl true := hv
      subst hv
      obtain rfl : u = Value.bool true := ru
      have stays : ∀ b o, ¬ (∃ p ∈ cs, p.2 = b) → st1.heap.get? b = some o → st2.heap.get? b = some o := fun b o nb e => by
        cases q : H b with
        | none => exact un.keep b o e q (fun z => absurd (show b ∈ ([] : List Addr) from z) (by simp)) (by simp)
        | some u =>
          rcases hH b u q with ⟨z, _⟩ | ⟨_, _, z⟩
          · exact absurd z nb
          · subst z
            obtain ⟨d1, _⟩ := hok b _ q
            obtain ⟨d2, _⟩ := hok2 b _ (un.frzs b _ _ q)
            rw [e] at d1
            cases d1
            exact d2
      have grows : ∀ p ∈ cs, ∃ more : Array Value, st2.heap.get? p.2 = some { cls := .none, data := .fields more } := fun p hp => by
        obtain ⟨more, z⟩ := un.tbls p.2 #[] (hT p hp)
        exact ⟨_, hok2 p.2 _ z⟩
      refine ⟨rfl, ⟨fun b o e => ?_, fun b o e => ?_⟩, os, bare⟩
      · by_cases q : ∃ p ∈ cs, p.2 = b
        · obtain ⟨p, hp, z⟩ := q
          obtain ⟨more, hm⟩ := grows p hp
          subst z
          rw [tabs p hp] at e
          cases e
          exact .inr (.inl ⟨((codes p hp).tab (tabs p hp)).isCodeTable, rfl, #[], more, rfl, by rw [Array.empty_append]; exact hm⟩)
        · exact .inl (stays b o q e)
      · by_cases q : ∃ p ∈ cs, p.2 = b
        · obtain ⟨p, hp, z⟩ := q
          obtain ⟨more, hm⟩ := grows p hp
          subst z
          exact ⟨_, hm⟩
        · exact ⟨o, stays b o q e⟩
end

end K29
set_option autoImplicit false
set_option maxHeartbeats 4000000
namespace K29
open PySem PySem.Spec PyProof.Rows L2
/-! The end, 2: a def's body run in one given place. -/
section
variable {P : Program} {w : World} {K : PySem.W.Frag} {mg : Str → Option Value} {base : Heap}
theorem run_here {x : Str} {st : Stmt} {N ps : List Str} {k : Nat} {f : Addr} {fd : FuncData} {Ar : Around} {outer : List Env} {s : Shared} {H : Hp} {args : Args} {us : List Value} {vs : List V} {Q : VK} {E : XK}
    (F : FunD K x x (defArgs st) (defBody st) (defScope st) [] [] f fd) (S : FnScope N ps (defScope st)) (many_ : vs.length = ps.length) (room : Room (k + 1) Ar) (e0 : Env0 P w K mg base Ar outer s H) (bind : BindsTo s fd args (ps.zip us)) (rel : Vals vs us)
    (body : ∀ cdv : Value, Room k (Ar.deeper (envOfC x (defScope st) s.heap.objs.size f cdv)) → ∃ t, PSs (cxOf L2.CX0 P w K mg base N x (defScope st) f cdv Ar outer s H E) (defBody st) t ∧ t { nx := fun _ H' => Q .non H', rt := Q } (L2.start N vs) H) :
    codeAny (model P w) Ar (.call (.ref f) args) (CR L2.CX0 outer P w H s Q E) s := by
  obtain ⟨oc, od, dV, kV, doc, pm, an, cdv, ct, osl, rfl, look, code, _, _⟩ := F.ex
  have inK : K.In s.heap := e0.mod.kin.keeps fun b o e => (e0.bs b o e).1
  have lim : s.heap.NoLimit := e0.mod.nolimit.keeps fun b o e => (e0.bs b o e).1
  have kinds : ∀ y ∈ ps.zip us, (defScope st).names.lookup y.1 = some .local ∨ ((defScope st).names.lookup y.1 = some .cell ∧ ((cellsFrom (s.heap.objs.size + 1) (defScope st).names []).lookup y.1).isSome = true) := fun ⟨n, v⟩ hy => by
    rcases S.par n (List.of_mem_zip hy).1 with z | z
    · exact .inl z
    · exact .inr ⟨z, PySem.W.cellsFrom_some _ _ _ (.inl z)⟩
  refine codeAny_call_function room.depth (inK _ _ look) rfl S.co S.gen rfl (PySem.W.codeRec_of inK code) (bind _ _ _ _ ?_)
  refine wpAny_newFunctionEnv_cells S.kind kinds fun env he s1 made => ?_
  subst he
  refine ⟨lim.keeps made.toInCall.keep, codeAny_func ?_⟩
  obtain ⟨t, ht, q⟩ := body cdv (room.deeper _)
  have I : Inv (cxOf L2.CX0 P w K mg base N x (defScope st) f cdv Ar outer s H E) [] (L2.start N vs) H s1 := inv_start S room.hd e0 many_ rel made
  refine wpAny_mono (ht.run [] s1 (L2.start N vs) H _ I q) (fun fl s2 h => ?_) fun e s2 h => h
  cases fl with
  | ret u =>
    obtain ⟨v, σ2, H2, J, rv, q2⟩ := h
    exact ⟨v, H2, J.os, J.bare, J.base, J.hok, rv, q2⟩
  | next =>
    obtain ⟨σ2, H2, J, q2⟩ := h
    exact ⟨V.non, H2, J.os, J.bare, J.base, J.hok, rfl, q2⟩
  | brk =>
    obtain ⟨_, _, _, z⟩ := h
    exact False.elim z
  | cont =>
    obtain ⟨_, _, _, z⟩ := h
    exact False.elim z
end
section
variable {P : Program} {w : World} {K : PySem.W.Frag} {mg mb : Str → Option Value} {base : Heap} {C : Addr} {TT : List (Addr × Str)}
/-- the law, called from outside -/
theorem law_runs {f a : Addr} {fd : FuncData} {st1 : Shared} {H : Hp} {ns : List Int} (F : FunD K "law" "law" (defArgs s_law) (defBody s_law) (defScope s_law) [] [] f fd) (bind : ∀ (s : Shared) (u : Value), BindsTo s fd ⟨[u], []⟩ [("_law_script", u)]) (T : Tx K mg C) (D : Lx K mg base TT)
    (e0 : Env0 P w K mg base callerA [] st1 H) (tabs : LamX.Tabs TT H) (hs : SqL K H a (ns.map V.int)) (few : ns.length ≤ 63) :
    codeAny (model P w) callerA (.call (.ref f) ⟨[.ref a], []⟩) (CR L2.CX0 [] P w H st1 (fun v _ => v = .bl true) fun _ _ _ => False) st1 := by
  refine run_here (k := 8) F sc_law (vs := [.ref a]) (us := [.ref a]) rfl ⟨rfl, by decide, by decide⟩ e0 (bind st1 (.ref a)) (.cons rfl .nil) fun cdv room => ?_
  obtain ⟨t, p, h⟩ := law_0 (P := P) (w := w) (outer := []) (H := H) (E := fun _ _ _ => False) (s := st1) (f := f) (cdv := cdv) (A := callerA) T D ⟨room, rfl⟩
  exact ⟨t, p.nox, h (fun v _ => v = .bl true) H a ns tabs hs (by omega) fun _ => rfl⟩
end

end K29
set_option autoImplicit false
set_option maxHeartbeats 4000000
namespace K29
open PySem PySem.Spec PyProof.Rows L2 K29.Hd0
/-! The end, 3: what the head has left. -/
section
variable {K : PySem.W.Frag} {mg : Str → Option Value} {h base : Heap} {w : World} {x : Str} {st : Stmt} {ps : List Str}
theorem dx_of (F : ∃ fd, FunD K x x (defArgs st) (defBody st) (defScope st) [] [] (He.ga K x) fd) (g : mg x = some (.ref (He.ga K x)))
    (hb : ∀ (kV doc pm : Value) (an : Option Addr) (cdv ct : Value) (us : List Value), us.length = ps.length → bindArgs (PySem.W.fnOf x x (defArgs st) (defBody st) (defScope st) .none kV doc pm an cdv ct) ⟨us, []⟩ = pure (ps.zip us)) : Dx K mg x st ps := by
  obtain ⟨fd, F⟩ := F
  exact ⟨_, fd, F, g, fun s us _ hl => by
    rw [List.append_nil] at hl ⊢
    exact F.bindsA hb s us hl⟩
theorem lmx_of {TT : List (Addr × Str)} {q : Str} (F : ∃ fd, FunD K x x (defArgs st) (defBody st) (defScope st) [] [] (He.ga K x) fd) (g : mg x = some (.ref (He.ga K x)))
    (hb : ∀ (kV doc pm : Value) (an : Option Addr) (cdv ct : Value) (us : List Value), us.length = ps.length → bindArgs (PySem.W.fnOf x x (defArgs st) (defBody st) (defScope st) .none kV doc pm an cdv ct) ⟨us, []⟩ = pure (ps.zip us))
    (tb : LamX.TabB base mg (He.cT K (x, none)).1 (He.cT K (x, none)).2) (hm : ((He.cT K (x, none)).2, q) ∈ TT) (hu : ∀ p ∈ TT, p.1 = (He.cT K (x, none)).2 → p.2 = q) : Lmx K mg base TT x st ps q := by
  obtain ⟨fd, F⟩ := F
  obtain ⟨oc, od, dV, kV, doc, pm, an, cdv, ct, osl, rfl, lk, hcd, h1, h2⟩ := id F.ex
  obtain ⟨cc, rfl⟩ := He.codeIn_ref hcd
  have e : He.codeOf K (x, none) = cc := He.codeOf_eq (p := (x, none)) lk rfl
  exact ⟨_, _, cc, (He.cT K (x, none)).2, F, g, fun s us _ hl => by
    rw [List.append_nil] at hl ⊢
    exact F.bindsA hb s us hl, rfl, by rw [← e]; exact tb, hm, hu⟩
theorem tx_of (X : K.In h) (G : h.Ns mainGlobals mg) (c : He.SaysX fa fn [] tf exB w h K) : Tx K mg (He.ga K "Device") where
  d_is_integer := dx_of (c.t.d.def_ 0 (d := d_is_integer) rfl) (He.glo_ok X G (c.t.d.fact 0 (f := .glo "is_integer") rfl)) (fun _ _ _ _ _ _ us hl => match us, hl with | [_], _ => rfl)
  d_is_number := dx_of (c.t.d.def_ 1 (d := d_is_number) rfl) (He.glo_ok X G (c.t.d.fact 1 (f := .glo "is_number") rfl)) (fun _ _ _ _ _ _ us hl => match us, hl with | [_], _ => rfl)
  d_is_text := dx_of (c.t.d.def_ 2 (d := d_is_text) rfl) (He.glo_ok X G (c.t.d.fact 2 (f := .glo "is_text") rfl)) (fun _ _ _ _ _ _ us hl => match us, hl with | [_], _ => rfl)
  d_is_sequence := dx_of (c.t.d.def_ 3 (d := d_is_sequence) rfl) (He.glo_ok X G (c.t.d.fact 3 (f := .glo "is_sequence") rfl)) (fun _ _ _ _ _ _ us hl => match us, hl with | [_], _ => rfl)
  d_is_lot_of := dx_of (c.t.d.def_ 4 (d := d_is_lot_of) rfl) (He.glo_ok X G (c.t.d.fact 4 (f := .glo "is_lot_of") rfl)) (fun _ _ _ _ _ _ us hl => match us, hl with | [_, _], _ => rfl)
  d_lot_within := dx_of (c.t.d.def_ 5 (d := d_lot_within) rfl) (He.glo_ok X G (c.t.d.fact 5 (f := .glo "lot_within") rfl)) (fun _ _ _ _ _ _ us hl => match us, hl with | [_, _], _ => rfl)
  d_is_table := dx_of (c.t.d.def_ 7 (d := d_is_table) rfl) (He.glo_ok X G (c.t.d.fact 6 (f := .glo "is_table") rfl)) (fun _ _ _ _ _ _ us hl => match us, hl with | [_, _], _ => rfl)
  d_need_pair := dx_of (c.t.d.def_ 8 (d := d_need_pair) rfl) (He.glo_ok X G (c.t.d.fact 7 (f := .glo "need_pair") rfl)) (fun _ _ _ _ _ _ us hl => match us, hl with | [_, _], _ => rfl)
  d_check_family := dx_of (c.t.d.def_ 9 (d := d_check_family) rfl) (He.glo_ok X G (c.t.d.fact 8 (f := .glo "check_family") rfl)) (fun _ _ _ _ _ _ us hl => match us, hl with | [_, _], _ => rfl)
  d_joined_lot := dx_of (c.t.d.def_ 10 (d := d_joined_lot) rfl) (He.glo_ok X G (c.t.d.fact 9 (f := .glo "joined_lot") rfl)) (fun _ _ _ _ _ _ us hl => match us, hl with | [_, _], _ => rfl)
  d_has_full := dx_of (c.t.d.def_ 11 (d := d_has_full) rfl) (He.glo_ok X G (c.t.d.fact 10 (f := .glo "has_full") rfl)) (fun _ _ _ _ _ _ us hl => match us, hl with | [_, _], _ => rfl)
  d_pair_of := dx_of (c.t.d.def_ 12 (d := d_pair_of) rfl) (He.glo_ok X G (c.t.d.fact 11 (f := .glo "pair_of") rfl)) (fun _ _ _ _ _ _ us hl => match us, hl with | [_, _], _ => rfl)
  d_next_node := dx_of (c.t.d.def_ 13 (d := d_next_node) rfl) (He.glo_ok X G (c.t.d.fact 12 (f := .glo "next_node") rfl)) (fun _ _ _ _ _ _ us hl => match us, hl with | [_, _, _, _], _ => rfl)
  d_joined_classes := dx_of (c.t.d.def_ 14 (d := d_joined_classes) rfl) (He.glo_ok X G (c.t.d.fact 13 (f := .glo "joined_classes") rfl)) (fun _ _ _ _ _ _ us hl => match us, hl with | [_, _], _ => rfl)
  d_need_many := dx_of (c.t.d.def_ 15 (d := d_need_many) rfl) (He.glo_ok X G (c.t.d.fact 14 (f := .glo "need_many") rfl)) (fun _ _ _ _ _ _ us hl => match us, hl with | [_], _ => rfl)
  d_round_rows := dx_of (c.t.d.def_ 16 (d := d_round_rows) rfl) (He.glo_ok X G (c.t.d.fact 15 (f := .glo "round_rows") rfl)) (fun _ _ _ _ _ _ us hl => match us, hl with | [_, _, _, _, _], _ => rfl)
  d_pair_rows := dx_of (c.t.d.def_ 17 (d := d_pair_rows) rfl) (He.glo_ok X G (c.t.d.fact 16 (f := .glo "pair_rows") rfl)) (fun _ _ _ _ _ _ us hl => match us, hl with | [_, _, _, _], _ => rfl)
  d_pairs_of := dx_of (c.t.d.def_ 18 (d := d_pairs_of) rfl) (He.glo_ok X G (c.t.d.fact 17 (f := .glo "pairs_of") rfl)) (fun _ _ _ _ _ _ us hl => match us, hl with | [_], _ => rfl)
  d_pair_web := dx_of (c.t.d.def_ 19 (d := d_pair_web) rfl) (He.glo_ok X G (c.t.d.fact 18 (f := .glo "pair_web") rfl)) (fun _ _ _ _ _ _ us hl => match us, hl with | [_, _], _ => rfl)
  d_levels_of := dx_of (c.t.d.def_ 20 (d := d_levels_of) rfl) (He.glo_ok X G (c.t.d.fact 19 (f := .glo "levels_of") rfl)) (fun _ _ _ _ _ _ us hl => match us, hl with | [_], _ => rfl)
  d_ranks_of := dx_of (c.t.d.def_ 21 (d := d_ranks_of) rfl) (He.glo_ok X G (c.t.d.fact 20 (f := .glo "ranks_of") rfl)) (fun _ _ _ _ _ _ us hl => match us, hl with | [_], _ => rfl)
  d_groupings_of := dx_of (c.t.d.def_ 22 (d := d_groupings_of) rfl) (He.glo_ok X G (c.t.d.fact 21 (f := .glo "groupings_of") rfl)) (fun _ _ _ _ _ _ us hl => match us, hl with | [_, _], _ => rfl)
  d_tower_groupings := dx_of (c.t.d.def_ 23 (d := d_tower_groupings) rfl) (He.glo_ok X G (c.t.d.fact 22 (f := .glo "tower_groupings") rfl)) (fun _ _ _ _ _ _ us hl => match us, hl with | [_, _], _ => rfl)
  d_rounds_table := dx_of (c.t.d.def_ 24 (d := d_rounds_table) rfl) (He.glo_ok X G (c.t.d.fact 23 (f := .glo "rounds_table") rfl)) (fun _ _ _ _ _ _ us hl => match us, hl with | [_, _], _ => rfl)
  d_first_of := dx_of (c.t.d.def_ 25 (d := d_first_of) rfl) (He.glo_ok X G (c.t.d.fact 24 (f := .glo "first_of") rfl)) (fun _ _ _ _ _ _ us hl => match us, hl with | [_], _ => rfl)
  d_first_chains := dx_of (c.t.d.def_ 26 (d := d_first_chains) rfl) (He.glo_ok X G (c.t.d.fact 25 (f := .glo "first_chains") rfl)) (fun _ _ _ _ _ _ us hl => match us, hl with | [_, _], _ => rfl)
  d_apart_row := dx_of (c.t.d.def_ 27 (d := d_apart_row) rfl) (He.glo_ok X G (c.t.d.fact 26 (f := .glo "apart_row") rfl)) (fun _ _ _ _ _ _ us hl => match us, hl with | [_, _, _, _], _ => rfl)
  d_law_box := dx_of (c.t.d.def_ 28 (d := d_law_box) rfl) (He.glo_ok X G (c.t.d.fact 27 (f := .glo "_law_box") rfl)) (fun _ _ _ _ _ _ us hl => match us, hl with | [_, _], _ => rfl)
  d_law_take := dx_of (c.t.d.def_ 29 (d := d_law_take) rfl) (He.glo_ok X G (c.t.d.fact 28 (f := .glo "_law_take") rfl)) (fun _ _ _ _ _ _ us hl => match us, hl with | [_, _], _ => rfl)
  d_law_pick := dx_of (c.t.d.def_ 30 (d := d_law_pick) rfl) (He.glo_ok X G (c.t.d.fact 29 (f := .glo "_law_pick") rfl)) (fun _ _ _ _ _ _ us hl => match us, hl with | [_, _], _ => rfl)
  d_law_falling := dx_of (c.t.d.def_ 31 (d := d_law_falling) rfl) (He.glo_ok X G (c.t.d.fact 30 (f := .glo "_law_falling") rfl)) (fun _ _ _ _ _ _ us hl => match us, hl with | [_, _], _ => rfl)
  d_law_table := dx_of (c.t.d.def_ 32 (d := d_law_table) rfl) (He.glo_ok X G (c.t.d.fact 31 (f := .glo "_law_table") rfl)) (fun _ _ _ _ _ _ us hl => match us, hl with | [_, _], _ => rfl)
  d_law_named := dx_of (c.t.d.def_ 33 (d := d_law_named) rfl) (He.glo_ok X G (c.t.d.fact 32 (f := .glo "_law_named") rfl)) (fun _ _ _ _ _ _ us hl => match us, hl with | [_, _, _], _ => rfl)
  d_law_tables := dx_of (c.t.d.def_ 34 (d := d_law_tables) rfl) (He.glo_ok X G (c.t.d.fact 33 (f := .glo "_law_tables") rfl)) (fun _ _ _ _ _ _ us hl => match us, hl with | [_, _, _], _ => rfl)
  d_law_lots := dx_of (c.t.d.def_ 35 (d := d_law_lots) rfl) (He.glo_ok X G (c.t.d.fact 34 (f := .glo "_law_lots") rfl)) (fun _ _ _ _ _ _ us hl => match us, hl with | [_], _ => rfl)
  d_law_family := dx_of (c.t.d.def_ 36 (d := d_law_family) rfl) (He.glo_ok X G (c.t.d.fact 35 (f := .glo "_law_family") rfl)) (fun _ _ _ _ _ _ us hl => match us, hl with | [_, _], _ => rfl)
  d_law_full := dx_of (c.t.d.def_ 37 (d := d_law_full) rfl) (He.glo_ok X G (c.t.d.fact 36 (f := .glo "_law_full") rfl)) (fun _ _ _ _ _ _ us hl => match us, hl with | [_, _], _ => rfl)
  d_law_more := dx_of (c.t.d.def_ 38 (d := d_law_more) rfl) (He.glo_ok X G (c.t.d.fact 37 (f := .glo "_law_more") rfl)) (fun _ _ _ _ _ _ us hl => match us, hl with | [_, _], _ => rfl)
  d_law_next := dx_of (c.t.d.def_ 39 (d := d_law_next) rfl) (He.glo_ok X G (c.t.d.fact 38 (f := .glo "_law_next") rfl)) (fun _ _ _ _ _ _ us hl => match us, hl with | [_, _, _], _ => rfl)
  d_law_cuts := dx_of (c.t.d.def_ 40 (d := d_law_cuts) rfl) (He.glo_ok X G (c.t.d.fact 39 (f := .glo "_law_cuts") rfl)) (fun _ _ _ _ _ _ us hl => match us, hl with | [_, _], _ => rfl)
  d_law_behind := dx_of (c.t.d.def_ 41 (d := d_law_behind) rfl) (He.glo_ok X G (c.t.d.fact 40 (f := .glo "_law_behind") rfl)) (fun _ _ _ _ _ _ us hl => match us, hl with | [_, _, _], _ => rfl)
  d_law_pairs := dx_of (c.t.d.def_ 42 (d := d_law_pairs) rfl) (He.glo_ok X G (c.t.d.fact 41 (f := .glo "_law_pairs") rfl)) (fun _ _ _ _ _ _ us hl => match us, hl with | [_], _ => rfl)
  d_law_within := dx_of (c.t.d.def_ 43 (d := d_law_within) rfl) (He.glo_ok X G (c.t.d.fact 42 (f := .glo "_law_within") rfl)) (fun _ _ _ _ _ _ us hl => match us, hl with | [_, _], _ => rfl)
  d_law_shown := dx_of (c.t.d.def_ 44 (d := d_law_shown) rfl) (He.glo_ok X G (c.t.d.fact 43 (f := .glo "_law_shown") rfl)) (fun _ _ _ _ _ _ us hl => match us, hl with | [_, _, _, _, _, _], _ => rfl)
  d_law := dx_of (c.t.d.def_ 45 (d := d_law) rfl) (He.glo_ok X G (c.t.d.fact 44 (f := .glo "law") rfl)) (fun _ _ _ _ _ _ us hl => match us, hl with | [_], _ => rfl)
  f_abs := He.free_ok X G (c.t.d.fact 45 (f := .free "abs") rfl)
  f_all := He.free_ok X G (c.t.d.fact 46 (f := .free "all") rfl)
  f_any := He.free_ok X G (c.t.d.fact 47 (f := .free "any") rfl)
  f_bool := He.free_ok X G (c.t.d.fact 48 (f := .free "bool") rfl)
  f_enumerate := He.free_ok X G (c.t.d.fact 49 (f := .free "enumerate") rfl)
  f_int := He.free_ok X G (c.t.d.fact 50 (f := .free "int") rfl)
  f_isinstance := He.free_ok X G (c.t.d.fact 51 (f := .free "isinstance") rfl)
  f_len := He.free_ok X G (c.t.d.fact 52 (f := .free "len") rfl)
  f_list := He.free_ok X G (c.t.d.fact 53 (f := .free "list") rfl)
  f_max := He.free_ok X G (c.t.d.fact 54 (f := .free "max") rfl)
  f_min := He.free_ok X G (c.t.d.fact 55 (f := .free "min") rfl)
  f_range := He.free_ok X G (c.t.d.fact 56 (f := .free "range") rfl)
  f_repr := He.free_ok X G (c.t.d.fact 57 (f := .free "repr") rfl)
  f_set := He.free_ok X G (c.t.d.fact 58 (f := .free "set") rfl)
  f_sorted := He.free_ok X G (c.t.d.fact 59 (f := .free "sorted") rfl)
  f_str := He.free_ok X G (c.t.d.fact 60 (f := .free "str") rfl)
  f_tuple := He.free_ok X G (c.t.d.fact 61 (f := .free "tuple") rfl)
  g_SIGNALS := He.str_ok X G (c.t.d.fact 62 (f := .str "SIGNALS" "abcde") rfl)
  g_MOST_STATES := He.int_ok X G (c.t.d.fact 63 (f := .int "MOST_STATES" 60) rfl)
  g_MOST_LOTS := He.int_ok X G (c.t.d.fact 64 (f := .int "MOST_LOTS" 31) rfl)
  g_MOST_ROUNDS := He.int_ok X G (c.t.d.fact 65 (f := .int "MOST_ROUNDS" 60) rfl)
  mgC := He.glo_ok X G (c.t.d.fact 66 (f := .glo "Device") rfl)
  cl := He.cls_ok (c.t.d.fact 67 (f := .cls "Device") rfl)
  nStates := He.noat_ok (c.t.d.fact 69 (f := .noat "Device" "states") rfl)
  nSignals := He.noat_ok (c.t.d.fact 70 (f := .noat "Device" "signals") rfl)
  nTables := He.noat_ok (c.t.d.fact 71 (f := .noat "Device" "tables") rfl)
  made := by
    obtain ⟨fd, F⟩ := c.t.d.def_ 6 (d := d_dev_init) rfl
    exact ⟨_, fd, F, He.mkr_ok (c.t.d.fact 68 (f := .mkr "Device") rfl), fun s us _ hl => by
      rw [List.append_nil] at hl ⊢
      exact FunD.bindsA (ps := ["self", "tables"]) F (fun _ _ _ _ _ _ us hl => match us, hl with | [_, _], _ => rfl) s us hl⟩
/-- the tables of the two defs that make lambdas -/
def twoT (K : PySem.W.Frag) : List (Addr × Str) := [((He.cT K ("pair_rows", none)).2, "pair_rows.<locals>.<lambda>"), ((He.cT K ("first_of", none)).2, "first_of.<locals>.<lambda>")]
theorem lx_of (X : K.In h) (G : h.Ns mainGlobals mg) (c : He.SaysX fa fn [] tf exB w h K) (tb : ∀ p ∈ tf, LamX.TabB base mg (He.cT K p).1 (He.cT K p).2) : Lx K mg base (twoT K) := by
  have ne : ¬ (He.cT K ("pair_rows", none)).2 = (He.cT K ("first_of", none)).2 := by
    have h1 := c.more
    unfold exB at h1
    simpa using h1
  refine ⟨lmx_of (c.t.d.def_ 17 (d := d_pair_rows) rfl) (He.glo_ok X G (c.t.d.fact 16 (f := .glo "pair_rows") rfl)) (fun _ _ _ _ _ _ us hl => match us, hl with | [_, _, _, _], _ => rfl) (tb ("pair_rows", none) (by simp [tf])) (by simp [twoT]) fun p hp e => ?_, lmx_of (c.t.d.def_ 25 (d := d_first_of) rfl) (He.glo_ok X G (c.t.d.fact 24 (f := .glo "first_of") rfl)) (fun _ _ _ _ _ _ us hl => match us, hl with | [_], _ => rfl) (tb ("first_of", none) (by simp [tf])) (by simp [twoT]) fun p hp e => ?_⟩
  · rcases List.mem_cons.mp hp with z | z
    · rw [z]
    · rw [List.mem_singleton.mp z] at e
      exact absurd e.symm ne
  · rcases List.mem_cons.mp hp with z | z
    · rw [z] at e
      exact absurd e ne
    · rw [List.mem_singleton.mp z]
theorem law_of (X : K.In h) (G : h.Ns mainGlobals mg) (c : He.SaysX fa fn [] tf exB w h K) {f : Addr} (hf : mg "law" = some (.ref f)) : ∃ fd, FunD K "law" "law" (defArgs s_law) (defBody s_law) (defScope s_law) [] [] f fd ∧ ∀ (s : Shared) (u : Value), BindsTo s fd ⟨[u], []⟩ [("_law_script", u)] := by
  obtain ⟨fd, F⟩ := c.t.d.def_ 45 (d := d_law) rfl
  have e := hf.symm.trans (He.glo_ok X G (c.t.d.fact 44 (f := .glo "law") rfl))
  cases e
  exact ⟨fd, F, fun s u => FunD.bindsA (ps := ["_law_script"]) F (fun _ _ _ _ _ _ us hl => match us, hl with | [_], _ => rfl) s [u] rfl⟩
end

end K29
set_option autoImplicit false
set_option maxHeartbeats 0
open PySem PySem.W PySem.Calls PyProof.Rows
theorem PySem.Challenge.cw_backinstep_k29_whole_no_row_keeps_longer_holds : PySem.Challenge.rw_backinstep_k29_whole_no_row_keeps_longer.Holds := by
  w_on; o_law
  refine HandSHeadRun.head_any (r := K29.Hd0.Rw) (q := view K29.Hd0.Rw.prog [68]) (H := K29.Hd0.hk) (ob := K29.Hd0.ob) (M := 8000) (loose := K29.Hd0.loose) (d := HandSHeadRun.topDef K29.Hd0.Rw.prog 68) (kwd := []) K29.Hd0.ob_eq
    (by kernel_rfl) (fun s => by kernel_rfl) K29.Hd0.headRun (by kernel_rfl) (by kernel_rfl) (by kernel_rfl) (by rfl) (by first | assumption | decide +kernel) (by decide +kernel) ⟨rfl, rfl, rfl, rfl, rfl, by decide +kernel⟩ ?hw ?hc
  case hw => w_witness2
  case hc =>
    refine Att.attach_callB (l := PySem.Challenge.rw_backinstep_k29_whole_no_row_keeps_longer) (n := 63) rfl (by kernel_rfl) fun w s₀ s₁ mg mb fa o pm cd doc a vs ns G Y ho hd hcd hmg0 hobj hints hlen hbits hg => ?_
    obtain ⟨K, KX, c⟩ := Y
    have hmg : mg ("law" : PySem.Str) = some (.ref fa) := by
      have e : (HandSHeadRun.topDef K29.Hd0.Rw.prog 68).name = ("law" : PySem.Str) := by kernel_rfl
      rw [← e]
      exact hmg0
    obtain ⟨fd, F, bind⟩ := K29.law_of KX G.T.g c hmg
    refine K29.law_end (cs := K29.Hd0.tf.map (He.cT K)) KX G.T.g G.T.b G.T.builtins G.T.nolimit hg (fun p hp => ?_) (fun p hp => ?_) (fun p hp => ?_) G.T.bmain hobj hints (Nat.le_trans hlen (by decide)) fun base H kb nb tb e0 hT hS => ?_
    · obtain ⟨q, hq, rfl⟩ := List.mem_map.mp hp
      exact c.empty q hq
    · obtain ⟨q, hq, rfl⟩ := List.mem_map.mp hp
      exact c.out q hq
    · obtain ⟨q, hq, rfl⟩ := List.mem_map.mp hp
      exact codeHd_of_K KX (c.hd q hq)
    · refine K29.law_runs F bind (K29.tx_of KX G.T.g c) (K29.lx_of KX G.T.g c fun p hp => tb _ (List.mem_map.mpr ⟨p, hp, rfl⟩)) e0 (fun p hp => ?_) hS hlen
      rcases List.mem_cons.mp hp with z | z
      · rw [z]
        exact LamX.TabS.nil (hT _ (List.mem_map.mpr ⟨_, List.mem_cons_self .., rfl⟩))
      · rw [List.mem_singleton.mp z]
        exact LamX.TabS.nil (hT _ (List.mem_map.mpr ⟨_, List.mem_cons_of_mem _ (List.mem_singleton.mpr rfl), rfl⟩))

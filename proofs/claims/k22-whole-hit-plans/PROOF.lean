import PyProof.Rows.All
import Wide.All
import OpenK.AllK
import Wide.FinOn
import HandS.ForMost
import HandS.Exc
import HandS.ExcInit
import HandS.ExcOwn
import HandS.WordsExc
import HandS.Defaults
import HandS.Property
import HandS.IsInst
import HandS.NoneIn
import HandS.DictComp
import HandS.Gcd
import HandS.Wide
import HandS.More
import HandS.TupLe
import HandS.TupAny
import HandS.Style
import HandS.Codes
import KE.KMathGC
import HandS.Walk
import HandS.Rev
import KE.KExcIs
import HandS.ExcField
import HandS.TryMany
import KE.SortData
import KE.KAssignIn
import KE.GoesMore
import PyProof.StrOps2
import PyProof.FitsInt
import PyProof.StrLawsRepr
import PyProof.ReprRoads
import HandS.HeadEnd
import HandS.CallSlots
import KE.KTryMore
import KE.KIsAll
import HandS.Head0
import HandS.Head1
import HandS.Head2
import HandS.Head3
import HandS.HeadHook1
import HandS.HeadHook2
import HandS.HeadHook3
import PySem.Challenge.RW_lastside_k22_whole_hit_plans
set_option Elab.async false
set_option linter.all false
set_option maxRecDepth 100000
set_option maxHeartbeats 4000000
/-! The text by places, the slots of each def, the facts that the top leaves, the calls. -/
namespace K22
open PySem PySem.Spec PyProof.Rows L2
def top (i : Nat) : Stmt := PySem.Challenge.pw_lastside_k22_whole_hit_plans.main.body.getD i (.Pass ⟨0, 0, 0, 0⟩)

abbrev s_is_integer : Stmt := top 11
abbrev n_is_integer : List Str := ["value"]
theorem sc_is_integer : FnScope n_is_integer ["value"] (defScope s_is_integer) := ⟨rfl, rfl, rfl, by decide +kernel, rfl, by decide +kernel, by decide +kernel⟩
abbrev s_is_made_of : Stmt := top 13
abbrev n_is_made_of : List Str := ["value", "signs", "sign"]
theorem sc_is_made_of : FnScope n_is_made_of ["value", "signs"] (defScope s_is_made_of) := ⟨rfl, rfl, rfl, by decide +kernel, rfl, by decide +kernel, by decide +kernel⟩
abbrev s_checked_flags : Stmt := top 14
abbrev n_checked_flags : List Str := ["tree", "flags"]
theorem sc_checked_flags : FnScope n_checked_flags ["tree", "flags"] (defScope s_checked_flags) := ⟨rfl, rfl, rfl, by decide +kernel, rfl, by decide +kernel, by decide +kernel⟩
abbrev s_checked_pattern : Stmt := top 15
abbrev n_checked_pattern : List Str := ["tree", "pattern"]
theorem sc_checked_pattern : FnScope n_checked_pattern ["tree", "pattern"] (defScope s_checked_pattern) := ⟨rfl, rfl, rfl, by decide +kernel, rfl, by decide +kernel, by decide +kernel⟩
abbrev s_checked_number : Stmt := top 18
abbrev n_checked_number : List Str := ["number", "least", "most"]
theorem sc_checked_number : FnScope n_checked_number ["number", "least", "most"] (defScope s_checked_number) := ⟨rfl, rfl, rfl, by decide +kernel, rfl, by decide +kernel, by decide +kernel⟩
abbrev s_branch_sizes : Stmt := top 20
abbrev n_branch_sizes : List Str := ["parents", "sizes", "slot", "above"]
theorem sc_branch_sizes : FnScope n_branch_sizes ["parents"] (defScope s_branch_sizes) := ⟨rfl, rfl, rfl, by decide +kernel, rfl, by decide +kernel, by decide +kernel⟩
abbrev s_sizes_without : Stmt := top 21
abbrev n_sizes_without : List Str := ["parents", "sizes", "slot", "rest", "known", "above"]
theorem sc_sizes_without : FnScope n_sizes_without ["parents", "sizes", "slot"] (defScope s_sizes_without) := ⟨rfl, rfl, rfl, by decide +kernel, rfl, by decide +kernel, by decide +kernel⟩
abbrev s_order_count : Stmt := top 22
abbrev n_order_count : List Str := ["parents", "divisor", "size"]
theorem sc_order_count : FnScope n_order_count ["parents"] (defScope s_order_count) := ⟨rfl, rfl, rfl, by decide +kernel, rfl, by decide +kernel, by decide +kernel⟩
abbrev s_count_begun : Stmt := top 23
abbrev n_count_begun : List Str := ["parents", "sizes", "count", "slot", "upper", "lower", "above"]
theorem sc_count_begun : FnScope n_count_begun ["parents", "sizes", "count", "slot"] (defScope s_count_begun) := ⟨rfl, rfl, rfl, by decide +kernel, rfl, by decide +kernel, by decide +kernel⟩
abbrev s_begun_at : Stmt := top 24
abbrev n_begun_at : List Str := ["parents", "sizes", "count", "rank", "open_slots", "place", "begun", "slot"]
theorem sc_begun_at : FnScope n_begun_at ["parents", "sizes", "count", "rank"] (defScope s_begun_at) := ⟨rfl, rfl, rfl, by decide +kernel, rfl, by decide +kernel, by decide +kernel⟩
abbrev s_order_at : Stmt := top 25
abbrev n_order_at : List Str := ["parents", "rank", "count", "sizes", "order", "slot"]
theorem sc_order_at : FnScope n_order_at ["parents", "rank"] (defScope s_order_at) := ⟨rfl, rfl, rfl, by decide +kernel, rfl, by decide +kernel, by decide +kernel⟩
abbrev s_is_order : Stmt := top 26
abbrev n_is_order : List Str := ["parents", "order", "seen", "slot"]
theorem sc_is_order : FnScope n_is_order ["parents", "order"] (defScope s_is_order) := ⟨rfl, rfl, rfl, by decide +kernel, rfl, by decide +kernel, by decide +kernel⟩
abbrev s_order_rank : Stmt := top 27
abbrev n_order_rank : List Str := ["parents", "order", "sizes", "count", "rank", "slot", "smaller"]
theorem sc_order_rank : FnScope n_order_rank ["parents", "order"] (defScope s_order_rank) := ⟨rfl, rfl, rfl, by decide +kernel, rfl, by decide +kernel, by decide +kernel⟩
abbrev s_trail_rows : Stmt := top 29
abbrev n_trail_rows : List Str := ["tree", "flags", "rows", "slot", "way", "begin", "forks", "hang", "step"]
theorem sc_trail_rows : FnScope n_trail_rows ["tree", "flags"] (defScope s_trail_rows) := ⟨rfl, rfl, rfl, by decide +kernel, rfl, by decide +kernel, by decide +kernel⟩
abbrev s_trail_parents : Stmt := top 30
abbrev n_trail_parents : List Str := ["tree", "flags", "rows", "owners", "slot", "forks", "_", "fork", "parents", "hang"]
theorem sc_trail_parents : FnScope n_trail_parents ["tree", "flags"] (defScope s_trail_parents) := ⟨rfl, rfl, rfl, by decide +kernel, rfl, by decide +kernel, by decide +kernel⟩
abbrev s_forks_below : Stmt := top 31
abbrev n_forks_below : List Str := ["tree", "flags", "hang", "first", "last"]
theorem sc_forks_below : FnScope n_forks_below ["tree", "flags", "hang"] (defScope s_forks_below) := ⟨rfl, rfl, rfl, by decide +kernel, rfl, by decide +kernel, by decide +kernel⟩
abbrev s_needed_slots : Stmt := top 32
abbrev n_needed_slots : List Str := ["tree", "start", "end", "found", "slot", "_", "hang", "low", "high"]
theorem sc_needed_slots : FnScope n_needed_slots ["tree", "start", "end"] (defScope s_needed_slots) := ⟨rfl, rfl, rfl, by decide +kernel, rfl, by decide +kernel, by decide +kernel⟩
abbrev s_needed_parents : Stmt := top 34
abbrev n_needed_parents : List Str := ["tree", "start", "end", "parents", "slot"]
theorem sc_needed_parents : FnScope n_needed_parents ["tree", "start", "end"] (defScope s_needed_parents) := ⟨rfl, rfl, rfl, by decide +kernel, rfl, by decide +kernel, by decide +kernel⟩
abbrev s_hit_plan_count : Stmt := top 35
abbrev n_hit_plan_count : List Str := ["tree", "start", "end"]
theorem sc_hit_plan_count : FnScope n_hit_plan_count ["tree", "start", "end"] (defScope s_hit_plan_count) := ⟨rfl, rfl, rfl, by decide +kernel, rfl, by decide +kernel, by decide +kernel⟩
abbrev s_hit_plan_at : Stmt := top 36
abbrev n_hit_plan_at : List Str := ["tree", "start", "end", "rank", "parents"]
theorem sc_hit_plan_at : FnScope n_hit_plan_at ["tree", "start", "end", "rank"] (defScope s_hit_plan_at) := ⟨rfl, rfl, rfl, by decide +kernel, rfl, by decide +kernel, by decide +kernel⟩
abbrev s_hit_plan_rank : Stmt := top 37
abbrev n_hit_plan_rank : List Str := ["tree", "start", "end", "slots", "rank"]
theorem sc_hit_plan_rank : FnScope n_hit_plan_rank ["tree", "start", "end", "slots"] (defScope s_hit_plan_rank) := ⟨rfl, rfl, rfl, by decide +kernel, rfl, by decide +kernel, by decide +kernel⟩
abbrev s_is_hit_plan : Stmt := top 38
abbrev n_is_hit_plan : List Str := ["tree", "start", "end", "slots"]
theorem sc_is_hit_plan : FnScope n_is_hit_plan ["tree", "start", "end", "slots"] (defScope s_is_hit_plan) := ⟨rfl, rfl, rfl, by decide +kernel, rfl, by decide +kernel, by decide +kernel⟩
abbrev s_ends_fork : Stmt := top 40
abbrev n_ends_fork : List Str := ["stack", "node"]
theorem sc_ends_fork : FnScope n_ends_fork ["stack"] (defScope s_ends_fork) := ⟨rfl, rfl, rfl, by decide +kernel, rfl, by decide +kernel, by decide +kernel⟩
abbrev s_read_forks : Stmt := top 41
abbrev n_read_forks : List Str := ["text", "stack", "rows", "slots", "place", "sign", "right", "left", "first", "fork", "last", "start"]
theorem sc_read_forks : FnScope n_read_forks ["text"] (defScope s_read_forks) := ⟨rfl, rfl, rfl, by decide +kernel, rfl, by decide +kernel, by decide +kernel⟩
abbrev s_lay_ways : Stmt := top 42
abbrev n_lay_ways : List Str := ["root", "lefts", "rights", "preorder", "ways", "stack", "word", "number", "way"]
theorem sc_lay_ways : FnScope n_lay_ways ["root", "lefts", "rights"] (defScope s_lay_ways) := ⟨rfl, rfl, rfl, by decide +kernel, rfl, by decide +kernel, by decide +kernel⟩
abbrev s__law_is_integer : Stmt := top 45
abbrev n__law_is_integer : List Str := ["_law_told"]
theorem sc__law_is_integer : FnScope n__law_is_integer ["_law_told"] (defScope s__law_is_integer) := ⟨rfl, rfl, rfl, by decide +kernel, rfl, by decide +kernel, by decide +kernel⟩
abbrev s__law_truth : Stmt := top 46
abbrev n__law_truth : List Str := ["_law_told", "_law_due_here"]
theorem sc__law_truth : FnScope n__law_truth ["_law_told", "_law_due_here"] (defScope s__law_truth) := ⟨rfl, rfl, rfl, by decide +kernel, rfl, by decide +kernel, by decide +kernel⟩
abbrev s__law_same : Stmt := top 47
abbrev n__law_same : List Str := ["_law_told", "_law_due_here", "_law_k"]
theorem sc__law_same : FnScope n__law_same ["_law_told", "_law_due_here"] (defScope s__law_same) := ⟨rfl, rfl, rfl, by decide +kernel, rfl, by decide +kernel, by decide +kernel⟩
abbrev s__law_box : Stmt := top 48
abbrev n__law_box : List Str := ["_law_script", "_law_cells", "_law_mixes", "_law_cell"]
theorem sc__law_box : FnScope n__law_box ["_law_script"] (defScope s__law_box) := ⟨rfl, rfl, rfl, by decide +kernel, rfl, by decide +kernel, by decide +kernel⟩
abbrev s__law_take : Stmt := top 49
abbrev n__law_take : List Str := ["_law_box_here", "_law_size", "_law_greats", "_law_digits", "_law_step", "_law_mixes", "_law_cell", "_law_first", "_law_second", "_law_third"]
theorem sc__law_take : FnScope n__law_take ["_law_box_here", "_law_size"] (defScope s__law_take) := ⟨rfl, rfl, rfl, by decide +kernel, rfl, by decide +kernel, by decide +kernel⟩
abbrev s__law_join : Stmt := top 50
abbrev n__law_join : List Str := ["_law_box_here", "_law_lean", "_law_room", "_law_power", "_law_k"]
theorem sc__law_join : FnScope n__law_join ["_law_box_here", "_law_lean", "_law_room"] (defScope s__law_join) := ⟨rfl, rfl, rfl, by decide +kernel, rfl, by decide +kernel, by decide +kernel⟩
abbrev s__law_tree : Stmt := top 51
abbrev n__law_tree : List Str := ["_law_box_here", "_law_slots_here", "_law_lean", "_law_k", "_law_pieces", "_law_ways", "_law_step", "_law_at_here", "_law_left", "_law_right"]
theorem sc__law_tree : FnScope n__law_tree ["_law_box_here", "_law_slots_here"] (defScope s__law_tree) := ⟨rfl, rfl, rfl, by decide +kernel, rfl, by decide +kernel, by decide +kernel⟩
abbrev s__law_flags : Stmt := top 52
abbrev n__law_flags : List Str := ["_law_box_here", "_law_many", "_law_style", "_law_k"]
theorem sc__law_flags : FnScope n__law_flags ["_law_box_here", "_law_many"] (defScope s__law_flags) := ⟨rfl, rfl, rfl, by decide +kernel, rfl, by decide +kernel, by decide +kernel⟩
abbrev s__law_slots : Stmt := top 53
abbrev n__law_slots : List Str := ["_law_box_here", "_law_kind"]
theorem sc__law_slots : FnScope n__law_slots ["_law_box_here"] (defScope s__law_slots) := ⟨rfl, rfl, rfl, by decide +kernel, rfl, by decide +kernel, by decide +kernel⟩
abbrev s__law_start : Stmt := top 54
abbrev n__law_start : List Str := ["_law_box_here", "_law_end", "_law_odd", "_law_style", "_law_at_here", "_law_start_here", "_law_k", "_law_other", "_law_pick"]
theorem sc__law_start : FnScope n__law_start ["_law_box_here", "_law_end", "_law_odd"] (defScope s__law_start) := ⟨rfl, rfl, rfl, by decide +kernel, rfl, by decide +kernel, by decide +kernel⟩
abbrev s__law_bent : Stmt := top 55
abbrev n__law_bent : List Str := ["_law_box_here", "_law_flags_here", "_law_odd", "_law_way", "_law_at_here", "_law_sign"]
theorem sc__law_bent : FnScope n__law_bent ["_law_box_here", "_law_flags_here", "_law_odd"] (defScope s__law_bent) := ⟨rfl, rfl, rfl, by decide +kernel, rfl, by decide +kernel, by decide +kernel⟩
abbrev s__law_hit : Stmt := top 56
abbrev n__law_hit : List Str := ["_law_flags_here", "_law_way", "_law_fork", "_law_side"]
theorem sc__law_hit : FnScope n__law_hit ["_law_flags_here", "_law_way"] (defScope s__law_hit) := ⟨rfl, rfl, rfl, by decide +kernel, rfl, by decide +kernel, by decide +kernel⟩
abbrev s__law_holders : Stmt := top 57
abbrev n__law_holders : List Str := ["_law_flags_here", "_law_ways", "_law_found", "_law_slot", "_law_fork", "_law_side", "_law_way"]
theorem sc__law_holders : FnScope n__law_holders ["_law_flags_here", "_law_ways"] (defScope s__law_holders) := ⟨rfl, rfl, rfl, by decide +kernel, rfl, by decide +kernel, by decide +kernel⟩
abbrev s__law_above : Stmt := top 58
abbrev n__law_above : List Str := ["_law_flags_here", "_law_ways", "_law_holders_here", "_law_found", "_law_way", "_law_above_here", "_law_fork", "_law_side"]
theorem sc__law_above : FnScope n__law_above ["_law_flags_here", "_law_ways"] (defScope s__law_above) := ⟨rfl, rfl, rfl, by decide +kernel, rfl, by decide +kernel, by decide +kernel⟩
abbrev s__law_due : Stmt := top 59
abbrev n__law_due : List Str := ["_law_start_here", "_law_end", "_law_ways", "_law_holders_here", "_law_above_here", "_law_marked", "_law_fork", "_law_slot", "_law_k", "_law_way"]
theorem sc__law_due : FnScope n__law_due ["_law_start_here", "_law_end", "_law_ways"] (defScope s__law_due) := ⟨rfl, rfl, rfl, by decide +kernel, rfl, by decide +kernel, by decide +kernel⟩
abbrev s__law_sizes : Stmt := top 60
abbrev n__law_sizes : List Str := ["_law_hung_here", "_law_sizes_here", "_law_slot", "_law_above_here", "_law_k"]
theorem sc__law_sizes : FnScope n__law_sizes ["_law_hung_here"] (defScope s__law_sizes) := ⟨rfl, rfl, rfl, by decide +kernel, rfl, by decide +kernel, by decide +kernel⟩
abbrev s__law_count : Stmt := top 61
abbrev n__law_count : List Str := ["_law_hung_here", "_law_sizes_here", "_law_upper", "_law_lower", "_law_many", "_law_slot"]
theorem sc__law_count : FnScope n__law_count ["_law_hung_here"] (defScope s__law_count) := ⟨rfl, rfl, rfl, by decide +kernel, rfl, by decide +kernel, by decide +kernel⟩
abbrev s__law_share : Stmt := top 62
abbrev n__law_share : List Str := ["_law_total", "_law_many", "_law_slot", "_law_hung_here", "_law_sizes_here", "_law_upper", "_law_lower", "_law_above_here", "_law_k"]
theorem sc__law_share : FnScope n__law_share ["_law_total", "_law_many", "_law_slot", "_law_hung_here", "_law_sizes_here"] (defScope s__law_share) := ⟨rfl, rfl, rfl, by decide +kernel, rfl, by decide +kernel, by decide +kernel⟩
abbrev s__law_rank : Stmt := top 63
abbrev n__law_rank : List Str := ["_law_row", "_law_hung_here", "_law_sizes_here", "_law_total", "_law_placed", "_law_rank_here", "_law_at_here", "_law_slot", "_law_other", "_law_above_here", "_law_k"]
theorem sc__law_rank : FnScope n__law_rank ["_law_row", "_law_hung_here"] (defScope s__law_rank) := ⟨rfl, rfl, rfl, by decide +kernel, rfl, by decide +kernel, by decide +kernel⟩
abbrev s__law_judged : Stmt := top 64
abbrev n__law_judged : List Str := ["_law_row", "_law_hung_here", "_law_placed", "_law_slot", "_law_other"]
theorem sc__law_judged : FnScope n__law_judged ["_law_row", "_law_hung_here"] (defScope s__law_judged) := ⟨rfl, rfl, rfl, by decide +kernel, rfl, by decide +kernel, by decide +kernel⟩
abbrev s__law_wide : Stmt := top 65
abbrev n__law_wide : List Str := ["_law_box_here", "_law_size", "_law_number", "_law_k"]
theorem sc__law_wide : FnScope n__law_wide ["_law_box_here", "_law_size"] (defScope s__law_wide) := ⟨rfl, rfl, rfl, by decide +kernel, rfl, by decide +kernel, by decide +kernel⟩
abbrev s__law_bent_rank : Stmt := top 66
abbrev n__law_bent_rank : List Str := ["_law_box_here", "_law_count_here", "_law_way"]
theorem sc__law_bent_rank : FnScope n__law_bent_rank ["_law_box_here", "_law_count_here"] (defScope s__law_bent_rank) := ⟨rfl, rfl, rfl, by decide +kernel, rfl, by decide +kernel, by decide +kernel⟩
abbrev s__law_rows : Stmt := top 67
abbrev n__law_rows : List Str := ["_law_start_here", "_law_end", "_law_ways", "_law_many", "_law_rows_here", "_law_k", "_law_later", "_law_row", "_law_state", "_law_slot"]
theorem sc__law_rows : FnScope n__law_rows ["_law_start_here", "_law_end", "_law_ways", "_law_many"] (defScope s__law_rows) := ⟨rfl, rfl, rfl, by decide +kernel, rfl, by decide +kernel, by decide +kernel⟩
abbrev s__law_bend : Stmt := top 68
abbrev n__law_bend : List Str := ["_law_box_here", "_law_row", "_law_slots_here", "_law_way", "_law_at_here", "_law_by", "_law_slot", "_law_bent_here", "_law_one"]
theorem sc__law_bend : FnScope n__law_bend ["_law_box_here", "_law_row", "_law_slots_here", "_law_way"] (defScope s__law_bend) := ⟨rfl, rfl, rfl, by decide +kernel, rfl, by decide +kernel, by decide +kernel⟩
abbrev s__law_fault : Stmt := top 69
abbrev n__law_fault : List Str := ["_law_door", "_law_tree_here", "_law_start_here", "_law_end", "_law_third", "e"]
theorem sc__law_fault : FnScope n__law_fault ["_law_door", "_law_tree_here", "_law_start_here", "_law_end", "_law_third"] (defScope s__law_fault) := ⟨rfl, rfl, rfl, by decide +kernel, rfl, by decide +kernel, by decide +kernel⟩
abbrev s__law_read : Stmt := top 70
abbrev n__law_read : List Str := ["_law_tree_here", "_law_start_here", "_law_end", "_law_row", "_law_rank_here", "_law_kept", "_law_back"]
theorem sc__law_read : FnScope n__law_read ["_law_tree_here", "_law_start_here", "_law_end", "_law_row", "_law_rank_here"] (defScope s__law_read) := ⟨rfl, rfl, rfl, by decide +kernel, rfl, by decide +kernel, by decide +kernel⟩
abbrev s__law_at : Stmt := top 71
abbrev n__law_at : List Str := ["_law_tree_here", "_law_start_here", "_law_end", "_law_ways", "_law_hung_here", "_law_rank_here", "_law_told", "_law_row", "_law_state", "_law_slot"]
theorem sc__law_at : FnScope n__law_at ["_law_tree_here", "_law_start_here", "_law_end", "_law_ways", "_law_hung_here", "_law_rank_here"] (defScope s__law_at) := ⟨rfl, rfl, rfl, by decide +kernel, rfl, by decide +kernel, by decide +kernel⟩
abbrev s__law_listed : Stmt := top 72
abbrev n__law_listed : List Str := ["_law_tree_here", "_law_start_here", "_law_end", "_law_ways", "_law_hung_here", "_law_rows_here", "_law_rank_here"]
theorem sc__law_listed : FnScope n__law_listed ["_law_tree_here", "_law_start_here", "_law_end", "_law_ways", "_law_hung_here"] (defScope s__law_listed) := ⟨rfl, rfl, rfl, by decide +kernel, rfl, by decide +kernel, by decide +kernel⟩
abbrev s__law_hung : Stmt := top 73
abbrev n__law_hung : List Str := ["_law_start_here", "_law_end", "_law_ways", "_law_above_here", "_law_hung_here", "_law_slot"]
theorem sc__law_hung : FnScope n__law_hung ["_law_start_here", "_law_end", "_law_ways"] (defScope s__law_hung) := ⟨rfl, rfl, rfl, by decide +kernel, rfl, by decide +kernel, by decide +kernel⟩
abbrev s__law_counts : Stmt := top 74
abbrev n__law_counts : List Str := ["_law_tree_here", "_law_start_here", "_law_end", "_law_ways", "_law_row", "_law_hung_here", "_law_count_here", "_law_told"]
theorem sc__law_counts : FnScope n__law_counts ["_law_tree_here", "_law_start_here", "_law_end", "_law_ways"] (defScope s__law_counts) := ⟨rfl, rfl, rfl, by decide +kernel, rfl, by decide +kernel, by decide +kernel⟩
abbrev s__law_bends : Stmt := top 75
abbrev n__law_bends : List Str := ["_law_box_here", "_law_tree_here", "_law_start_here", "_law_end", "_law_hung_here", "_law_slots_here", "_law_row", "_law_many", "_law_way", "_law_bends_here", "_law_k", "_law_bent_here", "_law_shown", "_law_right", "_law_place"]
theorem sc__law_bends : FnScope n__law_bends ["_law_box_here", "_law_tree_here", "_law_start_here", "_law_end", "_law_hung_here", "_law_slots_here"] (defScope s__law_bends) := ⟨rfl, rfl, rfl, by decide +kernel, rfl, by decide +kernel, by decide +kernel⟩
abbrev s__law_refusals : Stmt := top 76
abbrev n__law_refusals : List Str := ["_law_box_here", "_law_tree_here", "_law_start_here", "_law_end", "_law_hung_here", "_law_count_here", "_law_bad_start", "_law_bad_end", "_law_odd", "_law_row", "_law_door", "_law_third"]
theorem sc__law_refusals : FnScope n__law_refusals ["_law_box_here", "_law_tree_here", "_law_start_here", "_law_end", "_law_hung_here"] (defScope s__law_refusals) := ⟨rfl, rfl, rfl, by decide +kernel, rfl, by decide +kernel, by decide +kernel⟩
abbrev s_law : Stmt := top 77
abbrev n_law : List Str := ["_law_script", "_law_box_here", "_law_slots_here", "_law_text", "_law_ways", "_law_end", "_law_start_here", "_law_tree_here", "_law_hung_here", "_law_count_here", "_law_rank_here", "_law_ranks", "_law_one"]
theorem sc_law : FnScope n_law ["_law_script"] (defScope s_law) := ⟨rfl, rfl, rfl, by decide +kernel, rfl, by decide +kernel, by decide +kernel⟩
abbrev s_InvalidTree___init__ : Stmt := inClass (top 4) 0
abbrev n_InvalidTree___init__ : List Str := ["self", "text"]
theorem sc_InvalidTree___init__ : FnScope n_InvalidTree___init__ ["self", "text"] (defScope s_InvalidTree___init__) := ⟨rfl, rfl, rfl, by decide +kernel, rfl, by decide +kernel, by decide +kernel⟩
abbrev s_InvalidFlags___init__ : Stmt := inClass (top 5) 0
abbrev n_InvalidFlags___init__ : List Str := ["self", "flags"]
theorem sc_InvalidFlags___init__ : FnScope n_InvalidFlags___init__ ["self", "flags"] (defScope s_InvalidFlags___init__) := ⟨rfl, rfl, rfl, by decide +kernel, rfl, by decide +kernel, by decide +kernel⟩
abbrev s_InvalidSlot___init__ : Stmt := inClass (top 6) 0
abbrev n_InvalidSlot___init__ : List Str := ["self", "slot"]
theorem sc_InvalidSlot___init__ : FnScope n_InvalidSlot___init__ ["self", "slot"] (defScope s_InvalidSlot___init__) := ⟨rfl, rfl, rfl, by decide +kernel, rfl, by decide +kernel, by decide +kernel⟩
abbrev s_InvalidNumber___init__ : Stmt := inClass (top 8) 0
abbrev n_InvalidNumber___init__ : List Str := ["self", "number"]
theorem sc_InvalidNumber___init__ : FnScope n_InvalidNumber___init__ ["self", "number"] (defScope s_InvalidNumber___init__) := ⟨rfl, rfl, rfl, by decide +kernel, rfl, by decide +kernel, by decide +kernel⟩
abbrev s_Tree___init__ : Stmt := inClass (top 43) 1
abbrev n_Tree___init__ : List Str := ["self", "text", "rows", "ascending", "row"]
theorem sc_Tree___init__ : FnScope n_Tree___init__ ["self", "text"] (defScope s_Tree___init__) := ⟨rfl, rfl, rfl, by decide +kernel, rfl, by decide +kernel, by decide +kernel⟩
abbrev s_Tree___len__ : Stmt := inClass (top 43) 3
abbrev n_Tree___len__ : List Str := ["self"]
theorem sc_Tree___len__ : FnScope n_Tree___len__ ["self"] (defScope s_Tree___len__) := ⟨rfl, rfl, rfl, by decide +kernel, rfl, by decide +kernel, by decide +kernel⟩
abbrev s_Tree_forks : Stmt := inClass (top 43) 6
abbrev n_Tree_forks : List Str := ["self"]
theorem sc_Tree_forks : FnScope n_Tree_forks ["self"] (defScope s_Tree_forks) := ⟨rfl, rfl, rfl, by decide +kernel, rfl, by decide +kernel, by decide +kernel⟩

/-- a def that may be called by its name -/
structure Cl (P : Program) (w : World) (K : PySem.W.Frag) (mg : Str → Option Value) (base : Heap) (k : Nat) (x : Str) (sp : Sp) (dvs : List V := []) : Prop where
  ex : ∃ (f : Addr) (fd : FuncData) (ps : List Str) (ds : List Value), FnOk P w K mg base (L2.CX P w) k f fd ps sp ∧ mg x = some (.ref f) ∧ PySem.W.keepIn K (.ref f) = true ∧ Binds K fd ps ds ∧ Vals dvs ds
/-- a def of the top as it stands, no defaults -/
structure Df (K : PySem.W.Frag) (mg : Str → Option Value) (x : Str) (st : Stmt) : Prop where
  ex : ∃ (f : Addr) (fd : FuncData), FunD K x x (defArgs st) (defBody st) (defScope st) [] [] f fd ∧ mg x = some (.ref f)
section
variable {P : Program} {w : World} {K : PySem.W.Frag} {mg : Str → Option Value} {base : Heap}
theorem cl_mk {x : Str} {st : Stmt} {N ps : List Str} {k : Nat} {sp : Sp} (F : Df K mg x st) (S : FnScope N ps (defScope st)) (len : ∀ vs H Q E, sp vs H Q E → vs.length = ps.length)
    (b : ∀ (kV doc pm : Value) (an : Option Addr) (cdv ct : Value) (us : List Value), us.length = ps.length → bindArgs (PySem.W.fnOf x x (defArgs st) (defBody st) (defScope st) .none kV doc pm an cdv ct) ⟨us, []⟩ = pure (ps.zip us))
    (hbody : ∀ (f : Addr) (cdv : Value) (A : Around) (outer : List Env) (s : Shared) (H : Hp) (vs : List V) (Q : VK) (E : XK), Room k (A.deeper (envOfC x (defScope st) s.heap.objs.size f cdv)) → sp vs H Q E →
      ∃ t, PSs (cxOf (L2.CX P w) P w K mg base N x (defScope st) f cdv A outer s H E) (defBody st) t ∧ t { nx := fun _ H' => Q .non H', rt := Q } (start N vs) H) : Cl P w K mg base (k + 1) x sp := by
  obtain ⟨f, fd, F, hm⟩ := F.ex
  exact ⟨f, fd, ps, [], F.ok S len (fun cdv A outer s H vs Q E hr h => hbody f cdv A outer s H vs Q E hr h), hm, F.kp, F.bindsN b, .nil⟩
/-- a weaker promise -/
theorem Cl.imp {x : Str} {k : Nat} {sp sp' : Sp} {dvs : List V} (c : Cl P w K mg base k x sp dvs) (h : ∀ vs H Q E, sp' vs H Q E → sp vs H Q E) : Cl P w K mg base k x sp' dvs := by
  obtain ⟨f, fd, ps, ds, F, r⟩ := c.ex
  exact ⟨f, fd, ps, ds, F.imp h, r⟩
end
section
variable {X : Cx} {k j : Nat} {x : Str} {sp : Sp} {dvs : List V} {p pos : Pos} {e : Expr} {es : List Expr} {t : TA} {E : XK}
/-- a call; nothing is let out -/
theorem pe_cl (c : Cl X.prog X.w X.K X.mg X.base k x sp dvs) (hr : Room j X.A) (hk : k ≤ j) (hg : Gl X x) (ha : PA X (e :: es) t)
    (hdb : (x == ("__debug__" : Str)) = false := by decide) (he : starEach (e :: es) X.env = (false, eval e X.env) :: starEach es X.env := by rfl) (hpl : (backTo pos (starEach es X.env)).any (·.1) = false := by rfl) :
    PE X (.Call (.Name x p) (e :: es) [] pos) (tCall sp dvs E0 t) := by
  obtain ⟨f, fd, ps, ds, F, hm, kp, b, d⟩ := c.ex
  exact pe_call F (hr.mono hk) hg hm kp b d passL ha hdb he hpl
/-- a call; what is let out leaves this def too -/
theorem pe_clX (c : Cl X.prog X.w X.K X.mg X.base k x sp dvs) (hr : Room j X.A) (hk : k ≤ j) (hg : Gl X x) (tk : Takes X (fun cls d _ H => E cls d H)) (ha : PA X (e :: es) t)
    (hdb : (x == ("__debug__" : Str)) = false := by decide) (he : starEach (e :: es) X.env = (false, eval e X.env) :: starEach es X.env := by rfl) (hpl : (backTo pos (starEach es X.env)).any (·.1) = false := by rfl) :
    PE X (.Call (.Name x p) (e :: es) [] pos) (tCall sp dvs E t) := by
  obtain ⟨f, fd, ps, ds, F, hm, kp, b, d⟩ := c.ex
  exact pe_call F (hr.mono hk) hg hm kp b d (passes_call tk fun _ _ _ _ h => h) ha hdb he hpl
end

/-- what the top leaves: built-ins not hidden -/
structure Tb (mg : Str → Option Value) : Prop where
  n_len : mg "len" = none
  n_isinstance : mg "isinstance" = none
  n_all : mg "all" = none
  n_sorted : mg "sorted" = none
  n_tuple : mg "tuple" = none
  n_list : mg "list" = none
  n_int : mg "int" = none
  n_str : mg "str" = none
  n_bool : mg "bool" = none
  n_range : mg "range" = none
  n_enumerate : mg "enumerate" = none
  n_reversed : mg "reversed" = none
  n_repr : mg "repr" = none
  n_ValueError : mg "ValueError" = none
  g_factorial : mg "factorial" = some (.builtin "math.factorial")
end K22
/-! The orders of a forest: a forest is told by its nodes, parents and chains; the orders of what is left, their number. Plain Lean. -/
set_option linter.all false
namespace K22
structure Fo where
  ns : List Nat
  p : Nat → Option Nat
  ch : Nat → List Nat
  asc : ns.Pairwise (· < ·)
  cl : ∀ v ∈ ns, ∀ q, p v = some q → q ∈ ns
  ch0 : ∀ v ∈ ns, p v = none → ch v = [v]
  chS : ∀ v ∈ ns, ∀ q, p v = some q → ch v = v :: ch q
namespace Fo
variable (F : Fo)
/-- what is left: nodes, with each node its parent -/
structure Up (rem : List Nat) : Prop where
  sub : ∀ v ∈ rem, v ∈ F.ns
  asc : rem.Pairwise (· < ·)
  up : ∀ v ∈ rem, ∀ q, F.p v = some q → q ∈ rem
def sz (rem : List Nat) (v : Nat) : Nat := (rem.filter fun u => decide (v ∈ F.ch u)).length
def ops (rem : List Nat) : List Nat := rem.filter fun l => F.sz rem l == 1
def orders : Nat → List Nat → List (List Nat)
  | 0, _ => [[]]
  | n + 1, rem => (F.ops rem).flatMap fun l => (orders n (rem.erase l)).map (l :: ·)
variable {F}
theorem mem_ch_self {v : Nat} (h : v ∈ F.ns) : v ∈ F.ch v := by
  cases e : F.p v with
  | none => rw [F.ch0 v h e]; simp
  | some q => rw [F.chS v h q e]; simp
theorem ch_ind {P : Nat → Prop} (h0 : ∀ v ∈ F.ns, F.p v = none → P v) (hS : ∀ v ∈ F.ns, ∀ q, q ∈ F.ns → F.p v = some q → P q → P v) : ∀ v ∈ F.ns, P v := by
  have key : ∀ n, ∀ v ∈ F.ns, (F.ch v).length ≤ n → P v := by
    intro n
    induction n with
    | zero =>
      intro v hv hl
      have := mem_ch_self hv
      cases e : F.ch v with
      | nil => rw [e] at this; cases this
      | cons a b => rw [e] at hl; simp at hl
    | succ n ih =>
      intro v hv hl
      cases e : F.p v with
      | none => exact h0 v hv e
      | some q =>
        have hq := F.cl v hv q e
        rw [F.chS v hv q e] at hl
        exact hS v hv q hq e (ih q hq (by simpa using hl))
  exact fun v hv => key _ v hv (Nat.le_refl _)
theorem ch_sub : ∀ v ∈ F.ns, ∀ u ∈ F.ch v, u ∈ F.ns := by
  refine ch_ind (fun v hv e u hu => ?_) (fun v hv q hq e ih u hu => ?_)
  · rw [F.ch0 v hv e] at hu; simp at hu; rw [hu]; exact hv
  · rw [F.chS v hv q e] at hu
    rcases List.mem_cons.mp hu with rfl | hu
    · exact hv
    · exact ih u hu
theorem ch_len : ∀ v ∈ F.ns, ∀ u ∈ F.ch v, (F.ch u).length ≤ (F.ch v).length := by
  refine ch_ind (fun v hv e u hu => ?_) (fun v hv q hq e ih u hu => ?_)
  · rw [F.ch0 v hv e] at hu; simp at hu; rw [hu]; exact Nat.le_refl _
  · rw [F.chS v hv q e] at hu
    rcases List.mem_cons.mp hu with rfl | hu
    · exact Nat.le_refl _
    · have := ih u hu
      rw [F.chS v hv q e, List.length_cons]; omega
theorem not_mem_up {v q : Nat} (hv : v ∈ F.ns) (e : F.p v = some q) : v ∉ F.ch q := fun h => by
  have := ch_len q (F.cl v hv q e) v h
  rw [F.chS v hv q e, List.length_cons] at this; omega
theorem ch_trans : ∀ v ∈ F.ns, ∀ u ∈ F.ch v, ∀ x ∈ F.ch u, x ∈ F.ch v := by
  refine ch_ind (fun v hv e u hu x hx => ?_) (fun v hv q hq e ih u hu x hx => ?_)
  · have hu' := hu
    rw [F.ch0 v hv e] at hu'; simp at hu'; rw [hu'] at hx; exact hx
  · have hu' := hu
    rw [F.chS v hv q e] at hu'
    rcases List.mem_cons.mp hu' with rfl | hu'
    · exact hx
    · rw [F.chS v hv q e]; exact List.mem_cons_of_mem _ (ih u hu' x hx)
theorem ch_nodup : ∀ v ∈ F.ns, (F.ch v).Nodup := by
  refine ch_ind (fun v hv e => ?_) (fun v hv q hq e ih => ?_)
  · rw [F.ch0 v hv e]; simp
  · rw [F.chS v hv q e]; exact List.nodup_cons.mpr ⟨not_mem_up hv e, ih⟩
theorem ch_up {rem : List Nat} (U : F.Up rem) : ∀ v ∈ F.ns, v ∈ rem → ∀ u ∈ F.ch v, u ∈ rem := by
  refine ch_ind (fun v hv e hr u hu => ?_) (fun v hv q hq e ih hr u hu => ?_)
  · rw [F.ch0 v hv e] at hu; simp at hu; rw [hu]; exact hr
  · rw [F.chS v hv q e] at hu
    rcases List.mem_cons.mp hu with rfl | hu
    · exact hr
    · exact ih (U.up v hr q e) u hu
theorem nodup_of_asc {l : List Nat} (h : l.Pairwise (· < ·)) : l.Nodup := h.imp fun h => Nat.ne_of_lt h

/-! sums -/
def S {α : Type} (l : List α) (f : α → Rat) : Rat := (l.map f).sum
theorem S_nil {α : Type} (f : α → Rat) : S [] f = 0 := rfl
theorem S_cons {α : Type} (a : α) (l : List α) (f : α → Rat) : S (a :: l) f = f a + S l f := by simp [S]
theorem S_congr {α : Type} {l : List α} {f g : α → Rat} (h : ∀ x ∈ l, f x = g x) : S l f = S l g := by
  induction l with
  | nil => rfl
  | cons a l ih => rw [S_cons, S_cons, h a (by simp), ih fun x hx => h x (by simp [hx])]
theorem S_add {α : Type} (l : List α) (f g : α → Rat) : S l (fun x => f x + g x) = S l f + S l g := by
  induction l with
  | nil => simp only [S_nil]; grind
  | cons a l ih => rw [S_cons, S_cons, S_cons, ih]; grind
theorem S_mul {α : Type} (l : List α) (c : Rat) (f : α → Rat) : S l (fun x => c * f x) = c * S l f := by
  induction l with
  | nil => simp [S]
  | cons a l ih => rw [S_cons, S_cons, ih]; grind
theorem S_zero {α : Type} (l : List α) : S l (fun _ => (0 : Rat)) = 0 := by
  induction l with
  | nil => rfl
  | cons a l ih => rw [S_cons, ih]; grind
theorem S_swap {α β : Type} (l : List α) (m : List β) (f : α → β → Rat) : S l (fun x => S m (f x)) = S m (fun y => S l fun x => f x y) := by
  induction l with
  | nil => simp only [S_nil]; rw [S_zero]
  | cons a l ih => rw [S_cons, ih, ← S_add]; exact S_congr fun y _ => by rw [S_cons]
def ind (b : Prop) [Decidable b] : Rat := if b then 1 else 0
theorem S_filter {α : Type} (l : List α) (q : α → Bool) (f : α → Rat) : S (l.filter q) f = S l fun x => ind (q x = true) * f x := by
  induction l with
  | nil => rfl
  | cons a l ih =>
    rw [List.filter_cons, S_cons, ← ih]
    by_cases h : q a = true
    · rw [if_pos h, S_cons, ind, if_pos h]; grind
    · rw [if_neg h, ind, if_neg h]; grind
theorem S_one {α : Type} (l : List α) : S l (fun _ => (1 : Rat)) = (l.length : Rat) := by
  induction l with
  | nil => rfl
  | cons a l ih => rw [S_cons, ih, List.length_cons]; push_cast; grind
/-- one place alone counts -/
theorem S_single {l : List Nat} (nd : l.Nodup) {u : Nat} (hu : u ∈ l) (f : Nat → Rat) : S l (fun c => ind (c = u) * f c) = f u := by
  induction l with
  | nil => cases hu
  | cons a l ih =>
    rw [S_cons]
    rcases List.mem_cons.mp hu with rfl | h
    · have hz : S l (fun c => ind (c = u) * f c) = 0 := by
        rw [← S_zero l]
        exact S_congr fun x hx => by
          have : x ≠ u := fun e => (List.nodup_cons.mp nd).1 (e ▸ hx)
          rw [ind, if_neg this]; grind
      rw [hz, ind, if_pos rfl]; grind
    · have : a ≠ u := fun e => (List.nodup_cons.mp nd).1 (e ▸ h)
      rw [ih (List.nodup_cons.mp nd).2 h, ind, if_neg this]; grind

section
variable {rem : List Nat} (U : F.Up rem)
include U
/-- exactly one child of v lies on the chain of u, if v lies on it above u -/
theorem one_child (v : Nat) : ∀ u ∈ F.ns, u ∈ rem → S rem (fun c => ind (F.p c = some v) * ind (c ∈ F.ch u)) = ind (v ∈ F.ch u ∧ u ≠ v) := by
  have nd := nodup_of_asc U.asc
  refine ch_ind (fun u hu e hr => ?_) (fun u hu q hq e ih hr => ?_)
  · rw [F.ch0 u hu e]
    have : ¬ (v ∈ [u] ∧ u ≠ v) := by simp; intro h; exact h.symm
    rw [ind, if_neg this, ← S_zero rem]
    refine S_congr fun c hc => ?_
    by_cases h : c ∈ [u]
    · simp at h; subst h; rw [ind, if_neg (by rw [e]; simp)]; grind
    · rw [show ind (c ∈ [u]) = 0 from if_neg h]; grind
  · rw [F.chS u hu q e]
    have hn := not_mem_up hu e
    have e1 : S rem (fun c => ind (F.p c = some v) * ind (c ∈ u :: F.ch q)) = S rem (fun c => ind (c = u) * ind (F.p c = some v)) + S rem (fun c => ind (F.p c = some v) * ind (c ∈ F.ch q)) := by
      rw [← S_add]
      refine S_congr fun c hc => ?_
      by_cases h : c = u
      · subst h
        rw [show ind (c ∈ c :: F.ch q) = 1 from if_pos (by simp), show ind (c = c) = 1 from if_pos rfl, show ind (c ∈ F.ch q) = 0 from if_neg hn]; grind
      · rw [show ind (c = u) = 0 from if_neg h]
        by_cases h2 : c ∈ F.ch q
        · rw [show ind (c ∈ u :: F.ch q) = 1 from if_pos (by simp [h2]), show ind (c ∈ F.ch q) = 1 from if_pos h2]; grind
        · rw [show ind (c ∈ u :: F.ch q) = 0 from if_neg (by simp [h, h2]), show ind (c ∈ F.ch q) = 0 from if_neg h2]; grind
    rw [e1, S_single nd hr, ih (U.up u hr q e), e]
    by_cases hv : q = v
    · subst hv
      have hne : u ≠ q := fun z => by subst z; exact hn (mem_ch_self hu)
      rw [show ind (some q = some q) = 1 from if_pos rfl, show ind (q ∈ F.ch q ∧ q ≠ q) = 0 from if_neg (by simp), show ind (q ∈ u :: F.ch q ∧ u ≠ q) = 1 from if_pos ⟨by simp [mem_ch_self hq], hne⟩]; grind
    · rw [show ind (some q = some v) = 0 from if_neg (by simpa using hv)]
      by_cases h2 : v ∈ F.ch q
      · have hne : u ≠ v := fun z => hn (z ▸ h2)
        rw [show ind (v ∈ F.ch q ∧ q ≠ v) = 1 from if_pos ⟨h2, hv⟩, show ind (v ∈ u :: F.ch q ∧ u ≠ v) = 1 from if_pos ⟨by simp [h2], hne⟩]; grind
      · rw [show ind (v ∈ F.ch q ∧ q ≠ v) = 0 from if_neg (by simp [h2]), show ind (v ∈ u :: F.ch q ∧ u ≠ v) = 0 from if_neg (by simp [h2]; intro h; exact h.symm)]; grind
/-- exactly one root lies on the chain of u -/
theorem one_root : ∀ u ∈ F.ns, u ∈ rem → S rem (fun c => ind (F.p c = none) * ind (c ∈ F.ch u)) = 1 := by
  have nd := nodup_of_asc U.asc
  refine ch_ind (fun u hu e hr => ?_) (fun u hu q hq e ih hr => ?_)
  · rw [F.ch0 u hu e]
    have e1 : S rem (fun c => ind (F.p c = none) * ind (c ∈ [u])) = S rem (fun c => ind (c = u) * ind (F.p c = none)) := S_congr fun c hc => by
      by_cases h : c = u
      · rw [show ind (c = u) = 1 from if_pos h, show ind (c ∈ [u]) = 1 from if_pos (by simp [h])]; grind
      · rw [show ind (c = u) = 0 from if_neg h, show ind (c ∈ [u]) = 0 from if_neg (by simp [h])]; grind
    rw [e1, S_single nd hr, ind, if_pos e]
  · rw [F.chS u hu q e]
    have hn := not_mem_up hu e
    rw [← ih (U.up u hr q e)]
    refine S_congr fun c hc => ?_
    by_cases h : c = u
    · subst h
      rw [show ind (F.p c = none) = 0 from if_neg (by rw [e]; simp)]; grind
    · by_cases h2 : c ∈ F.ch q
      · rw [show ind (c ∈ u :: F.ch q) = 1 from if_pos (by simp [h2]), show ind (c ∈ F.ch q) = 1 from if_pos h2]
      · rw [show ind (c ∈ u :: F.ch q) = 0 from if_neg (by simp [h, h2]), show ind (c ∈ F.ch q) = 0 from if_neg h2]
theorem sz_S (v : Nat) : ((F.sz rem v : Nat) : Rat) = S rem fun u => ind (v ∈ F.ch u) := by
  unfold sz
  rw [← S_one, S_filter]
  refine S_congr fun u hu => ?_
  by_cases h : v ∈ F.ch u
  · rw [ind, if_pos (by simpa using h), ind, if_pos h]; grind
  · rw [ind, if_neg (by simpa using h), ind, if_neg h]; grind
theorem sz_pos {v : Nat} (hv : v ∈ rem) : 1 ≤ F.sz rem v := by
  unfold sz
  exact List.length_pos_iff.mpr (List.ne_nil_of_mem (List.mem_filter.mpr ⟨hv, by simpa using mem_ch_self (U.sub v hv)⟩))
/-- a part by the children -/
theorem part (v : Nat) (hv : v ∈ rem) (f : Nat → Rat) : S rem (fun u => ind (v ∈ F.ch u) * f u) = f v + S rem (fun c => ind (F.p c = some v) * S rem fun u => ind (c ∈ F.ch u) * f u) := by
  have nd := nodup_of_asc U.asc
  have e1 : S rem (fun u => ind (v ∈ F.ch u) * f u) = S rem (fun u => ind (u = v) * f u) + S rem (fun u => ind (v ∈ F.ch u ∧ u ≠ v) * f u) := by
    rw [← S_add]
    refine S_congr fun u hu => ?_
    by_cases h : u = v
    · subst h
      rw [show ind (u ∈ F.ch u) = 1 from if_pos (mem_ch_self (U.sub u hu)), show ind (u = u) = 1 from if_pos rfl, show ind (u ∈ F.ch u ∧ u ≠ u) = 0 from if_neg (by simp)]; grind
    · rw [show ind (u = v) = 0 from if_neg h]
      by_cases h2 : v ∈ F.ch u
      · rw [show ind (v ∈ F.ch u) = 1 from if_pos h2, show ind (v ∈ F.ch u ∧ u ≠ v) = 1 from if_pos ⟨h2, h⟩]; grind
      · rw [show ind (v ∈ F.ch u) = 0 from if_neg h2, show ind (v ∈ F.ch u ∧ u ≠ v) = 0 from if_neg (by simp [h2])]; grind
  rw [e1, S_single nd hv]
  congr 1
  have e2 : S rem (fun c => ind (F.p c = some v) * S rem fun u => ind (c ∈ F.ch u) * f u) = S rem (fun c => S rem fun u => ind (F.p c = some v) * (ind (c ∈ F.ch u) * f u)) := S_congr fun c _ => by rw [S_mul]
  rw [e2, S_swap]
  refine S_congr fun u hu => ?_
  rw [← one_child U v u (U.sub u hu) hu]
  have e3 : S rem (fun c => ind (F.p c = some v) * (ind (c ∈ F.ch u) * f u)) = S rem (fun c => f u * (ind (F.p c = some v) * ind (c ∈ F.ch u))) := S_congr fun c _ => by grind
  rw [e3, S_mul]; grind
theorem part0 (f : Nat → Rat) : S rem f = S rem (fun c => ind (F.p c = none) * S rem fun u => ind (c ∈ F.ch u) * f u) := by
  have e2 : S rem (fun c => ind (F.p c = none) * S rem fun u => ind (c ∈ F.ch u) * f u) = S rem (fun c => S rem fun u => ind (F.p c = none) * (ind (c ∈ F.ch u) * f u)) := S_congr fun c _ => by rw [S_mul]
  rw [e2, S_swap]
  refine S_congr fun u hu => ?_
  have e3 : S rem (fun c => ind (F.p c = none) * (ind (c ∈ F.ch u) * f u)) = S rem (fun c => f u * (ind (F.p c = none) * ind (c ∈ F.ch u))) := S_congr fun c _ => by grind
  rw [e3, S_mul, one_root U u (U.sub u hu) hu]; grind
end

/-- h / (h - 1), or 1 -/
def phi (rem : List Nat) (v : Nat) : Rat := if F.sz rem v = 1 then 1 else (F.sz rem v : Rat) / ((F.sz rem v : Rat) - 1)
def prodR (l : List Rat) : Rat := l.foldr (· * ·) 1
def Phi (rem : List Nat) (v : Nat) : Rat := prodR ((F.ch v).map (phi (F := F) rem))
def Phi0 (rem : List Nat) : Option Nat → Rat
  | none => 1
  | some q => Phi (F := F) rem q
theorem Phi_eq (rem : List Nat) {v : Nat} (h : v ∈ F.ns) : Phi (F := F) rem v = phi (F := F) rem v * Phi0 (F := F) rem (F.p v) := by
  unfold Phi
  cases e : F.p v with
  | none => rw [F.ch0 v h e]; rfl
  | some q => rw [F.chS v h q e]; rfl
section
variable {rem : List Nat} (U : F.Up rem)
include U
/-- the sum of Phi over the open ones below v -/
theorem below (n : Nat) : ∀ v ∈ rem, F.sz rem v ≤ n → S rem (fun u => ind (v ∈ F.ch u) * (ind (F.sz rem u = 1) * Phi (F := F) rem u)) = (F.sz rem v : Rat) * Phi0 (F := F) rem (F.p v) := by
  induction n with
  | zero => intro v hv h; have := sz_pos U hv; omega
  | succ n ih =>
    intro v hv hn
    have hvn := U.sub v hv
    rw [part U v hv]
    have hsum : (F.sz rem v : Rat) = 1 + S rem (fun c => ind (F.p c = some v) * (F.sz rem c : Rat)) := by
      have := part U v hv (fun _ => 1)
      have e1 : S rem (fun u => ind (v ∈ F.ch u) * 1) = (F.sz rem v : Rat) := by rw [sz_S U]; exact S_congr fun u _ => by grind
      rw [e1] at this
      rw [this]
      congr 1
      refine S_congr fun c _ => ?_
      rw [sz_S U]
      congr 1
      exact S_congr fun u _ => by grind
    have hkid : ∀ c ∈ rem, F.p c = some v → F.sz rem c < F.sz rem v := by
      intro c hc e
      have hcn := U.sub c hc
      unfold sz
      have hs : ∀ u ∈ rem, decide (c ∈ F.ch u) = true → decide (v ∈ F.ch u) = true := fun u hu h => by
        have h' : c ∈ F.ch u := by simpa using h
        have : v ∈ F.ch c := by rw [F.chS c hcn v e]; exact List.mem_cons_of_mem _ (mem_ch_self hvn)
        simpa using ch_trans u (U.sub u hu) c h' v this
      have e2 : rem.filter (fun u => decide (c ∈ F.ch u)) = (rem.filter fun u => decide (v ∈ F.ch u)).filter (fun u => decide (c ∈ F.ch u)) := by
        rw [List.filter_filter]
        refine List.filter_congr fun u hu => ?_
        by_cases h : c ∈ F.ch u
        · have := hs u hu (by simpa using h); simp [h]; simpa using this
        · simp [h]
      rw [e2]
      have hvm : v ∈ rem.filter (fun u => decide (v ∈ F.ch u)) := List.mem_filter.mpr ⟨hv, by simpa using mem_ch_self hvn⟩
      have : c ∉ F.ch v := fun h => by
        have := ch_len v hvn c h
        rw [F.chS c hcn v e, List.length_cons] at this; omega
      exact (List.length_filter_lt_length_iff_exists).mpr ⟨v, hvm, by simpa using this⟩
    have hrec : S rem (fun c => ind (F.p c = some v) * S rem fun u => ind (c ∈ F.ch u) * (ind (F.sz rem u = 1) * Phi (F := F) rem u)) = ((F.sz rem v : Rat) - 1) * Phi (F := F) rem v := by
      have e1 : S rem (fun c => ind (F.p c = some v) * S rem fun u => ind (c ∈ F.ch u) * (ind (F.sz rem u = 1) * Phi (F := F) rem u)) = S rem (fun c => Phi (F := F) rem v * (ind (F.p c = some v) * (F.sz rem c : Rat))) := by
        refine S_congr fun c hc => ?_
        by_cases e : F.p c = some v
        · rw [show ind (F.p c = some v) = 1 from if_pos e, ih c hc (by have := hkid c hc e; omega), e]
          show 1 * ((F.sz rem c : Rat) * Phi (F := F) rem v) = _
          grind
        · rw [show ind (F.p c = some v) = 0 from if_neg e]; grind
      rw [e1, S_mul, hsum]; grind
    rw [hrec]
    rw [Phi_eq rem hvn]
    unfold phi
    by_cases h1 : F.sz rem v = 1
    · rw [if_pos h1, show ind (F.sz rem v = 1) = 1 from if_pos h1, h1]; push_cast; grind
    · rw [if_neg h1, show ind (F.sz rem v = 1) = 0 from if_neg h1]
      have hp := sz_pos U hv
      have : ((F.sz rem v : Nat) : Rat) - 1 ≠ 0 := by
        intro z
        have z2 : ((F.sz rem v : Nat) : Rat) = ((1 : Nat) : Rat) := by push_cast; grind
        exact h1 (by exact_mod_cast z2)
      grind
theorem total : S rem (fun u => ind (F.sz rem u = 1) * Phi (F := F) rem u) = (rem.length : Rat) := by
  rw [part0 U, ← S_one, part0 U (fun _ => 1)]
  refine S_congr fun c hc => ?_
  by_cases e : F.p c = none
  · rw [below U _ c hc (Nat.le_refl _), e, sz_S U]
    show _ * (S rem _ * 1) = _
    congr 1
    have : (S rem fun u => ind (c ∈ F.ch u)) = S rem fun u => ind (c ∈ F.ch u) * 1 := S_congr fun u _ => by grind
    rw [← this]; grind
  · rw [show ind (F.p c = none) = 0 from if_neg e]; grind
end

/-! taking an open one out -/
theorem mem_ops {rem : List Nat} {l : Nat} : l ∈ F.ops rem ↔ l ∈ rem ∧ F.sz rem l = 1 := by
  unfold ops; rw [List.mem_filter]; simp
theorem open_alone {rem : List Nat} (U : F.Up rem) {l : Nat} (h : l ∈ F.ops rem) : ∀ u ∈ rem, l ∈ F.ch u → u = l := by
  obtain ⟨h1, h2⟩ := mem_ops.mp h
  intro u hu hl
  unfold sz at h2
  obtain ⟨x, hx⟩ := List.length_eq_one_iff.mp h2
  have a : u ∈ rem.filter fun u => decide (l ∈ F.ch u) := List.mem_filter.mpr ⟨hu, by simpa using hl⟩
  have b : l ∈ rem.filter fun u => decide (l ∈ F.ch u) := List.mem_filter.mpr ⟨h1, by simpa using mem_ch_self (U.sub l h1)⟩
  rw [hx] at a b
  simp at a b; rw [a, b]
theorem open_of {rem : List Nat} (U : F.Up rem) {l : Nat} (h1 : l ∈ rem) (h : ∀ u ∈ rem, F.p u ≠ some l) : l ∈ F.ops rem := by
  refine mem_ops.mpr ⟨h1, ?_⟩
  have hp := sz_pos U h1
  have key : ∀ u ∈ F.ns, u ∈ rem → l ∈ F.ch u → u = l := by
    refine ch_ind (fun v hv e hr hl => ?_) (fun v hv q hq e ih hr hl => ?_)
    · rw [F.ch0 v hv e] at hl; simp at hl; exact hl.symm
    · rw [F.chS v hv q e] at hl
      rcases List.mem_cons.mp hl with hl | hl
      · exact hl.symm
      · have := ih (U.up v hr q e) hl
        exact absurd (by rw [e, this]) (h v hr)
  have e1 : rem.filter (fun u => decide (l ∈ F.ch u)) = rem.filter (fun u => u == l) := by
    refine List.filter_congr fun u hu => ?_
    by_cases hl : l ∈ F.ch u
    · have := key u (U.sub u hu) hu hl; subst this; simp [hl]
    · have : u ≠ l := fun e => hl (by rw [e]; exact mem_ch_self (U.sub l h1))
      simp [hl, this]
  unfold sz
  rw [e1]
  have := (List.count_eq_length_filter (a := l) (l := rem)).symm
  rw [this, (nodup_of_asc U.asc).count]; simp [h1]
theorem open_nokid {rem : List Nat} (U : F.Up rem) {l : Nat} (h : l ∈ F.ops rem) : ∀ u ∈ rem, F.p u ≠ some l := fun u hu e => by
  have hn := U.sub u hu
  have hl := (mem_ops.mp h).1
  have : l ∈ F.ch u := by rw [F.chS u hn l e]; exact List.mem_cons_of_mem _ (mem_ch_self (U.sub l hl))
  have := open_alone U h u hu this
  subst this
  exact not_mem_up hn e (mem_ch_self hn)
theorem Up.erase {rem : List Nat} (U : F.Up rem) {l : Nat} (h : l ∈ F.ops rem) : F.Up (rem.erase l) := by
  have nd := nodup_of_asc U.asc
  refine ⟨fun v hv => U.sub v (List.mem_of_mem_erase hv), U.asc.sublist (List.erase_sublist ..), fun v hv q e => ?_⟩
  have hv' := List.mem_of_mem_erase hv
  have hq := U.up v hv' q e
  refine (List.mem_erase_of_ne ?_).mpr hq
  intro z
  exact open_nokid U h v hv' (by rw [e, z])
theorem sz_erase {rem : List Nat} (U : F.Up rem) {l : Nat} (h : l ∈ rem) (v : Nat) : F.sz rem v = F.sz (rem.erase l) v + if v ∈ F.ch l then 1 else 0 := by
  have nd := nodup_of_asc U.asc
  unfold sz
  have hp : rem.Perm (l :: rem.erase l) := List.perm_cons_erase h
  have := (hp.filter fun u => decide (v ∈ F.ch u)).length_eq
  rw [this, List.filter_cons]
  by_cases hv : v ∈ F.ch l
  · rw [if_pos (by simpa using hv), if_pos hv, List.length_cons]
  · rw [if_neg (by simpa using hv), if_neg hv, Nat.add_zero]
theorem ops_len {rem : List Nat} (U : F.Up rem) : (F.ops rem = [] ↔ rem = []) := by
  constructor
  · intro h
    cases e : rem with
    | nil => rfl
    | cons a r =>
      have t := total U
      have z : S rem (fun u => ind (F.sz rem u = 1) * Phi (F := F) rem u) = 0 := by
        rw [← S_zero rem]
        refine S_congr fun u hu => ?_
        have : ¬ F.sz rem u = 1 := fun q => by
          have := mem_ops.mpr ⟨hu, q⟩
          rw [h] at this; cases this
        rw [ind, if_neg this]; grind
      rw [z, e] at t
      have t2 : ((0 : Nat) : Rat) = (((a :: r).length : Nat) : Rat) := by rw [← t]; rfl
      have t3 : 0 = (a :: r).length := by exact_mod_cast t2
      simp at t3
  · intro h; rw [h]; rfl

/-! products -/
def P (l : List Nat) (f : Nat → Nat) : Nat := l.foldr (fun v a => f v * a) 1
theorem P_cons (a : Nat) (l : List Nat) (f : Nat → Nat) : P (a :: l) f = f a * P l f := rfl
theorem P_perm {l m : List Nat} (h : l.Perm m) (f : Nat → Nat) : P l f = P m f := by
  induction h with
  | nil => rfl
  | cons a _ ih => rw [P_cons, P_cons, ih]
  | swap a b l => rw [P_cons, P_cons, P_cons, P_cons, Nat.mul_left_comm]
  | trans _ _ h1 h2 => rw [h1, h2]
theorem P_congr {l : List Nat} {f g : Nat → Nat} (h : ∀ x ∈ l, f x = g x) : P l f = P l g := by
  induction l with
  | nil => rfl
  | cons a l ih => rw [P_cons, P_cons, h a (by simp), ih fun x hx => h x (by simp [hx])]
theorem P_pos {l : List Nat} {f : Nat → Nat} (h : ∀ x ∈ l, 1 ≤ f x) : 1 ≤ P l f := by
  induction l with
  | nil => exact Nat.le_refl _
  | cons a l ih => rw [P_cons]; exact Nat.mul_pos (h a (by simp)) (ih fun x hx => h x (by simp [hx]))
theorem P_split (l : List Nat) (q : Nat → Bool) (f : Nat → Nat) : P l f = P (l.filter q) f * P (l.filter fun x => !q x) f := by
  induction l with
  | nil => rfl
  | cons a l ih =>
    rw [P_cons, ih, List.filter_cons, List.filter_cons]
    cases q a with
    | true => simp only [if_true, Bool.not_true, Bool.false_eq_true, if_false]; rw [P_cons, Nat.mul_assoc]
    | false => simp only [if_true, Bool.not_false, Bool.false_eq_true, if_false]; rw [P_cons, Nat.mul_left_comm]
/-- the hooks of what is left -/
def hooks (F : Fo) (rem : List Nat) : Nat := P rem (F.sz rem)
/-- above l: upper and lower of count_begun -/
theorem perm_of_mem {a b : List Nat} (na : a.Nodup) (nb : b.Nodup) (h : ∀ x, x ∈ a ↔ x ∈ b) : a.Perm b := (List.perm_ext_iff_of_nodup na nb).mpr h
theorem chain_split {rem : List Nat} (U : F.Up rem) {l : Nat} (h : l ∈ F.ops rem) :
    hooks F rem = P (F.ch l).tail (F.sz rem) * P (rem.filter fun v => !decide (v ∈ F.ch l)) (F.sz rem) ∧
    hooks F (rem.erase l) = P (F.ch l).tail (fun v => F.sz rem v - 1) * P (rem.filter fun v => !decide (v ∈ F.ch l)) (F.sz rem) := by
  have nd := nodup_of_asc U.asc
  obtain ⟨hl, h1⟩ := mem_ops.mp h
  have hn := U.sub l hl
  have nc := ch_nodup l hn
  have hc : F.ch l = l :: (F.ch l).tail := by
    cases e : F.p l with
    | none => rw [F.ch0 l hn e]; rfl
    | some q => rw [F.chS l hn q e]; rfl
  have hlt : l ∉ (F.ch l).tail := by rw [hc] at nc; exact (List.nodup_cons.mp nc).1
  have ntl : (F.ch l).tail.Nodup := by rw [hc] at nc; exact (List.nodup_cons.mp nc).2
  have p1 : (rem.filter fun v => decide (v ∈ F.ch l)).Perm (F.ch l) := perm_of_mem (nd.filter _) nc fun x => by
    rw [List.mem_filter]
    constructor
    · intro ⟨_, b⟩; simpa using b
    · intro b; exact ⟨ch_up U l hn hl x b, by simpa using b⟩
  constructor
  · unfold hooks
    rw [P_split rem (fun v => decide (v ∈ F.ch l)), P_perm p1]
    congr 1
    rw [hc, P_cons, h1, Nat.one_mul]; rfl
  · unfold hooks
    have p2 : ((rem.erase l).filter fun v => decide (v ∈ F.ch l)).Perm (F.ch l).tail := perm_of_mem ((nd.erase l).filter _) ntl fun x => by
      rw [List.mem_filter]
      constructor
      · intro ⟨a, b⟩
        have b' : x ∈ F.ch l := by simpa using b
        rw [hc] at b'
        rcases List.mem_cons.mp b' with rfl | b'
        · exact absurd a (nd.not_mem_erase)
        · exact b'
      · intro b
        have bx : x ∈ F.ch l := by rw [hc]; exact List.mem_cons_of_mem _ b
        refine ⟨(List.mem_erase_of_ne ?_).mpr (ch_up U l hn hl x bx), by simpa using bx⟩
        intro z; rw [z] at b; exact hlt b
    have e3 : (rem.erase l).filter (fun v => !decide (v ∈ F.ch l)) = rem.filter fun v => !decide (v ∈ F.ch l) := by
      rw [nd.erase_eq_filter, List.filter_filter]
      refine List.filter_congr fun x hx => ?_
      by_cases hx2 : x ∈ F.ch l
      · simp [hx2]
      · have : x ≠ l := fun e => hx2 (by rw [e]; exact mem_ch_self hn)
        simp [hx2, this]
    rw [P_split _ (fun v => decide (v ∈ F.ch l)), P_perm p2, e3]
    congr 1
    · refine P_congr fun v hv => ?_
      have := sz_erase U hl v
      have bx : v ∈ F.ch l := by rw [hc]; exact List.mem_cons_of_mem _ hv
      rw [if_pos bx] at this; omega
    · refine P_congr fun v hv => ?_
      have := sz_erase U hl v
      obtain ⟨_, b⟩ := List.mem_filter.mp hv
      have bx : ¬ v ∈ F.ch l := by simpa using b
      rw [if_neg bx] at this; omega
def fac : Nat → Nat
  | 0 => 1
  | n + 1 => (n + 1) * fac n
theorem fac_pos : ∀ n, 1 ≤ fac n
  | 0 => Nat.le_refl _
  | n + 1 => Nat.mul_pos (Nat.succ_pos n) (fac_pos n)
theorem tail_big {rem : List Nat} (U : F.Up rem) {l : Nat} (h : l ∈ F.ops rem) : ∀ v ∈ (F.ch l).tail, 2 ≤ F.sz rem v := by
  obtain ⟨hl, h1⟩ := mem_ops.mp h
  have hn := U.sub l hl
  intro v hv
  have hc : F.ch l = l :: (F.ch l).tail := by
    cases e : F.p l with
    | none => rw [F.ch0 l hn e]; rfl
    | some q => rw [F.chS l hn q e]; rfl
  have bx : v ∈ F.ch l := by rw [hc]; exact List.mem_cons_of_mem _ hv
  have hne : v ≠ l := by
    intro z
    have nc := ch_nodup l hn
    rw [hc] at nc
    exact (List.nodup_cons.mp nc).1 (z ▸ hv)
  have hvr := ch_up U l hn hl v bx
  have hp : 1 ≤ F.sz (rem.erase l) v := sz_pos (U.erase h) ((List.mem_erase_of_ne hne).mpr hvr)
  have := sz_erase U hl v
  rw [if_pos bx] at this; omega
theorem prodR_cons (a : Rat) (l : List Rat) : prodR (a :: l) = a * prodR l := rfl
theorem Phi_prod {rem : List Nat} (U : F.Up rem) {l : Nat} (h : l ∈ F.ops rem) : Phi (F := F) rem l * (P (F.ch l).tail (fun v => F.sz rem v - 1) : Nat) = (P (F.ch l).tail (F.sz rem) : Nat) := by
  obtain ⟨hl, h1⟩ := mem_ops.mp h
  have hn := U.sub l hl
  have hc : F.ch l = l :: (F.ch l).tail := by
    cases e : F.p l with
    | none => rw [F.ch0 l hn e]; rfl
    | some q => rw [F.chS l hn q e]; rfl
  have hb := tail_big U h
  unfold Phi
  rw [hc, List.map_cons, prodR_cons, List.tail_cons]
  have e1 : phi (F := F) rem l = 1 := by unfold phi; rw [if_pos h1]
  rw [e1]
  generalize (F.ch l).tail = t at hb
  clear hc e1
  induction t with
  | nil => simp only [List.map_nil, prodR, P, List.foldr_nil]; grind
  | cons a t ih =>
    have ih2 := ih fun v hv => hb v (by simp [hv])
    have ha := hb a (by simp)
    rw [List.map_cons, prodR_cons, P_cons, P_cons]
    have e1 : phi (F := F) rem a = (F.sz rem a : Rat) / ((F.sz rem a : Rat) - 1) := by unfold phi; rw [if_neg (by omega)]
    have e2 : (((F.sz rem a - 1 : Nat)) : Rat) = (F.sz rem a : Rat) - 1 := by
      have : F.sz rem a = (F.sz rem a - 1) + 1 := by omega
      have h3 : ((F.sz rem a : Nat) : Rat) = (((F.sz rem a - 1) + 1 : Nat) : Rat) := by exact_mod_cast this
      rw [h3]; push_cast; grind
    have ne : ((F.sz rem a : Nat) : Rat) - 1 ≠ 0 := by
      intro z
      have z2 : ((F.sz rem a : Nat) : Rat) = ((1 : Nat) : Rat) := by push_cast; grind
      have : F.sz rem a = 1 := by exact_mod_cast z2
      omega
    push_cast
    rw [e1, e2]
    generalize prodR (List.map (phi (F := F) rem) t) = A at ih2 ⊢
    generalize ((P t (fun v => F.sz rem v - 1) : Nat) : Rat) = B at ih2 ⊢
    generalize ((P t (F.sz rem) : Nat) : Rat) = C at ih2 ⊢
    generalize ((F.sz rem a : Nat) : Rat) = x at ne ⊢
    rw [← ih2]
    grind
/-- THE HOOKS: the number of orders times the product of the branch sizes is n! -/
theorem hook : ∀ (n : Nat) (rem : List Nat), F.Up rem → rem.length = n → (F.orders n rem).length * hooks F rem = fac n := by
  intro n
  induction n with
  | zero =>
    intro rem U h
    have : rem = [] := List.length_eq_zero_iff.mp h
    subst this; rfl
  | succ n ih =>
    intro rem U h
    have hsum : (((F.orders (n + 1) rem).length : Nat) : Rat) = S (F.ops rem) fun l => (((F.orders n (rem.erase l)).length : Nat) : Rat) := by
      show ((((F.ops rem).flatMap fun l => (F.orders n (rem.erase l)).map (l :: ·)).length : Nat) : Rat) = _
      generalize F.ops rem = os
      induction os with
      | nil => rfl
      | cons a os ih2 => rw [List.flatMap_cons, List.length_append, S_cons, ← ih2, List.length_map]; push_cast; rfl
    have hh : ((hooks F rem : Nat) : Rat) ≠ 0 := by
      intro z
      have : hooks F rem = 0 := by exact_mod_cast z
      have h2 : 1 ≤ hooks F rem := P_pos fun v hv => sz_pos U hv
      omega
    have hterm : ∀ l ∈ F.ops rem, (((F.orders n (rem.erase l)).length : Nat) : Rat) * (hooks F rem : Nat) = (fac n : Nat) * Phi (F := F) rem l := by
      intro l hl
      have hlr := (mem_ops.mp hl).1
      have i := ih (rem.erase l) (U.erase hl) (by rw [List.length_erase_of_mem hlr]; omega)
      obtain ⟨c1, c2⟩ := chain_split U hl
      have ph := Phi_prod U hl
      rw [c1]
      have i2 : (((F.orders n (rem.erase l)).length : Nat) : Rat) * ((hooks F (rem.erase l) : Nat) : Rat) = ((fac n : Nat) : Rat) := by exact_mod_cast i
      rw [c2] at i2
      rw [← i2]
      push_cast at i2 ⊢
      rw [← ph]
      grind
    have t := total U
    have e1 : S (F.ops rem) (fun l => Phi (F := F) rem l) = (rem.length : Rat) := by
      rw [← t]
      unfold ops
      rw [S_filter]
      refine S_congr fun u _ => ?_
      by_cases q : F.sz rem u = 1
      · rw [show ind (F.sz rem u = 1) = 1 from if_pos q, ind, if_pos (by simpa using q)]
      · rw [show ind (F.sz rem u = 1) = 0 from if_neg q, ind, if_neg (by simpa using q)]
    have : (((F.orders (n + 1) rem).length : Nat) : Rat) * (hooks F rem : Nat) = (fac (n + 1) : Nat) := by
      rw [hsum]
      have e2 : S (F.ops rem) (fun l => (((F.orders n (rem.erase l)).length : Nat) : Rat)) * ((hooks F rem : Nat) : Rat) = S (F.ops rem) (fun l => ((fac n : Nat) : Rat) * Phi (F := F) rem l) := by
        rw [← S_congr hterm]
        have : ∀ os : List Nat, S os (fun l => (((F.orders n (rem.erase l)).length : Nat) : Rat)) * ((hooks F rem : Nat) : Rat) = S os (fun l => (((F.orders n (rem.erase l)).length : Nat) : Rat) * ((hooks F rem : Nat) : Rat)) := by
          intro os
          induction os with
          | nil => simp only [S_nil]; grind
          | cons a os ih3 => rw [S_cons, S_cons, ← ih3]; grind
        exact this _
      rw [e2, S_mul, e1, h]
      show _ = ((((n + 1) * fac n : Nat)) : Rat)
      push_cast
      grind
    exact_mod_cast this
end Fo
end K22
set_option Elab.async false
set_option linter.all false
set_option maxRecDepth 100000
set_option maxHeartbeats 4000000
/-! Data in the heap: dicts with natural numbers as keys. -/
namespace K22
open PySem PySem.Spec PyProof.Rows L2
def nV (n : Nat) : V := .int (n : Int)
def pV : Option Nat → V
  | none => .non
  | some q => .int (q : Int)
def kN (n : Nat) : Key := Sum.inl (n : Int)
theorem kN_inj {a b : Nat} : kN a = kN b ↔ a = b := by
  unfold kN
  constructor
  · intro h; have := Sum.inl.inj h; omega
  · intro h; rw [h]
theorem kV_kN (n : Nat) : kV (kN n) = nV n := rfl
def dmap (ks : List Nat) (f : Nat → V) : List (Key × V) := ks.map fun k => (kN k, f k)
theorem dmap_len (ks : List Nat) (f : Nat → V) : (dmap ks f).length = ks.length := by unfold dmap; rw [List.length_map]
theorem valV_dmap (f : Nat → V) (v : Nat) : ∀ ks : List Nat, valV (dmap ks f) (kN v) = if v ∈ ks then some (f v) else none
  | [] => by simp [dmap, valV_nil]
  | k :: ks => by
    have ih := valV_dmap f v ks
    show valV ((kN k, f k) :: dmap ks f) (kN v) = _
    by_cases h : k = v
    · subst h; rw [valV_pos rfl, if_pos List.mem_cons_self]
    · rw [valV_neg (fun e => h (kN_inj.mp e)), ih]
      by_cases h2 : v ∈ ks
      · rw [if_pos h2, if_pos (List.mem_cons_of_mem _ h2)]
      · rw [if_neg h2, if_neg (fun q => (List.mem_cons.mp q).elim (fun e => h e.symm) h2)]
theorem valV_mem {f : Nat → V} {v : Nat} {ks : List Nat} (h : v ∈ ks) : valV (dmap ks f) (kN v) = some (f v) := by rw [valV_dmap, if_pos h]
theorem valV_not {f : Nat → V} {v : Nat} {ks : List Nat} (h : v ∉ ks) : valV (dmap ks f) (kN v) = none := by rw [valV_dmap, if_neg h]
def upF (f : Nat → V) (v : Nat) (x : V) : Nat → V := fun u => if u = v then x else f u
theorem dmap_congr {ks : List Nat} {f g : Nat → V} (h : ∀ v ∈ ks, f v = g v) : dmap ks f = dmap ks g := List.map_congr_left fun k hk => by rw [h k hk]
theorem putK_old {ks : List Nat} {f : Nat → V} {v : Nat} (x : V) (h : v ∈ ks) : putK (dmap ks f) (kN v) x = dmap ks (upF f v x) := by
  unfold putK
  rw [valV_any, valV_mem h, if_pos (show (some (f v)).isSome = true from rfl)]
  unfold dmap
  rw [List.map_map]
  refine List.map_congr_left fun k _ => ?_
  show (if kN k = kN v then (kN k, x) else (kN k, f k)) = (kN k, upF f v x k)
  unfold upF
  by_cases e : k = v
  · rw [if_pos (kN_inj.mpr e), if_pos e]
  · rw [if_neg (fun q => e (kN_inj.mp q)), if_neg e]
theorem putK_add {ks : List Nat} {f : Nat → V} {v : Nat} (x : V) (h : v ∉ ks) : putK (dmap ks f) (kN v) x = dmap (ks ++ [v]) (upF f v x) := by
  rw [putK_new _ (valV_not h)]
  unfold dmap
  rw [List.map_append]
  congr 1
  · refine List.map_congr_left fun k hk => ?_
    show (kN k, f k) = (kN k, upF f v x k)
    unfold upF
    rw [if_neg (fun (e : k = v) => h (by rw [← e]; exact hk))]
  · show [(kN v, x)] = [(kN v, upF f v x v)]
    unfold upF
    rw [if_pos rfl]
/-- a read of a dict of numbers -/
theorem dget_n {H : Hp} {a : Addr} {ks : List Nat} {f : Nat → V} {v : Nat} (h : Rd H a (.dK (dmap ks f))) (hv : v ∈ ks) : DGet H a (nV v) (some (f v)) :=
  .inl ⟨dmap ks f, kN v, h, rfl, (valV_mem hv).symm⟩
theorem dget_o {H : Hp} {a : Addr} {ks : List Nat} {f : Nat → V} (h : Rd H a (.dK (dmap ks f))) (v : Nat) : DGet H a (nV v) (if v ∈ ks then some (f v) else none) :=
  .inl ⟨dmap ks f, kN v, h, rfl, (valV_dmap f v ks).symm⟩
/-- a dict's key, any whole number -/
theorem dget_i {H : Hp} {a : Addr} {ks : List Nat} {f : Nat → V} (h : Rd H a (.dK (dmap ks f))) (i : Int) : DGet H a (.int i) (if 0 ≤ i ∧ i.toNat ∈ ks then some (f i.toNat) else none) := by
  by_cases h0 : 0 ≤ i
  · have e : i = ((i.toNat : Nat) : Int) := by omega
    have q := dget_o h i.toNat
    have e2 : nV i.toNat = .int i := by unfold nV; rw [← e]
    rw [e2] at q
    by_cases h1 : i.toNat ∈ ks
    · rw [if_pos ⟨h0, h1⟩]; rw [if_pos h1] at q; exact q
    · rw [if_neg (fun z => h1 z.2)]; rw [if_neg h1] at q; exact q
  · rw [if_neg (fun z => h0 z.1)]
    refine .inl ⟨dmap ks f, Sum.inl i, h, rfl, ?_⟩
    have : ∀ ks : List Nat, valV (dmap ks f) (Sum.inl i) = none := by
      intro ks
      induction ks with
      | nil => rfl
      | cons k ks ih =>
        show valV ((kN k, f k) :: dmap ks f) _ = none
        rw [valV_neg (fun e => ?_), ih]
        have := Sum.inl.inj (show (Sum.inl (k : Int) : Key) = Sum.inl i from e)
        omega
    exact (this ks).symm
theorem dput_old {H : Hp} {a : Addr} {ks : List Nat} {f : Nat → V} {v : Nat} {x : V} (h : H a = some (.dK (dmap ks f))) (hv : v ∈ ks) (hl : ks.length < sizeLine) : DPut H a (nV v) x (upd H a (.dK (dmap ks (upF f v x)))) :=
  .inl ⟨dmap ks f, kN v, h, rfl, by rw [dmap_len]; exact hl, by rw [putK_old x hv]⟩
theorem dput_add {H : Hp} {a : Addr} {ks : List Nat} {f : Nat → V} {v : Nat} {x : V} (h : H a = some (.dK (dmap ks f))) (hv : v ∉ ks) (hl : ks.length < sizeLine) : DPut H a (nV v) x (upd H a (.dK (dmap (ks ++ [v]) (upF f v x)))) :=
  .inl ⟨dmap ks f, kN v, h, rfl, by rw [dmap_len]; exact hl, by rw [putK_add x hv]⟩
theorem small100 {n : Nat} (h : n ≤ 100) : n < sizeLine := Nat.lt_of_le_of_lt h (by decide)
section
variable {X : Cx}
/-- len of a dict, locked or not -/
def rLenDR : List V → Hp → VK → Prop := fun xs H Q => ∃ a kvs, xs = [V.ref a] ∧ Rd H a (.dK kvs) ∧ Q (.int kvs.length) H
theorem call_lenDR : CallR X (.builtin "len") rLenDR := by
  intro pins s σ H xs us Q I r h
  obtain ⟨a, kvs, rfl, ha, q⟩ := h
  obtain ⟨u, rfl, ru⟩ := vals1 r
  cases ru
  exact d_len I ha fun t s' I' => ⟨.int kvs.length, H, I', ⟨t, rfl⟩, q⟩
def rFact : List V → Hp → VK → Prop := fun vs H Q => ∃ n : Nat, vs = [.int (n : Int)] ∧ n ≤ 20000 ∧ Q (.int ((Builtin.Math.factorialNat n : Nat) : Int)) H
theorem call_factorial : CallR X (.builtin "math.factorial") rFact := by
  intro pins s σ H vs us Q I r h
  obtain ⟨n, rfl, hn, q⟩ := h
  obtain ⟨u, rfl, t, rfl⟩ := vals1 r
  exact PySem.W.mc_factorial (by omega) (by omega) fun _ => ⟨.int _, H, I.tok _, ⟨_, rfl⟩, q⟩
/-- the value's dict locked for good -/
def tFrz (te : TE) : TE := fun σ H Q => te σ H fun x H1 => ∃ d kvs, x = .ref d ∧ H1 d = some (.dK kvs) ∧ ∀ o, Q x (upd H1 d (.frz o (.dK kvs)))
theorem pe_frz {e : Expr} {te : TE} (h : PE X e te) : PE X e (tFrz te) := ⟨fun pins s σ H Q I hw =>
  thn (h.run pins s σ H _ I hw) fun u s1 ⟨x, H1, I1, rx, d, kvs, ex, hd, q⟩ => by
    obtain ⟨o, I2⟩ := I1.lock hd (show Mut (some (.dK kvs)) from trivial)
    exact ⟨x, _, I2, rx, q o⟩⟩
end
theorem fac_eq : ∀ n, Builtin.Math.factorialNat n = Fo.fac n
  | 0 => rfl
  | n + 1 => by rw [PySem.W.mc_fac_succ, fac_eq n]; show _ = (n + 1) * Fo.fac n; rw [Nat.mul_comm]
theorem ifT {c : Bool} {A B : Prop} (hc : c = true) (h : A) : if c = true then A else B := by rw [if_pos hc]; exact h
theorem ifF {c : Bool} {A B : Prop} (hc : c = false) (h : B) : if c = true then A else B := by rw [hc, if_neg Bool.false_ne_true]; exact h
theorem pV_none : (!decide (pV none = V.non)) = false := by decide
theorem pV_some (q : Nat) : (!decide (pV (some q) = V.non)) = true := by
  show (!decide (V.int (q : Int) = V.non)) = true
  rw [decide_eq_false (fun e => nomatch e)]; rfl
/-- n below 2 ^ 64 as a factor -/
theorem mul_sm {i : Int} {n : Nat} (h : n ≤ 1000) : CMul i (n : Int) := .inr ⟨by omega, by omega⟩
/-! ### walks by what is gone through -/
abbrev WalkF {α : Type} (J : It) (xs : List α) (f : α → V) (G : Hp → Prop) : Prop := Walk J xs.length G (fun i H x H' => H' = H ∧ ∃ a, xs[i]? = some a ∧ x = f a)
theorem split_at {α : Type} {xs : List α} {i : Nat} {a : α} (h : xs[i]? = some a) : xs = xs.take i ++ a :: xs.drop (i + 1) := by
  obtain ⟨hi, rfl⟩ := List.getElem?_eq_some_iff.mp h
  rw [← List.drop_eq_getElem_cons hi, List.take_append_drop]
theorem take_snoc {α : Type} {xs : List α} {i : Nat} {a : α} (h : xs[i]? = some a) : xs.take (i + 1) = xs.take i ++ [a] := by
  rw [List.take_add_one, h]; rfl
section
variable {α : Type} {J : It} {xs : List α} {f : α → V} {G : Hp → Prop}
theorem for_pre (w : WalkF J xs f G) {g : TG} {tb : TS} {D : Ends} {σ : L2.St} {H : Hp} (Pv : List α → L2.St → Hp → Prop) (h0 : Pv [] σ H) (hG : ∀ pre σ H, Pv pre σ H → G H)
    (hs : ∀ pre a post σ H, xs = pre ++ a :: post → Pv pre σ H → g (f a) σ H fun σ2 H2 => tb { D with nx := Pv (pre ++ [a]), ct := Pv (pre ++ [a]), bk := D.nx } σ2 H2) (hd : ∀ σ H, Pv xs σ H → D.nx σ H) :
    ∃ W : Nat → Nat → L2.St → Hp → Prop, (∃ m, W 0 m σ H) ∧ ∀ i m σ H, W i m σ H →
      (J.stop i H ∧ D.nx σ H) ∨ (J.go i H ∧ ∃ N : L2.St → Hp → Prop, (∀ σ' H', N σ' H' → ∃ m', m' < m ∧ W (i + 1) m' σ' H') ∧ ∀ x H', J.yld i H x H' → g x σ H' fun σ2 H2 => tb { D with nx := N, ct := N, bk := D.nx } σ2 H2) := by
  refine for_it w (fun i => Pv (xs.take i)) (by rw [List.take_zero]; exact h0) (fun i σ H _ p => hG _ σ H p) (fun i x σ H H' hi p y => ?_) (fun σ H p => hd σ H (by rw [List.take_length] at p; exact p))
  obtain ⟨rfl, a, ha, rfl⟩ := y
  rw [take_snoc ha]
  exact hs _ a _ σ _ (split_at ha) p
theorem lc_pre (w : WalkF J xs f G) {g : TG} {tt : TT} {te : TE} {vs : List Nat} {σ : L2.St} {H1 : Hp} {D : Addr} {Qd : Hp → Prop} (Pv : List α → Hp → Prop) (h0 : Pv [] (upd H1 D (.lst []))) (hG : ∀ pre H, Pv pre H → G H)
    (hs : ∀ pre a post H, xs = pre ++ a :: post → Pv pre H → g (f a) (wipe σ vs) H fun σ2 H2 => wipe σ2 vs = wipe σ vs ∧ tt σ2 H2 fun b H3 =>
      if b = true then te σ2 H3 fun y H4 => ∃ acc, H4 D = some (.lst acc) ∧ acc.length < sizeLine ∧ Pv (pre ++ [a]) (upd H4 D (.lst (acc ++ [y]))) else Pv (pre ++ [a]) H3) (hd : ∀ H, Pv xs H → Qd H) :
    ∃ W : Nat → Nat → Hp → Prop, (∃ m, W 0 m (upd H1 D (.lst []))) ∧ ∀ i m H, W i m H →
      (J.stop i H ∧ Qd H) ∨ (J.go i H ∧ ∃ Nx : Hp → Prop, (∀ H', Nx H' → ∃ m', m' < m ∧ W (i + 1) m' H') ∧ ∀ x H', J.yld i H x H' → g x (wipe σ vs) H' fun σ2 H2 => wipe σ2 vs = wipe σ vs ∧ tt σ2 H2 fun b H3 =>
        if b = true then te σ2 H3 fun y H4 => ∃ acc, H4 D = some (.lst acc) ∧ acc.length < sizeLine ∧ Nx (upd H4 D (.lst (acc ++ [y]))) else Nx H3) := by
  refine lc_it w (fun i => Pv (xs.take i)) (by rw [List.take_zero]; exact h0) (fun i H _ p => hG _ H p) (fun i x H H' hi p y => ?_) (fun H p => hd H (by rw [List.take_length] at p; exact p))
  obtain ⟨rfl, a, ha, rfl⟩ := y
  rw [take_snoc ha]
  exact hs _ a _ _ (split_at ha) p
end
section
variable {α : Type} {K : PySem.W.Frag} {a d : Addr} {o : Obj}
theorem map_at {xs : List α} {f : α → V} {i : Nat} {x : V} (h : (xs.map f)[i]? = some x) : ∃ a, xs[i]? = some a ∧ x = f a := by
  rw [List.getElem?_map] at h
  cases e : xs[i]? with
  | none => rw [e] at h; cases h
  | some a => rw [e] at h; exact ⟨a, rfl, (Option.some.inj h).symm⟩
theorem wf_list (xs : List α) (f : α → V) : WalkF (Itl K a) xs f (fun H => SqL K H a (xs.map f)) := by
  have w := walk_list (K := K) (a := a) (xs := xs.map f)
  rw [List.length_map] at w
  exact w.mono (fun _ h => h) fun i H x H' _ _ y => ⟨y.1, map_at y.2⟩
theorem wf_tup (xs : List α) (f : α → V) : WalkF (Itt K a) xs f (fun H => SqT K H a (xs.map f)) := by
  have w := walk_tup (K := K) (a := a) (xs := xs.map f)
  rw [List.length_map] at w
  exact w.mono (fun _ h => h) fun i H x H' _ _ y => ⟨y.1, map_at y.2⟩
theorem wf_keys (ks : List Nat) (f : Nat → V) : WalkF (Itk d o (dmap ks f)) ks nV (fun H => H d = some (.frz o (.dK (dmap ks f)))) := by
  have w := walk_keys (d := d) (o := o) (kvs := dmap ks f)
  rw [dmap_len] at w
  refine w.mono (fun _ h => h) fun i H x H' _ _ y => ?_
  obtain ⟨e, k, v, h, hx⟩ := y
  unfold dmap at h
  rw [List.getElem?_map] at h
  cases q : ks[i]? with
  | none => rw [q] at h; cases h
  | some n =>
    rw [q] at h
    have h2 := Option.some.inj h
    have h3 : kN n = k := congrArg Prod.fst h2
    exact ⟨e, n, rfl, by rw [hx, ← h3]; rfl⟩
theorem wf_vals (ks : List Nat) (f : Nat → V) : WalkF (Itd d o (dmap ks f)) ks f (fun H => H d = some (.frz o (.dK (dmap ks f)))) := by
  have w := walk_values (d := d) (o := o) (kvs := dmap ks f)
  rw [dmap_len] at w
  refine w.mono (fun _ h => h) fun i H x H' _ _ y => ?_
  obtain ⟨e, k, h⟩ := y
  unfold dmap at h
  rw [List.getElem?_map] at h
  cases q : ks[i]? with
  | none => rw [q] at h; cases h
  | some n =>
    rw [q] at h
    have h2 := Option.some.inj h
    exact ⟨e, n, rfl, (congrArg Prod.snd h2).symm⟩
theorem wf_range (n : Nat) : WalkF (Itr 0 n) (List.range n) nV (fun _ => True) := by
  have w := walk_range (lo := 0) (n := n)
  have e : (List.range n).length = n := List.length_range
  refine ⟨fun i H hi h => w.goes i H (by rw [e] at hi; exact hi) h, fun H h => by rw [e]; exact w.stops H h, fun i H x H' hi h y => ?_⟩
  rw [e] at hi
  obtain ⟨h1, h2⟩ := w.yields i H x H' hi h y
  exact ⟨h1, i, List.getElem?_range hi, by rw [h2]; show V.int (0 + (i : Int)) = V.int (i : Int); rw [Int.zero_add]⟩
theorem wf_str (z : List Nat) : WalkF (Its ⟨z.toArray⟩) z (fun c => .str ⟨#[c]⟩) (fun _ => True) := by
  have w := walk_str (z := ⟨z.toArray⟩)
  refine ⟨fun i H hi h => w.goes i H (by simpa using hi) h, fun H h => by have := w.stops H h; simpa using this, fun i H x H' hi h y => ?_⟩
  obtain ⟨h1, c, h2, h3⟩ := w.yields i H x H' (by simpa using hi) h y
  exact ⟨h1, c, by simpa using h2, h3⟩
end
theorem rev_at {α : Type} {xs : List α} {i : Nat} (hi : i < xs.length) : xs.reverse[i]? = xs[xs.length - 1 - i]? := List.getElem?_reverse hi
/-- a reversed list -/
theorem wf_rev {α : Type} {K : PySem.W.Frag} {a : Addr} (xs : List α) (f : α → V) : WalkF (Itv K a (xs.map f).length) xs.reverse f (fun H => SqL K H a (xs.map f)) := by
  have w := walk_rev (K := K) (a := a) (xs := xs.map f)
  have e : (xs.map f).length = xs.reverse.length := by rw [List.length_map, List.length_reverse]
  refine ⟨fun i H hi h => w.goes i H (by rw [e]; exact hi) h, fun H h => by rw [← e]; exact w.stops H h, fun i H x H' hi h y => ?_⟩
  obtain ⟨h1, h2⟩ := w.yields i H x H' (by rw [e]; exact hi) h y
  rw [List.length_map] at h2
  obtain ⟨b, h3, h4⟩ := map_at h2
  exact ⟨h1, b, by rw [rev_at (by rw [List.length_reverse] at hi; exact hi)]; exact h3, h4⟩
theorem _root_.L2.Same.put {H H' : Hp} {d : Addr} {o : HO} (e : Same H H') (h : H d = none) : Same H (upd H' d o) := fun b u q => by
  rw [upd_ne (ne_of_none q h)]; exact e b u q
theorem _root_.L2.Same.new {H H' : Hp} {d : Addr} {o : HO} (e : Same H H') (h : H' d = none) : Same H (upd H' d o) := fun b u q => by
  rw [upd_ne (ne_of_none (e b u q) h)]; exact e b u q
/-- all that was tracked but a is as it was -/
def SameBut (a : Addr) (H H' : Hp) : Prop := ∀ b o, b ≠ a → H b = some o → H' b = some o
theorem SameBut.put {H H' : Hp} {a d : Addr} {o : HO} (e : SameBut a H H') (h : H d = none) : SameBut a H (upd H' d o) := fun b u n q => by
  rw [upd_ne (ne_of_none q h)]; exact e b u n q
theorem SameBut.set {H H' : Hp} {a : Addr} {o : HO} (e : SameBut a H H') : SameBut a H (upd H' a o) := fun b u n q => by
  rw [upd_ne n]; exact e b u n q
theorem SameBut.back {H H' : Hp} {a : Addr} {o : HO} (e : SameBut a H H') (h : H a = some o) : Same H (upd H' a o) := fun b u q => by
  by_cases hb : b = a
  · subst hb; rw [upd_same]; rw [h] at q; exact q
  · rw [upd_ne hb]; exact e b u hb q
theorem _root_.L2.Same.lock {H H' : Hp} {a : Addr} {o : HO} (e : Same H H') : SameBut a H (upd H' a o) := fun b u n q => by
  rw [upd_ne n]; exact e b u q
theorem _root_.L2.Rd.same {H H' : Hp} {a : Addr} {u : HO} (e : Same H H') (h : Rd H a u) : Rd H' a u := by
  rcases h with h | ⟨o, h⟩
  · exact .inl (e _ _ h)
  · exact .inr ⟨o, e _ _ h⟩
theorem sqt_same {K : PySem.W.Frag} {H H' : Hp} {a : Addr} {xs : List V} (e : Same H H') (h : SqT K H a xs) : SqT K H' a xs := by
  rcases h with h | h
  · exact .inl (L2.Rd.same e h)
  · exact .inr h
/-- the rising list of the same numbers -/
theorem sorted_ints {ns : List Nat} {ys : List Int} (asc : ns.Pairwise (· < ·)) (p : ys.Perm (ns.map fun n : Nat => (n : Int))) (h : ys.Pairwise (· ≤ ·)) : ys = ns.map fun n : Nat => (n : Int) := by
  refine List.Perm.eq_of_pairwise (le := (· ≤ ·)) (fun a b _ _ h1 h2 => by omega) h ?_ p
  rw [List.pairwise_map]
  exact asc.imp fun h => by omega
theorem map_nV (ns : List Nat) : (ns.map fun n : Nat => (n : Int)).map V.int = ns.map nV := by rw [List.map_map]; rfl
/-! ### forests in the heap -/
/-- the dict of the parents -/
def ParAt (H : Hp) (a : Addr) (F : Fo) : Prop := Rd H a (.dK (dmap F.ns fun v => pV (F.p v)))
/-- the dict of the branch sizes of what is left -/
def SzAt (H : Hp) (a : Addr) (F : Fo) (rem : List Nat) : Prop := Rd H a (.dK (dmap rem fun v => nV (F.sz rem v)))
/-- the chain from a parent on -/
def cho (F : Fo) : Option Nat → List Nat
  | none => []
  | some q => F.ch q
theorem ch_eq {F : Fo} {v : Nat} (h : v ∈ F.ns) : F.ch v = v :: cho F (F.p v) := by
  cases e : F.p v with
  | none => exact F.ch0 v h e
  | some q => exact F.chS v h q e
theorem ch_tail {F : Fo} {v : Nat} (h : v ∈ F.ns) : (F.ch v).tail = cho F (F.p v) := by rw [ch_eq h]; rfl
end K22
set_option Elab.async false
set_option linter.all false
set_option maxRecDepth 100000
set_option maxHeartbeats 4000000
namespace K22
open PySem PySem.Spec PyProof.Rows L2
/-! count_begun -/
section
variable {P : Program} {w : World} {K : PySem.W.Frag} {mg : Str → Option Value} {base : Heap}
/-- the number of orders of what is left -/
def oc (F : Fo) (rem : List Nat) : Nat := (F.orders rem.length rem).length
def spCB : Sp := fun vs H Q _ => ∃ (F : Fo) (pa sa : Addr) (rem : List Nat) (l : Nat), vs = [.ref pa, .ref sa, nV (oc F rem), nV l] ∧ ParAt H pa F ∧ SzAt H sa F rem ∧ F.Up rem ∧ l ∈ F.ops rem ∧ rem.length ≤ 64 ∧
  Q (nV (oc F (rem.erase l))) H
theorem oc_step {F : Fo} {rem : List Nat} (U : F.Up rem) {l : Nat} (h : l ∈ F.ops rem) :
    oc F rem * Fo.P (F.ch l).tail (F.sz rem) = rem.length * Fo.P (F.ch l).tail (fun v => F.sz rem v - 1) * oc F (rem.erase l) := by
  have hl := (Fo.mem_ops.mp h).1
  have h1 := Fo.hook rem.length rem U rfl
  have h2 := Fo.hook (rem.erase l).length (rem.erase l) (U.erase h) rfl
  obtain ⟨c1, c2⟩ := Fo.chain_split U h
  have hn : rem.length = (rem.erase l).length + 1 := by
    rw [List.length_erase_of_mem hl]
    have : 0 < rem.length := List.length_pos_of_mem hl
    omega
  have hf : Fo.fac rem.length = rem.length * Fo.fac (rem.erase l).length := by rw [hn]; rfl
  have hr : 1 ≤ Fo.P (rem.filter fun v => !decide (v ∈ F.ch l)) (F.sz rem) := Fo.P_pos fun v hv => Fo.sz_pos U (List.mem_filter.mp hv).1
  rw [c1] at h1
  rw [c2] at h2
  rw [hf, ← h2] at h1
  refine Nat.eq_of_mul_eq_mul_right hr ?_
  show oc F rem * _ * _ = _
  unfold oc
  generalize (F.orders rem.length rem).length = A at h1 ⊢
  generalize (F.orders (rem.erase l).length (rem.erase l)).length = B at h1 ⊢
  generalize Fo.P (F.ch l).tail (F.sz rem) = C at h1 ⊢
  generalize Fo.P (F.ch l).tail (fun v => F.sz rem v - 1) = D at h1 ⊢
  generalize Fo.P (rem.filter fun v => !decide (v ∈ F.ch l)) (F.sz rem) = R at h1 ⊢
  rw [Nat.mul_assoc, h1]
  simp only [Nat.mul_assoc, Nat.mul_left_comm, Nat.mul_comm]
theorem P_le {l : List Nat} {f : Nat → Nat} {b : Nat} (h : ∀ x ∈ l, f x ≤ 2 ^ b) : Fo.P l f ≤ 2 ^ (b * l.length) := by
  induction l with
  | nil => simp [Fo.P]
  | cons a l ih =>
    rw [Fo.P_cons, List.length_cons, Nat.mul_succ, Nat.add_comm, Nat.pow_add]
    exact Nat.mul_le_mul (h a (by simp)) (ih fun x hx => h x (by simp [hx]))
theorem sz_le {F : Fo} {rem : List Nat} (v : Nat) : F.sz rem v ≤ rem.length := List.length_filter_le ..
theorem sub_len : ∀ {a b : List Nat}, a.Nodup → (∀ x ∈ a, x ∈ b) → a.length ≤ b.length
  | [], _, _, _ => Nat.zero_le _
  | x :: a, b, na, h => by
    obtain ⟨n1, n2⟩ := List.nodup_cons.mp na
    have hx := h x (by simp)
    have ih := sub_len (a := a) (b := b.erase x) n2 fun y hy => (List.mem_erase_of_ne (fun e => n1 (by rw [← e]; exact hy))).mpr (h y (by simp [hy]))
    rw [List.length_erase_of_mem hx] at ih
    have : 0 < b.length := List.length_pos_of_mem hx
    rw [List.length_cons]; omega
theorem ch_len_le {F : Fo} {rem : List Nat} (U : F.Up rem) {v : Nat} (h : v ∈ rem) : (F.ch v).length ≤ rem.length := sub_len (Fo.ch_nodup v (U.sub v h)) fun x hx => Fo.ch_up U v (U.sub v h) h x hx
theorem P_split1 {F : Fo} {q : Nat} (h : q ∈ F.ns) (f : Nat → Nat) : Fo.P (F.ch q) f = f q * Fo.P (cho F (F.p q)) f := by rw [ch_eq h, Fo.P_cons]
theorem ok_count_begun (T : Tb mg) (F : Df K mg "count_begun" s_count_begun) : Cl P w K mg base 1 "count_begun" spCB := by
  refine cl_mk F sc_count_begun (fun vs H Q E h => ?_) (fun _ _ _ _ _ _ us hl => match us, hl with | [_, _, _, _], _ => rfl) (fun f cdv A outer s H vs Q E hr h => ?_)
  · obtain ⟨_, _, _, _, _, rfl, _⟩ := h; rfl
  · have hu := hu_of hr
    obtain ⟨F, pa, sa, rem, l, rfl, hp, hs, U, hl, h64, q⟩ := h
    refine ⟨_, PSs.nox (pss_cons (ps_set (i := 4) sc_count_begun.nd rfl (Or.inl rfl) (pv 2))
    (pss_cons (ps_set (i := 5) sc_count_begun.nd rfl (Or.inl rfl) (pe_callB call_lenDR (by rfl) T.n_len (by decide +kernel) (pa_cons (pv 1) pa_nil)))
    (pss_cons (ps_set (i := 6) sc_count_begun.nd rfl (Or.inl rfl) (pe_dget hu (pv 0) (pv 3) (fun _ _ => rfl)))
    (pss_cons (ps_while PassesOwn.never (pt_cmpR op_notN (pv 6) pe_non (nomark _))
      (pss_cons (ps_set (i := 4) sc_count_begun.nd rfl (Or.inl rfl) (pe_op op_mul (pv 4) (pe_dget hu (pv 1) (pv 6) (fun _ _ => rfl))))
      (pss_cons (ps_set (i := 5) sc_count_begun.nd rfl (Or.inl rfl) (pe_op op_mul (pv 5) (pe_op op_sub (pe_dget hu (pv 1) (pv 6) (fun _ _ => rfl)) pe_int)))
      (pss_one (ps_set (i := 6) sc_count_begun.nd rfl (Or.inl rfl) (pe_dget hu (pv 0) (pv 6) (fun _ _ => rfl)))))))
    (pss_one (ps_ret (pe_op op_fdivW (pv 4) (pv 5)))))))), ?_⟩
    obtain ⟨hlr, _⟩ := Fo.mem_ops.mp hl
    have hln := U.sub l hlr
    refine ⟨_, rfl, ?_⟩
    refine ⟨_, rfl, sa, _, rfl, hs, ?_⟩
    refine ⟨_, rfl, _, rfl, pa, _, rfl, dget_n hp hln, ?_⟩
    have tl : (F.ch l).tail = cho F (F.p l) := ch_tail hln
    have st := oc_step U hl
    rw [tl] at st
    have up1 : ∀ q, F.p l = some q → q ∈ rem := fun q e => U.up l hlr q e
    have big : ∀ x ∈ cho F (F.p l), 2 ≤ F.sz rem x := by rw [← tl]; exact Fo.tail_big U hl
    have ln : (cho F (F.p l)).length ≤ 64 := by
      have := ch_len_le U hlr
      rw [ch_eq hln, List.length_cons] at this; omega
    -- the loop: o is the place, u and d the products so far
    refine ⟨fun m σ H' => ∃ (o : Option Nat) (u d : Nat), H' = H ∧ m = (cho F o).length ∧ (∀ q, o = some q → q ∈ rem) ∧ (∀ x ∈ cho F o, 2 ≤ F.sz rem x) ∧
      σ = [some (.ref pa), some (.ref sa), some (nV (oc F rem)), some (nV l), some (nV u), some (nV d), some (pV o)] ∧
      u * Fo.P (cho F o) (F.sz rem) = oc F rem * Fo.P (cho F (F.p l)) (F.sz rem) ∧ d * Fo.P (cho F o) (fun v => F.sz rem v - 1) = rem.length * Fo.P (cho F (F.p l)) (fun v => F.sz rem v - 1), ?_, ?_⟩
    · exact ⟨_, F.p l, oc F rem, rem.length, rfl, rfl, up1, big, congrArg (fun n : Nat => [some (V.ref pa), some (V.ref sa), some (nV (oc F rem)), some (nV l), some (nV (oc F rem)), some (nV n), some (pV (F.p l))]) (dmap_len ..), rfl, rfl⟩
    · rintro m σ H' ⟨o, u, d, rfl, rfl, hq, hb, rfl, e1, e2⟩
      refine ⟨_, rfl, rfl, _, rfl, ?_⟩
      cases o with
      | none =>
        refine ifF pV_none ?_
        have e1' : u = oc F rem * Fo.P (cho F (F.p l)) (F.sz rem) := by rw [← e1]; show u = u * 1; omega
        have e2' : d = rem.length * Fo.P (cho F (F.p l)) (fun v => F.sz rem v - 1) := by rw [← e2]; show d = d * 1; omega
        have hd : 1 ≤ d := by
          rw [e2']
          exact Nat.mul_pos (List.length_pos_of_mem hlr) (Fo.P_pos fun x hx => by have := big x hx; omega)
        have hd2 : d < 2 ^ 1000 := by
          rw [e2']
          have p1 : Fo.P (cho F (F.p l)) (fun v => F.sz rem v - 1) ≤ 2 ^ (6 * (cho F (F.p l)).length) := P_le fun x hx => by
            have : F.sz rem x ≤ rem.length := sz_le x
            show F.sz rem x - 1 ≤ 2 ^ 6
            omega
          have p2 : 2 ^ (6 * (cho F (F.p l)).length) ≤ 2 ^ 400 := Nat.pow_le_pow_right (by decide) (by omega)
          calc rem.length * _ ≤ 2 ^ 6 * 2 ^ 400 := Nat.mul_le_mul (by omega) (Nat.le_trans p1 p2)
            _ < 2 ^ 1000 := by decide +kernel
        have hv : ((u : Int) / (d : Int)) = ((oc F (rem.erase l) : Nat) : Int) := by
          have : u = d * oc F (rem.erase l) := by rw [e1', e2']; exact st
          rw [this, Int.natCast_mul, Int.mul_ediv_cancel_left _ (by omega)]
        refine ⟨_, rfl, _, rfl, (u : Int), (d : Int), rfl, rfl, wide_div (b := 1000) (by omega) (by omega) (by decide) (by decide), ?_⟩
        show Q (V.int ((u : Int) / (d : Int))) H'
        rw [hv]
        exact q
      | some x =>
        have hx : x ∈ rem := hq x rfl
        have hxn := U.sub x hx
        have s64 : F.sz rem x ≤ 64 := Nat.le_trans (sz_le x) h64
        have s2 : 2 ≤ F.sz rem x := hb x (by show x ∈ F.ch x; exact Fo.mem_ch_self hxn)
        refine ifT (pV_some x) ⟨fun σ' H'' => ∃ m', m' < (F.ch x).length ∧ _, fun _ _ z => z, ?_⟩
        refine ⟨_, rfl, _, rfl, _, rfl, sa, _, rfl, dget_n hs hx, (u : Int), ((F.sz rem x : Nat) : Int), rfl, rfl, mul_sm (by omega), ?_⟩
        refine ⟨_, rfl, _, rfl, _, rfl, sa, _, rfl, dget_n hs hx, ((F.sz rem x : Nat) : Int), 1, rfl, rfl, (d : Int), _, rfl, rfl, .inr ⟨by omega, by omega⟩, ?_⟩
        refine ⟨_, rfl, _, rfl, pa, _, rfl, dget_n hp hxn, ?_⟩
        refine ⟨(cho F (F.p x)).length, by rw [ch_eq hxn]; exact Nat.lt_succ_self _, F.p x, u * F.sz rem x, d * (F.sz rem x - 1), rfl, rfl, fun q e => U.up x hx q e, fun y hy => hb y (by show y ∈ F.ch x; rw [ch_eq hxn]; exact List.mem_cons_of_mem _ hy), ?_, ?_, ?_⟩
        · have c1 : (u : Int) * ((F.sz rem x : Nat) : Int) = ((u * F.sz rem x : Nat) : Int) := (Int.natCast_mul ..).symm
          have c2 : (d : Int) * (((F.sz rem x : Nat) : Int) - 1) = ((d * (F.sz rem x - 1) : Nat) : Int) := by
            rw [Int.natCast_mul, Int.natCast_sub (by omega)]; rfl
          show [some (V.ref pa), some (V.ref sa), some (nV (oc F rem)), some (nV l), some (V.int ((u : Int) * ((F.sz rem x : Nat) : Int))), some (V.int ((d : Int) * (((F.sz rem x : Nat) : Int) - 1))), some (pV (F.p x))] = _
          rw [c1, c2]; rfl
        · rw [← e1]
          show _ = u * Fo.P (F.ch x) _
          rw [P_split1 hxn, Nat.mul_assoc]
        · rw [← e2]
          show _ = d * Fo.P (F.ch x) _
          rw [P_split1 hxn, Nat.mul_assoc]
end
end K22
set_option Elab.async false
set_option linter.all false
set_option maxRecDepth 100000
set_option maxHeartbeats 4000000
namespace K22
open PySem PySem.Spec PyProof.Rows L2
/-! branch_sizes -/
section
variable {P : Program} {w : World} {K : PySem.W.Frag} {mg : Str → Option Value} {base : Heap}
theorem Fo.upNs (F : Fo) : F.Up F.ns := ⟨fun _ h => h, F.asc, fun v hv q e => F.cl v hv q e⟩
theorem sz_snoc {F : Fo} (l : List Nat) (u v : Nat) : F.sz (l ++ [u]) v = F.sz l v + if v ∈ F.ch u then 1 else 0 := by
  unfold Fo.sz
  rw [List.filter_append, List.length_append, List.filter_cons]
  by_cases h : v ∈ F.ch u
  · rw [if_pos (by simpa using h), if_pos h]; rfl
  · rw [if_neg (by simpa using h), if_neg h]; rfl
def ParD (F : Fo) : HO := .dK (dmap F.ns fun v => pV (F.p v))
def SzD (F : Fo) (rem : List Nat) : HO := .dK (dmap rem fun v => nV (F.sz rem v))
def spBS : Sp := fun vs H Q _ => ∃ (F : Fo) (pa : Addr), vs = [.ref pa] ∧ H pa = some (ParD F) ∧ F.ns.length < 64 ∧
  ∀ (H' : Hp) (d : Addr), Same H H' → H d = none → H' d = some (SzD F F.ns) → Q (.ref d) H'
/-- the sizes within a turn: u's chain is told but for what is left of it -/
def szW (F : Fo) (pre : List Nat) (u : Nat) (o : Option Nat) (v : Nat) : V := nV (F.sz pre v + if v ∈ F.ch u ∧ v ∉ cho F o then 1 else 0)
theorem szW_step {F : Fo} {pre : List Nat} {u x : Nat} (hx : x ∈ F.ns) (hc : x ∈ F.ch u) (ks : List Nat) :
    dmap ks (upF (szW F pre u (some x)) x (.int (((F.sz pre x + if x ∈ F.ch u ∧ x ∉ cho F (some x) then 1 else 0 : Nat) : Int) + 1))) = dmap ks (szW F pre u (F.p x)) := by
  refine dmap_congr fun v _ => ?_
  have hxx : x ∈ cho F (some x) := Fo.mem_ch_self hx
  have hnx : x ∉ cho F (F.p x) := by
    cases e : F.p x with
    | none => simp [cho]
    | some q => exact Fo.not_mem_up hx e
  unfold upF
  by_cases e : v = x
  · subst e
    rw [if_pos rfl, if_neg (fun z => z.2 hxx)]
    unfold szW
    rw [if_pos ⟨hc, hnx⟩]
    rfl
  · rw [if_neg e]
    unfold szW
    have : v ∉ cho F (some x) ↔ v ∉ cho F (F.p x) := by
      show v ∉ F.ch x ↔ _
      rw [ch_eq hx]
      simp [e]
    simp only [this]
theorem ok_branch_sizes (T : Tb mg) (F : Df K mg "branch_sizes" s_branch_sizes) : Cl P w K mg base 1 "branch_sizes" spBS := by
  refine cl_mk F sc_branch_sizes (fun vs H Q E h => ?_) (fun _ _ _ _ _ _ us hl => match us, hl with | [_], _ => rfl) (fun f cdv A outer s H vs Q E hr h => ?_)
  · obtain ⟨_, _, rfl, _⟩ := h; rfl
  · have hu := hu_of hr
    obtain ⟨F, pa, rfl, hp, h64, q⟩ := h
    refine ⟨_, PSs.nox (pss_cons (ps_set (i := 1) sc_branch_sizes.nd rfl (Or.inl rfl) pe_dnewK)
    (pss_cons (ps_for PassesOwn.never rfl (pi_list (pe_callB (call_sortedDI rfl) (by rfl) T.n_sorted (by decide +kernel) (pa_cons (pv 0) pa_nil))) (pg_name (i := 2) sc_branch_sizes.nd rfl (Or.inl rfl))
      (pss_one (ps_dput hu (pv 1) (pv 2) pe_int rfl)))
    (pss_cons (ps_lock (ps_for PassesOwn.never rfl (pi_keys (pv 0)) (pg_name (i := 2) sc_branch_sizes.nd rfl (Or.inl rfl))
      (pss_cons (ps_set (i := 3) sc_branch_sizes.nd rfl (Or.inl rfl) (pv 2))
      (pss_one (ps_while PassesOwn.never (pt_cmpR op_notN (pv 3) pe_non (nomark _))
        (pss_cons (ps_dput hu (pv 1) (pv 3) (pe_op op_add (pe_dget hu (pv 1) (pv 3) (fun _ _ => rfl)) pe_int) rfl)
        (pss_one (ps_set (i := 3) sc_branch_sizes.nd rfl (Or.inl rfl) (pe_dget hu (pv 0) (pv 3) (fun _ _ => rfl))))))))))
    (pss_one (ps_ret (pv 1)))))), ?_⟩
    -- sizes = {}
    intro d hd
    have npd : pa ≠ d := ne_of_none hp hd
    refine ⟨_, rfl, pa, _, F.ns.map fun n : Nat => (n : Int), rfl, .inl ((upd_ne npd).trans hp), ?_, by rw [List.length_map]; exact h64, fun ys l perm asc hl => ?_⟩
    · show (dmap F.ns _).map (·.1) = _
      unfold dmap
      rw [List.map_map, List.map_map]; rfl
    have eys := sorted_ints F.asc perm asc
    subst eys
    have hld : l ≠ d := fun e => by rw [e, upd_same] at hl; cases hl
    have hl0 : H l = none := by rw [upd_ne hld] at hl; exact hl
    refine ⟨l, rfl, ⟨_, SqL.of upd_same⟩, for_pre (wf_list (K := K) (a := l) F.ns nV)
      (fun pre σ H' => ∃ v, σ = [some (.ref pa), some (.ref d), v, none] ∧ Same H H' ∧ H' l = some (.lst (F.ns.map nV)) ∧ H' d = some (.dK (dmap pre fun _ => nV 0))) ?_ ?_ ?_ ?_⟩
    · refine ⟨none, rfl, ((Same.refl H).new hd).new hl, ?_, ?_⟩
      · rw [upd_same, map_nV]
      · rw [upd_ne hld.symm, upd_same]; rfl
    · rintro pre σ H' ⟨v, rfl, s1, h1, h2⟩
      exact SqL.of h1
    · rintro pre a post σ H' e ⟨v, rfl, s1, h1, h2⟩
      have hn : a ∉ pre := fun hm => by
        have nd := Fo.nodup_of_asc F.asc
        rw [e] at nd
        exact (List.nodup_append.mp nd).2.2 a hm a List.mem_cons_self rfl
      have hlen : pre.length < 100 := by
        have : F.ns.length = pre.length + (post.length + 1) := by rw [e, List.length_append, List.length_cons]
        omega
      refine ⟨_, rfl, _, rfl, d, _, rfl, dput_add h2 hn (small100 (by omega)), ?_⟩
      refine ⟨_, rfl, s1.put hd, by rw [upd_ne hld]; exact h1, ?_⟩
      rw [upd_same]
      congr 2
      refine dmap_congr fun u _ => ?_
      unfold upF
      by_cases e2 : u = a
      · rw [if_pos e2]; rfl
      · rw [if_neg e2]
    · rintro σ H1 ⟨v, rfl, s1, h1, h2⟩
      have hp1 := s1 _ _ hp
      refine ⟨pa, _, hp1, trivial, fun od => ?_⟩
      refine ⟨_, rfl, pa, od, rfl, .inl ⟨_, upd_same, for_pre (wf_keys (d := pa) (o := od) F.ns fun v => pV (F.p v))
        (fun pre σ H' => ∃ v1 v2, σ = [some (.ref pa), some (.ref d), v1, v2] ∧ SameBut pa H H' ∧ H' pa = some (.frz od (ParD F)) ∧ H' d = some (.dK (dmap F.ns fun v => nV (F.sz pre v)))) ?_ ?_ ?_ ?_⟩⟩
      · refine ⟨_, _, rfl, s1.lock, upd_same, ?_⟩
        rw [upd_ne npd.symm]
        exact h2
      · rintro pre σ H' ⟨v1, v2, rfl, _, h, _⟩
        exact h
      · rintro pre u post σ H' e ⟨v1, v2, rfl, s2, hz, hd2⟩
        have hun : u ∈ F.ns := by rw [e]; simp
        refine ⟨_, rfl, ?_⟩
        -- above = slot; while above is not None
        refine ⟨fun m σ H'' => ∃ o : Option Nat, m = (cho F o).length ∧ (∀ x, o = some x → x ∈ F.ns ∧ x ∈ F.ch u) ∧ σ = [some (.ref pa), some (.ref d), some (nV u), some (pV o)] ∧ SameBut pa H H'' ∧ H'' pa = some (.frz od (ParD F)) ∧ H'' d = some (.dK (dmap F.ns (szW F pre u o))), ⟨_, some u, rfl, fun x ex => by cases ex; exact ⟨hun, Fo.mem_ch_self hun⟩, rfl, s2, hz, ?_⟩, ?_⟩
        · rw [hd2]
          congr 2
          refine dmap_congr fun v _ => ?_
          unfold szW
          rw [if_neg (fun z => z.2 z.1)]; rfl
        · rintro m σ H'' ⟨o, rfl, ho, rfl, s3, hz3, hd3⟩
          refine ⟨_, rfl, rfl, _, rfl, ?_⟩
          cases o with
          | none =>
            refine ifF pV_none ⟨_, _, rfl, s3, hz3, ?_⟩
            rw [hd3]
            congr 2
            refine dmap_congr fun v _ => ?_
            unfold szW
            rw [sz_snoc]
            simp [cho]
          | some x =>
            obtain ⟨hxn, hxc⟩ := ho x rfl
            refine ifT (pV_some x) ⟨fun σ' H3 => ∃ m', m' < (F.ch x).length ∧ _, fun _ _ z => z, ?_⟩
            refine ⟨_, rfl, _, rfl, d, _, rfl, dget_n (.inl hd3) hxn, _, 1, rfl, rfl, ?_⟩
            refine ⟨_, rfl, _, rfl, d, _, rfl, dput_old hd3 hxn (small100 (by omega)), ?_⟩
            refine ⟨_, rfl, _, rfl, pa, _, rfl, dget_n (.inr ⟨od, by rw [upd_ne npd]; exact hz3⟩) hxn, ?_⟩
            refine ⟨(cho F (F.p x)).length, by rw [ch_eq hxn]; exact Nat.lt_succ_self _, F.p x, rfl, fun y ey => ⟨F.cl x hxn y ey, ?_⟩, rfl, s3.put hd, by rw [upd_ne npd]; exact hz3, ?_⟩
            · exact Fo.ch_trans u hun x hxc y (by rw [F.chS x hxn y ey]; exact List.mem_cons_of_mem _ (Fo.mem_ch_self (F.cl x hxn y ey)))
            · rw [upd_same]
              congr 2
              exact szW_step hxn hxc F.ns
      · rintro σ H' ⟨v1, v2, rfl, s2, hz, hd2⟩
        refine ⟨hz, ?_⟩
        refine ⟨_, rfl, ?_⟩
        exact q _ d (s2.back hp) hd (by rw [upd_ne npd.symm]; exact hd2)
end
end K22
set_option Elab.async false
set_option linter.all false
set_option maxRecDepth 100000
set_option maxHeartbeats 4000000
namespace K22
open PySem PySem.Spec PyProof.Rows L2
/-! sizes_without, order_count -/
section
variable {P : Program} {w : World} {K : PySem.W.Frag} {mg : Str → Option Value} {base : Heap}
def spSW : Sp := fun vs H Q _ => ∃ (F : Fo) (pa sa : Addr) (rem : List Nat) (l : Nat), vs = [.ref pa, .ref sa, nV l] ∧ ParAt H pa F ∧ H sa = some (SzD F rem) ∧ F.Up rem ∧ l ∈ F.ops rem ∧ rem.length ≤ 64 ∧ sa ≠ pa ∧
  ∀ (H' : Hp) (d : Addr), Same H H' → H d = none → H' d = some (SzD F (rem.erase l)) → Q (.ref d) H'
/-- the sizes while l's chain is gone up -/
def szD (F : Fo) (rem : List Nat) (l : Nat) (o : Option Nat) (v : Nat) : V := .int ((F.sz rem v : Int) - if v ∈ cho F (F.p l) ∧ v ∉ cho F o then 1 else 0)
theorem szD_step {F : Fo} {rem : List Nat} {l x : Nat} (hx : x ∈ F.ns) (hc : x ∈ cho F (F.p l)) (ks : List Nat) :
    dmap ks (upF (szD F rem l (some x)) x (.int (((F.sz rem x : Int) - if x ∈ cho F (F.p l) ∧ x ∉ cho F (some x) then 1 else 0) - 1))) = dmap ks (szD F rem l (F.p x)) := by
  refine dmap_congr fun v _ => ?_
  have hxx : x ∈ cho F (some x) := Fo.mem_ch_self hx
  have hnx : x ∉ cho F (F.p x) := by
    cases e : F.p x with
    | none => simp [cho]
    | some q => exact Fo.not_mem_up hx e
  unfold upF
  by_cases e : v = x
  · subst e
    rw [if_pos rfl, if_neg (fun z => z.2 hxx)]
    unfold szD
    rw [if_pos ⟨hc, hnx⟩, Int.sub_zero]
  · rw [if_neg e]
    unfold szD
    have : v ∉ cho F (some x) ↔ v ∉ cho F (F.p x) := by
      show v ∉ F.ch x ↔ _
      rw [ch_eq hx]
      simp [e]
    simp only [this]
theorem ok_sizes_without (T : Tb mg) (F : Df K mg "sizes_without" s_sizes_without) : Cl P w K mg base 1 "sizes_without" spSW := by
  refine cl_mk F sc_sizes_without (fun vs H Q E h => ?_) (fun _ _ _ _ _ _ us hl => match us, hl with | [_, _, _], _ => rfl) (fun f cdv A outer s H vs Q E hr h => ?_)
  · obtain ⟨_, _, _, _, _, rfl, _⟩ := h; rfl
  · have hu := hu_of hr
    obtain ⟨F, pa, sa, rem, l, rfl, hp, hs, U, hl, h64, nsp, q⟩ := h
    refine ⟨_, PSs.nox (pss_cons (ps_set (i := 3) sc_sizes_without.nd rfl (Or.inl rfl) pe_dnewK)
    (pss_cons (ps_lock (ps_for PassesOwn.never rfl (pi_keys (pv 1)) (pg_name (i := 4) sc_sizes_without.nd rfl (Or.inl rfl))
      (pss_one (ps_if (pt_cmpR op_ne (pv 4) (pv 2) (nomark _))
        (pss_one (ps_dput hu (pv 3) (pv 4) (pe_dget hu (pv 1) (pv 4) (fun _ _ => rfl)) rfl))
        pss_nil))))
    (pss_cons (ps_set (i := 5) sc_sizes_without.nd rfl (Or.inl rfl) (pe_dget hu (pv 0) (pv 2) (fun _ _ => rfl)))
    (pss_cons (ps_while PassesOwn.never (pt_cmpR op_notN (pv 5) pe_non (nomark _))
      (pss_cons (ps_dput hu (pv 3) (pv 5) (pe_op op_sub (pe_dget hu (pv 3) (pv 5) (fun _ _ => rfl)) pe_int) rfl)
      (pss_one (ps_set (i := 5) sc_sizes_without.nd rfl (Or.inl rfl) (pe_dget hu (pv 0) (pv 5) (fun _ _ => rfl))))))
    (pss_one (ps_ret (pv 3))))))), ?_⟩
    obtain ⟨hlr, _⟩ := Fo.mem_ops.mp hl
    have hln := U.sub l hlr
    have nd := Fo.nodup_of_asc U.asc
    -- rest = {}
    intro d hd
    have nsd : sa ≠ d := ne_of_none hs hd
    refine ⟨sa, _, (upd_ne nsd).trans hs, trivial, fun od => ?_⟩
    refine ⟨_, rfl, sa, od, rfl, .inl ⟨_, upd_same, for_pre (wf_keys (d := sa) (o := od) rem fun v => nV (F.sz rem v))
      (fun pre σ H' => ∃ v1 v2, σ = [some (.ref pa), some (.ref sa), some (nV l), some (.ref d), v1, v2] ∧ SameBut sa H H' ∧ H' sa = some (.frz od (SzD F rem)) ∧ H' d = some (.dK (dmap (pre.filter (· ≠ l)) fun v => nV (F.sz rem v)))) ?_ ?_ ?_ ?_⟩⟩
    · refine ⟨_, _, rfl, ((Same.refl H).new hd).lock, upd_same, ?_⟩
      rw [upd_ne nsd.symm, upd_same]; rfl
    · rintro pre σ H' ⟨v1, v2, rfl, _, h, _⟩
      exact h
    · rintro pre u post σ H' e ⟨v1, v2, rfl, s1, hz, hd1⟩
      have hur : u ∈ rem := by rw [e]; simp
      refine ⟨_, rfl, _, rfl, rfl, _, rfl, ?_⟩
      by_cases c : u = l
      · refine ifF (by rw [c]; simp) ⟨_, _, rfl, s1, hz, ?_⟩
        rw [hd1, List.filter_append, List.filter_cons, if_neg (by simpa using c)]
        simp
      · have hnu : u ∉ pre.filter (· ≠ l) := fun hm => by
          have nd2 := nd
          rw [e] at nd2
          exact (List.nodup_append.mp nd2).2.2 u (List.mem_filter.mp hm).1 u List.mem_cons_self rfl
        have hlen : (pre.filter (· ≠ l)).length < 100 := by
          have h1 : rem.length = pre.length + (post.length + 1) := by rw [e, List.length_append, List.length_cons]
          have h2 := List.length_filter_le (fun x => decide (x ≠ l)) pre
          omega
        refine ifT (by
          have : ¬ nV u = nV l := fun z => c (by have := V.int.inj z; omega)
          rw [decide_eq_false this]; rfl) ?_
        refine ⟨_, rfl, _, rfl, sa, _, rfl, dget_n (.inr ⟨od, hz⟩) hur, ?_⟩
        refine ⟨_, rfl, _, rfl, d, _, rfl, dput_add hd1 hnu (small100 (by omega)), ?_⟩
        refine ⟨_, _, rfl, s1.put hd, by rw [upd_ne nsd]; exact hz, ?_⟩
        rw [upd_same, List.filter_append, List.filter_cons, if_pos (by simpa using c)]
        congr 2
        refine dmap_congr fun v _ => ?_
        unfold upF
        by_cases e2 : v = u
        · rw [if_pos e2, e2]
        · rw [if_neg e2]
    · rintro σ H1 ⟨v1, v2, rfl, s1, hz, hd1⟩
      refine ⟨hz, ?_⟩
      have s2 : Same H (upd H1 sa (.dK (dmap rem fun v => nV (F.sz rem v)))) := s1.back hs
      have efl : rem.filter (· ≠ l) = rem.erase l := by rw [nd.erase_eq_filter]; exact List.filter_congr fun x _ => by by_cases h : x = l <;> simp [h]
      have hp2 : ParAt (upd H1 sa (.dK (dmap rem fun v => nV (F.sz rem v)))) pa F := hp.same s2
      refine ⟨_, rfl, _, rfl, pa, _, rfl, dget_n hp2 hln, ?_⟩
      have tl : (F.ch l).tail = cho F (F.p l) := ch_tail hln
      have hmem : ∀ x ∈ cho F (F.p l), x ∈ rem.erase l := fun x hx => by
        have hxc : x ∈ F.ch l := by rw [ch_eq hln]; exact List.mem_cons_of_mem _ hx
        refine (List.mem_erase_of_ne fun e => ?_).mpr (Fo.ch_up U l hln hlr x hxc)
        have := Fo.ch_nodup l hln
        rw [ch_eq hln] at this
        exact (List.nodup_cons.mp this).1 (e ▸ hx)
      have hlen2 : (rem.erase l).length ≤ 64 := Nat.le_trans (by rw [List.length_erase_of_mem hlr]; omega) h64
      refine ⟨fun m σ H'' => ∃ o : Option Nat, m = (cho F o).length ∧ (∀ x, o = some x → x ∈ cho F (F.p l)) ∧ (∃ v1 , σ = [some (.ref pa), some (.ref sa), some (nV l), some (.ref d), v1, some (pV o)]) ∧ Same H H'' ∧ H'' d = some (.dK (dmap (rem.erase l) (szD F rem l o))), ⟨_, F.p l, rfl, fun x ex => ?_, ⟨_, rfl⟩, s2, ?_⟩, ?_⟩
      · rw [ex]; exact Fo.mem_ch_self (F.cl l hln x ex)
      · rw [upd_ne nsd.symm, hd1, efl]
        congr 2
        refine dmap_congr fun v _ => ?_
        unfold szD
        rw [if_neg (fun z => z.2 z.1), Int.sub_zero]; rfl
      · rintro m σ H'' ⟨o, rfl, ho, ⟨v3, rfl⟩, s3, hd3⟩
        refine ⟨_, rfl, rfl, _, rfl, ?_⟩
        cases o with
        | none =>
          refine ifF pV_none ⟨_, rfl, ?_⟩
          refine q _ d s3 hd ?_
          rw [hd3]
          unfold SzD
          congr 2
          refine dmap_congr fun v hv => ?_
          unfold szD
          have e1 := Fo.sz_erase U hlr v
          have hvl : v ≠ l := fun e => nd.not_mem_erase (e ▸ hv)
          have : v ∈ F.ch l ↔ v ∈ cho F (F.p l) := by rw [ch_eq hln]; simp [hvl]
          show V.int _ = V.int _
          congr 1
          by_cases hc : v ∈ cho F (F.p l)
          · rw [if_pos ⟨hc, by simp [cho]⟩]
            rw [if_pos (this.mpr hc)] at e1
            omega
          · rw [if_neg (fun z => hc z.1)]
            rw [if_neg (fun z => hc (this.mp z))] at e1
            omega
        | some x =>
          have hxc := ho x rfl
          have hxr := hmem x hxc
          have hxn := U.sub x (List.mem_of_mem_erase hxr)
          refine ifT (pV_some x) ⟨fun σ' H3 => ∃ m', m' < (F.ch x).length ∧ _, fun _ _ z => z, ?_⟩
          refine ⟨_, rfl, _, rfl, d, _, rfl, dget_n (.inl hd3) hxr, _, 1, rfl, rfl, ?_⟩
          refine ⟨_, rfl, _, rfl, d, _, rfl, dput_old hd3 hxr (small100 (by omega)), ?_⟩
          refine ⟨_, rfl, _, rfl, pa, _, rfl, dget_n (hp.same (s3.put hd)) hxn, ?_⟩
          refine ⟨(cho F (F.p x)).length, by rw [ch_eq hxn]; exact Nat.lt_succ_self _, F.p x, rfl, fun y ey => ?_, ⟨_, rfl⟩, s3.put hd, ?_⟩
          · have hxl : x ∈ F.ch l := by rw [ch_eq hln]; exact List.mem_cons_of_mem _ hxc
            have hyx : y ∈ F.ch x := by rw [F.chS x hxn y ey]; exact List.mem_cons_of_mem _ (Fo.mem_ch_self (F.cl x hxn y ey))
            have hyl := Fo.ch_trans l hln x hxl y hyx
            rw [ch_eq hln] at hyl
            rcases List.mem_cons.mp hyl with e | hyl
            · exfalso
              -- l above x above l
              have h1 := Fo.ch_len x hxn y hyx
              have h2 : (F.ch y).length < (F.ch x).length := by rw [F.chS x hxn y ey, List.length_cons]; exact Nat.lt_succ_self _
              have h3 := Fo.ch_len l hln x hxl
              rw [e] at h2
              omega
            · exact hyl
          · rw [upd_same]
            congr 2
            exact szD_step hxn hxc (rem.erase l)
/-! order_count -/
def spOC : Sp := fun vs H Q _ => ∃ (F : Fo) (pa : Addr), vs = [.ref pa] ∧ H pa = some (ParD F) ∧ F.ns.length < 64 ∧ ∀ H' : Hp, Same H H' → Q (nV (oc F F.ns)) H'
theorem P_snoc (l : List Nat) (a : Nat) (f : Nat → Nat) : Fo.P (l ++ [a]) f = Fo.P l f * f a := by
  induction l with
  | nil => simp [Fo.P]
  | cons b l ih => rw [List.cons_append, Fo.P_cons, ih, Fo.P_cons, Nat.mul_assoc]
theorem ok_order_count (T : Tb mg) (gF : mg "factorial" = some (.builtin "math.factorial")) (F : Df K mg "order_count" s_order_count) (c_branch_sizes : Cl P w K mg base 1 "branch_sizes" spBS) : Cl P w K mg base 2 "order_count" spOC := by
  refine cl_mk F sc_order_count (fun vs H Q E h => ?_) (fun _ _ _ _ _ _ us hl => match us, hl with | [_], _ => rfl) (fun f cdv A outer s H vs Q E hr h => ?_)
  · obtain ⟨_, _, rfl, _⟩ := h; rfl
  · have hu := hu_of hr
    obtain ⟨F, pa, rfl, hp, h64, q⟩ := h
    refine ⟨_, PSs.nox (pss_cons (ps_set (i := 1) sc_order_count.nd rfl (Or.inl rfl) pe_int)
    (pss_cons (ps_for PassesOwn.never rfl (pi_values (pe_frz (pe_cl c_branch_sizes hr (by decide) rfl (pa_cons (pv 0) pa_nil)))) (pg_name (i := 2) sc_order_count.nd rfl (Or.inl rfl))
      (pss_one (ps_set (i := 1) sc_order_count.nd rfl (Or.inl rfl) (pe_op op_mul (pv 1) (pv 2)))))
    (pss_one (ps_ret (pe_op op_fdivW (pe_callBfun call_factorial (by rfl) T.g_factorial (pa_cons (pe_callB call_lenDR (by rfl) T.n_len (by decide +kernel) (pa_cons (pv 0) pa_nil)) pa_nil)) (pv 1)))))), ?_⟩
    refine ⟨_, rfl, F, pa, rfl, hp, h64, fun H1 d s1 hd h1 => ⟨d, _, rfl, h1, fun o => ⟨d, o, _, rfl, upd_same, for_pre (wf_vals (d := d) (o := o) F.ns fun v => nV (F.sz F.ns v))
      (fun pre σ H' => ∃ v, σ = [some (.ref pa), some (nV (Fo.P pre (F.sz F.ns))), v] ∧ Same H H' ∧ H' d = some (.frz o (SzD F F.ns))) ?_ ?_ ?_ ?_⟩⟩⟩
    · exact ⟨_, rfl, s1.put hd, upd_same⟩
    · rintro pre σ H' ⟨v, rfl, _, h⟩
      exact h
    · rintro pre a post σ H' e ⟨v, rfl, s2, h2⟩
      have hle : F.sz F.ns a ≤ 64 := Nat.le_trans (sz_le a) (by omega)
      refine ⟨_, rfl, _, rfl, _, ((F.sz F.ns a : Nat) : Int), rfl, rfl, mul_sm (by omega), ?_⟩
      refine ⟨some (nV (F.sz F.ns a)), ?_, s2, h2⟩
      show [some (V.ref pa), some (V.int (((Fo.P pre (F.sz F.ns) : Nat) : Int) * ((F.sz F.ns a : Nat) : Int))), some (nV (F.sz F.ns a))] = _
      rw [P_snoc, ← Int.natCast_mul]; rfl
    · rintro σ H' ⟨v, rfl, s2, h2⟩
      refine ⟨_, rfl, pa, _, rfl, .inl (s2 _ _ hp), (F.ns.length), congrArg (fun n : Nat => [V.int (n : Int)]) (dmap_len ..), by omega, ?_⟩
      have hk := Fo.hook F.ns.length F.ns F.upNs rfl
      have hpos : 1 ≤ Fo.P F.ns (F.sz F.ns) := Fo.P_pos fun v hv => Fo.sz_pos F.upNs hv
      have hbd : Fo.P F.ns (F.sz F.ns) < 2 ^ 1000 := by
        have p1 : Fo.P F.ns (F.sz F.ns) ≤ 2 ^ (6 * F.ns.length) := P_le fun x hx => by
          have : F.sz F.ns x ≤ F.ns.length := sz_le x
          show F.sz F.ns x ≤ 2 ^ 6
          omega
        have p2 : 2 ^ (6 * F.ns.length) ≤ 2 ^ 400 := Nat.pow_le_pow_right (by decide) (by omega)
        exact Nat.lt_of_le_of_lt (Nat.le_trans p1 p2) (by decide +kernel)
      refine ⟨_, rfl, _, ((Fo.P F.ns (F.sz F.ns) : Nat) : Int), rfl, rfl, wide_div (b := 1000) (by omega) (by omega) (by decide) (by decide), ?_⟩
      show Q (V.int (((Builtin.Math.factorialNat F.ns.length : Nat) : Int) / ((Fo.P F.ns (F.sz F.ns) : Nat) : Int))) H'
      rw [fac_eq, ← hk]
      have : (((F.orders F.ns.length F.ns).length * Fo.hooks F F.ns : Nat) : Int) / ((Fo.P F.ns (F.sz F.ns) : Nat) : Int) = ((oc F F.ns : Nat) : Int) := by
        show (((F.orders F.ns.length F.ns).length * Fo.P F.ns (F.sz F.ns) : Nat) : Int) / _ = _
        rw [Int.natCast_mul, Int.mul_ediv_cancel _ (by omega)]; rfl
      rw [this]
      exact q H' s2
end
end K22
set_option Elab.async false
set_option linter.all false
set_option maxRecDepth 100000
set_option maxHeartbeats 4000000
/-! Orders by their rank. -/
namespace K22
def ords (F : Fo) (rem : List Nat) : List (List Nat) := F.orders rem.length rem
theorem oc_eq (F : Fo) (rem : List Nat) : oc F rem = (ords F rem).length := rfl
def sumL (l : List Nat) (f : Nat → Nat) : Nat := (l.map f).sum
theorem sumL_nil (f : Nat → Nat) : sumL [] f = 0 := rfl
theorem sumL_cons (a : Nat) (l : List Nat) (f : Nat → Nat) : sumL (a :: l) f = f a + sumL l f := by simp [sumL]
theorem sumL_app (a b : List Nat) (f : Nat → Nat) : sumL (a ++ b) f = sumL a f + sumL b f := by simp [sumL]
section
variable {F : Fo} {rem : List Nat}
theorem ords_nil : ords F [] = [[]] := rfl
theorem ords_eq (U : F.Up rem) (h : rem ≠ []) : ords F rem = (F.ops rem).flatMap fun l => (ords F (rem.erase l)).map (l :: ·) := by
  unfold ords
  obtain ⟨n, hn⟩ : ∃ n, rem.length = n + 1 := ⟨rem.length - 1, by
    have : rem.length ≠ 0 := fun z => h (List.length_eq_zero_iff.mp z)
    omega⟩
  rw [hn]
  show (F.ops rem).flatMap _ = _
  rw [List.flatMap_def, List.flatMap_def]
  congr 1
  refine List.map_congr_left fun l hl => ?_
  rw [List.length_erase_of_mem (Fo.mem_ops.mp hl).1, hn]
  rfl
theorem oc_sum (U : F.Up rem) (h : rem ≠ []) : oc F rem = sumL (F.ops rem) fun l => oc F (rem.erase l) := by
  rw [oc_eq, ords_eq U h]
  generalize F.ops rem = os
  induction os with
  | nil => rfl
  | cons a os ih => rw [List.flatMap_cons, List.length_append, ih, sumL_cons, List.length_map]; rfl
theorem flat_at {g : Nat → List (List Nat)} : ∀ {pre : List Nat} {l : Nat} {post : List Nat} {r : Nat}, r < (g l).length → ((pre ++ l :: post).flatMap g)[sumL pre (fun x => (g x).length) + r]? = (g l)[r]?
  | [], l, post, r, h => by
    rw [List.nil_append, List.flatMap_cons, sumL_nil, Nat.zero_add, List.getElem?_append_left h]
  | a :: pre, l, post, r, h => by
    rw [List.cons_append, List.flatMap_cons, sumL_cons, List.getElem?_append_right (by omega)]
    rw [show (g a).length + sumL pre (fun x => (g x).length) + r - (g a).length = sumL pre (fun x => (g x).length) + r by omega]
    exact flat_at h
theorem ords_at (U : F.Up rem) (h : rem ≠ []) {pre post : List Nat} {l r : Nat} (e : F.ops rem = pre ++ l :: post) (hr : r < oc F (rem.erase l)) :
    (ords F rem)[sumL pre (fun x => oc F (rem.erase x)) + r]? = (ords F (rem.erase l))[r]?.map (l :: ·) := by
  rw [ords_eq U h, e]
  have q := flat_at (g := fun l => (ords F (rem.erase l)).map (l :: ·)) (pre := pre) (l := l) (post := post) (r := r) (by rw [List.length_map]; exact hr)
  simp only [List.length_map] at q
  rw [← List.getElem?_map]
  exact q
theorem ops_asc (U : F.Up rem) : (F.ops rem).Pairwise (· < ·) := U.asc.sublist List.filter_sublist
theorem erase_len {l : Nat} (h : l ∈ F.ops rem) : (rem.erase l).length + 1 = rem.length := by
  have hm := (Fo.mem_ops.mp h).1
  rw [List.length_erase_of_mem hm]
  have := List.length_pos_of_mem hm
  omega
theorem oc_pos : ∀ (n : Nat) {rem : List Nat}, rem.length = n → F.Up rem → 1 ≤ oc F rem
  | 0, rem, h, U => by
    have : rem = [] := List.length_eq_zero_iff.mp h
    subst this; exact Nat.le_refl _
  | n + 1, rem, h, U => by
    have hne : rem ≠ [] := fun z => by rw [z] at h; cases h
    rw [oc_sum U hne]
    cases e : F.ops rem with
    | nil => exact absurd ((Fo.ops_len U).mp e) hne
    | cons a os =>
      have ha : a ∈ F.ops rem := by rw [e]; simp
      have := oc_pos n (rem := rem.erase a) (by have := erase_len ha; omega) (U.erase ha)
      rw [sumL_cons]; omega
/-- the orders of what is left, one by one -/
inductive Ok (F : Fo) : List Nat → List Nat → Prop
  | nil : Ok F [] []
  | cons {rem r : List Nat} {a : Nat} (h : a ∈ F.ops rem) (t : Ok F (rem.erase a) r) : Ok F rem (a :: r)
theorem ok_iff : ∀ (n : Nat) {rem row : List Nat}, rem.length = n → F.Up rem → (row ∈ ords F rem ↔ Ok F rem row)
  | 0, rem, row, h, U => by
    have : rem = [] := List.length_eq_zero_iff.mp h
    subst this
    rw [ords_nil, List.mem_singleton]
    constructor
    · intro e; rw [e]; exact .nil
    · intro e
      cases e with
      | nil => rfl
      | cons h _ => exact absurd (Fo.mem_ops.mp h).1 (by simp)
  | n + 1, rem, row, h, U => by
    have hne : rem ≠ [] := fun z => by rw [z] at h; cases h
    rw [ords_eq U hne, List.mem_flatMap]
    constructor
    · rintro ⟨a, ha, hm⟩
      obtain ⟨r, hr, rfl⟩ := List.mem_map.mp hm
      exact .cons ha ((ok_iff n (by have := erase_len ha; omega) (U.erase ha)).mp hr)
    · intro e
      cases e with
      | nil => exact absurd rfl hne
      | @cons _ r a ha t => exact ⟨a, ha, List.mem_map.mpr ⟨r, (ok_iff n (by have := erase_len ha; omega) (U.erase ha)).mpr t, rfl⟩⟩
theorem Ok.mem {row : List Nat} (h : Ok F rem row) : ∀ a ∈ row, a ∈ rem := by
  induction h with
  | nil => intro a ha; cases ha
  | cons h t ih =>
    intro a ha
    rcases List.mem_cons.mp ha with rfl | ha
    · exact (Fo.mem_ops.mp h).1
    · exact List.mem_of_mem_erase (ih a ha)
theorem Ok.perm {row : List Nat} (h : Ok F rem row) : row.Perm rem := by
  induction h with
  | nil => exact .nil
  | cons h t ih => exact (List.Perm.cons _ ih).trans (List.perm_cons_erase (Fo.mem_ops.mp h).1).symm
/-- the rank of an order -/
def rankF (F : Fo) : List Nat → List Nat → Nat
  | _, [] => 0
  | rem, a :: r => sumL ((F.ops rem).filter fun l => decide (l < a)) (fun l => oc F (rem.erase l)) + rankF F (rem.erase a) r
theorem below_of {pre post : List Nat} {l : Nat} (h : (pre ++ l :: post).Pairwise (· < ·)) : (pre ++ l :: post).filter (fun x => decide (x < l)) = pre := by
  obtain ⟨h1, h2, h3⟩ := List.pairwise_append.mp h
  obtain ⟨h4, h5⟩ := List.pairwise_cons.mp h2
  rw [List.filter_append, List.filter_cons, if_neg (by simp)]
  have e1 : pre.filter (fun x => decide (x < l)) = pre := List.filter_eq_self.mpr fun x hx => by simpa using h3 x hx l (by simp)
  have e2 : post.filter (fun x => decide (x < l)) = [] := List.filter_eq_nil_iff.mpr fun x hx => by have := h4 x hx; simp; omega
  rw [e1, e2, List.append_nil]
/-- an order's rank is its place -/
theorem rank_lt {row : List Nat} (h : Ok F rem row) : F.Up rem → rankF F rem row < oc F rem ∧ (ords F rem)[rankF F rem row]? = some row := by
  induction h with
  | nil => intro _; exact ⟨by show 0 < 1; omega, rfl⟩
  | @cons rem r a h t ih =>
    intro U
    obtain ⟨i1, i2⟩ := ih (U.erase h)
    obtain ⟨pre, post, e⟩ := List.append_of_mem h
    have eb := below_of (l := a) (pre := pre) (post := post) (by rw [← e]; exact ops_asc U)
    have hne : rem ≠ [] := fun z => by rw [z] at h; exact absurd (Fo.mem_ops.mp h).1 (by simp)
    have er : rankF F rem (a :: r) = sumL pre (fun l => oc F (rem.erase l)) + rankF F (rem.erase a) r := by
      show sumL ((F.ops rem).filter fun l => decide (l < a)) _ + _ = _
      rw [e, eb]
    refine ⟨?_, ?_⟩
    · rw [er, oc_sum U hne, e, sumL_app, sumL_cons]; omega
    · rw [er, ords_at U hne e i1, i2]; rfl
/-- a rank's order has this rank -/
theorem rank_of : ∀ (n : Nat) {rem : List Nat} {r : Nat} {row : List Nat}, rem.length = n → F.Up rem → (ords F rem)[r]? = some row → rankF F rem row = r
  | 0, rem, r, row, h, U, e => by
    have : rem = [] := List.length_eq_zero_iff.mp h
    subst this
    cases r with
    | zero =>
      have : ([] : List Nat) = row := Option.some.inj e
      rw [← this]; rfl
    | succ r => cases e
  | n + 1, rem, r, row, h, U, e => by
    have hne : rem ≠ [] := fun z => by rw [z] at h; cases h
    have hr : r < oc F rem := (List.getElem?_eq_some_iff.mp e).1
    rw [oc_sum U hne] at hr
    obtain ⟨pre, l, post, r', e1, e2, e3⟩ := pick (F.ops rem) r hr
    have hl : l ∈ F.ops rem := by rw [e1]; simp
    have q := ords_at U hne e1 e3
    rw [← e2, e] at q
    obtain ⟨row', q1, q2⟩ := Option.map_eq_some_iff.mp q.symm
    rw [← q2]
    show sumL ((F.ops rem).filter fun x => decide (x < l)) _ + rankF F (rem.erase l) row' = r
    have eb := below_of (l := l) (pre := pre) (post := post) (by rw [← e1]; exact ops_asc U)
    rw [rank_of n (by have := erase_len hl; omega) (U.erase hl) q1, e1, eb]
    exact e2.symm
where pick {f : Nat → Nat} : ∀ (os : List Nat) (r : Nat), r < sumL os f → ∃ pre l post r', os = pre ++ l :: post ∧ r = sumL pre f + r' ∧ r' < f l
  | [], r, h => by rw [sumL_nil] at h; omega
  | a :: os, r, h => by
    by_cases c : r < f a
    · exact ⟨[], a, os, r, rfl, by rw [sumL_nil]; omega, c⟩
    · rw [sumL_cons] at h
      obtain ⟨pre, l, post, r', e1, e2, e3⟩ := pick (f := f) os (r - f a) (by omega)
      exact ⟨a :: pre, l, post, r', by rw [e1]; rfl, by rw [sumL_cons]; omega, e3⟩
end
end K22
set_option Elab.async false
set_option linter.all false
set_option maxRecDepth 100000
set_option maxHeartbeats 4000000
/-! The program's errors: each has one field; raised, caught by the first clause that names it, its field and its class asked. -/
namespace K22
open PySem PySem.Spec PyProof.Rows L2
/-- the promise of such an __init__ -/
def spEI (C : Addr) (f : Str) : Sp := fun vs H Q _ => ∃ (a : Addr) (v : V), vs = [.ref a, v] ∧ H a = some (exo a C none) ∧
  ∀ dx, H dx = none → dx ≠ a → Q .non (upd (upd H dx (exd dx [(f, v)])) a (exo a C (some dx)))
/-- what the top leaves of an error class -/
structure Er (P : Program) (w : World) (K : PySem.W.Frag) (mg : Str → Option Value) (base : Heap) (x f : Str) (C : Addr) : Prop where
  gC : mg x = some (.ref C)
  oex : OexC K C
  no : PySem.W.findIn K (.ref C) f = some none
  ini : ∃ (fI : Addr) (fd : FuncData) (ps : List Str), PySem.W.findIn K (.ref C) "__init__" = some (some (.ref fI)) ∧ PySem.W.typeIn K (.ref fI) = some (.type "function") ∧ FnOk P w K mg base (L2.CX P w) 1 fI fd ps (spEI C f) ∧ Binds K fd ps []
/-- an expression whose reading is fixed ahead -/
theorem pe_store {X : Cx} {e : Expr} {te : TE} (he : PE X e te) (A : V → Hp → Prop) : PE X e (fun σ H Q => te σ H A ∧ ∀ v H1, A v H1 → Q v H1) :=
  ⟨fun pins s σ H Q I h => thn (he.run pins s σ H _ I h.1) fun u s1 ⟨v, H1, I1, r, a⟩ => ⟨v, H1, I1, r, h.2 v H1 a⟩⟩
/-- raise X(e) -/
def tRaise1 (C : Addr) (f : Str) (W : WX) (te : TE) : TS := fun _ σ H => te σ H fun v H1 => ∀ (d : Addr) (H' : Hp), Same H1 H' → H1 d = none → H' d = some (.xd [(f, v)]) → W (.ref C) (some d) σ H'
section
variable {X : Cx} {x f : Str} {C : Addr} {j : Nat} {p pos pos2 : Pos} {e : Expr} {te : TE} {W : WX}
theorem ps_raise1 (hc : X.calm = true) (R : Er X.prog X.w X.K X.mg X.base x f C) (hr : Room j X.A) (hj : 2 ≤ j) (hg : Gl X x) (tk : Takes X W) (he : PE X e te)
    (hdb : (x == ("__debug__" : Str)) = false := by decide) (hst : starEach [e] X.env = [(false, eval e X.env)] := by rfl) :
    PS X (.Raise (some (.Call (.Name x p) [e] [] pos)) none pos2) (tRaise1 C f W te) := by
  obtain ⟨fI, fd, ps, iC, tI, F1, b⟩ := R.ini
  refine ⟨fun pins s σ H D I h => ?_⟩
  have he2 := pe_store he fun v H1 => ∀ (d : Addr) (H' : Hp), Same H1 H' → H1 d = none → H' d = some (.xd [(f, v)]) → W (.ref C) (some d) σ H'
  have base := ps_raise (pos := pos2) hc tk (pmk_oex (p := p) (pos := pos) (k := 1) (sp := spEI C f) R.oex iC tI F1 (hr.mono hj) b .nil passL hg R.gC (pa_cons he2 pa_nil hst) hdb hst)
  refine base.run pins s σ H D I ?_
  -- the reading
  have go : ∀ (v : V) (H1 : Hp), (∀ (d : Addr) (H' : Hp), Same H1 H' → H1 d = none → H' d = some (.xd [(f, v)]) → W (.ref C) (some d) σ H') →
      ([v] : List V).length ≤ 1000 ∧ ∀ a, H1 a = none → spEI C f (.ref a :: ([v] ++ [])) (upd H1 a (exo a C none))
        (fun v' H2 => v' = .non ∧ ∃ (d : Addr) (fs : List (Str × V)), H2 a = some (exo a C (some d)) ∧ H2 d = some (exd d fs) ∧ H1 d = none ∧ W (.ref C) (some d) σ (upd (del H2 a) d (.xd fs))) (fun _ _ _ => False) := by
    intro v H1 q
    refine ⟨by simp, fun a ha => ⟨a, v, rfl, upd_same, fun dx hdx hne => ⟨rfl, dx, [(f, v)], upd_same, ?_, ?_, ?_⟩⟩⟩
    · rw [upd_ne hne, upd_same]
    · rw [upd_ne hne] at hdx; exact hdx
    · have hd1 : H1 dx = none := by rw [upd_ne hne] at hdx; exact hdx
      refine q dx _ (fun b o e => ?_) hd1 upd_same
      have n1 : b ≠ dx := ne_of_none e hd1
      have n2 : b ≠ a := ne_of_none e ha
      rw [upd_ne n1, del_ne n2, upd_ne n2, upd_ne n1, upd_ne n2]
      exact e
  exact ⟨h, go⟩
end
section
variable {P : Program} {w : World} {K : PySem.W.Frag} {mg : Str → Option Value} {base : Heap}
theorem ok_ei_flags {C fI : Addr} {fd : FuncData} (F : FunD K "__init__" "InvalidFlags.__init__" (defArgs s_InvalidFlags___init__) (defBody s_InvalidFlags___init__) (defScope s_InvalidFlags___init__) [] [] fI fd) (O : OexC K C) (no : PySem.W.findIn K (.ref C) "flags" = some none) :
    FnOk P w K mg base (L2.CX P w) 1 fI fd ["self", "flags"] (spEI C "flags") := by
  refine F.ok sc_InvalidFlags___init__ (fun vs H Q E h => ?_) (fun cdv A outer s H vs Q E hr h => ?_)
  · obtain ⟨_, _, rfl, _⟩ := h; rfl
  · obtain ⟨a, v, rfl, ha, q⟩ := h
    refine ⟨_, PSs.nox (pss_one (ps_ost (pv 0) (pv 1))), ?_⟩
    exact ⟨_, rfl, _, rfl, a, C, rfl, O, no, .inl ⟨ha, fun dx h1 h2 => q dx h1 h2⟩⟩
theorem binds_flags {fI : Addr} {fd : FuncData} (F : FunD K "__init__" "InvalidFlags.__init__" (defArgs s_InvalidFlags___init__) (defBody s_InvalidFlags___init__) (defScope s_InvalidFlags___init__) [] [] fI fd) : Binds K fd ["self", "flags"] [] :=
  F.bindsN fun _ _ _ _ _ _ us hl => match us, hl with | [_, _], _ => rfl
theorem ok_ei_slot {C fI : Addr} {fd : FuncData} (F : FunD K "__init__" "InvalidSlot.__init__" (defArgs s_InvalidSlot___init__) (defBody s_InvalidSlot___init__) (defScope s_InvalidSlot___init__) [] [] fI fd) (O : OexC K C) (no : PySem.W.findIn K (.ref C) "slot" = some none) :
    FnOk P w K mg base (L2.CX P w) 1 fI fd ["self", "slot"] (spEI C "slot") := by
  refine F.ok sc_InvalidSlot___init__ (fun vs H Q E h => ?_) (fun cdv A outer s H vs Q E hr h => ?_)
  · obtain ⟨_, _, rfl, _⟩ := h; rfl
  · obtain ⟨a, v, rfl, ha, q⟩ := h
    refine ⟨_, PSs.nox (pss_one (ps_ost (pv 0) (pv 1))), ?_⟩
    exact ⟨_, rfl, _, rfl, a, C, rfl, O, no, .inl ⟨ha, fun dx h1 h2 => q dx h1 h2⟩⟩
theorem binds_slot {fI : Addr} {fd : FuncData} (F : FunD K "__init__" "InvalidSlot.__init__" (defArgs s_InvalidSlot___init__) (defBody s_InvalidSlot___init__) (defScope s_InvalidSlot___init__) [] [] fI fd) : Binds K fd ["self", "slot"] [] :=
  F.bindsN fun _ _ _ _ _ _ us hl => match us, hl with | [_, _], _ => rfl
theorem ok_ei_number {C fI : Addr} {fd : FuncData} (F : FunD K "__init__" "InvalidNumber.__init__" (defArgs s_InvalidNumber___init__) (defBody s_InvalidNumber___init__) (defScope s_InvalidNumber___init__) [] [] fI fd) (O : OexC K C) (no : PySem.W.findIn K (.ref C) "number" = some none) :
    FnOk P w K mg base (L2.CX P w) 1 fI fd ["self", "number"] (spEI C "number") := by
  refine F.ok sc_InvalidNumber___init__ (fun vs H Q E h => ?_) (fun cdv A outer s H vs Q E hr h => ?_)
  · obtain ⟨_, _, rfl, _⟩ := h; rfl
  · obtain ⟨a, v, rfl, ha, q⟩ := h
    refine ⟨_, PSs.nox (pss_one (ps_ost (pv 0) (pv 1))), ?_⟩
    exact ⟨_, rfl, _, rfl, a, C, rfl, O, no, .inl ⟨ha, fun dx h1 h2 => q dx h1 h2⟩⟩
theorem binds_number {fI : Addr} {fd : FuncData} (F : FunD K "__init__" "InvalidNumber.__init__" (defArgs s_InvalidNumber___init__) (defBody s_InvalidNumber___init__) (defScope s_InvalidNumber___init__) [] [] fI fd) : Binds K fd ["self", "number"] [] :=
  F.bindsN fun _ _ _ _ _ _ us hl => match us, hl with | [_, _], _ => rfl
end
/-! several clauses, each with a name -/
def wManyAs (K : PySem.W.Frag) (i : Nat) (Wout : WX) (D : Ends) : List (Value × (Addr → Value → Option Addr → TS)) → WX
  | [] => Wout
  | (c, ts) :: r => fun cls d σ H => ∃ b, PySem.W.exmOne K cls c = some b ∧ (b = true → ∀ a, H a = none → ts a cls d { nx := fun σ' H' => D.nx (σ'.set i none) H', rt := D.rt, bk := fun σ' H' => D.bk (σ'.set i none) H', ct := fun σ' H' => D.ct (σ'.set i none) H' } (σ.set i (some (.ref a))) H) ∧
    (b = false → wManyAs K i Wout D r cls d σ H)
inductive HdsAs (X : Cx) (n : Str) : List ExceptHandler → List (Value × (Addr → Value → Option Addr → TS)) → Prop
  | nil : HdsAs X n [] []
  | cons {x : Str} {c : Value} {ts : Addr → Value → Option Addr → TS} {b₀ : Stmt} {suite : List Stmt} {np pos' : Pos} {hds : List ExceptHandler} {l : List (Value × (Addr → Value → Option Addr → TS))} (hc : Names X x c)
      (hsu : ∀ (a : Addr) (oe : Obj) (cls : Value) (d : Option Addr) (pn : List (Addr × Obj)), Zc cls d oe → (∃ vs, oe.data = .fields vs) → PSs (X.suite a ((a, oe) :: pn)) (b₀ :: suite) (ts a cls d)) (r : HdsAs X n hds l) :
      HdsAs X n (.ExceptHandler (some (.Name x np)) (some n) (b₀ :: suite) pos' :: hds) ((c, ts) :: l)
section
variable {X : Cx} {n : Str} {i : Nat} {body : List Stmt} {h₀ : ExceptHandler} {hds : List ExceptHandler} {l : List (Value × (Addr → Value → Option Addr → TS))} {pos : Pos} {tb : WX → TS} {Wout : WX}
theorem ps_try_manyAs (hs : X.stack = X.env :: X.outer) (hf : X.env.frame = some X.env.locals) (hN : X.N.Nodup) (hi : X.N[i]? = some n) (hln : X.env.kindOf n = some .local) (tk : Takes X Wout)
    (hb : ∀ (W : WX) (pn : List (Addr × Obj)) (xe : Value → Shared → Prop), Takes (X.tr pn xe) W → PassesOwn (model X.prog X.w) X.A X.env xe → PSs (X.tr pn xe) body (tb W))
    (hh : HdsAs X n (h₀ :: hds) l) : PS X (.Try body (h₀ :: hds) [] [] pos) (fun D σ H => tb (wManyAs X.K i Wout D l) D σ H) := by
  refine ⟨fun pins s σ H D I h => ?_⟩
  have ok := I.ok
  have hfr : X.A.frames = some (X.env :: X.outer) := by rw [ok.frames, hs]
  have hloc : Loc X.env.scope n := .inl hln
  refine wpAny_Try_except ?_
  refine wpAny_mono ((hb (wManyAs X.K i Wout D l) (X.pn ++ pins) (fun e s₁ => wpAny (model X.prog X.w) X.A (noteFrame e X.env) (fun _ s₂ => wpAny (model X.prog X.w) X.A (setFlight e none) (fun _ s₃ =>
    wpAny (model X.prog X.w) X.A (handleBy e X.env (h₀ :: hds)) (SP X pins D) X.xe s₃) X.xe s₂) X.xe s₁) (fun u s' xx => ?_) PassesOwn.looking).run [] s σ H D (I.toTry _) h) (fun f s1 hsp => ?_) (fun e s1 he => he)
  · -- the catch
    obtain ⟨a, B, sI, pins', σ', H', cls, d, rfl, J', nb, up, sky, na, os, ag, w⟩ := xx
    have J : Inv X pins σ' H' sI := J'.ofTry ok
    have sky' : Sky B (X.env :: X.outer) a (Zc cls d) X.env.locals s'.heap := by rw [← hs]; exact sky
    show wpAny (model X.prog X.w) X.A (noteFrame (.ref a) X.env) _ _ _
    refine Sky.land Zc.steady hfr hf sky' fun h3 fl3 up3 => ?_
    have J3 : Inv X pins σ' H' { s' with heap := h3 } := J.landed nb fl3.1 (up.trans up3) os ag
    obtain ⟨oe3, vs3, he3, hz3, hd3⟩ := fl3.there
    have notFr : ∀ {h : Heap} {o : Obj} {vs : Array Value}, h.FunFrames B (X.env :: X.outer) → h.get? a = some o → o.data = .fields vs → a ∉ frs (X.env :: X.outer) := fun {h o vs} ff e dd hm => by
      obtain ⟨_, o', e', hnf⟩ := ff.mem hm
      rw [e] at e'; cases e'
      exact hnf _ dd
    have nfr := notFr fl3.2.2.1 he3 hd3
    have nL : a ≠ X.env.locals := fun z => nfr (List.mem_filterMap.mpr ⟨X.env, List.mem_cons_self, by rw [hf, z]⟩)
    have nF : a ∉ X.fs := fun hm => by
      obtain ⟨e, he, q⟩ := List.mem_filterMap.mp hm
      exact nfr (List.mem_filterMap.mpr ⟨e, List.mem_cons_of_mem _ he, q⟩)
    have S3 := J3.suite he3 hd3 na nL nF
    have go : ∀ {hds' : List ExceptHandler} {l' : List (Value × (Addr → Value → Option Addr → TS))}, HdsAs X n hds' l' → wManyAs X.K i Wout D l' cls d σ' H' →
        wpAny (model X.prog X.w) X.A (handleBy (.ref a) X.env hds') (SP X pins D) X.xe { s' with heap := h3 } := by
      intro hds' l' hk
      induction hk with
      | nil =>
        intro w
        refine wpAny_handleBy_nil ?_
        obtain ⟨k1, k2, k3, oe, vs, T, oT, ts', he, hz, hd, h1, hr⟩ := id fl3
        unfold PySem.passOn
        refine wpAny_bind (wpAny_field he hd h1 ?_)
        rw [if_neg (show ¬ ((Value.ref T == Value.none) = true) from by simp)]
        have fin : wpAny (model X.prog X.w) X.A (setFlight (.ref a) X.env.frame) (fun _ s4 => wpAny (model X.prog X.w) X.A (throw (.ref a) : Sem Flow) (SP X pins D) X.xe s4) X.xe { s' with heap := h3 } := by
          rw [hf]
          refine HandSPX.setFlight_upZ fl3 fun h4 hh4 up4 => wpAny_throw (tk _ _ ?_)
          exact ⟨a, B, sI, pins, σ', H', cls, d, rfl, J, nb, (up.trans up3).trans up4, .inr (.inr (by rw [hs]; exact hh4)), na, os, ag, w⟩
        first
          | exact wpAny_bind (wpAny_pure (wpAny_bind fin))
          | exact wpAny_bind fin
      | @cons x c ts b₀ suite np pos' hds2 l2 hc hsu r ih =>
        intro w
        obtain ⟨b, hb1, hyes, hno⟩ := w
        refine wpAny_handleBy_cons (codeAny_handlers_test ?_) (by intro q; cases q)
        have LT : PySem.W.Looks (model X.prog X.w) h3 (typeOf (.ref a)) cls := fun A Q E s k q => wpAny_typeOf_ref (k _ _ he3) (by rw [hz3.1]; exact q)
        have LM := PySem.W.exm_one (M := model X.prog X.w) (J3.kIn) LT hb1
        have test : ∀ {Q : Value → Shared → Prop} {E : Value → Shared → Prop}, Q c { s' with heap := h3 } → wpAny (model X.prog X.w) (X.A.mark (some (.ref a))) (eval (.Name x np) X.env) Q E { s' with heap := h3 } := fun {Q E} q => by
          obtain ⟨hg, hdbg, hm | ⟨hm, hv, hnn⟩⟩ := hc
          · exact ld_glob (X := X.suite a ((a, oe3) :: (X.pn ++ pins))) S3 hg hm q hdbg
          · exact ld_blt (X := X.suite a ((a, oe3) :: (X.pn ++ pins))) S3 hg hm hv q hnn hdbg
        refine test (LM.here ?_)
        cases b with
        | true =>
          refine codeAny_handlers_suite_as ?_
          refine HandSPX.lands_againZ fl3 fun h4 fl4 up4 => ?_
          have J4 : Inv X pins σ' H' { s' with heap := h4 } := J.landed nb fl4.1 ((up.trans up3).trans up4) os ag
          obtain ⟨oe4, vs4, he4, hz4, hd4⟩ := fl4.there
          have S4 := J4.suite he4 hd4 na nL nF
          refine store_ok (X := X.suite a ((a, oe4) :: (X.pn ++ pins))) (v := .ref a) S4 hN hi hloc rfl (fun s5 S5 => ?_) (.inr hln)
          refine wpAny_mono ((hsu a oe4 cls d (X.pn ++ pins) hz4 ⟨_, hd4⟩).run [] s5 _ H' _ S5 (hyes rfl a na)) (fun f s6 hsp => ?_) (fun _ _ z => False.elim z)
          have end_ : ∀ {σ6 : L2.St} {H6 : Hp} {Q : Shared → Prop}, Inv (X.suite a ((a, oe4) :: (X.pn ++ pins))) [] σ6 H6 s6 → (∀ s7, Inv X pins (σ6.set i none) H6 s7 → Q s7) →
              wpAny (model X.prog X.w) X.A (do bindName X.env n .none; unbindBehindTheSuite X.env n pos') (fun _ s7 => Q s7) X.xe s6 := fun {σ6 H6 Q} S6 hq => gone_ok (S6.unsuite ok) hN hi hln hq
          cases f with
          | next =>
            obtain ⟨σ6, H6, S6, q6⟩ := hsp
            exact end_ S6 fun s7 J7 => ⟨_, _, J7, q6⟩
          | brk =>
            obtain ⟨σ6, H6, S6, q6⟩ := hsp
            exact end_ S6 fun s7 J7 => ⟨_, _, J7, q6⟩
          | cont =>
            obtain ⟨σ6, H6, S6, q6⟩ := hsp
            exact end_ S6 fun s7 J7 => ⟨_, _, J7, q6⟩
          | ret u =>
            obtain ⟨v6, σ6, H6, S6, r6, q6⟩ := hsp
            exact end_ S6 fun s7 J7 => ⟨_, _, _, J7, r6, q6⟩
        | false =>
          show wpAny _ X.A (handleBy (.ref a) X.env hds2) _ _ _
          exact ih (hno rfl)
    exact go hh w
  · cases f with
    | next =>
      obtain ⟨σ', H', J', q⟩ := hsp
      exact wpAny_execs_nil ⟨σ', H', J'.ofTry ok, q⟩
    | brk =>
      obtain ⟨σ', H', J', q⟩ := hsp
      exact ⟨σ', H', J'.ofTry ok, q⟩
    | cont =>
      obtain ⟨σ', H', J', q⟩ := hsp
      exact ⟨σ', H', J'.ofTry ok, q⟩
    | ret u =>
      obtain ⟨v, σ', H', J', r, q⟩ := hsp
      exact ⟨v, σ', H', J'.ofTry ok, r, q⟩
end
/-! isinstance of the caught error -/
structure ExK (K : PySem.W.Frag) (D : Addr) : Prop where
  hc : (PySem.W.clsIn K D).isSome = true
  hg : PySem.W.findIn K (.ref D) "__getattribute__" = some (some (.builtin "BaseException.__getattribute__"))
  hk : PySem.W.findIn K (.ref D) "__getattr__" = some none
  hs : PySem.W.subIn K (.ref D) (.type "BaseException") = some true
  ha : PySem.W.findIn K (.ref D) "__class__" = some (some (.builtin "object.__class__"))
  hn : PySem.W.specialIn K (.builtin "object.__class__") "__get__" = some (some (.builtin "getset_descriptor.__get__"))
  ht : PySem.W.takesIn K (.builtin "object.__class__") = some true
  hm : PySem.W.mroIn K D (.type "object") = some true
/-- isinstance(e, c), e the exception that the suite holds -/
def rIsX (K : PySem.W.Frag) (a : Addr) (cls : Value) (d : Option Addr) : List V → Hp → VK → Prop := fun xs H Q => ∃ (D dd : Addr) (fs : List (Str × V)) (c : V) (cv : Value) (b : Bool), xs = [.ref a, c] ∧ cls = .ref D ∧ ExK K D ∧ d = some dd ∧ H dd = some (.xd fs) ∧ (∀ u, RelV c u → u = cv) ∧ PySem.W.kitOne K (.ref D) cv = some b ∧ Q (.bl b) H
theorem call_isX {X : Cx} {a : Addr} {cls : Value} {d : Option Addr} {oe : Obj} {pn : List (Addr × Obj)} (hz : Zc cls d oe) (hf : ∃ vs, oe.data = .fields vs) : CallR (X.suite a ((a, oe) :: pn)) (.builtin "isinstance") (rIsX X.K a cls d) := by
  intro pins s σ H xs us Q I r h
  obtain ⟨D, dd, fs, c, cv, b, rfl, rfl, C, rfl, hdd, hcv, e, q⟩ := h
  cases r with
  | cons rx rr =>
    cases rr with
    | cons rt rr =>
      cases rr
      cases rx
      have ec := hcv _ rt
      subst ec
      obtain ⟨hget, _⟩ := I.pin (a, oe) (List.mem_append.mpr (.inl List.mem_cons_self))
      obtain ⟨vs, hv⟩ := hf
      have hx : ObjOk X.prog X.w H s.heap dd (.xd fs) := I.hok dd _ hdd
      obtain ⟨mA, hns, hr⟩ := hx
      obtain ⟨od, ho, hl⟩ := lookIn_ns hns
      have J : PySem.W.InstAt s.heap a oe D (some od) := ⟨hget, hz.1, by unfold PySem.W.notCls; rw [hv] <;> rfl, by rw [hz.2]; exact ho⟩
      exact PySem.W.kia_one (PySem.W.kitx_exc C.hc C.hg C.hk C.hs C.ha C.hn C.ht C.hm) I.kIn J e (fun z => nomatch z) fun tk => ⟨.bl b, H, I.kept (t' := tk) fun _ _ z => z, rfl, q⟩
end K22
set_option Elab.async false
set_option linter.all false
set_option maxRecDepth 100000
set_option maxHeartbeats 4000000
namespace K22
open PySem PySem.Spec PyProof.Rows L2
/-! begun_at -/
section
variable {P : Program} {w : World} {K : PySem.W.Frag} {mg : Str → Option Value} {base : Heap}
def spBA : Sp := fun vs H Q _ => ∃ (F : Fo) (pa sa : Addr) (rem : List Nat) (r : Nat), vs = [.ref pa, .ref sa, nV (oc F rem), nV r] ∧ ParAt H pa F ∧ H sa = some (SzD F rem) ∧ F.Up rem ∧ rem.length ≤ 64 ∧ rem ≠ [] ∧ r < oc F rem ∧ sa ≠ pa ∧
  ∀ (H' : Hp) (t : Addr) (l r' : Nat), Same H H' → H' t = some (.tup [nV l, nV (oc F (rem.erase l)), nV r']) → l ∈ F.ops rem → r' < oc F (rem.erase l) → (ords F rem)[r]? = (ords F (rem.erase l))[r']?.map (l :: ·) → Q (.ref t) H'
theorem nV_inj {a b : Nat} : nV a = nV b ↔ a = b := ⟨fun h => by have := V.int.inj h; omega, fun h => by rw [h]⟩
theorem nV_dec (a b : Nat) : decide (nV a = nV b) = decide (a = b) := by
  by_cases h : a = b
  · rw [decide_eq_true h, decide_eq_true (nV_inj.mpr h)]
  · rw [decide_eq_false h, decide_eq_false (fun z => h (nV_inj.mp z))]
theorem ok_begun_at (T : Tb mg) (F : Df K mg "begun_at" s_begun_at) (c_count_begun : Cl P w K mg base 1 "count_begun" spCB) : Cl P w K mg base 2 "begun_at" spBA := by
  refine cl_mk F sc_begun_at (fun vs H Q E h => ?_) (fun _ _ _ _ _ _ us hl => match us, hl with | [_, _, _, _], _ => rfl) (fun f cdv A outer s H vs Q E hr h => ?_)
  · obtain ⟨_, _, _, _, _, rfl, _⟩ := h; rfl
  · have hu := hu_of hr
    obtain ⟨F, pa, sa, rem, r, rfl, hp, hs, U, h64, hne, hrr, nsp, q⟩ := h
    refine ⟨_, PSs.nox (pss_cons (ps_lock (ps_setLc (i := 4) (own := [("slot", 7)]) (by rfl) sc_begun_at.nd rfl rfl (sw_true rfl rfl rfl (by decide +kernel)) (pi_keys (pv 1)) (blkOk_by (own := [("slot", 7)]) (N := n_begun_at) (sc := defScope s_begun_at) (by decide +kernel)) (fun _ _ _ _ _ => (pg_name (i := 7) sc_begun_at.nd rfl (Or.inl rfl))) (fun _ _ _ _ _ => (pts_one (pt_cmpR op_eq (pe_dget hu (pv 1) (pv 7) (fun _ _ => rfl)) pe_int (nomark _)))) (fun _ _ _ _ _ => (pv 7))))
    (pss_cons (ps_set (i := 5) sc_begun_at.nd rfl (Or.inl rfl) pe_int)
    (pss_cons (ps_set (i := 6) sc_begun_at.nd rfl (Or.inl rfl) (pe_cl c_count_begun hr (by decide) rfl (pa_cons (pv 0) (pa_cons (pv 1) (pa_cons (pv 2) (pa_cons (pe_ix ix_list (pv 4) (pv 5) (fun _ _ => rfl)) pa_nil))))))
    (pss_cons (ps_while PassesOwn.never (pt_cmpR op_ge (pv 3) (pv 6) (nomark _))
      (pss_cons (ps_set (i := 3) sc_begun_at.nd rfl (Or.inl rfl) (pe_op op_sub (pv 3) (pv 6)))
      (pss_cons (ps_set (i := 5) sc_begun_at.nd rfl (Or.inl rfl) (pe_op op_add (pv 5) pe_int))
      (pss_one (ps_set (i := 6) sc_begun_at.nd rfl (Or.inl rfl) (pe_cl c_count_begun hr (by decide) rfl (pa_cons (pv 0) (pa_cons (pv 1) (pa_cons (pv 2) (pa_cons (pe_ix ix_list (pv 4) (pv 5) (fun _ _ => rfl)) pa_nil))))))))))
    (pss_one (ps_ret (pe_tup (pa_cons (pe_ix ix_list (pv 4) (pv 5) (fun _ _ => rfl)) (pa_cons (pv 6) (pa_cons (pv 3) pa_nil)))))))))), ?_⟩
    -- open_slots
    refine ⟨sa, _, hs, trivial, fun od => ⟨_, rfl, sa, od, rfl, .inl ⟨_, upd_same, fun D hD => ?_⟩⟩⟩
    have nDs : sa ≠ D := fun e => by rw [← e, upd_same] at hD; cases hD
    have hD0 : H D = none := by rw [upd_ne nDs.symm] at hD; exact hD
    refine lc_pre (wf_keys (d := sa) (o := od) rem fun v => nV (F.sz rem v))
      (fun pre H' => SameBut sa H H' ∧ H' sa = some (.frz od (SzD F rem)) ∧ H' D = some (.lst ((pre.filter fun l => F.sz rem l == 1).map nV))) ?_ ?_ ?_ ?_
    · exact ⟨(Same.refl H).lock.put hD0, by rw [upd_ne nDs]; exact upd_same, upd_same⟩
    · rintro pre H' ⟨_, h, _⟩
      exact h
    · rintro pre a post H' e ⟨s1, h1, h2⟩
      have har : a ∈ rem := by rw [e]; simp
      refine ⟨rfl, _, rfl, _, rfl, sa, _, rfl, dget_n (.inr ⟨od, h1⟩) har, rfl, _, rfl, ?_⟩
      have hd : decide (nV (F.sz rem a) = V.int 1) = decide (F.sz rem a = 1) := nV_dec _ 1
      by_cases c : F.sz rem a = 1
      · refine ifT (by rw [hd]; exact decide_eq_true c) ?_
        refine ⟨_, rfl, _, h2, ?_, s1.put hD0, by rw [upd_ne nDs]; exact h1, ?_⟩
        · rw [List.length_map]
          have h1 : rem.length = pre.length + (post.length + 1) := by rw [e, List.length_append, List.length_cons]
          have h2 := List.length_filter_le (fun l => F.sz rem l == 1) pre
          exact small100 (by omega)
        · rw [upd_same, List.filter_append, List.map_append, List.filter_cons, if_pos (by simpa using c)]
          rfl
      · refine ifF (by rw [hd]; exact decide_eq_false c) ?_
        refine ⟨s1, h1, ?_⟩
        rw [h2, List.filter_append, List.filter_cons, if_neg (by simpa using c)]
        simp
    · rintro H1 ⟨s1, h1, h2⟩
      refine ⟨h1, ?_⟩
      have s2 : Same H (upd H1 sa (SzD F rem)) := s1.back hs
      have hO : (upd H1 sa (SzD F rem)) D = some (.lst ((F.ops rem).map nV)) := by rw [upd_ne nDs.symm]; exact h2
      show tSeq _ _ _ _ (upd H1 sa (SzD F rem))
      generalize hH2 : upd H1 sa (SzD F rem) = H2 at s2 hO ⊢
      have hs2 : H2 sa = some (SzD F rem) := s2 _ _ hs
      have hp2 : ParAt H2 pa F := hp.same s2
      have ocs := oc_sum U hne
      have ho : F.ops rem ≠ [] := fun z => hne ((Fo.ops_len U).mp z)
      obtain ⟨l0, os, e0⟩ : ∃ l0 os, F.ops rem = l0 :: os := by
        cases e : F.ops rem with
        | nil => exact absurd e ho
        | cons a b => exact ⟨a, b, rfl⟩
      have at_ : ∀ {pre post : List Nat} {l : Nat}, F.ops rem = pre ++ l :: post → atI ((F.ops rem).map nV) ((pre.length : Nat) : Int) = some (nV l) := fun {pre post l} e => atI_nat (by rw [e]; simp)
      have mem_ : ∀ {pre post : List Nat} {l : Nat}, F.ops rem = pre ++ l :: post → l ∈ F.ops rem := fun {pre post l} e => by rw [e]; simp
      refine ⟨_, rfl, _, rfl, _, rfl, _, rfl, _, rfl, D, _, ((0 : Nat) : Int), nV l0, rfl, rfl, SqL.of hO, at_ (pre := []) e0, ?_⟩
      refine ⟨F, pa, sa, rem, l0, rfl, hp2, .inl hs2, U, mem_ (pre := []) e0, h64, ?_⟩
      -- while rank >= begun
      refine ⟨fun m σ H' => ∃ (pre post : List Nat) (l r' : Nat), H' = H2 ∧ m = post.length ∧ F.ops rem = pre ++ l :: post ∧ r = sumL pre (fun x => oc F (rem.erase x)) + r' ∧
        ∃ v, σ = [some (.ref pa), some (.ref sa), some (nV (oc F rem)), some (nV r'), some (.ref D), some (nV pre.length), some (nV (oc F (rem.erase l))), v], ⟨_, [], os, l0, r, rfl, rfl, e0, by rw [sumL_nil]; omega, none, rfl⟩, ?_⟩
      rintro m σ H' ⟨pre, post, l, r', rfl, rfl, e1, e2, v, rfl⟩
      refine ⟨_, rfl, _, rfl, ((r' : Nat) : Int), ((oc F (rem.erase l) : Nat) : Int), rfl, rfl, _, rfl, ?_⟩
      by_cases c : oc F (rem.erase l) ≤ r'
      · refine ifT (decide_eq_true (by omega)) ⟨fun σ' H3 => ∃ m', m' < post.length ∧ _, fun _ _ z => z, ?_⟩
        obtain ⟨l2, post2, ep⟩ : ∃ l2 post2, post = l2 :: post2 := by
          cases post with
          | nil =>
            exfalso
            rw [ocs, e1, sumL_app, sumL_cons, sumL_nil] at hrr
            omega
          | cons a b => exact ⟨a, b, rfl⟩
        subst ep
        have e3 : F.ops rem = (pre ++ [l]) ++ l2 :: post2 := by rw [e1]; simp
        have hln : (((pre ++ [l]).length : Nat) : Int) = (pre.length : Int) + 1 := by rw [List.length_append]; rfl
        refine ⟨_, rfl, _, rfl, _, _, rfl, rfl, ?_⟩
        refine ⟨_, rfl, ((pre.length : Nat) : Int), 1, rfl, rfl, ?_⟩
        refine ⟨_, rfl, _, rfl, _, rfl, _, rfl, _, rfl, D, _, (pre.length : Int) + 1, nV l2, rfl, rfl, SqL.of hO, by rw [← hln]; exact at_ e3, ?_⟩
        refine ⟨F, pa, sa, rem, l2, rfl, hp2, .inl hs2, U, mem_ e3, h64, ?_⟩
        refine ⟨post2.length, by rw [List.length_cons]; omega, pre ++ [l], post2, l2, r' - oc F (rem.erase l), rfl, rfl, e3, ?_, v, ?_⟩
        · rw [sumL_app, sumL_cons, sumL_nil]; omega
        · show [some (V.ref pa), some (V.ref sa), some (nV (oc F rem)), some (V.int ((r' : Int) - ((oc F (rem.erase l) : Nat) : Int))), some (V.ref D), some (V.int ((pre.length : Int) + 1)), some (nV (oc F (rem.erase l2))), v] = _
          rw [← hln, ← Int.natCast_sub c]
          rfl
      · refine ifF (decide_eq_false (by omega)) ?_
        refine ⟨_, rfl, _, rfl, D, _, ((pre.length : Nat) : Int), nV l, rfl, rfl, SqL.of hO, at_ e1, _, rfl, _, rfl, (by show 3 ≤ sizeLine; decide), fun t ht => ?_⟩
        refine q _ t l r' (s2.new ht) upd_same (mem_ e1) (by omega) ?_
        rw [e2]
        exact ords_at U hne e1 (by omega)
/-! order_at -/
def spOA (CN : Addr) : Sp := fun vs H Q E => ∃ (F : Fo) (pa : Addr) (r : Nat), vs = [.ref pa, nV r] ∧ H pa = some (ParD F) ∧ F.ns.length < 64 ∧
  (∀ (H' : Hp) (a : Addr) (row : List Nat), Same H H' → H a = none → H' a = some (.lst (row.map nV)) → (ords F F.ns)[r]? = some row → Q (.ref a) H') ∧
  (oc F F.ns ≤ r → ∀ (H' : Hp) (d : Addr), Same H H' → H d = none → H' d = some (.xd [("number", nV r)]) → E (.ref CN) (some d) H')
theorem ok_order_at {CN : Addr} (T : Tb mg) (F : Df K mg "order_at" s_order_at) (x_InvalidNumber : Er P w K mg base "InvalidNumber" "number" CN) (c_order_count : Cl P w K mg base 2 "order_count" spOC) (c_branch_sizes : Cl P w K mg base 1 "branch_sizes" spBS)
    (c_begun_at : Cl P w K mg base 2 "begun_at" spBA) (c_sizes_without : Cl P w K mg base 1 "sizes_without" spSW) : Cl P w K mg base 3 "order_at" (spOA CN) := by
  refine cl_mk F sc_order_at (fun vs H Q E h => ?_) (fun _ _ _ _ _ _ us hl => match us, hl with | [_, _], _ => rfl) (fun f cdv A outer s H vs Q E hr h => ?_)
  · obtain ⟨_, _, _, rfl, _⟩ := h; rfl
  · have hu := hu_of hr
    obtain ⟨F, pa, r, rfl, hp, h64, q, qE⟩ := h
    refine ⟨_, (pss_cons (ps_set (i := 2) sc_order_at.nd rfl (Or.inl rfl) (pe_cl c_order_count hr (by decide) rfl (pa_cons (pv 0) pa_nil)))
    (pss_cons (ps_if (pt_cmpR op_ge (pv 1) (pv 2) (nomark _))
      (pss_one (ps_raise1 rfl x_InvalidNumber hr (by decide) (by rfl) (takes_of rfl rfl rfl rfl) (pv 1)))
      pss_nil)
    (pss_cons (ps_set (i := 3) sc_order_at.nd rfl (Or.inl rfl) (pe_cl c_branch_sizes hr (by decide) rfl (pa_cons (pv 0) pa_nil)))
    (pss_cons (ps_set (i := 4) sc_order_at.nd rfl (Or.inl rfl) (pe_lst pa_nil))
    (pss_cons (ps_while (passes_of rfl) (pt_truth (pv 3) (by intro _; rfl))
      (pss_cons (ps_asg (pe_cl c_begun_at hr (by decide) rfl (pa_cons (pv 0) (pa_cons (pv 3) (pa_cons (pv 2) (pa_cons (pv 1) pa_nil))))) (pg_tup (by rfl) (pgs_cons (pg_name (i := 5) sc_order_at.nd rfl (Or.inl rfl)) (pgs_cons (pg_name (i := 2) sc_order_at.nd rfl (Or.inl rfl)) (pgs_cons (pg_name (i := 1) sc_order_at.nd rfl (Or.inl rfl)) pgs_nil)))))
      (pss_cons (ps_expr (pe_bm PySem.F.plainAttrs_list PySem.F.slot_list_append PySem.F.type_list_append mt_append (pv 4) (pa_cons (pv 5) pa_nil)))
      (pss_one (ps_set (i := 3) sc_order_at.nd rfl (Or.inl rfl) (pe_cl c_sizes_without hr (by decide) rfl (pa_cons (pv 0) (pa_cons (pv 3) (pa_cons (pv 5) pa_nil)))))))))
    (pss_one (ps_ret (pv 4)))))))), ?_⟩
    refine ⟨_, rfl, F, pa, rfl, hp, h64, fun H1 s1 => ?_⟩
    refine ⟨_, rfl, _, rfl, ((r : Nat) : Int), ((oc F F.ns : Nat) : Int), rfl, rfl, _, rfl, ?_⟩
    by_cases c : oc F F.ns ≤ r
    · refine ifT (decide_eq_true (by omega)) ?_
      exact ⟨_, rfl, fun d H' s2 hd h2 => qE c H' d (s1.trans s2) (s1.free hd) h2⟩
    · refine ifF (decide_eq_false (by omega)) ?_
      refine ⟨_, rfl, F, pa, rfl, s1 _ _ hp, h64, fun H2 sa s2 hsa h2 => ?_⟩
      refine ⟨by show 0 ≤ sizeLine; omega, fun oa hoa => ?_⟩
      have s12 := s1.trans s2
      have s3 := s12.new (o := .lst []) hoa
      have hoaH : H oa = none := s12.free hoa
      have noa : sa ≠ oa := ne_of_none h2 hoa
      have hsaH : H sa = none := s1.free hsa
      have npsa : sa ≠ pa := fun e => by rw [e, hp] at hsaH; cases hsaH
      refine ⟨fun m σ H' => ∃ (rem done : List Nat) (r' : Nat) (sa : Addr) (v : Option V), m = rem.length ∧ F.Up rem ∧ (rem.length ≤ 63) ∧ Same H H' ∧ H sa = none ∧ H' sa = some (SzD F rem) ∧ sa ≠ oa ∧ sa ≠ pa ∧ H' oa = some (.lst (done.map nV)) ∧
          σ = [some (.ref pa), some (nV r'), some (nV (oc F rem)), some (.ref sa), some (.ref oa), v] ∧ r' < oc F rem ∧ done.length + rem.length = F.ns.length ∧ (ords F F.ns)[r]? = (ords F rem)[r']?.map (done ++ ·),
        ⟨_, F.ns, [], r, sa, none, rfl, F.upNs, by omega, s3, hsaH, by rw [upd_ne noa]; exact h2, noa, npsa, upd_same, rfl, by omega, by simp, by
          cases (ords F F.ns)[r]? <;> rfl⟩, ?_⟩
      rintro m σ H' ⟨rem, done, r', sa, v, rfl, U, hl63, s4, hsa0, hz, n1, n2, ho, rfl, hr', hln, hat⟩
      refine ⟨_, rfl, _, .inr (.inr ⟨_, hz, rfl⟩), ?_⟩
      cases rem with
      | nil =>
        refine ifF rfl ?_
        refine ⟨_, rfl, ?_⟩
        refine q H' oa done s4 hoaH ho ?_
        have : r' = 0 := by
          have : oc F ([] : List Nat) = 1 := rfl
          omega
        subst this
        rw [hat]
        show some (done ++ []) = _
        rw [List.append_nil]
      | cons x xs =>
        refine ifT rfl ⟨fun σ' H3 => ∃ m', m' < (x :: xs).length ∧ _, fun _ _ z => z, ?_⟩
        refine ⟨_, rfl, _, rfl, _, rfl, _, rfl, F, pa, sa, x :: xs, r', rfl, .inl (s4 _ _ hp), hz, U, by omega, by simp, hr', n2, fun H5 t l r2 s5 ht hl hr2 hrow => ?_⟩
        refine ⟨t, _, rfl, SqT.of ht, rfl, _, _, rfl, _, _, rfl, _, _, rfl, rfl, ?_⟩
        have ho5 := s5 _ _ ho
        have hz5 := s5 _ _ hz
        have s45 := s4.trans s5
        refine ⟨_, rfl, .inl ⟨rfl, _, SqL.of ho5⟩, _, rfl, oa, _, _, rfl, rfl, ho5, ?_, ?_⟩
        · rw [List.length_map]
          rw [List.length_cons] at hln
          exact small100 (by omega)
        have s6 := s45.put (o := .lst (done.map nV ++ [nV l])) hoaH
        have hlr := (Fo.mem_ops.mp hl).1
        refine ⟨_, rfl, _, rfl, _, rfl, F, pa, sa, x :: xs, l, rfl, .inl (s6 _ _ hp), by rw [upd_ne n1]; exact hz5, U, hl, by omega, n2, fun H7 d s7 hd h7 => ?_⟩
        have hdo : d ≠ oa := fun e => by rw [e, upd_same] at hd; cases hd
        have hd0 : H d = none := s6.free hd
        have el := erase_len hl
        refine ⟨((x :: xs).erase l).length, by omega, (x :: xs).erase l, done ++ [l], r2, d, _, rfl, U.erase hl, by omega, s6.trans s7, hd0, h7, hdo, (fun e => by rw [e, hp] at hd0; cases hd0), ?_, rfl, hr2, ?_, ?_⟩
        · rw [s7 _ _ upd_same, List.map_append]; rfl
        · rw [List.length_append, List.length_singleton]; omega
        · rw [hat, hrow]
          cases (ords F ((x :: xs).erase l))[r2]? with
          | none => rfl
          | some z => show some (done ++ l :: z) = some (done ++ [l] ++ z); rw [List.append_assoc]; rfl
/-! is_integer -/
/-- a value is a whole number (True and False are none) -/
inductive IsI (K : PySem.W.Frag) (H : Hp) : V → Bool → Prop
  | int (i : Int) : IsI K H (.int i) true
  | non : IsI K H .non false
  | bl (b : Bool) : IsI K H (.bl b) false
  | str (x : Str) : IsI K H (.str x) false
  | lst {a : Addr} {xs : List V} (h : H a = some (.lst xs)) : IsI K H (.ref a) false
  | tup {a : Addr} {xs : List V} (h : H a = some (.tup xs)) : IsI K H (.ref a) false
def spII (K : PySem.W.Frag) : Sp := fun vs H Q _ => ∃ (x : V) (b : Bool), vs = [x] ∧ IsI K H x b ∧ Q (.bl b) H
theorem ok_is_integer (T : Tb mg) (F : Df K mg "is_integer" s_is_integer) : Cl P w K mg base 1 "is_integer" (spII K) := by
  refine cl_mk F sc_is_integer (fun vs H Q E h => ?_) (fun _ _ _ _ _ _ us hl => match us, hl with | [_], _ => rfl) (fun f cdv A outer s H vs Q E hr h => ?_)
  · obtain ⟨_, _, rfl, _⟩ := h; rfl
  · have hu := hu_of hr
    obtain ⟨x, b, rfl, hx, q⟩ := h
    refine ⟨_, PSs.nox (pss_one (ps_ret (pe_and (pe_callB call_isi (by rfl) T.n_isinstance (by decide +kernel) (pa_cons (pv 0) (pa_cons (pe_bltn (v := .ty "int") (u := .type "int") (by rfl) T.n_int (by decide +kernel) rfl) pa_nil))) (pe_one (pe_not (pe_callB call_isi (by rfl) T.n_isinstance (by decide +kernel) (pa_cons (pv 0) (pa_cons (pe_bltn (v := .ty "bool") (u := .type "bool") (by rfl) T.n_bool (by decide +kernel) rfl) pa_nil)))))))), ?_⟩
    have go : ∀ (t : String) (b1 b2 : Bool), TyX K H x (.type t) → PySem.W.kitOne K (.type t) (.type "int") = some b1 → (b1 = true → PySem.W.kitOne K (.type t) (.type "bool") = some b2) → b = (b1 && !b2) →
        tAndV (tCB (rIsi K) (tCons (tVar 0) (tCons (tC (.ty "int")) tNil))) (tNotV (tCB (rIsi K) (tCons (tVar 0) (tCons (tC (.ty "bool")) tNil)))) [some x] H Q := by
      intro t b1 b2 ht h1 h2 hb
      refine ⟨_, rfl, x, _, _, _, b1, rfl, .ty _, ht, h1, b1, rfl, ?_⟩
      cases b1 with
      | false => exact ifF rfl (by rw [hb] at q; exact q)
      | true =>
        refine ifT rfl ⟨_, rfl, x, _, _, _, b2, rfl, .ty _, ht, h2 rfl, b2, rfl, ?_⟩
        rw [hb] at q
        exact q
    cases hx with
    | int i => exact go "int" true false (.base (.int i)) (kit_ty (by decide +kernel)) (fun _ => kit_ty (by decide +kernel)) rfl
    | non => exact go "NoneType" false false (.base .non) (kit_ty (by decide +kernel)) (fun z => nomatch z) rfl
    | bl b => exact go "bool" true true (.base (.bl b)) (kit_ty (by decide +kernel)) (fun _ => kit_ty (by decide +kernel)) rfl
    | str x => exact go "str" false false (.base (.str x)) (kit_ty (by decide +kernel)) (fun z => nomatch z) rfl
    | lst h => exact go "list" false false (.base (.lst h)) (kit_ty (by decide +kernel)) (fun z => nomatch z) rfl
    | tup h => exact go "tuple" false false (.base (.tup h)) (kit_ty (by decide +kernel)) (fun z => nomatch z) rfl
end
end K22
set_option Elab.async false
set_option linter.all false
set_option maxRecDepth 100000
set_option maxHeartbeats 4000000
namespace K22
open PySem PySem.Spec PyProof.Rows L2
/-! is_order, order_rank -/
/-- what stands in a list of which is_order asks -/
def goO (F : Fo) : List Nat → List V → Bool
  | _, [] => true
  | seen, .int i :: r => if 0 ≤ i ∧ i.toNat ∈ F.ns then (if i.toNat ∈ seen ∨ (∃ q ∈ seen, F.p i.toNat = some q) then false else goO F (seen ++ [i.toNat]) r) else false
  | _, _ :: _ => false
theorem goO_int (F : Fo) (seen : List Nat) (i : Int) (r : List V) : goO F seen (.int i :: r) = if 0 ≤ i ∧ i.toNat ∈ F.ns then (if i.toNat ∈ seen ∨ (∃ q ∈ seen, F.p i.toNat = some q) then false else goO F (seen ++ [i.toNat]) r) else false := by rw [goO]
def isOrdL (F : Fo) (xs : List V) : Bool := decide (xs.length = F.ns.length) && goO F [] xs
/-- a list that is an order: its numbers -/
theorem goO_row {F : Fo} : ∀ {xs : List V} {seen : List Nat}, goO F seen xs = true → seen.Nodup → ∃ row : List Nat, xs = row.map nV ∧ (∀ a ∈ row, a ∈ F.ns) ∧ (seen ++ row).Nodup ∧
    ∀ pre a post, row = pre ++ a :: post → ∀ q, F.p a = some q → q ∉ seen ++ pre
  | [], seen, h, nd => ⟨[], rfl, by simp, by simpa using nd, fun pre a post e => by
      have := congrArg List.length e
      simp at this⟩
  | x :: xs, seen, h, nd => by
    cases x with
    | int i =>
      unfold goO at h
      by_cases c1 : 0 ≤ i ∧ i.toNat ∈ F.ns
      · rw [if_pos c1] at h
        by_cases c2 : i.toNat ∈ seen ∨ (∃ q ∈ seen, F.p i.toNat = some q)
        · rw [if_pos c2] at h; cases h
        · rw [if_neg c2] at h
          have hn : i.toNat ∉ seen := fun z => c2 (.inl z)
          have nd2 : (seen ++ [i.toNat]).Nodup := List.nodup_append.mpr ⟨nd, by simp, fun a ha b hb => by simp at hb; intro e; rw [hb] at e; rw [e] at ha; exact hn ha⟩
          obtain ⟨row, e1, e2, e3, e4⟩ := goO_row h nd2
          refine ⟨i.toNat :: row, ?_, ?_, ?_, ?_⟩
          · rw [List.map_cons, e1]
            congr 1
            show V.int i = V.int ((i.toNat : Nat) : Int)
            rw [Int.toNat_of_nonneg c1.1]
          · intro a ha
            rcases List.mem_cons.mp ha with rfl | ha
            · exact c1.2
            · exact e2 a ha
          · rw [List.append_assoc] at e3; exact e3
          · intro pre a post e q hq
            cases pre with
            | nil =>
              rw [List.nil_append] at e
              have ea : i.toNat = a := (List.cons.inj e).1
              rw [List.append_nil]
              intro hm
              exact c2 (.inr ⟨q, hm, by rw [ea]; exact hq⟩)
            | cons b pre =>
              rw [List.cons_append] at e
              obtain ⟨eb, er⟩ := List.cons.inj e
              have := e4 pre a post er q hq
              rw [← eb]
              rw [List.append_assoc] at this
              exact this
      · rw [if_neg c1] at h; cases h
    | non => cases h
    | bl _ => cases h
    | str _ => cases h
    | byt _ => cases h
    | flt _ => cases h
    | ref _ => cases h
    | ty _ => cases h
/-- all of them, none twice, none behind its parent: an order -/
theorem ok_of {F : Fo} : ∀ {row rem : List Nat}, F.Up rem → row.Perm rem → (∀ pre a post, row = pre ++ a :: post → ∀ q, F.p a = some q → q ∉ pre) → Ok F rem row
  | [], rem, U, p, h => by
    have : rem = [] := List.length_eq_zero_iff.mp (by rw [← p.length_eq]; rfl)
    subst this; exact .nil
  | a :: row, rem, U, p, h => by
    have nd := p.nodup_iff.mpr (Fo.nodup_of_asc U.asc)
    have ha : a ∈ rem := p.mem_iff.mp (by simp)
    have hop : a ∈ F.ops rem := Fo.open_of U ha fun u hu e => by
      have hur := p.mem_iff.mpr hu
      have hne : u ≠ a := fun z => by
        subst z
        have hn := U.sub u ha
        exact Fo.not_mem_up hn e (Fo.mem_ch_self hn)
      rcases List.mem_cons.mp hur with z | hur
      · exact hne z
      · obtain ⟨pre, post, e2⟩ := List.append_of_mem hur
        exact h (a :: pre) u post (by rw [e2]; rfl) a e (by simp)
    refine .cons hop (ok_of (U.erase hop) ?_ ?_)
    · exact List.Perm.cons_inv (p.trans (List.perm_cons_erase ha))
    · intro pre b post e q hq hm
      exact h (a :: pre) b post (by rw [e]; rfl) q hq (List.mem_cons_of_mem _ hm)
theorem len_perm : ∀ {a b : List Nat}, a.Nodup → (∀ x ∈ a, x ∈ b) → b.length ≤ a.length → b.Nodup → a.Perm b := fun {a b} na h hl nb => by
  refine Fo.perm_of_mem na nb fun x => ⟨h x, fun hx => ?_⟩
  by_cases c : x ∈ a
  · exact c
  · exfalso
    have := sub_len (a := a) (b := b.erase x) na fun y hy => (List.mem_erase_of_ne (fun e => c (by rw [← e]; exact hy))).mpr (h y hy)
    rw [List.length_erase_of_mem hx] at this
    have := List.length_pos_of_mem hx
    omega
theorem isOrd_row {F : Fo} {xs : List V} (h : isOrdL F xs = true) : ∃ row : List Nat, xs = row.map nV ∧ Ok F F.ns row := by
  obtain ⟨h1, h2⟩ := Bool.and_eq_true_iff.mp h
  obtain ⟨row, e1, e2, e3, e4⟩ := goO_row h2 (by simp)
  refine ⟨row, e1, ok_of F.upNs (len_perm (by simpa using e3) e2 ?_ (Fo.nodup_of_asc F.asc)) fun pre a post e q hq => by simpa using e4 pre a post e q hq⟩
  have := of_decide_eq_true h1
  rw [e1, List.length_map] at this
  omega
/-- and the other way round -/
theorem goO_ok {F : Fo} : ∀ {row seen : List Nat}, (∀ a ∈ row, a ∈ F.ns) → (seen ++ row).Nodup → (∀ pre a post, row = pre ++ a :: post → ∀ q, F.p a = some q → q ∉ seen ++ pre) → goO F seen (row.map nV) = true
  | [], seen, _, _, _ => rfl
  | a :: row, seen, h1, h2, h3 => by
    show goO F seen (.int (a : Int) :: row.map nV) = true
    unfold goO
    have ha := h1 a (by simp)
    rw [if_pos ⟨by omega, by simpa using ha⟩, if_neg ?_]
    · refine goO_ok (fun b hb => h1 b (by simp [hb])) (by rw [List.append_assoc]; exact h2) fun pre b post e q hq => ?_
      have := h3 (a :: pre) b post (by rw [e]; rfl) q hq
      rw [List.append_assoc]
      exact this
    · have hs : a ∉ seen := fun z => (List.nodup_append.mp h2).2.2 a z a (by simp) rfl
      rintro (z | ⟨q, hq, e⟩)
      · exact hs (by simpa using z)
      · have := h3 [] a row rfl q (by simpa using e)
        simp at this
        exact this hq
theorem Ok.before {F : Fo} {rem row : List Nat} (h : Ok F rem row) : F.Up rem → ∀ pre a post, row = pre ++ a :: post → ∀ q, F.p a = some q → q ∉ pre := by
  induction h with
  | nil => intro _ pre a post e; simp at e
  | @cons rem r b hb t ih =>
    intro U pre a post e q hq hm
    cases pre with
    | nil => cases hm
    | cons c pre =>
      rw [List.cons_append] at e
      obtain ⟨e1, e2⟩ := List.cons.inj e
      rcases List.mem_cons.mp hm with rfl | hm
      · have har : a ∈ rem := List.mem_of_mem_erase (t.mem a (by rw [e2]; simp))
        rw [← e1] at hq
        exact Fo.open_nokid U hb a har hq
      · exact ih (U.erase hb) pre a post e2 q hq hm
theorem isOrd_ok {F : Fo} {row : List Nat} (h : Ok F F.ns row) : isOrdL F (row.map nV) = true := by
  refine Bool.and_eq_true_iff.mpr ⟨decide_eq_true (by rw [List.length_map]; exact h.perm.length_eq), ?_⟩
  refine goO_ok (fun a ha => h.mem a ha) (by simpa using h.perm.nodup_iff.mpr (Fo.nodup_of_asc F.asc)) fun pre a post e q hq => by simpa using h.before F.upNs pre a post e q hq
/-- what is_order is asked of -/
inductive OrdA (K : PySem.W.Frag) (H : Hp) (F : Fo) : V → Bool → Prop
  | lst {a : Addr} {xs : List V} (h : H a = some (.lst xs)) (hi : ∀ y ∈ xs, ∃ b, IsI K H y b) : OrdA K H F (.ref a) (isOrdL F xs)
  | non : OrdA K H F .non false
  | int (i : Int) : OrdA K H F (.int i) false
  | tup {a : Addr} {xs : List V} (h : H a = some (.tup xs)) : OrdA K H F (.ref a) false
theorem IsI.same {K : PySem.W.Frag} {H H' : Hp} {y : V} {b : Bool} (e : Same H H') (h : IsI K H y b) : IsI K H' y b := by
  cases h with
  | int i => exact .int i
  | non => exact .non
  | bl b => exact .bl b
  | str x => exact .str x
  | lst h => exact .lst (e _ _ h)
  | tup h => exact .tup (e _ _ h)
section
variable {P : Program} {w : World} {K : PySem.W.Frag} {mg : Str → Option Value} {base : Heap}
def spIO (K : PySem.W.Frag) : Sp := fun vs H Q _ => ∃ (F : Fo) (pa : Addr) (x : V) (b : Bool), vs = [.ref pa, x] ∧ H pa = some (ParD F) ∧ F.ns.length < 64 ∧ OrdA K H F x b ∧ ∀ H' : Hp, Same H H' → Q (.bl b) H'
theorem ok_is_order (T : Tb mg) (F : Df K mg "is_order" s_is_order) (c_is_integer : Cl P w K mg base 1 "is_integer" (spII K)) : Cl P w K mg base 2 "is_order" (spIO K) := by
  refine cl_mk F sc_is_order (fun vs H Q E h => ?_) (fun _ _ _ _ _ _ us hl => match us, hl with | [_, _], _ => rfl) (fun f cdv A outer s H vs Q E hr h => ?_)
  · obtain ⟨_, _, _, _, rfl, _⟩ := h; rfl
  · have hu := hu_of hr
    obtain ⟨F, pa, x, b, rfl, hp, h64, hx, q⟩ := h
    refine ⟨_, PSs.nox (pss_cons (ps_if (PW.pt (pw_or (pt_not (pt_val (pe_callB call_isi (by rfl) T.n_isinstance (by decide +kernel) (pa_cons (pv 1) (pa_cons (pe_bltn (v := .ty "list") (u := .type "list") (by rfl) T.n_list (by decide +kernel) rfl) pa_nil))))) (pw_or1 (pt_cmpR op_ne (pe_callB call_len_seq (by rfl) T.n_len (by decide +kernel) (pa_cons (pv 1) pa_nil)) (pe_callB call_lenDR (by rfl) T.n_len (by decide +kernel) (pa_cons (pv 0) pa_nil)) (nomark _)))))
      (pss_one (ps_ret pe_bl))
      pss_nil)
    (pss_cons (ps_set (i := 2) sc_is_order.nd rfl (Or.inl rfl) pe_dnewK)
    (pss_cons (ps_for PassesOwn.never rfl (pi_list (pv 1)) (pg_name (i := 3) sc_is_order.nd rfl (Or.inl rfl))
      (pss_cons (ps_if (PW.pt (pw_or (pt_not (pt_val (pe_cl c_is_integer hr (by decide) rfl (pa_cons (pv 3) pa_nil)))) (pw_or1 (pt_cmp (pc_dnotin hu (pv 3) (pv 0))))))
        (pss_one (ps_ret pe_bl))
        pss_nil)
      (pss_cons (ps_if (PW.pt (pw_or (pt_cmp (pc_din hu (pv 3) (pv 2))) (pw_or1 (pt_cmp (pc_dinN hu (pe_dget hu (pv 0) (pv 3) (fun _ _ => rfl)) (pv 2))))))
        (pss_one (ps_ret pe_bl))
        pss_nil)
      (pss_one (ps_dput hu (pv 2) (pv 3) pe_bl rfl)))))
    (pss_one (ps_ret pe_bl))))), ?_⟩
    cases hx with
    | non => exact ⟨_, rfl, _, _, _, _, false, rfl, .ty _, .base .non, kit_ty (by decide +kernel), false, rfl, q H (Same.refl H)⟩
    | int i => exact ⟨_, rfl, _, _, _, _, false, rfl, .ty _, .base (.int i), kit_ty (by decide +kernel), false, rfl, q H (Same.refl H)⟩
    | tup h => exact ⟨_, rfl, _, _, _, _, false, rfl, .ty _, .base (.tup h), kit_ty (by decide +kernel), false, rfl, q H (Same.refl H)⟩
    | @lst a xs h hi =>
      refine ⟨_, rfl, _, _, _, _, true, rfl, .ty _, .base (.lst h), kit_ty (by decide +kernel), true, rfl, ?_⟩
      refine ⟨_, rfl, a, xs, rfl, .inl (SqL.of h), _, rfl, pa, _, rfl, .inl hp, rfl, _, rfl, ?_⟩
      have hd : decide (V.int (xs.length : Int) = V.int (((dmap F.ns fun v => pV (F.p v)).length : Nat) : Int)) = decide (xs.length = F.ns.length) := by
        rw [dmap_len]
        exact nV_dec _ _
      by_cases c : xs.length = F.ns.length
      · refine ifF (by rw [hd, decide_eq_true c]; rfl) ?_
        -- seen = {}
        intro d hd0
        refine ⟨_, rfl, a, rfl, ⟨_, SqL.of ((upd_ne (ne_of_none h hd0)).trans h)⟩, for_pre (wf_list (K := K) (a := a) xs fun v => v)
          (fun pre σ H' => ∃ (seen : List Nat) (v : Option V), pre = seen.map nV ∧ σ = [some (.ref pa), some (.ref a), some (.ref d), v] ∧ Same H H' ∧ H' d = some (.dK (dmap seen fun _ => .bl true)) ∧ ∀ post, xs = pre ++ post → goO F [] xs = goO F seen post) ?_ ?_ ?_ ?_⟩
        · exact ⟨[], none, rfl, rfl, (Same.refl H).new hd0, upd_same, fun post e => by rw [List.nil_append] at e; rw [← e]⟩
        · rintro pre σ H' ⟨seen, v, e, rfl, s1, h1, h2⟩
          rw [List.map_id']
          exact SqL.of (s1 _ _ h)
        · rintro pre y post σ H' e ⟨seen, v, rfl, rfl, s1, h1, h2⟩
          have hg := h2 _ e
          obtain ⟨bi, hbi⟩ := hi y (by rw [e]; simp)
          have hbi' := hbi.same s1
          have hp1 := s1 _ _ hp
          have hlen : seen.length < 100 := by
            have : xs.length = seen.length + (post.length + 1) := by rw [e, List.length_append, List.length_map, List.length_cons]
            omega
          have retF : goO F [] xs = false → Q (.bl false) H' := fun z => by
            have := q H' s1
            unfold isOrdL at this
            rw [z, Bool.and_false] at this
            exact this
          refine ⟨_, rfl, y, bi, rfl, hbi', bi, rfl, ?_⟩
          cases hbi with
          | int i =>
            refine ifF rfl ?_
            refine ⟨_, rfl, _, rfl, pa, _, rfl, dget_i (.inl hp1) i, _, rfl, ?_⟩
            rw [goO_int] at hg
            by_cases c1 : 0 ≤ i ∧ i.toNat ∈ F.ns
            · rw [if_pos c1] at hg ⊢
              refine ifF rfl ?_
              have ei : V.int i = nV i.toNat := by
                show V.int i = V.int ((i.toNat : Nat) : Int)
                rw [Int.toNat_of_nonneg c1.1]
              refine ⟨_, rfl, _, rfl, d, _, rfl, by rw [ei]; exact dget_o (.inl h1) i.toNat, _, rfl, ?_⟩
              by_cases c2 : i.toNat ∈ seen
              · rw [if_pos c2]
                refine ifT rfl ?_
                exact ifT rfl (retF (by rw [hg, if_pos (.inl c2)]))
              · rw [if_neg c2]
                refine ifF rfl ?_
                refine ⟨_, rfl, _, rfl, pa, _, rfl, by rw [ei]; exact dget_n (.inl hp1) c1.2, _, rfl, ?_⟩
                have dp : DPut H' d (.int i) (.bl true) (upd H' d (.dK (dmap (seen ++ [i.toNat]) (upF (fun _ => .bl true) i.toNat (.bl true))))) := by
                  rw [ei]; exact dput_add h1 c2 (small100 (by omega))
                have eu : dmap (seen ++ [i.toNat]) (upF (fun _ => V.bl true) i.toNat (.bl true)) = dmap (seen ++ [i.toNat]) (fun _ => V.bl true) := dmap_congr fun v _ => by unfold upF; by_cases z : v = i.toNat <;> simp [z]
                have nxt : (∀ q, F.p i.toNat = some q → q ∉ seen) → ∀ post2, xs = (seen.map nV ++ [V.int i]) ++ post2 → goO F [] xs = goO F (seen ++ [i.toNat]) post2 := by
                  intro hq post2 e2
                  rw [hg, if_neg (fun z => z.elim c2 fun ⟨q, h1, h2⟩ => hq q h2 h1)]
                  rw [e, List.append_assoc] at e2
                  have e3 := List.append_cancel_left e2
                  rw [(List.cons.inj e3).2]; rfl
                cases ep : F.p i.toNat with
                | none =>
                  refine .inr ⟨d, _, rfl, rfl, .inl h1, false, rfl, ifF rfl ?_⟩
                  refine ⟨_, rfl, _, rfl, d, _, rfl, dp, seen ++ [i.toNat], some (.int i), by rw [List.map_append, ei]; rfl, rfl, s1.put hd0, by rw [upd_same, eu], nxt fun q z => by rw [ep] at z; cases z⟩
                | some qq =>
                  refine .inl ⟨d, _, rfl, dget_o (.inl h1) qq, _, rfl, ?_⟩
                  by_cases c3 : qq ∈ seen
                  · rw [if_pos c3]
                    refine ifT rfl ?_
                    exact retF (by rw [hg, if_pos (.inr ⟨qq, c3, ep⟩)])
                  · rw [if_neg c3]
                    refine ifF rfl ?_
                    refine ⟨_, rfl, _, rfl, d, _, rfl, dp, seen ++ [i.toNat], some (.int i), by rw [List.map_append, ei]; rfl, rfl, s1.put hd0, by rw [upd_same, eu], nxt fun q z => by rw [ep] at z; cases z; exact c3⟩
            · rw [if_neg c1] at hg ⊢
              refine ifT rfl ?_
              exact retF hg
          | non => exact ifT rfl (retF hg)
          | bl b => exact ifT rfl (retF hg)
          | str x => exact ifT rfl (retF hg)
          | lst h => exact ifT rfl (retF hg)
          | tup h => exact ifT rfl (retF hg)
        · rintro σ H' ⟨seen, v, e, rfl, s1, h1, h2⟩
          have := h2 [] (by simp)
          have e2 : isOrdL F xs = true := by
            unfold isOrdL
            rw [decide_eq_true c, this]; rfl
          have q2 := q H' s1
          rw [e2] at q2
          exact q2
      · refine ifT (by rw [hd, decide_eq_false c]; rfl) ?_
        have e2 : isOrdL F xs = false := by unfold isOrdL; rw [decide_eq_false c]; rfl
        have q2 := q H (Same.refl H)
        rw [e2] at q2
        exact q2
/-! order_rank -/
def spOR (K : PySem.W.Frag) : Sp := fun vs H Q _ => ∃ (F : Fo) (pa : Addr) (x : V) (b : Bool), vs = [.ref pa, x] ∧ H pa = some (ParD F) ∧ F.ns.length < 64 ∧ OrdA K H F x b ∧
  (b = false → ∀ H' : Hp, Same H H' → Q .non H') ∧ (∀ (a : Addr) (row : List Nat), x = .ref a → H a = some (.lst (row.map nV)) → Ok F F.ns row → ∀ H' : Hp, Same H H' → Q (nV (rankF F F.ns row)) H')
theorem ok_order_rank (T : Tb mg) (F : Df K mg "order_rank" s_order_rank) (c_is_order : Cl P w K mg base 2 "is_order" (spIO K)) (c_order_count : Cl P w K mg base 2 "order_count" spOC) (c_branch_sizes : Cl P w K mg base 1 "branch_sizes" spBS)
    (c_count_begun : Cl P w K mg base 1 "count_begun" spCB) (c_sizes_without : Cl P w K mg base 1 "sizes_without" spSW) : Cl P w K mg base 3 "order_rank" (spOR K) := by
  refine cl_mk F sc_order_rank (fun vs H Q E h => ?_) (fun _ _ _ _ _ _ us hl => match us, hl with | [_, _], _ => rfl) (fun f cdv A outer s H vs Q E hr h => ?_)
  · obtain ⟨_, _, _, _, rfl, _⟩ := h; rfl
  · have hu := hu_of hr
    obtain ⟨F, pa, x, b, rfl, hp, h64, hx, qF, qT⟩ := h
    refine ⟨_, PSs.nox (pss_cons (ps_if (pt_not (pt_val (pe_cl c_is_order hr (by decide) rfl (pa_cons (pv 0) (pa_cons (pv 1) pa_nil)))))
      (pss_one (ps_ret pe_non))
      pss_nil)
    (pss_cons (ps_set (i := 2) sc_order_rank.nd rfl (Or.inl rfl) (pe_cl c_branch_sizes hr (by decide) rfl (pa_cons (pv 0) pa_nil)))
    (pss_cons (ps_set (i := 3) sc_order_rank.nd rfl (Or.inl rfl) (pe_cl c_order_count hr (by decide) rfl (pa_cons (pv 0) pa_nil)))
    (pss_cons (ps_set (i := 4) sc_order_rank.nd rfl (Or.inl rfl) pe_int)
    (pss_cons (ps_for PassesOwn.never rfl (pi_list (pv 1)) (pg_name (i := 5) sc_order_rank.nd rfl (Or.inl rfl))
      (pss_cons (ps_lock (ps_for PassesOwn.never rfl (pi_keys (pv 2)) (pg_name (i := 6) sc_order_rank.nd rfl (Or.inl rfl))
        (pss_one (ps_if (PW.pt (pw_and (pt_cmpR op_lt (pv 6) (pv 5) (nomark _)) (pw_and1 (pt_cmpR op_eq (pe_dget hu (pv 2) (pv 6) (fun _ _ => rfl)) pe_int (nomark _)))))
          (pss_one (ps_set (i := 4) sc_order_rank.nd rfl (Or.inl rfl) (pe_op op_add (pv 4) (pe_cl c_count_begun hr (by decide) rfl (pa_cons (pv 0) (pa_cons (pv 2) (pa_cons (pv 3) (pa_cons (pv 6) pa_nil))))))))
          pss_nil))))
      (pss_cons (ps_set (i := 3) sc_order_rank.nd rfl (Or.inl rfl) (pe_cl c_count_begun hr (by decide) rfl (pa_cons (pv 0) (pa_cons (pv 2) (pa_cons (pv 3) (pa_cons (pv 5) pa_nil))))))
      (pss_one (ps_set (i := 2) sc_order_rank.nd rfl (Or.inl rfl) (pe_cl c_sizes_without hr (by decide) rfl (pa_cons (pv 0) (pa_cons (pv 2) (pa_cons (pv 5) pa_nil)))))))))
    (pss_one (ps_ret (pv 4)))))))), ?_⟩
    refine ⟨_, rfl, _, rfl, F, pa, x, b, rfl, hp, h64, hx, fun H1 s1 => ⟨b, rfl, ?_⟩⟩
    cases hb : b with
    | false =>
      refine ifT rfl ?_
      exact qF hb H1 s1
    | true =>
      refine ifF rfl ?_
      cases hx with
      | non => cases hb
      | int _ => cases hb
      | tup _ => cases hb
      | @lst a xs h hi =>
        obtain ⟨row, exs, hok⟩ := isOrd_row hb
        subst exs
        have q := qT a row rfl h hok
        refine ⟨_, rfl, F, pa, rfl, s1 _ _ hp, h64, fun H2 sa s2 hsa h2 => ?_⟩
        refine ⟨_, rfl, F, pa, rfl, s2 _ _ (s1 _ _ hp), h64, fun H3 s3 => ?_⟩
        have s13 := (s1.trans s2).trans s3
        have hsaH : H sa = none := s1.free hsa
        have npsa : sa ≠ pa := fun e => by rw [e, hp] at hsaH; cases hsaH
        refine ⟨_, rfl, a, rfl, ⟨_, SqL.of (s13 _ _ h)⟩, for_pre (wf_list (K := K) (a := a) row nV)
          (fun pre σ H' => ∃ (rem : List Nat) (r : Nat) (sa : Addr) (v1 v2 : Option V), σ = [some (.ref pa), some (.ref a), some (.ref sa), some (nV (oc F rem)), some (nV r), v1, v2] ∧ Same H H' ∧ H sa = none ∧ H' sa = some (SzD F rem) ∧ sa ≠ pa ∧ F.Up rem ∧ rem.length ≤ 64 ∧
            ∀ post, row = pre ++ post → Ok F rem post ∧ r + rankF F rem post = rankF F F.ns row) ?_ ?_ ?_ ?_⟩
        · exact ⟨F.ns, 0, sa, none, none, rfl, s13, hsaH, s3 _ _ h2, npsa, F.upNs, by omega, fun post e => by rw [List.nil_append] at e; rw [← e]; exact ⟨hok, by omega⟩⟩
        · rintro pre σ H' ⟨rem, r, sa, v1, v2, rfl, s4, _⟩
          exact SqL.of (s4 _ _ h)
        · rintro pre z post σ H' e ⟨rem, r, sa, v1, v2, rfl, s4, hs0, hz, n1, U, h64r, hpost⟩
          obtain ⟨hok2, hrk⟩ := hpost _ e
          have hzop : z ∈ F.ops rem := by cases hok2 with | cons h _ => exact h
          have htl : Ok F (rem.erase z) post := by cases hok2 with | cons _ t => exact t
          have erk : rankF F rem (z :: post) = sumL ((F.ops rem).filter fun l => decide (l < z)) (fun l => oc F (rem.erase l)) + rankF F (rem.erase z) post := rfl
          -- for smaller in sizes
          refine ⟨sa, _, hz, trivial, fun od => ⟨_, rfl, sa, od, rfl, .inl ⟨_, upd_same, for_pre (wf_keys (d := sa) (o := od) rem fun v => nV (F.sz rem v))
            (fun pre2 σ H'' => ∃ v2, σ = [some (.ref pa), some (.ref a), some (.ref sa), some (nV (oc F rem)), some (nV (r + sumL (pre2.filter fun l => decide (l < z) && F.sz rem l == 1) fun l => oc F (rem.erase l))), some (nV z), v2] ∧ SameBut sa H' H'' ∧ H'' sa = some (.frz od (SzD F rem))) ?_ ?_ ?_ ?_⟩⟩⟩
          · exact ⟨v2, rfl, (Same.refl H').lock, upd_same⟩
          · rintro pre2 σ H'' ⟨v, rfl, _, h⟩
            exact h
          · rintro pre2 l post2 σ H'' e2 ⟨v, rfl, s5, h5⟩
            have hlr : l ∈ rem := by rw [e2]; simp
            have hp5 : ParAt H'' pa F := .inl (s5 _ _ (fun e => n1 e.symm) (s4 _ _ hp))
            refine ⟨_, rfl, _, rfl, ((l : Nat) : Int), ((z : Nat) : Int), rfl, rfl, _, rfl, ?_⟩
            by_cases c1 : l < z
            · refine ifT (decide_eq_true (by omega)) ?_
              refine ⟨_, rfl, _, rfl, sa, _, rfl, dget_n (.inr ⟨od, h5⟩) hlr, rfl, _, rfl, ?_⟩
              have hd : decide (nV (F.sz rem l) = V.int 1) = decide (F.sz rem l = 1) := nV_dec _ 1
              by_cases c2 : F.sz rem l = 1
              · refine ifT (by rw [hd]; exact decide_eq_true c2) ?_
                refine ⟨_, rfl, _, rfl, _, rfl, _, rfl, _, rfl, F, pa, sa, rem, l, rfl, hp5, .inr ⟨od, h5⟩, U, Fo.mem_ops.mpr ⟨hlr, c2⟩, h64r, _, _, rfl, rfl, ?_⟩
                refine ⟨some (nV l), ?_, s5, h5⟩
                rw [List.filter_append, List.filter_cons, if_pos (by simp [c1, c2]), sumL_app, List.filter_nil, sumL_cons, sumL_nil, Nat.add_zero, ← Nat.add_assoc]
                show _ = [some (V.ref pa), some (V.ref a), some (V.ref sa), some (nV (oc F rem)), some (V.int ((_ + _ : Nat) : Int)), _, _]
                rw [Int.natCast_add]
                rfl
              · refine ifF (by rw [hd]; exact decide_eq_false c2) ?_
                refine ⟨some (nV l), ?_, s5, h5⟩
                rw [List.filter_append, List.filter_cons, if_neg (by simp [c2]), List.filter_nil, List.append_nil]
                rfl
            · refine ifF (decide_eq_false (by omega)) ?_
              refine ifF rfl ?_
              refine ⟨some (nV l), ?_, s5, h5⟩
              rw [List.filter_append, List.filter_cons, if_neg (by simp [c1]), List.filter_nil, List.append_nil]
              rfl
          · rintro σ H'' ⟨v, rfl, s5, h5⟩
            refine ⟨h5, ?_⟩
            have s6 : Same H' (upd H'' sa (.dK (dmap rem fun v => nV (F.sz rem v)))) := s5.back hz
            have hz6 := s6 _ _ hz
            have s46 := s4.trans s6
            refine ⟨_, rfl, _, rfl, _, rfl, _, rfl, F, pa, sa, rem, z, rfl, .inl (s46 _ _ hp), .inl hz6, U, hzop, h64r, ?_⟩
            refine ⟨_, rfl, _, rfl, _, rfl, F, pa, sa, rem, z, rfl, .inl (s46 _ _ hp), hz6, U, hzop, h64r, n1, fun H7 d s7 hd h7 => ?_⟩
            have hd0 := s46.free hd
            refine ⟨rem.erase z, _, d, _, _, rfl, s46.trans s7, hd0, h7, (fun e => by rw [e, hp] at hd0; cases hd0), U.erase hzop, by have := erase_len hzop; omega, fun post3 e3 => ?_⟩
            rw [e, List.append_assoc] at e3
            have e4 := (List.cons.inj (List.append_cancel_left e3)).2
            have e5 : post3 = post := e4.symm
            subst e5
            refine ⟨htl, ?_⟩
            rw [← hrk, erk]
            have : (rem.filter fun l => decide (l < z) && F.sz rem l == 1) = (F.ops rem).filter fun l => decide (l < z) := by
              unfold Fo.ops
              rw [List.filter_filter]
            rw [this]
            omega
        · rintro σ H' ⟨rem, r, sa, v1, v2, rfl, s4, hs0, hz, n1, U, h64r, hpost⟩
          obtain ⟨h1, h2⟩ := hpost [] (by simp)
          refine ⟨_, rfl, ?_⟩
          have : r = rankF F F.ns row := by rw [← h2]; rfl
          subst this
          exact q H' s4
end
end K22
/-! Trees of forks and slots: ways, trails, chains; slots and forks are numbered from o on. Plain Lean. -/
set_option linter.all false
namespace K22
inductive Tr where
  | leaf
  | node (l r : Tr)
namespace Tr
def m : Tr → Nat
  | leaf => 1
  | node l r => l.m + r.m
theorem m_pos : ∀ T : Tr, 1 ≤ T.m
  | leaf => Nat.le_refl _
  | node l r => Nat.le_trans (m_pos l) (Nat.le_add_right _ _)
/-- the way to the slot u: forks and sides (76 L, 82 R) -/
def way (o : Nat) : Tr → Nat → List (Nat × Nat)
  | leaf, _ => []
  | node l r, u => if u < o + l.m then (o + l.m - 1, 76) :: way o l u else (o + l.m - 1, 82) :: way (o + l.m) r u
variable (e : Nat → Nat)
/-- the slot that the flags show -/
def mu (o : Nat) : Tr → Nat
  | leaf => o
  | node l r => if e (o + l.m - 1) = 76 then mu o l else mu (o + l.m) r
/-- the slot on whose trail the fork f lies -/
def own (o : Nat) : Tr → Nat → Nat
  | leaf, _ => o
  | node l r, f => if f = o + l.m - 1 then mu e o (node l r) else if f < o + l.m then own o l f else own (o + l.m) r f
def par (o : Nat) : Tr → Nat → Option Nat
  | leaf, _ => none
  | node l r, u =>
    if u < o + l.m then (match par o l u with
      | some q => some q
      | none => if e (o + l.m - 1) = 76 then none else some (mu e (o + l.m) r))
    else (match par (o + l.m) r u with
      | some q => some q
      | none => if e (o + l.m - 1) = 76 then some (mu e o l) else none)
def ch (o : Nat) : Tr → Nat → List Nat
  | leaf, u => [u]
  | node l r, u =>
    if u < o + l.m then (if e (o + l.m - 1) = 76 then ch o l u else ch o l u ++ [mu e (o + l.m) r])
    else (if e (o + l.m - 1) = 76 then ch (o + l.m) r u ++ [mu e o l] else ch (o + l.m) r u)
/-- the forks below the place where the trail of u begins -/
def rng (o : Nat) : Tr → Nat → Nat × Nat
  | leaf, _ => (o, o)
  | node l r, u =>
    if u < o + l.m then (if par e o l u = none then (if e (o + l.m - 1) = 76 then (o, o + (l.m + r.m) - 1) else (o, o + l.m - 1)) else rng o l u)
    else (if par e (o + l.m) r u = none then (if e (o + l.m - 1) = 76 then (o + l.m, o + (l.m + r.m) - 1) else (o, o + (l.m + r.m) - 1)) else rng (o + l.m) r u)
variable {e : Nat → Nat}
theorem mu_node (l r : Tr) (o : Nat) : mu e o (node l r) = if e (o + l.m - 1) = 76 then mu e o l else mu e (o + l.m) r := by rw [mu]
theorem own_node (l r : Tr) (o f : Nat) : own e o (node l r) f = if f = o + l.m - 1 then mu e o (node l r) else if f < o + l.m then own e o l f else own e (o + l.m) r f := by rw [own]
theorem par_node (l r : Tr) (o u : Nat) : par e o (node l r) u = if u < o + l.m then (match par e o l u with
      | some q => some q
      | none => if e (o + l.m - 1) = 76 then none else some (mu e (o + l.m) r))
    else (match par e (o + l.m) r u with
      | some q => some q
      | none => if e (o + l.m - 1) = 76 then some (mu e o l) else none) := by rw [par]
theorem ch_node (l r : Tr) (o u : Nat) : ch e o (node l r) u = if u < o + l.m then (if e (o + l.m - 1) = 76 then ch e o l u else ch e o l u ++ [mu e (o + l.m) r])
    else (if e (o + l.m - 1) = 76 then ch e (o + l.m) r u ++ [mu e o l] else ch e (o + l.m) r u) := by rw [ch]
theorem rng_node (l r : Tr) (o u : Nat) : rng e o (node l r) u = if u < o + l.m then (if par e o l u = none then (if e (o + l.m - 1) = 76 then (o, o + (l.m + r.m) - 1) else (o, o + l.m - 1)) else rng e o l u)
    else (if par e (o + l.m) r u = none then (if e (o + l.m - 1) = 76 then (o + l.m, o + (l.m + r.m) - 1) else (o, o + (l.m + r.m) - 1)) else rng e (o + l.m) r u) := by rw [rng]
theorem mu_in : ∀ (T : Tr) (o : Nat), o ≤ mu e o T ∧ mu e o T < o + T.m
  | leaf, o => ⟨Nat.le_refl _, by show o < o + 1; omega⟩
  | node l r, o => by
    have h1 := mu_in l o
    have h2 := mu_in r (o + l.m)
    have := m_pos l
    have := m_pos r
    rw [mu_node]
    show _ ∧ _ < o + (l.m + r.m)
    split <;> omega
theorem own_in : ∀ (T : Tr) (o f : Nat), o ≤ f → f + 1 < o + T.m → o ≤ own e o T f ∧ own e o T f < o + T.m
  | leaf, o, f, h1, h2 => by have : (leaf).m = 1 := rfl; omega
  | node l r, o, f, h1, h2 => by
    have h3 : f + 1 < o + (l.m + r.m) := h2
    have := m_pos l
    have := m_pos r
    rw [own_node]
    show _ ∧ _ < o + (l.m + r.m)
    split
    · exact mu_in (e := e) (node l r) o
    · split
      · have := own_in l o f h1 (by omega); omega
      · have := own_in r (o + l.m) f (by omega) (by omega); omega
theorem par_none : ∀ (T : Tr) (o u : Nat), o ≤ u → u < o + T.m → (par e o T u = none ↔ u = mu e o T)
  | leaf, o, u, h1, h2 => by
    have : u = o := by have : (leaf).m = 1 := rfl; omega
    simp [par, mu, this]
  | node l r, o, u, h1, h2 => by
    have h3 : u < o + (l.m + r.m) := h2
    have a1 := mu_in (e := e) l o
    have a2 := mu_in (e := e) r (o + l.m)
    rw [par_node, mu_node]
    by_cases c : u < o + l.m
    · rw [if_pos c]
      have ih := par_none l o u h1 c
      cases q : par e o l u with
      | some x =>
        rw [q] at ih
        have hne : u ≠ mu e o l := fun z => nomatch ih.mpr z
        by_cases d : e (o + l.m - 1) = 76
        · simp [d, hne]
        · simp [d]; omega
      | none =>
        have hu := ih.mp q
        by_cases d : e (o + l.m - 1) = 76
        · simp [d, hu]
        · simp [d]; omega
    · rw [if_neg c]
      have ih := par_none r (o + l.m) u (by omega) (by omega)
      cases q : par e (o + l.m) r u with
      | some x =>
        rw [q] at ih
        have hne : u ≠ mu e (o + l.m) r := fun z => nomatch ih.mpr z
        by_cases d : e (o + l.m - 1) = 76
        · simp [d]; omega
        · simp [d, hne]
      | none =>
        have hu := ih.mp q
        by_cases d : e (o + l.m - 1) = 76
        · simp [d]; omega
        · simp [d, hu]
theorem par_in : ∀ (T : Tr) (o u q : Nat), o ≤ u → u < o + T.m → par e o T u = some q → o ≤ q ∧ q < o + T.m
  | leaf, o, u, q, h1, h2, h => by cases h
  | node l r, o, u, q, h1, h2, h => by
    have h3 : u < o + (l.m + r.m) := h2
    have a1 := mu_in (e := e) l o
    have a2 := mu_in (e := e) r (o + l.m)
    have hp1 := m_pos l
    have hp2 := m_pos r
    show o ≤ q ∧ q < o + (l.m + r.m)
    rw [par_node] at h
    by_cases c : u < o + l.m
    · rw [if_pos c] at h
      cases x : par e o l u with
      | some y =>
        rw [x] at h
        have := par_in l o u y h1 c x
        cases h; omega
      | none =>
        rw [x] at h
        by_cases d : e (o + l.m - 1) = 76
        · simp [d] at h
        · simp [d] at h; omega
    · rw [if_neg c] at h
      cases x : par e (o + l.m) r u with
      | some y =>
        rw [x] at h
        have := par_in r (o + l.m) u y (by omega) (by omega) x
        cases h; omega
      | none =>
        rw [x] at h
        by_cases d : e (o + l.m - 1) = 76
        · simp [d] at h; omega
        · simp [d] at h
theorem ch_mu : ∀ (T : Tr) (o : Nat), ch e o T (mu e o T) = [mu e o T]
  | leaf, o => rfl
  | node l r, o => by
    have a1 := mu_in (e := e) l o
    have a2 := mu_in (e := e) r (o + l.m)
    by_cases d : e (o + l.m - 1) = 76
    · have em : mu e o (node l r) = mu e o l := by rw [mu_node]; rw [if_pos d]
      rw [em]; rw [ch_node]; rw [if_pos a1.2, if_pos d, ch_mu l o]
    · have em : mu e o (node l r) = mu e (o + l.m) r := by rw [mu_node, if_neg d]
      rw [em]; rw [ch_node]; rw [if_neg (by omega), if_neg d, ch_mu r]
theorem ch_none {T : Tr} {o u : Nat} (h1 : o ≤ u) (h2 : u < o + T.m) (h : par e o T u = none) : ch e o T u = [u] := by
  have := (par_none T o u h1 h2).mp h
  rw [this, ch_mu]
theorem ch_some : ∀ (T : Tr) (o u q : Nat), o ≤ u → u < o + T.m → par e o T u = some q → ch e o T u = u :: ch e o T q
  | leaf, o, u, q, h1, h2, h => by cases h
  | node l r, o, u, q, h1, h2, h => by
    have h3 : u < o + (l.m + r.m) := h2
    have a1 := mu_in (e := e) l o
    have a2 := mu_in (e := e) r (o + l.m)
    rw [par_node] at h
    by_cases c : u < o + l.m
    · rw [if_pos c] at h
      cases x : par e o l u with
      | some y =>
        rw [x] at h
        cases h
        have hy := par_in l o u q h1 c x
        have ih := ch_some l o u q h1 c x
        rw [ch_node l r o u, ch_node l r o q]
        rw [if_pos c, if_pos hy.2]
        by_cases d : e (o + l.m - 1) = 76
        · rw [if_pos d, if_pos d]; exact ih
        · rw [if_neg d, if_neg d, ih]; rfl
      | none =>
        rw [x] at h
        by_cases d : e (o + l.m - 1) = 76
        · simp [d] at h
        · simp [d] at h
          subst h
          have e1 : ch e o (node l r) u = ch e o l u ++ [mu e (o + l.m) r] := by rw [ch_node, if_pos c, if_neg d]
          have e2 : ch e o (node l r) (mu e (o + l.m) r) = ch e (o + l.m) r (mu e (o + l.m) r) := by rw [ch_node, if_neg (by omega), if_neg d]
          rw [e1, e2, ch_mu, ch_none h1 c x]; rfl
    · rw [if_neg c] at h
      cases x : par e (o + l.m) r u with
      | some y =>
        rw [x] at h
        cases h
        have hy := par_in r (o + l.m) u q (by omega) (by omega) x
        have ih := ch_some r (o + l.m) u q (by omega) (by omega) x
        rw [ch_node l r o u, ch_node l r o q]
        rw [if_neg c, if_neg (show ¬ q < o + l.m by omega)]
        by_cases d : e (o + l.m - 1) = 76
        · rw [if_pos d, if_pos d, ih]; rfl
        · rw [if_neg d, if_neg d]; exact ih
      | none =>
        rw [x] at h
        by_cases d : e (o + l.m - 1) = 76
        · simp [d] at h
          subst h
          have e1 : ch e o (node l r) u = ch e (o + l.m) r u ++ [mu e o l] := by rw [ch_node, if_neg c, if_pos d]
          have e2 : ch e o (node l r) (mu e o l) = ch e o l (mu e o l) := by rw [ch_node, if_pos a1.2, if_pos d]
          rw [e1, e2, ch_mu, ch_none (by omega) (by omega) x]; rfl
        · simp [d] at h
theorem mu_mem : ∀ (T : Tr) (o u : Nat), o ≤ u → u < o + T.m → mu e o T ∈ ch e o T u
  | leaf, o, u, h1, h2 => by
    have : u = o := by have : (leaf).m = 1 := rfl; omega
    simp [mu, ch, this]
  | node l r, o, u, h1, h2 => by
    have h3 : u < o + (l.m + r.m) := h2
    rw [mu_node, ch_node]
    by_cases c : u < o + l.m
    · rw [if_pos c]
      by_cases d : e (o + l.m - 1) = 76
      · rw [if_pos d, if_pos d]; exact mu_mem l o u h1 c
      · rw [if_neg d, if_neg d]; simp
    · rw [if_neg c]
      by_cases d : e (o + l.m - 1) = 76
      · rw [if_pos d, if_pos d]; simp
      · rw [if_neg d, if_neg d]; exact mu_mem r _ u (by omega) (by omega)
theorem ch_in : ∀ (T : Tr) (o u : Nat), o ≤ u → u < o + T.m → ∀ x ∈ ch e o T u, o ≤ x ∧ x < o + T.m
  | leaf, o, u, h1, h2, x, hx => by
    simp [ch] at hx; subst hx; exact ⟨h1, h2⟩
  | node l r, o, u, h1, h2, x, hx => by
    have h3 : u < o + (l.m + r.m) := h2
    have a1 := mu_in (e := e) l o
    have a2 := mu_in (e := e) r (o + l.m)
    have hp1 := m_pos l
    have hp2 := m_pos r
    show o ≤ x ∧ x < o + (l.m + r.m)
    rw [ch_node] at hx
    by_cases c : u < o + l.m
    · rw [if_pos c] at hx
      have ih := ch_in l o u h1 c
      by_cases d : e (o + l.m - 1) = 76
      · rw [if_pos d] at hx; have := ih x hx; omega
      · rw [if_neg d] at hx
        rcases List.mem_append.mp hx with hx | hx
        · have := ih x hx; omega
        · simp at hx; omega
    · rw [if_neg c] at hx
      have ih := ch_in r (o + l.m) u (by omega) (by omega)
      by_cases d : e (o + l.m - 1) = 76
      · rw [if_pos d] at hx
        rcases List.mem_append.mp hx with hx | hx
        · have := ih x hx; omega
        · simp at hx; omega
      · rw [if_neg d] at hx; have := ih x hx; omega
/-- a fork lies below a trail's begin exactly if the trail is on the chain of the fork's own -/
theorem rng_iff : ∀ (T : Tr) (o f s : Nat), o ≤ f → f + 1 < o + T.m → o ≤ s → s < o + T.m → ((rng e o T s).1 ≤ f ∧ f < (rng e o T s).2 ↔ s ∈ ch e o T (own e o T f))
  | leaf, o, f, s, h1, h2, h3, h4 => by have : (leaf).m = 1 := rfl; omega
  | node l r, o, f, s, h1, h2, h3, h4 => by
    have h2' : f + 1 < o + (l.m + r.m) := h2
    have h4' : s < o + (l.m + r.m) := h4
    have a1 := mu_in (e := e) l o
    have a2 := mu_in (e := e) r (o + l.m)
    have hp1 := m_pos l
    have hp2 := m_pos r
    by_cases cf : f = o + l.m - 1
    · -- the root
      have eo : own e o (node l r) f = mu e o (node l r) := by rw [own_node, if_pos cf]
      rw [eo, ch_mu]
      simp only [List.mem_singleton]
      rw [← par_none (node l r) o s h3 h4]
      rw [par_node, rng_node]
      by_cases c : s < o + l.m
      · rw [if_pos c, if_pos c]
        have hb : par e o l s ≠ none → ¬ f < (rng e o l s).2 := by
          intro hn hlt
          have := rng_le l o s h3 c
          omega
        cases q : par e o l s with
        | some x => simp; intro _; have := hb (by rw [q]; simp); omega
        | none =>
          by_cases d : e (o + l.m - 1) = 76
          · simp [d]; omega
          · simp [d]; omega
      · rw [if_neg c, if_neg c]
        have hb : par e (o + l.m) r s ≠ none → ¬ (rng e (o + l.m) r s).1 ≤ f := by
          intro hn hlt
          have := rng_ge r (o + l.m) s (by omega) (by omega)
          omega
        cases q : par e (o + l.m) r s with
        | some x => simp; intro z; exact absurd z (hb (by rw [q]; simp))
        | none =>
          by_cases d : e (o + l.m - 1) = 76
          · simp [d]; omega
          · simp [d]; omega
    · by_cases cl : f < o + l.m
      · -- in the left side
        have eo : own e o (node l r) f = own e o l f := by rw [own_node, if_neg cf, if_pos cl]
        have oi := own_in (e := e) l o f h1 (by omega)
        rw [eo]
        have ec : ch e o (node l r) (own e o l f) = if e (o + l.m - 1) = 76 then ch e o l (own e o l f) else ch e o l (own e o l f) ++ [mu e (o + l.m) r] := by rw [ch_node, if_pos oi.2]
        rw [ec]
        have ci := ch_in (e := e) l o _ oi.1 oi.2
        by_cases c : s < o + l.m
        · have ih := rng_iff l o f s h1 (by omega) h3 c
          have hs : s ∈ (if e (o + l.m - 1) = 76 then ch e o l (own e o l f) else ch e o l (own e o l f) ++ [mu e (o + l.m) r]) ↔ s ∈ ch e o l (own e o l f) := by
            by_cases d : e (o + l.m - 1) = 76
            · rw [if_pos d]
            · rw [if_neg d]; simp; omega
          rw [hs, ← ih]
          rw [rng_node]
          rw [if_pos c]
          by_cases q : par e o l s = none
          · rw [if_pos q]
            have hmu := (par_none l o s h3 c).mp q
            have : (rng e o l s).1 ≤ f ∧ f < (rng e o l s).2 := ih.mpr (by rw [hmu]; exact mu_mem l o _ oi.1 oi.2)
            by_cases d : e (o + l.m - 1) = 76
            · rw [if_pos d]; constructor
              · intro _; exact this
              · intro _; exact ⟨h1, by show f < o + (l.m + r.m) - 1; omega⟩
            · rw [if_neg d]; constructor
              · intro _; exact this
              · intro _; exact ⟨h1, by show f < o + l.m - 1; omega⟩
          · rw [if_neg q]
        · -- s in the right side
          have hs : s ∈ (if e (o + l.m - 1) = 76 then ch e o l (own e o l f) else ch e o l (own e o l f) ++ [mu e (o + l.m) r]) ↔ e (o + l.m - 1) ≠ 76 ∧ s = mu e (o + l.m) r := by
            by_cases d : e (o + l.m - 1) = 76
            · rw [if_pos d]; constructor
              · intro hm; have := ci s hm; omega
              · intro z; exact absurd d z.1
            · rw [if_neg d]; simp [d]
              intro hm; have := ci s hm; omega
          rw [hs, ← par_none r (o + l.m) s (by omega) (by omega)]
          rw [rng_node]
          rw [if_neg c]
          by_cases q : par e (o + l.m) r s = none
          · rw [if_pos q]
            by_cases d : e (o + l.m - 1) = 76
            · simp [d]; omega
            · simp [d, q]; omega
          · rw [if_neg q]
            have := rng_ge r (o + l.m) s (by omega) (by omega)
            simp [q]; omega
      · -- in the right side
        have eo : own e o (node l r) f = own e (o + l.m) r f := by rw [own_node, if_neg cf, if_neg cl]
        have oi := own_in (e := e) r (o + l.m) f (by omega) (by omega)
        rw [eo]
        have ec : ch e o (node l r) (own e (o + l.m) r f) = if e (o + l.m - 1) = 76 then ch e (o + l.m) r (own e (o + l.m) r f) ++ [mu e o l] else ch e (o + l.m) r (own e (o + l.m) r f) := by rw [ch_node, if_neg (by omega)]
        rw [ec]
        have ci := ch_in (e := e) r (o + l.m) _ oi.1 oi.2
        by_cases c : s < o + l.m
        · have hs : s ∈ (if e (o + l.m - 1) = 76 then ch e (o + l.m) r (own e (o + l.m) r f) ++ [mu e o l] else ch e (o + l.m) r (own e (o + l.m) r f)) ↔ e (o + l.m - 1) = 76 ∧ s = mu e o l := by
            by_cases d : e (o + l.m - 1) = 76
            · rw [if_pos d]; simp [d]
              intro hm; have := ci s hm; omega
            · rw [if_neg d]; constructor
              · intro hm; have := ci s hm; omega
              · intro z; exact absurd z.1 d
          rw [hs, ← par_none l o s h3 c]
          rw [rng_node]
          rw [if_pos c]
          by_cases q : par e o l s = none
          · rw [if_pos q]
            by_cases d : e (o + l.m - 1) = 76
            · simp [d, q]; omega
            · simp [d]; omega
          · rw [if_neg q]
            have := rng_le l o s h3 c
            simp [q]; omega
        · have ih := rng_iff r (o + l.m) f s (by omega) (by omega) (by omega) (by omega)
          have hs : s ∈ (if e (o + l.m - 1) = 76 then ch e (o + l.m) r (own e (o + l.m) r f) ++ [mu e o l] else ch e (o + l.m) r (own e (o + l.m) r f)) ↔ s ∈ ch e (o + l.m) r (own e (o + l.m) r f) := by
            by_cases d : e (o + l.m - 1) = 76
            · rw [if_pos d]; simp; omega
            · rw [if_neg d]
          rw [hs, ← ih]
          rw [rng_node]
          rw [if_neg c]
          by_cases q : par e (o + l.m) r s = none
          · rw [if_pos q]
            have hmu := (par_none r (o + l.m) s (by omega) (by omega)).mp q
            have : (rng e (o + l.m) r s).1 ≤ f ∧ f < (rng e (o + l.m) r s).2 := ih.mpr (by rw [hmu]; exact mu_mem r _ _ oi.1 oi.2)
            by_cases d : e (o + l.m - 1) = 76
            · rw [if_pos d]; constructor
              · intro _; exact this
              · intro _; exact ⟨by show o + l.m ≤ f; omega, by show f < o + (l.m + r.m) - 1; omega⟩
            · rw [if_neg d]; constructor
              · intro _; exact this
              · intro _; exact ⟨h1, by show f < o + (l.m + r.m) - 1; omega⟩
          · rw [if_neg q]
where
  rng_le : ∀ (T : Tr) (o s : Nat), o ≤ s → s < o + T.m → (rng e o T s).2 ≤ o + T.m - 1
    | leaf, o, s, h1, h2 => by show o ≤ o + 1 - 1; omega
    | node l r, o, s, h1, h2 => by
      have h2' : s < o + (l.m + r.m) := h2
      have hp1 := m_pos l
      have hp2 := m_pos r
      show _ ≤ o + (l.m + r.m) - 1
      rw [rng_node]
      by_cases c : s < o + l.m
      · rw [if_pos c]
        have := rng_le l o s h1 c
        repeat' split
        all_goals (try simp only)
        all_goals omega
      · rw [if_neg c]
        have := rng_le r (o + l.m) s (by omega) (by omega)
        repeat' split
        all_goals (try simp only)
        all_goals omega
  rng_ge : ∀ (T : Tr) (o s : Nat), o ≤ s → s < o + T.m → o ≤ (rng e o T s).1
    | leaf, o, s, h1, h2 => Nat.le_refl _
    | node l r, o, s, h1, h2 => by
      have h2' : s < o + (l.m + r.m) := h2
      rw [rng_node]
      by_cases c : s < o + l.m
      · rw [if_pos c]
        have := rng_ge l o s h1 c
        repeat' split
        all_goals (try simp only)
        all_goals omega
      · rw [if_neg c]
        have := rng_ge r (o + l.m) s (by omega) (by omega)
        repeat' split
        all_goals (try simp only)
        all_goals omega
end Tr
end K22
/-! Ways, trails by the way's end, spans, the forest of the needed trails. Plain Lean. -/
set_option linter.all false
namespace K22
namespace Tr
variable {e : Nat → Nat}
theorem way_node (l r : Tr) (o u : Nat) : way o (node l r) u = if u < o + l.m then (o + l.m - 1, 76) :: way o l u else (o + l.m - 1, 82) :: way (o + l.m) r u := by rw [way]
theorem way_in : ∀ (T : Tr) (o u : Nat), o ≤ u → u < o + T.m → ∀ x ∈ way o T u, o ≤ x.1 ∧ x.1 + 1 < o + T.m
  | leaf, o, u, h1, h2, x, hx => by simp [way] at hx
  | node l r, o, u, h1, h2, x, hx => by
    have h2' : u < o + (l.m + r.m) := h2
    have hp1 := m_pos l
    have hp2 := m_pos r
    show _ ∧ _ < o + (l.m + r.m)
    rw [way_node] at hx
    by_cases c : u < o + l.m
    · rw [if_pos c] at hx
      rcases List.mem_cons.mp hx with rfl | hx
      · show o ≤ o + l.m - 1 ∧ o + l.m - 1 + 1 < _; omega
      · have := way_in l o u h1 c x hx; omega
    · rw [if_neg c] at hx
      rcases List.mem_cons.mp hx with rfl | hx
      · show o ≤ o + l.m - 1 ∧ o + l.m - 1 + 1 < _; omega
      · have := way_in r (o + l.m) u (by omega) (by omega) x hx; omega
theorem look_mem {w : List (Nat × Nat)} {f c : Nat} (h : w.lookup f = some c) : (f, c) ∈ w := by
  induction w with
  | nil => cases h
  | cons a w ih =>
    obtain ⟨g, d⟩ := a
    by_cases q : f = g
    · subst q
      simp [List.lookup] at h
      rw [h]; simp
    · have : (f == g) = false := by simpa using q
      simp [List.lookup, this] at h
      exact List.mem_cons_of_mem _ (ih h)
theorem look_cons (g d f : Nat) (w : List (Nat × Nat)) : ((g, d) :: w).lookup f = if f = g then some d else w.lookup f := by
  by_cases q : f = g
  · subst q; simp [List.lookup]
  · have : (f == g) = false := by simpa using q
    simp [List.lookup, this, q]
/-- the fork f lies above u: the slot that owns f is on u's chain -/
theorem belowOf : ∀ (T : Tr) (o u f c : Nat), o ≤ u → u < o + T.m → (way o T u).lookup f = some c → own e o T f ∈ ch e o T u
  | leaf, o, u, f, c, h1, h2, h => by simp [way] at h
  | node l r, o, u, f, c, h1, h2, h => by
    have h2' : u < o + (l.m + r.m) := h2
    have hp1 := m_pos l
    have hp2 := m_pos r
    rw [own_node]
    by_cases cf : f = o + l.m - 1
    · rw [if_pos cf]; exact mu_mem (node l r) o u h1 h2
    · rw [if_neg cf]
      rw [way_node] at h
      rw [ch_node]
      by_cases cu : u < o + l.m
      · rw [if_pos cu, look_cons, if_neg cf] at h
        have hf := way_in l o u h1 cu _ (look_mem h)
        have ih := belowOf l o u f c h1 cu h
        rw [if_pos cu, if_pos (show f < o + l.m by have := hf.2; simp only at this; omega)]
        by_cases d : e (o + l.m - 1) = 76
        · rw [if_pos d]; exact ih
        · rw [if_neg d]; exact List.mem_append_left _ ih
      · rw [if_neg cu, look_cons, if_neg cf] at h
        have hf := way_in r (o + l.m) u (by omega) (by omega) _ (look_mem h)
        have ih := belowOf r (o + l.m) u f c (by omega) (by omega) h
        rw [if_neg cu, if_neg (show ¬ f < o + l.m by have := hf.1; simp only at this; omega)]
        by_cases d : e (o + l.m - 1) = 76
        · rw [if_pos d]; exact List.mem_append_left _ ih
        · rw [if_neg d]; exact ih
theorem own_way (he : ∀ f, e f = 76 ∨ e f = 82) : ∀ (T : Tr) (o f : Nat), o ≤ f → f + 1 < o + T.m → (way o T (own e o T f)).lookup f = some (e f)
  | leaf, o, f, h1, h2 => by have : (leaf).m = 1 := rfl; omega
  | node l r, o, f, h1, h2 => by
    have h2' : f + 1 < o + (l.m + r.m) := h2
    have a1 := mu_in (e := e) l o
    have a2 := mu_in (e := e) r (o + l.m)
    have hp1 := m_pos l
    have hp2 := m_pos r
    rw [own_node]
    by_cases cf : f = o + l.m - 1
    · rw [if_pos cf, mu_node]
      by_cases d : e (o + l.m - 1) = 76
      · rw [if_pos d, way_node, if_pos a1.2, look_cons, if_pos cf, cf, d]
      · have := (he (o + l.m - 1)).resolve_left d
        rw [if_neg d, way_node, if_neg (by omega), look_cons, if_pos cf, cf, this]
    · rw [if_neg cf]
      by_cases cl : f < o + l.m
      · have oi := own_in (e := e) l o f h1 (by omega)
        rw [if_pos cl, way_node, if_pos oi.2, look_cons, if_neg cf]
        exact own_way he l o f h1 (by omega)
      · have oi := own_in (e := e) r (o + l.m) f (by omega) (by omega)
        rw [if_neg cl, way_node, if_neg (by omega), look_cons, if_neg cf]
        exact own_way he r _ f (by omega) (by omega)
/-- above u on its chain: the way of u leaves that trail -/
theorem leaves : ∀ (T : Tr) (o u s : Nat), o ≤ u → u < o + T.m → s ∈ ch e o T u → s ≠ u → ∃ g c, (way o T u).lookup g = some c ∧ c ≠ e g ∧ own e o T g = s
  | leaf, o, u, s, h1, h2, h, hne => by simp [ch] at h; exact absurd h hne
  | node l r, o, u, s, h1, h2, h, hne => by
    have h2' : u < o + (l.m + r.m) := h2
    have a1 := mu_in (e := e) l o
    have a2 := mu_in (e := e) r (o + l.m)
    have hp1 := m_pos l
    have hp2 := m_pos r
    rw [ch_node] at h
    by_cases cu : u < o + l.m
    · rw [if_pos cu] at h
      have go : s ∈ ch e o l u → ∃ g c, (way o (node l r) u).lookup g = some c ∧ c ≠ e g ∧ own e o (node l r) g = s := fun hs => by
        obtain ⟨g, c, w1, w2, w3⟩ := leaves l o u s h1 cu hs hne
        have hg := way_in l o u h1 cu _ (look_mem w1)
        simp only at hg
        refine ⟨g, c, ?_, w2, ?_⟩
        · rw [way_node, if_pos cu, look_cons, if_neg (by omega)]; exact w1
        · rw [own_node, if_neg (by omega), if_pos (by omega)]; exact w3
      by_cases d : e (o + l.m - 1) = 76
      · rw [if_pos d] at h; exact go h
      · rw [if_neg d] at h
        rcases List.mem_append.mp h with h | h
        · exact go h
        · simp at h
          refine ⟨o + l.m - 1, 76, ?_, fun z => d z.symm, ?_⟩
          · rw [way_node, if_pos cu, look_cons, if_pos rfl]
          · rw [own_node, if_pos rfl, mu_node, if_neg d, h]
    · rw [if_neg cu] at h
      have go : s ∈ ch e (o + l.m) r u → ∃ g c, (way o (node l r) u).lookup g = some c ∧ c ≠ e g ∧ own e o (node l r) g = s := fun hs => by
        obtain ⟨g, c, w1, w2, w3⟩ := leaves r (o + l.m) u s (by omega) (by omega) hs hne
        have hg := way_in r (o + l.m) u (by omega) (by omega) _ (look_mem w1)
        simp only at hg
        refine ⟨g, c, ?_, w2, ?_⟩
        · rw [way_node, if_neg cu, look_cons, if_neg (by omega)]; exact w1
        · rw [own_node, if_neg (by omega), if_neg (by omega)]; exact w3
      by_cases d : e (o + l.m - 1) = 76
      · rw [if_pos d] at h
        rcases List.mem_append.mp h with h | h
        · exact go h
        · simp at h
          refine ⟨o + l.m - 1, 82, ?_, (fun z => by rw [d] at z; cases z), ?_⟩
          · rw [way_node, if_neg cu, look_cons, if_pos rfl]
          · rw [own_node, if_pos rfl, mu_node, if_pos d, h]
      · rw [if_neg d] at h; exact go h
/-! trails by the way -/
/-- behind the last fork that shows the other side -/
def beg (e : Nat → Nat) : List (Nat × Nat) → Nat
  | [] => 0
  | x :: w => if 0 < beg e w then beg e w + 1 else if e x.1 = x.2 then 0 else 1
def hang (e : Nat → Nat) (w : List (Nat × Nat)) : Option Nat := if 0 < beg e w then (w[beg e w - 1]?).map (·.1) else none
def trail (e : Nat → Nat) (w : List (Nat × Nat)) : List Nat := (w.drop (beg e w)).map (·.1)
theorem beg_cons (x : Nat × Nat) (w : List (Nat × Nat)) : beg e (x :: w) = if 0 < beg e w then beg e w + 1 else if e x.1 = x.2 then 0 else 1 := rfl
theorem beg_le : ∀ w : List (Nat × Nat), beg e w ≤ w.length
  | [] => Nat.le_refl _
  | x :: w => by
    have := beg_le w
    rw [beg_cons, List.length_cons]
    repeat' split
    all_goals omega
theorem hang_cons (x : Nat × Nat) (w : List (Nat × Nat)) : hang e (x :: w) = match hang e w with
    | some g => some g
    | none => if e x.1 = x.2 then none else some x.1 := by
  unfold hang
  rw [beg_cons]
  have hl := beg_le (e := e) w
  by_cases h : 0 < beg e w
  · rw [if_pos h, if_pos (by omega), if_pos h]
    rw [show beg e w + 1 - 1 = (beg e w - 1) + 1 by omega, List.getElem?_cons_succ]
    have : beg e w - 1 < w.length := by omega
    rw [List.getElem?_eq_getElem this]
    rfl
  · rw [if_neg h, if_neg h]
    by_cases d : e x.1 = x.2
    · rw [if_pos d, if_neg (by omega)]; simp [d]
    · rw [if_neg d, if_pos (by omega)]; simp [d]
theorem hang_none (w : List (Nat × Nat)) : hang e w = none ↔ beg e w = 0 := by
  unfold hang
  have hl := beg_le (e := e) w
  by_cases h : 0 < beg e w
  · rw [if_pos h]
    have : beg e w - 1 < w.length := by omega
    rw [List.getElem?_eq_getElem this]
    simp; omega
  · rw [if_neg h]; simp; omega
theorem hang_mem {w : List (Nat × Nat)} {g : Nat} (h : hang e w = some g) : ∃ c, (g, c) ∈ w := by
  unfold hang at h
  split at h
  · obtain ⟨x, h1, h2⟩ := Option.map_eq_some_iff.mp h
    exact ⟨x.2, by rw [← h2]; exact List.mem_of_getElem? h1⟩
  · cases h
theorem par_hang (he : ∀ f, e f = 76 ∨ e f = 82) : ∀ (T : Tr) (o u : Nat), o ≤ u → u < o + T.m → par e o T u = (hang e (way o T u)).map (own e o T)
  | leaf, o, u, h1, h2 => rfl
  | node l r, o, u, h1, h2 => by
    have h2' : u < o + (l.m + r.m) := h2
    have hp1 := m_pos l
    have hp2 := m_pos r
    rw [par_node, way_node]
    by_cases cu : u < o + l.m
    · rw [if_pos cu, if_pos cu, hang_cons, par_hang he l o u h1 cu]
      cases q : hang e (way o l u) with
      | some g =>
        obtain ⟨c, hm⟩ := hang_mem q
        have hg := way_in l o u h1 cu _ hm
        simp only at hg
        show some (own e o l g) = some (own e o (node l r) g)
        rw [own_node, if_neg (by omega), if_pos (by omega)]
      | none =>
        show (if e (o + l.m - 1) = 76 then none else some (mu e (o + l.m) r)) = ((if e (o + l.m - 1) = 76 then none else some (o + l.m - 1)).map (own e o (node l r)))
        by_cases d : e (o + l.m - 1) = 76
        · rw [if_pos d, if_pos d]; rfl
        · rw [if_neg d, if_neg d]
          show _ = some (own e o (node l r) (o + l.m - 1))
          rw [own_node, if_pos rfl, mu_node, if_neg d]
    · rw [if_neg cu, if_neg cu, hang_cons, par_hang he r (o + l.m) u (by omega) (by omega)]
      cases q : hang e (way (o + l.m) r u) with
      | some g =>
        obtain ⟨c, hm⟩ := hang_mem q
        have hg := way_in r (o + l.m) u (by omega) (by omega) _ hm
        simp only at hg
        show some (own e (o + l.m) r g) = some (own e o (node l r) g)
        rw [own_node, if_neg (by omega), if_neg (by omega)]
      | none =>
        show (if e (o + l.m - 1) = 76 then some (mu e o l) else none) = ((if e (o + l.m - 1) = 82 then none else some (o + l.m - 1)).map (own e o (node l r)))
        by_cases d : e (o + l.m - 1) = 76
        · rw [if_pos d, if_neg (by omega)]
          show _ = some (own e o (node l r) (o + l.m - 1))
          rw [own_node, if_pos rfl, mu_node, if_pos d]
        · rw [if_neg d, if_pos ((he _).resolve_left d)]; rfl
/-- the first and the last slot below the fork f -/
def span (o : Nat) : Tr → Nat → Nat × Nat
  | leaf, _ => (o, o)
  | node l r, f => if f = o + l.m - 1 then (o, o + (l.m + r.m) - 1) else if f < o + l.m then span o l f else span (o + l.m) r f
theorem span_node (l r : Tr) (o f : Nat) : span o (node l r) f = if f = o + l.m - 1 then (o, o + (l.m + r.m) - 1) else if f < o + l.m then span o l f else span (o + l.m) r f := by rw [span]
theorem rng_hang (he : ∀ f, e f = 76 ∨ e f = 82) : ∀ (T : Tr) (o u : Nat), o ≤ u → u < o + T.m → rng e o T u = match hang e (way o T u) with
    | none => (o, o + T.m - 1)
    | some g => if e g = 76 then (g + 1, (span o T g).2) else ((span o T g).1, g)
  | leaf, o, u, h1, h2 => by show (o, o) = (o, o + 1 - 1); simp
  | node l r, o, u, h1, h2 => by
    have h2' : u < o + (l.m + r.m) := h2
    have hp1 := m_pos l
    have hp2 := m_pos r
    have hm : (node l r).m = l.m + r.m := rfl
    rw [rng_node, way_node]
    by_cases cu : u < o + l.m
    · rw [if_pos cu, if_pos cu, hang_cons]
      have ph := par_hang he l o u h1 cu
      have ih := rng_hang he l o u h1 cu
      cases q : hang e (way o l u) with
      | some g =>
        rw [q] at ph ih
        obtain ⟨c, hmm⟩ := hang_mem q
        have hg := way_in l o u h1 cu _ hmm
        simp only at hg
        rw [if_neg (by rw [ph]; simp), ih]
        have : span o (node l r) g = span o l g := by rw [span_node, if_neg (by omega), if_pos (by omega)]
        simp only [this]
      | none =>
        rw [q] at ph
        rw [if_pos (show par e o l u = none from ph)]
        by_cases d : e (o + l.m - 1) = 76
        · simp only [d, if_true]; rw [hm]
        · have : span o (node l r) (o + l.m - 1) = (o, o + (l.m + r.m) - 1) := by rw [span_node, if_pos rfl]
          simp only [d, if_false, this]
    · rw [if_neg cu, if_neg cu, hang_cons]
      have ph := par_hang he r (o + l.m) u (by omega) (by omega)
      have ih := rng_hang he r (o + l.m) u (by omega) (by omega)
      cases q : hang e (way (o + l.m) r u) with
      | some g =>
        rw [q] at ph ih
        obtain ⟨c, hmm⟩ := hang_mem q
        have hg := way_in r (o + l.m) u (by omega) (by omega) _ hmm
        simp only at hg
        rw [if_neg (by rw [ph]; simp), ih]
        have : span o (node l r) g = span (o + l.m) r g := by rw [span_node, if_neg (by omega), if_neg (by omega)]
        simp only [this]
      | none =>
        rw [q] at ph
        rw [if_pos (show par e (o + l.m) r u = none from ph)]
        by_cases d : e (o + l.m - 1) = 76
        · have : span o (node l r) (o + l.m - 1) = (o, o + (l.m + r.m) - 1) := by rw [span_node, if_pos rfl]
          have d2 : ¬ e (o + l.m - 1) = 82 := by omega
          simp only [d, if_true, this]
          simp only [show ¬ (76 : Nat) = 82 by decide, if_false]
          rw [this, d]
          simp only [if_true]
          congr 1
          omega
        · have d2 := (he _).resolve_left d
          simp only [d, if_false, d2, if_true]; rw [hm, if_neg (by decide)]
/-- the trail of u has the forks that u owns -/
theorem trail_own (he : ∀ f, e f = 76 ∨ e f = 82) : ∀ (T : Tr) (o u f : Nat), o ≤ u → u < o + T.m → o ≤ f → f + 1 < o + T.m → (f ∈ trail e (way o T u) ↔ own e o T f = u)
  | leaf, o, u, f, h1, h2, h3, h4 => by have : (leaf).m = 1 := rfl; omega
  | node l r, o, u, f, h1, h2, h3, h4 => by
    have h2' : u < o + (l.m + r.m) := h2
    have h4' : f + 1 < o + (l.m + r.m) := h4
    have a1 := mu_in (e := e) l o
    have a2 := mu_in (e := e) r (o + l.m)
    have hp1 := m_pos l
    have hp2 := m_pos r
    have drop_mem : ∀ {w : List (Nat × Nat)} {n f : Nat}, f ∈ (w.drop n).map (·.1) → ∃ c, (f, c) ∈ w := fun {w n f} h => by
      obtain ⟨x, hx, rfl⟩ := List.mem_map.mp h
      exact ⟨x.2, List.mem_of_mem_drop hx⟩
    rw [own_node, way_node]
    by_cases cu : u < o + l.m
    · rw [if_pos cu]
      have hw : ∀ {f : Nat}, f ∈ trail e (way o l u) → o ≤ f ∧ f + 1 < o + l.m := fun {f} h => by
        obtain ⟨c, hc⟩ := drop_mem h
        exact way_in l o u h1 cu _ hc
      have pn := par_none (e := e) l o u h1 cu
      rw [par_hang he l o u h1 cu] at pn
      have hn := hang_none (e := e) (way o l u)
      by_cases b : beg e (way o l u) = 0
      · have hmu : u = mu e o l := pn.mp (by rw [hn.mpr b]; rfl)
        have tw : trail e (way o l u) = (way o l u).map (·.1) := by unfold trail; rw [b]; rfl
        by_cases d : e (o + l.m - 1) = 76
        · have t1 : trail e ((o + l.m - 1, 76) :: way o l u) = (o + l.m - 1) :: trail e (way o l u) := by
            rw [tw]; unfold trail; rw [beg_cons, b]; simp [d]
          rw [t1]
          by_cases cf : f = o + l.m - 1
          · rw [if_pos cf, mu_node, if_pos d]; simp [cf, hmu]
          · rw [if_neg cf, List.mem_cons]
            by_cases cl : f < o + l.m
            · rw [if_pos cl, ← trail_own he l o u f h1 cu h3 (by omega)]; simp [cf]
            · rw [if_neg cl]
              have oi := own_in (e := e) r (o + l.m) f (by omega) (by omega)
              constructor
              · rintro (z | z)
                · exact absurd z cf
                · have := hw z; omega
              · intro z; omega
        · have t1 : trail e ((o + l.m - 1, 76) :: way o l u) = trail e (way o l u) := by
            rw [tw]; unfold trail; rw [beg_cons, b]; simp [d]
          rw [t1]
          by_cases cf : f = o + l.m - 1
          · rw [if_pos cf, mu_node, if_neg d]
            constructor
            · intro z; have := hw z; omega
            · intro z; omega
          · rw [if_neg cf]
            by_cases cl : f < o + l.m
            · rw [if_pos cl]; exact trail_own he l o u f h1 cu h3 (by omega)
            · rw [if_neg cl]
              have oi := own_in (e := e) r (o + l.m) f (by omega) (by omega)
              constructor
              · intro z; have := hw z; omega
              · intro z; omega
      · have t1 : trail e ((o + l.m - 1, 76) :: way o l u) = trail e (way o l u) := by
          unfold trail; rw [beg_cons, if_pos (by omega)]; rfl
        have hnm : u ≠ mu e o l := fun z => by
          have := pn.mpr z
          cases q : hang e (way o l u) with
          | none => exact b (hn.mp q)
          | some x => rw [q] at this; cases this
        rw [t1]
        by_cases cf : f = o + l.m - 1
        · rw [if_pos cf]
          constructor
          · intro z; have := hw z; omega
          · intro z
            rw [mu_node] at z
            by_cases d : e (o + l.m - 1) = 76
            · rw [if_pos d] at z; exact absurd z.symm hnm
            · rw [if_neg d] at z; omega
        · rw [if_neg cf]
          by_cases cl : f < o + l.m
          · rw [if_pos cl]; exact trail_own he l o u f h1 cu h3 (by omega)
          · rw [if_neg cl]
            have oi := own_in (e := e) r (o + l.m) f (by omega) (by omega)
            constructor
            · intro z; have := hw z; omega
            · intro z; omega
    · rw [if_neg cu]
      have hw : ∀ {f : Nat}, f ∈ trail e (way (o + l.m) r u) → o + l.m ≤ f ∧ f + 1 < o + l.m + r.m := fun {f} h => by
        obtain ⟨c, hc⟩ := drop_mem h
        exact way_in r (o + l.m) u (by omega) (by omega) _ hc
      have pn := par_none (e := e) r (o + l.m) u (by omega) (by omega)
      rw [par_hang he r (o + l.m) u (by omega) (by omega)] at pn
      have hn := hang_none (e := e) (way (o + l.m) r u)
      by_cases b : beg e (way (o + l.m) r u) = 0
      · have hmu : u = mu e (o + l.m) r := pn.mp (by rw [hn.mpr b]; rfl)
        have tw : trail e (way (o + l.m) r u) = (way (o + l.m) r u).map (·.1) := by unfold trail; rw [b]; rfl
        by_cases d : e (o + l.m - 1) = 76
        · have t1 : trail e ((o + l.m - 1, 82) :: way (o + l.m) r u) = trail e (way (o + l.m) r u) := by
            rw [tw]; unfold trail; rw [beg_cons, b]; simp [d]
          rw [t1]
          by_cases cf : f = o + l.m - 1
          · rw [if_pos cf, mu_node, if_pos d]
            constructor
            · intro z; have := hw z; omega
            · intro z; omega
          · rw [if_neg cf]
            by_cases cl : f < o + l.m
            · rw [if_pos cl]
              have oi := own_in (e := e) l o f h3 (by omega)
              constructor
              · intro z; have := hw z; omega
              · intro z; omega
            · rw [if_neg cl]; exact trail_own he r (o + l.m) u f (by omega) (by omega) (by omega) (by omega)
        · have d2 := (he _).resolve_left d
          have t1 : trail e ((o + l.m - 1, 82) :: way (o + l.m) r u) = (o + l.m - 1) :: trail e (way (o + l.m) r u) := by
            rw [tw]; unfold trail; rw [beg_cons, b]; simp [d2]
          rw [t1]
          by_cases cf : f = o + l.m - 1
          · rw [if_pos cf, mu_node, if_neg d]; simp [cf, hmu]
          · rw [if_neg cf, List.mem_cons]
            by_cases cl : f < o + l.m
            · rw [if_pos cl]
              have oi := own_in (e := e) l o f h3 (by omega)
              constructor
              · rintro (z | z)
                · exact absurd z cf
                · have := hw z; omega
              · intro z; omega
            · rw [if_neg cl, ← trail_own he r (o + l.m) u f (by omega) (by omega) (by omega) (by omega)]; simp [cf]
      · have t1 : trail e ((o + l.m - 1, 82) :: way (o + l.m) r u) = trail e (way (o + l.m) r u) := by
          unfold trail; rw [beg_cons, if_pos (by omega)]; rfl
        have hnm : u ≠ mu e (o + l.m) r := fun z => by
          have := pn.mpr z
          cases q : hang e (way (o + l.m) r u) with
          | none => exact b (hn.mp q)
          | some x => rw [q] at this; cases this
        rw [t1]
        by_cases cf : f = o + l.m - 1
        · rw [if_pos cf]
          constructor
          · intro z; have := hw z; omega
          · intro z
            rw [mu_node] at z
            by_cases d : e (o + l.m - 1) = 76
            · rw [if_pos d] at z; omega
            · rw [if_neg d] at z; exact absurd z.symm hnm
        · rw [if_neg cf]
          by_cases cl : f < o + l.m
          · rw [if_pos cl]
            have oi := own_in (e := e) l o f h3 (by omega)
            constructor
            · intro z; have := hw z; omega
            · intro z; omega
          · rw [if_neg cl]; exact trail_own he r (o + l.m) u f (by omega) (by omega) (by omega) (by omega)
/-- some trail has no fork below its begin -/
theorem some_bare : ∀ (T : Tr) (o : Nat), ∃ u, o ≤ u ∧ u < o + T.m ∧ (rng e o T u).2 ≤ (rng e o T u).1
  | leaf, o => ⟨o, Nat.le_refl _, by show o < o + 1; omega, Nat.le_refl _⟩
  | node l r, o => by
    have hp1 := m_pos l
    have hp2 := m_pos r
    have hm : (node l r).m = l.m + r.m := rfl
    by_cases d : e (o + l.m - 1) = 76
    · obtain ⟨u, h1, h2, h3⟩ := some_bare r (o + l.m)
      refine ⟨u, by omega, by omega, ?_⟩
      rw [rng_node, if_neg (by omega)]
      by_cases q : par e (o + l.m) r u = none
      · rw [if_pos q, if_pos d]
        have := whole r (o + l.m) u h1 h2 q
        rw [this] at h3
        simp only at h3 ⊢
        omega
      · rw [if_neg q]; exact h3
    · obtain ⟨u, h1, h2, h3⟩ := some_bare l o
      refine ⟨u, by omega, by omega, ?_⟩
      rw [rng_node, if_pos h2]
      by_cases q : par e o l u = none
      · rw [if_pos q, if_neg d]
        have := whole l o u h1 h2 q
        rw [this] at h3
        simp only at h3 ⊢
        omega
      · rw [if_neg q]; exact h3
where whole : ∀ (T : Tr) (o u : Nat), o ≤ u → u < o + T.m → par e o T u = none → rng e o T u = (o, o + T.m - 1)
  | leaf, o, u, h1, h2, h => by show (o, o) = (o, o + 1 - 1); simp
  | node l r, o, u, h1, h2, h => by
    have h2' : u < o + (l.m + r.m) := h2
    have hm : (node l r).m = l.m + r.m := rfl
    rw [par_node] at h
    rw [rng_node, hm]
    by_cases cu : u < o + l.m
    · rw [if_pos cu] at h ⊢
      cases q : par e o l u with
      | some x => rw [q] at h; cases h
      | none =>
        rw [q] at h
        by_cases d : e (o + l.m - 1) = 76
        · simp [d]
        · simp [d] at h
    · rw [if_neg cu] at h ⊢
      cases q : par e (o + l.m) r u with
      | some x => rw [q] at h; cases h
      | none =>
        rw [q] at h
        by_cases d : e (o + l.m - 1) = 76
        · simp [d] at h
        · simp [d]
end Tr
end K22
/-! Hits and the needed trails. Plain Lean over the forest that a tree, end flags and a start pattern make. -/
set_option linter.all false
namespace K22
namespace Tr
variable {e S : Nat → Nat}
theorem ch_self {T : Tr} {u : Nat} (h : u < T.m) : u ∈ ch e 0 T u := by
  cases q : par e 0 T u with
  | none => rw [ch_none (Nat.zero_le _) (by omega) q]; simp
  | some x => rw [ch_some T 0 u x (Nat.zero_le _) (by omega) q]; simp
theorem ch_tr {T : Tr} : ∀ (n u : Nat), (ch e 0 T u).length ≤ n → u < T.m → ∀ x ∈ ch e 0 T u, ∀ s ∈ ch e 0 T x, s ∈ ch e 0 T u
  | 0, u, h, hu, x, hx, s, hs => by
    have := List.length_pos_of_mem hx
    omega
  | n + 1, u, h, hu, x, hx, s, hs => by
    cases q : par e 0 T u with
    | none =>
      rw [ch_none (Nat.zero_le _) (by omega) q] at hx
      simp at hx
      subst hx; exact hs
    | some y =>
      have hy := par_in T 0 u y (Nat.zero_le _) (by omega) q
      have ec := ch_some T 0 u y (Nat.zero_le _) (by omega) q
      rw [ec] at hx h ⊢
      rcases List.mem_cons.mp hx with rfl | hx
      · rw [ec] at hs; exact hs
      · exact List.mem_cons_of_mem _ (ch_tr n y (by simpa using h) (by omega) x hx s hs)
def need (T : Tr) (e S : Nat → Nat) : List Nat := (List.range T.m).filter fun u => (List.range (T.m - 1)).any fun f => decide ((rng e 0 T u).1 ≤ f ∧ f < (rng e 0 T u).2 ∧ S f ≠ e f)
theorem mem_need {T : Tr} {u : Nat} : u ∈ need T e S ↔ u < T.m ∧ ∃ f, f + 1 < T.m ∧ (rng e 0 T u).1 ≤ f ∧ f < (rng e 0 T u).2 ∧ S f ≠ e f := by
  unfold need
  rw [List.mem_filter, List.mem_range, List.any_eq_true]
  constructor
  · rintro ⟨h1, f, h2, h3⟩
    rw [List.mem_range] at h2
    exact ⟨h1, f, by omega, of_decide_eq_true h3⟩
  · rintro ⟨h1, f, h2, h3⟩
    exact ⟨h1, f, List.mem_range.mpr (by omega), decide_eq_true h3⟩
/-- by the chain of the differing fork's own slot -/
theorem mem_need' {T : Tr} {u : Nat} (hu : u < T.m) : u ∈ need T e S ↔ ∃ f, f + 1 < T.m ∧ S f ≠ e f ∧ u ∈ ch e 0 T (own e 0 T f) := by
  rw [mem_need]
  constructor
  · rintro ⟨h1, f, h2, h3, h4, h5⟩
    exact ⟨f, h2, h5, (rng_iff T 0 f u (Nat.zero_le _) (by omega) (Nat.zero_le _) (by omega)).mp ⟨h3, h4⟩⟩
  · rintro ⟨f, h2, h5, h6⟩
    obtain ⟨h3, h4⟩ := (rng_iff T 0 f u (Nat.zero_le _) (by omega) (Nat.zero_le _) (by omega)).mpr h6
    exact ⟨hu, f, h2, h3, h4, h5⟩
def fo (T : Tr) (e S : Nat → Nat) : Fo where
  ns := need T e S
  p := par e 0 T
  ch := ch e 0 T
  asc := List.Pairwise.sublist List.filter_sublist (by
    have := List.pairwise_lt_range (n := T.m)
    exact this)
  cl := fun u hu q hq => by
    have hum := (mem_need.mp hu).1
    have hq2 := par_in T 0 u q (Nat.zero_le _) (by omega) hq
    obtain ⟨f, h1, h2, h3⟩ := (mem_need' hum).mp hu
    refine (mem_need' (by omega)).mpr ⟨f, h1, h2, ?_⟩
    have ho := own_in (e := e) T 0 f (Nat.zero_le _) (by omega)
    refine ch_tr _ _ (Nat.le_refl _) (by omega) u h3 q ?_
    rw [ch_some T 0 u q (Nat.zero_le _) (by omega) hq]
    exact List.mem_cons_of_mem _ (ch_self (by omega))
  ch0 := fun u hu h => ch_none (Nat.zero_le _) (by have := (mem_need.mp hu).1; omega) h
  chS := fun u hu q h => ch_some T 0 u q (Nat.zero_le _) (by have := (mem_need.mp hu).1; omega) h
theorem fo_lt {T : Tr} : ∀ u ∈ (fo T e S).ns, u < T.m := fun u h => (mem_need.mp h).1
/-- not every trail is needed -/
theorem need_lt (T : Tr) : (need T e S).length < T.m := by
  obtain ⟨u, h1, h2, h3⟩ := some_bare (e := e) T 0
  have hu : u ∉ need T e S := fun h => by
    obtain ⟨_, f, h4, h5, h6, h7⟩ := mem_need.mp h
    omega
  have : (need T e S).length < (List.range T.m).length := by
    unfold need
    refine List.length_filter_lt_length_iff_exists.mpr ⟨u, List.mem_range.mpr (by omega), fun z => ?_⟩
    exact hu (List.mem_filter.mpr ⟨List.mem_range.mpr (by omega), z⟩)
  rwa [List.length_range] at this
/-! hits -/
def hitF (w : List (Nat × Nat)) (st : Nat → Nat) : Nat → Nat := fun f => (w.lookup f).getD (st f)
def run (T : Tr) (st : Nat → Nat) (row : List Nat) : Nat → Nat := row.foldl (fun st u => hitF (way 0 T u) st) st
theorem run_none {T : Tr} {f : Nat} : ∀ {row : List Nat} {st : Nat → Nat}, (∀ v ∈ row, (way 0 T v).lookup f = none) → run T st row f = st f
  | [], st, _ => rfl
  | v :: row, st, h => by
    show run T (hitF (way 0 T v) st) row f = _
    rw [run_none fun x hx => h x (by simp [hx])]
    show ((way 0 T v).lookup f).getD (st f) = st f
    rw [h v (by simp)]; rfl
theorem run_app (T : Tr) (st : Nat → Nat) (a b : List Nat) : run T st (a ++ b) = run T (run T st a) b := List.foldl_append
theorem run_last {T : Tr} {f c u : Nat} {pre post : List Nat} {st : Nat → Nat} (h : (way 0 T u).lookup f = some c) (hp : ∀ v ∈ post, (way 0 T v).lookup f = none) : run T st (pre ++ u :: post) f = c := by
  rw [run_app]
  show run T (hitF (way 0 T u) _) post f = c
  rw [run_none hp]
  show ((way 0 T u).lookup f).getD _ = c
  rw [h]; rfl
end Tr
/-- behind s in an order nothing has s on its chain -/
inductive OkR (F : Fo) : List Nat → List Nat → Prop
  | nil : OkR F [] []
  | cons {rem r : List Nat} {a : Nat} (h : a ∈ F.ops rem) (t : OkR F (rem.erase a) r) : OkR F rem (a :: r)
theorem OkR.mem {F : Fo} {rem row : List Nat} (h : OkR F rem row) : ∀ a ∈ row, a ∈ rem := by
  induction h with
  | nil => intro a ha; cases ha
  | cons h t ih =>
    intro a ha
    rcases List.mem_cons.mp ha with rfl | ha
    · exact (Fo.mem_ops.mp h).1
    · exact List.mem_of_mem_erase (ih a ha)
theorem OkR.perm {F : Fo} {rem row : List Nat} (h : OkR F rem row) : row.Perm rem := by
  induction h with
  | nil => exact .nil
  | cons h t ih => exact (List.Perm.cons _ ih).trans (List.perm_cons_erase (Fo.mem_ops.mp h).1).symm
theorem OkR.later {F : Fo} {rem row : List Nat} (h : OkR F rem row) : F.Up rem → ∀ pre s post, row = pre ++ s :: post → ∀ v ∈ post, s ∉ F.ch v := by
  induction h with
  | nil => intro _ pre s post e; simp at e
  | @cons rem r a ha t ih =>
    intro U pre s post e v hv hs
    cases pre with
    | nil =>
      rw [List.nil_append] at e
      obtain ⟨e1, e2⟩ := List.cons.inj e
      subst e1 e2
      have hvr := t.mem v hv
      have hv2 := List.mem_of_mem_erase hvr
      have := Fo.open_alone U ha v hv2 hs
      subst this
      exact (Fo.nodup_of_asc U.asc).not_mem_erase hvr
    | cons b pre =>
      rw [List.cons_append] at e
      exact ih (U.erase ha) pre s post (List.cons.inj e).2 v hv hs
theorem last_split {p : Nat → Prop} [DecidablePred p] : ∀ {l : List Nat}, (∃ x ∈ l, p x) → ∃ pre x post, l = pre ++ x :: post ∧ p x ∧ ∀ v ∈ post, ¬ p v
  | [], h => by obtain ⟨x, hx, _⟩ := h; cases hx
  | a :: l, h => by
    by_cases c : ∃ x ∈ l, p x
    · obtain ⟨pre, x, post, h1, h2, h3⟩ := last_split c
      exact ⟨a :: pre, x, post, by rw [h1]; rfl, h2, h3⟩
    · obtain ⟨x, hx, hp⟩ := h
      rcases List.mem_cons.mp hx with rfl | hx
      · exact ⟨[], x, l, rfl, hp, fun v hv hq => c ⟨v, hv, hq⟩⟩
      · exact absurd ⟨x, hx, hp⟩ c
theorem perm_sub : ∀ {a b : List Nat}, a.Nodup → (∀ x ∈ a, x ∈ b) → b.length ≤ a.length → a.Perm b
  | [], b, _, _, h => by
    have : b = [] := List.length_eq_zero_iff.mp (by simpa using h)
    rw [this]
  | x :: a, b, nd, h, hl => by
    obtain ⟨n1, n2⟩ := List.nodup_cons.mp nd
    have hx := h x (by simp)
    have ih := perm_sub (a := a) (b := b.erase x) n2 (fun y hy => (List.mem_erase_of_ne (fun e => n1 (by rw [← e]; exact hy))).mpr (h y (by simp [hy]))) (by
      rw [List.length_erase_of_mem hx]; rw [List.length_cons] at hl; omega)
    exact (List.Perm.cons _ ih).trans (List.perm_cons_erase hx).symm
theorem same_place : ∀ {p1 p2 s1 s2 : List Nat} {q : Nat}, (p1 ++ q :: s1).Nodup → p1 ++ q :: s1 = p2 ++ q :: s2 → s1 = s2
  | [], [], s1, s2, q, _, e => (List.cons.inj e).2
  | [], b :: p2, s1, s2, q, nd, e => by
    rw [List.nil_append, List.cons_append] at e
    obtain ⟨e1, e2⟩ := List.cons.inj e
    exfalso
    rw [List.nil_append] at nd
    exact (List.nodup_cons.mp nd).1 (by rw [e2]; simp)
  | a :: p1, [], s1, s2, q, nd, e => by
    rw [List.nil_append, List.cons_append] at e
    obtain ⟨e1, e2⟩ := List.cons.inj e
    exfalso
    rw [List.cons_append] at nd
    exact (List.nodup_cons.mp nd).1 (by rw [e1]; simp)
  | a :: p1, b :: p2, s1, s2, q, nd, e => by
    rw [List.cons_append, List.cons_append] at e
    rw [List.cons_append] at nd
    exact same_place (List.nodup_cons.mp nd).2 (List.cons.inj e).2
/-- all of them, none twice, none behind its parent: an order -/
theorem okR_of {F : Fo} : ∀ {row rem : List Nat}, F.Up rem → row.Perm rem → (∀ pre a post, row = pre ++ a :: post → ∀ q, F.p a = some q → q ∉ pre) → OkR F rem row
  | [], rem, U, p, h => by
    have : rem = [] := List.length_eq_zero_iff.mp (by rw [← p.length_eq]; rfl)
    subst this; exact .nil
  | a :: row, rem, U, p, h => by
    have nd := p.nodup_iff.mpr (Fo.nodup_of_asc U.asc)
    have ha : a ∈ rem := p.mem_iff.mp (by simp)
    have hop : a ∈ F.ops rem := Fo.open_of U ha fun u hu e => by
      have hur := p.mem_iff.mpr hu
      have hne : u ≠ a := fun z => by
        subst z
        have hn := U.sub u ha
        exact Fo.not_mem_up hn e (Fo.mem_ch_self hn)
      rcases List.mem_cons.mp hur with z | hur
      · exact hne z
      · obtain ⟨pre, post, e2⟩ := List.append_of_mem hur
        exact h (a :: pre) u post (by rw [e2]; rfl) a e (by simp)
    refine .cons hop (okR_of (U.erase hop) ?_ ?_)
    · exact List.Perm.cons_inv (p.trans (List.perm_cons_erase ha))
    · intro pre b post e q hq hm
      exact h (a :: pre) b post (by rw [e]; rfl) q hq (List.mem_cons_of_mem _ hm)
namespace Tr
variable {e S : Nat → Nat}
theorem fo_up (T : Tr) : (fo T e S).Up (fo T e S).ns := ⟨fun _ h => h, (fo T e S).asc, fun v hv q h => (fo T e S).cl v hv q h⟩
/-- an order's hits lead to the end -/
theorem hits_ok (he : ∀ f, e f = 76 ∨ e f = 82) {T : Tr} {row : List Nat} (h : OkR (fo T e S) (fo T e S).ns row) {f : Nat} (hf : f + 1 < T.m) : run T S row f = e f := by
  have ho := own_in (e := e) T 0 f (Nat.zero_le _) (by omega)
  have below_ : ∀ v ∈ row, (way 0 T v).lookup f ≠ none → own e 0 T f ∈ ch e 0 T v := fun v hv hn => by
    have hvm := fo_lt v (h.mem v hv)
    cases q : (way 0 T v).lookup f with
    | none => exact absurd q hn
    | some c => exact belowOf T 0 v f c (Nat.zero_le _) (by omega) q
  by_cases hs : own e 0 T f ∈ (fo T e S).ns
  · have hr := h.perm.mem_iff.mpr hs
    obtain ⟨pre, post, er⟩ := List.append_of_mem hr
    rw [er]
    refine run_last (own_way he T 0 f (Nat.zero_le _) (by omega)) fun v hv => ?_
    cases q : (way 0 T v).lookup f with
    | none => rfl
    | some c =>
      have := below_ v (by rw [er]; simp [hv]) (by rw [q]; simp)
      exact absurd this (h.later (fo_up T) pre _ post er v hv)
  · have hn : ∀ v ∈ row, (way 0 T v).lookup f = none := fun v hv => by
      cases q : (way 0 T v).lookup f with
      | none => rfl
      | some c =>
        have := below_ v hv (by rw [q]; simp)
        exact absurd (Fo.ch_up (fo_up T) v (h.mem v hv) (h.mem v hv) _ this) hs
    rw [run_none hn]
    by_cases c : S f = e f
    · exact c
    · exfalso
      exact hs ((mem_need' (by omega)).mpr ⟨f, hf, c, ch_self (by omega)⟩)
/-- hits that lead to the end, no more than needed: an order -/
theorem ok_hits (he : ∀ f, e f = 76 ∨ e f = 82) {T : Tr} {row : List Nat} (hm : ∀ u ∈ row, u < T.m) (hl : row.length = (fo T e S).ns.length) (h : ∀ f, f + 1 < T.m → run T S row f = e f) : OkR (fo T e S) (fo T e S).ns row := by
  have key : ∀ s ∈ (fo T e S).ns, ∃ pre post, row = pre ++ s :: post ∧ ∀ v ∈ post, s ∉ ch e 0 T v := by
    intro s hs
    have hsm := fo_lt s hs
    obtain ⟨f, f1, f2, f3⟩ := (mem_need' hsm).mp hs
    have ho := own_in (e := e) T 0 f (Nat.zero_le _) (by omega)
    have hex : ∃ u ∈ row, s ∈ ch e 0 T u := by
      by_cases c : ∃ u ∈ row, (way 0 T u).lookup f ≠ none
      · obtain ⟨u, hu, hn⟩ := c
        cases q : (way 0 T u).lookup f with
        | none => exact absurd q hn
        | some c =>
          have hb := belowOf (e := e) T 0 u f c (Nat.zero_le _) (by have := hm u hu; omega) q
          exact ⟨u, hu, ch_tr _ u (Nat.le_refl _) (hm u hu) _ hb s f3⟩
      · exfalso
        have := run_none (T := T) (f := f) (row := row) (st := S) fun v hv => by
          cases q : (way 0 T v).lookup f with
          | none => rfl
          | some d => exact absurd ⟨v, hv, by rw [q]; simp⟩ c
        rw [h f f1] at this
        exact f2 this.symm
    obtain ⟨pre, u, post, er, hu, hpost⟩ := last_split hex
    have hum := hm u (by rw [er]; simp)
    by_cases c : s = u
    · subst c; exact ⟨pre, post, er, hpost⟩
    · exfalso
      obtain ⟨g, d, w1, w2, w3⟩ := leaves (e := e) T 0 u s (Nat.zero_le _) (by omega) hu c
      have hg := way_in T 0 u (Nat.zero_le _) (by omega) _ (look_mem w1)
      simp only at hg
      have hr : run T S row g = d := by
        rw [er]
        refine run_last w1 fun v hv => ?_
        cases q : (way 0 T v).lookup g with
        | none => rfl
        | some z =>
          have hvm := hm v (by rw [er]; simp [hv])
          have := belowOf (e := e) T 0 v g z (Nat.zero_le _) (by omega) q
          rw [w3] at this
          exact absurd this (hpost v hv)
      rw [h g (by omega)] at hr
      exact w2 hr.symm
  have hp : (fo T e S).ns.Perm row := perm_sub (Fo.nodup_of_asc (fo T e S).asc) (fun s hs => by
    obtain ⟨pre, post, er, _⟩ := key s hs
    rw [er]; simp) (by omega)
  have nd : row.Nodup := hp.nodup_iff.mp (Fo.nodup_of_asc (fo T e S).asc)
  refine okR_of (fo_up T) hp.symm fun pre a post er q hq hqm => ?_
  have ham := hm a (by rw [er]; simp)
  have hqr : q ∈ row := by rw [er]; simp [hqm]
  obtain ⟨pre2, post2, er2, hlater⟩ := key q (hp.mem_iff.mpr hqr)
  obtain ⟨p1, p2, ep⟩ := List.append_of_mem hqm
  have e3 : row = p1 ++ q :: (p2 ++ a :: post) := by rw [er, ep]; simp
  have e4 : p2 ++ a :: post = post2 := same_place (p1 := p1) (p2 := pre2) (q := q) (by rw [← e3]; exact nd) (by rw [← e3]; exact er2)
  refine hlater a (by rw [← e4]; simp) ?_
  have hq2 : par e 0 T a = some q := hq
  have hqi := par_in T 0 a q (Nat.zero_le _) (by omega) hq2
  rw [ch_some T 0 a q (Nat.zero_le _) (by omega) hq2]
  exact List.mem_cons_of_mem _ (ch_self (by omega))
/-! on lists of signs -/
def hitL (st : List Nat) (w : List (Nat × Nat)) : List Nat := w.foldl (fun st x => st.set x.1 x.2) st
theorem hitL_len : ∀ (w : List (Nat × Nat)) (st : List Nat), (hitL st w).length = st.length
  | [], st => rfl
  | x :: w, st => by show (hitL (st.set x.1 x.2) w).length = _; rw [hitL_len w]; simp
theorem look_none {w : List (Nat × Nat)} {f : Nat} (h : f ∉ w.map (·.1)) : w.lookup f = none := by
  induction w with
  | nil => rfl
  | cons x w ih =>
    obtain ⟨g, c⟩ := x
    rw [look_cons, if_neg (fun z => h (by simp [z])), ih (fun z => h (by simp at z ⊢; exact .inr z))]
theorem hitL_get : ∀ (w : List (Nat × Nat)) (st : List Nat), (w.map (·.1)).Nodup → ∀ f, f < st.length → (hitL st w).getD f 0 = (w.lookup f).getD (st.getD f 0)
  | [], st, _, f, hf => rfl
  | x :: w, st, nd, f, hf => by
    obtain ⟨g, c⟩ := x
    obtain ⟨n1, n2⟩ := List.nodup_cons.mp nd
    show (hitL (st.set g c) w).getD f 0 = _
    rw [hitL_get w (st.set g c) n2 f (by simpa using hf), look_cons]
    by_cases q : f = g
    · subst q
      rw [if_pos rfl, look_none n1]
      show (st.set f c).getD f 0 = c
      simp [List.getD, hf]
    · rw [if_neg q]
      have : (st.set g c).getD f 0 = st.getD f 0 := by simp [List.getD, List.getElem?_set_ne (fun z => q z.symm)]
      rw [this]
theorem way_nodup : ∀ (T : Tr) (o u : Nat), o ≤ u → u < o + T.m → ((way o T u).map (·.1)).Nodup
  | leaf, o, u, _, _ => by simp [way]
  | node l r, o, u, h1, h2 => by
    have h2' : u < o + (l.m + r.m) := h2
    have hp1 := m_pos l
    rw [way_node]
    by_cases c : u < o + l.m
    · rw [if_pos c, List.map_cons]
      refine List.nodup_cons.mpr ⟨fun hm => ?_, way_nodup l o u h1 c⟩
      obtain ⟨x, hx, hx2⟩ := List.mem_map.mp hm
      have := way_in l o u h1 c x hx
      simp only at hx2
      omega
    · rw [if_neg c, List.map_cons]
      refine List.nodup_cons.mpr ⟨fun hm => ?_, way_nodup r _ u (by omega) (by omega)⟩
      obtain ⟨x, hx, hx2⟩ := List.mem_map.mp hm
      have := way_in r (o + l.m) u (by omega) (by omega) x hx
      simp only at hx2
      omega
def fn (st : List Nat) : Nat → Nat := fun f => st.getD f 0
def runL (T : Tr) (st : List Nat) (row : List Nat) : List Nat := row.foldl (fun st u => hitL st (way 0 T u)) st
theorem runL_len (T : Tr) : ∀ (row st : List Nat), (runL T st row).length = st.length
  | [], st => rfl
  | u :: row, st => by show (runL T (hitL st (way 0 T u)) row).length = _; rw [runL_len T row, hitL_len]
theorem run_congr {T : Tr} {f : Nat} : ∀ {row : List Nat} {a b : Nat → Nat}, a f = b f → run T a row f = run T b row f
  | [], a, b, h => h
  | u :: row, a, b, h => by
    show run T (hitF _ a) row f = run T (hitF _ b) row f
    refine run_congr ?_
    show ((way 0 T u).lookup f).getD (a f) = ((way 0 T u).lookup f).getD (b f)
    rw [h]
theorem runL_get {T : Tr} : ∀ {row st : List Nat}, (∀ u ∈ row, u < T.m) → ∀ f, f < st.length → fn (runL T st row) f = run T (fn st) row f
  | [], st, _, f, hf => rfl
  | u :: row, st, h, f, hf => by
    show fn (runL T (hitL st (way 0 T u)) row) f = run T (hitF (way 0 T u) (fn st)) row f
    rw [runL_get (fun v hv => h v (by simp [hv])) f (by rw [hitL_len]; exact hf)]
    refine run_congr ?_
    exact hitL_get _ _ (way_nodup T 0 u (Nat.zero_le _) (by have := h u (by simp); omega)) f hf
theorem eq_of_fn {a b : List Nat} (hl : a.length = b.length) (h : ∀ f, f < a.length → fn a f = fn b f) : a = b := by
  refine List.ext_getElem hl fun i h1 h2 => ?_
  have := h i h1
  simpa [fn, List.getD, h1, h2] using this
/-- hits of a row lead from st to E exactly if the row is an order -/
theorem runL_iff {T : Tr} {E st row : List Nat} (hE : E.length = T.m - 1) (hS : st.length = T.m - 1) (he : ∀ f, f + 1 < T.m → fn E f = 76 ∨ fn E f = 82) (e : Nat → Nat) (hee : ∀ f, f + 1 < T.m → e f = fn E f) (he2 : ∀ f, e f = 76 ∨ e f = 82)
    (hm : ∀ u ∈ row, u < T.m) (hl : row.length = (fo T e (fn st)).ns.length) : runL T st row = E ↔ OkR (fo T e (fn st)) (fo T e (fn st)).ns row := by
  constructor
  · intro h
    refine ok_hits he2 hm hl fun f hf => ?_
    rw [← runL_get hm f (by omega), h, hee f hf]
  · intro h
    refine eq_of_fn (by rw [runL_len]; omega) fun f hf => ?_
    rw [runL_len] at hf
    rw [runL_get hm f hf, hits_ok he2 h (by omega), hee f (by omega)]
end Tr
end K22
set_option Elab.async false
set_option linter.all false
set_option maxRecDepth 100000
set_option maxHeartbeats 4000000
/-! The tree's object, its __len__ and its property forks; nested tuples in the heap. -/
namespace K22
open PySem PySem.Spec PyProof.Rows L2
/-- len(o), o an instance whose class has its own __len__ at g -/
def rLenO (C : Addr) (sp : Sp) : List V → Hp → VK → Prop := fun vs H Q => ∃ (a dx : Addr) (fs : List (Str × V)), vs = [.ref a] ∧ H a = some (.ins C dx fs) ∧ sp [.ref a] H (fun v H' => ∃ n : Nat, v = nV n ∧ n < 2 ^ 60 ∧ Q (nV n) H') E0
structure LenOf (P : Program) (w : World) (K : PySem.W.Frag) (mg : Str → Option Value) (base : Heap) (C : Addr) (k : Nat) (sp : Sp) : Prop where
  ex : ∃ (g : Addr) (fd : FuncData) (ps : List Str), PySem.W.findIn K (.ref C) "__len__" = some (some (.ref g)) ∧ PySem.W.isFn K (.ref g) = true ∧ FnOk P w K mg base (L2.CX P w) k g fd ps sp ∧ Binds K fd ps []
theorem call_lenO {X : Cx} {C : Addr} {k j : Nat} {sp : Sp} (L : LenOf X.prog X.w X.K X.mg X.base C k sp) (hr : Room j X.A) (hk : k + 1 ≤ j) : CallR X (.builtin "len") (rLenO C sp) := by
  intro pins s σ H xs us Q I r h
  obtain ⟨a, dx, fs, rfl, ea, q⟩ := h
  obtain ⟨u, rfl, ru⟩ := vals1 r
  cases ru
  obtain ⟨g, fd, ps, hs, hf, F, b⟩ := L.ex
  obtain ⟨m, fr⟩ := I.fr
  obtain ⟨mA, O, _, _, _, _⟩ := ins_get I.hok ea
  obtain ⟨od, J, _⟩ := O.look
  refine PySem.W.len_K fr I.ok.mod.kin J hs hf (wpAny_call ?_)
  refine codeAny_mono (F.run X.A.in1 X.stack s H ⟨[.ref a], []⟩ [.ref a] [.ref a] _ E0 (hr.mono hk).in1 I.env0.in1 (b _ [.ref a] I.kIn (F.len _ _ _ _ q)) (.cons rfl .nil) q) fun rr s' hq => ?_
  cases rr with
  | error er =>
    obtain ⟨_, _, _, _, _, _, _, _, _, _, _, _, z⟩ := (show L2.CX X.prog X.w X.stack H s E0 er s' from hq)
    exact z.elim
  | ok fl =>
    cases fl with
    | ret u =>
      obtain ⟨v, H', I3, rv, n, e, hn, q3⟩ := I.after hq
      subst e
      obtain ⟨t, rfl⟩ := (show ∃ t, u = Value.int (n : Int) t from rv)
      exact ⟨⟨by omega, by omega⟩, nV n, H', I3.tok _, ⟨_, rfl⟩, q3⟩
    | next => exact False.elim hq
    | brk => exact False.elim hq
    | cont => exact False.elim hq
/-! ### nested tuples -/
inductive All2 {α : Type} (R : V → α → Prop) : List V → List α → Prop
  | nil : All2 R [] []
  | cons {v : V} {x : α} {vs : List V} {xs : List α} (h : R v x) (t : All2 R vs xs) : All2 R (v :: vs) (x :: xs)
namespace All2
variable {α : Type} {R R' : V → α → Prop} {vs ws : List V} {xs ys : List α}
theorem len (h : All2 R vs xs) : vs.length = xs.length := by induction h with | nil => rfl | cons _ _ ih => rw [List.length_cons, List.length_cons, ih]
theorem mono (h : All2 R vs xs) (f : ∀ v x, R v x → R' v x) : All2 R' vs xs := by induction h with | nil => exact .nil | cons h _ ih => exact .cons (f _ _ h) ih
theorem app (h : All2 R vs xs) (g : All2 R ws ys) : All2 R (vs ++ ws) (xs ++ ys) := by induction h with | nil => exact g | cons h _ ih => exact .cons h ih
theorem at_ {i : Nat} {x : α} (h : All2 R vs xs) : xs[i]? = some x → ∃ v, vs[i]? = some v ∧ R v x := by
  induction h generalizing i with
  | nil => intro e; simp at e
  | @cons v y vs ys h t ih =>
    intro e
    cases i with
    | zero => simp at e; subst e; exact ⟨v, rfl, h⟩
    | succ i => simp at e; obtain ⟨u, h1, h2⟩ := ih e; exact ⟨u, by simpa using h1, h2⟩
theorem at' {i : Nat} {v : V} (h : All2 R vs xs) : vs[i]? = some v → ∃ x, xs[i]? = some x ∧ R v x := by
  induction h generalizing i with
  | nil => intro e; simp at e
  | @cons v y vs ys h t ih =>
    intro e
    cases i with
    | zero => simp at e; subst e; exact ⟨y, rfl, h⟩
    | succ i => simp at e; obtain ⟨u, h1, h2⟩ := ih e; exact ⟨u, by simpa using h1, h2⟩
theorem drop (h : All2 R vs xs) (n : Nat) : All2 R (vs.drop n) (xs.drop n) := by
  induction h generalizing n with
  | nil => simp; exact .nil
  | cons h t ih => cases n with
    | zero => exact .cons h t
    | succ n => exact ih n
theorem take (h : All2 R vs xs) (n : Nat) : All2 R (vs.take n) (xs.take n) := by
  induction h generalizing n with
  | nil => simp; exact .nil
  | cons h t ih => cases n with
    | zero => exact .nil
    | succ n => exact .cons h (ih n)
theorem set (h : All2 R vs xs) {i : Nat} {v : V} {x : α} (r : R v x) : All2 R (vs.set i v) (xs.set i x) := by
  induction h generalizing i with
  | nil => exact .nil
  | cons h t ih => cases i with
    | zero => exact .cons r t
    | succ i => exact .cons h ih
theorem split {ys zs : List α} {x : α} (h : All2 R vs (ys ++ x :: zs)) : ∃ us v ws, vs = us ++ v :: ws ∧ All2 R us ys ∧ R v x ∧ All2 R ws zs := by
  induction ys generalizing vs with
  | nil => cases h with | cons h t => exact ⟨[], _, _, rfl, .nil, h, t⟩
  | cons y ys ih =>
    cases h with
    | cons h t =>
      obtain ⟨us, v, ws, e, h1, h2, h3⟩ := ih t
      exact ⟨_ :: us, v, ws, by rw [e]; rfl, .cons h h1, h2, h3⟩
theorem map_ {β : Type} {f : β → α} {R2 : V → β → Prop} {bs : List β} (h : All2 R2 vs bs) (g : ∀ v b, R2 v b → R v (f b)) : All2 R vs (bs.map f) := by
  induction h with | nil => exact .nil | cons h _ ih => exact .cons (g _ _ h) ih
end All2
/-- a text of these signs -/
def sL (l : List Nat) : Str := ⟨l.toArray⟩
def sV (l : List Nat) : V := .str (sL l)
theorem sL_len (l : List Nat) : (sL l).length = l.length := by simp [sL, Str.length]
theorem sL_tl (l : List Nat) : (sL l).cps.toList = l := by simp [sL]
theorem sL_inj {a b : List Nat} : sL a = sL b ↔ a = b := ⟨fun h => by have := congrArg (fun s : Str => s.cps.toList) h; simpa [sL] using this, fun h => by rw [h]⟩
theorem sV_dec (a b : List Nat) : decide (sV a = sV b) = decide (a = b) := by
  by_cases h : a = b
  · rw [decide_eq_true h, decide_eq_true (by rw [h])]
  · have : ¬ sV a = sV b := fun z => h (sL_inj.mp (V.str.inj z))
    rw [decide_eq_false h, decide_eq_false this]
/-- a fork and a side -/
def StepAt (H : Hp) (v : V) (x : Nat × Nat) : Prop := ∃ a, v = .ref a ∧ H a = some (.tup [nV x.1, sV [x.2]])
def WayAt (H : Hp) (v : V) (w : List (Nat × Nat)) : Prop := ∃ a vs, v = .ref a ∧ H a = some (.tup vs) ∧ All2 (StepAt H) vs w
def WaysAt (H : Hp) (v : V) (ws : List (List (Nat × Nat))) : Prop := ∃ a vs, v = .ref a ∧ H a = some (.tup vs) ∧ All2 (WayAt H) vs ws
def PairAt (H : Hp) (v : V) (x : Nat × Nat) : Prop := ∃ a, v = .ref a ∧ H a = some (.tup [nV x.1, nV x.2])
def PairsAt (H : Hp) (v : V) (xs : List (Nat × Nat)) : Prop := ∃ a vs, v = .ref a ∧ H a = some (.tup vs) ∧ All2 (PairAt H) vs xs
theorem StepAt.same {H H' : Hp} (e : Same H H') {v : V} {x : Nat × Nat} (h : StepAt H v x) : StepAt H' v x := by obtain ⟨a, h1, h2⟩ := h; exact ⟨a, h1, e _ _ h2⟩
theorem PairAt.same {H H' : Hp} (e : Same H H') {v : V} {x : Nat × Nat} (h : PairAt H v x) : PairAt H' v x := by obtain ⟨a, h1, h2⟩ := h; exact ⟨a, h1, e _ _ h2⟩
theorem WayAt.same {H H' : Hp} (e : Same H H') {v : V} {x : List (Nat × Nat)} (h : WayAt H v x) : WayAt H' v x := by obtain ⟨a, vs, h1, h2, h3⟩ := h; exact ⟨a, vs, h1, e _ _ h2, h3.mono fun _ _ h => h.same e⟩
theorem WaysAt.same {H H' : Hp} (e : Same H H') {v : V} {x : List (List (Nat × Nat))} (h : WaysAt H v x) : WaysAt H' v x := by obtain ⟨a, vs, h1, h2, h3⟩ := h; exact ⟨a, vs, h1, e _ _ h2, h3.mono fun _ _ h => h.same e⟩
theorem PairsAt.same {H H' : Hp} (e : Same H H') {v : V} {x : List (Nat × Nat)} (h : PairsAt H v x) : PairsAt H' v x := by obtain ⟨a, vs, h1, h2, h3⟩ := h; exact ⟨a, vs, h1, e _ _ h2, h3.mono fun _ _ h => h.same e⟩
def waysOf (T : Tr) : List (List (Nat × Nat)) := (List.range T.m).map (Tr.way 0 T)
def spansOf (T : Tr) : List (Nat × Nat) := (List.range (T.m - 1)).map (Tr.span 0 T)
/-- the object of the tree T -/
structure TreeAt (C : Addr) (H : Hp) (v : V) (T : Tr) : Prop where
  ex : ∃ (t dx : Addr) (fs : List (Str × V)) (wv sv : V), v = .ref t ∧ H t = some (.ins C dx fs) ∧ fs.lookup ("ways" : Str) = some wv ∧ WaysAt H wv (waysOf T) ∧ fs.lookup ("spans" : Str) = some sv ∧ PairsAt H sv (spansOf T)
  m64 : T.m ≤ 64
theorem TreeAt.same {C : Addr} {H H' : Hp} {v : V} {T : Tr} (e : Same H H') (h : TreeAt C H v T) : TreeAt C H' v T := by
  obtain ⟨t, dx, fs, wv, sv, h1, h2, h3, h4, h5, h6⟩ := h.ex
  exact ⟨⟨t, dx, fs, wv, sv, h1, e _ _ h2, h3, h4.same e, h5, h6.same e⟩, h.m64⟩
theorem waysOf_at {T : Tr} {u : Nat} (h : u < T.m) : (waysOf T)[u]? = some (Tr.way 0 T u) := by unfold waysOf; rw [List.getElem?_map, List.getElem?_range h]; rfl
theorem spansOf_at {T : Tr} {u : Nat} (h : u + 1 < T.m) : (spansOf T)[u]? = some (Tr.span 0 T u) := by unfold spansOf; rw [List.getElem?_map, List.getElem?_range (by omega)]; rfl
theorem waysOf_len (T : Tr) : (waysOf T).length = T.m := by unfold waysOf; rw [List.length_map, List.length_range]
theorem spansOf_len (T : Tr) : (spansOf T).length = T.m - 1 := by unfold spansOf; rw [List.length_map, List.length_range]
/-- what the top leaves of the class -/
structure Tc (K : PySem.W.Frag) (C : Addr) : Prop where
  cl : Cls K C
  no : ∀ f ∈ (["text", "lefts", "rights", "spans", "bounds", "postorder", "root", "preorder", "ways"] : List Str), NoAttr K C f
def spLen (C : Addr) : Sp := fun vs H Q _ => ∃ (v : V) (T : Tr), vs = [v] ∧ TreeAt C H v T ∧ Q (nV T.m) H
def spForks (C : Addr) : Sp := fun vs H Q _ => ∃ (v : V) (T : Tr), vs = [v] ∧ TreeAt C H v T ∧ Q (nV (T.m - 1)) H
section
variable {P : Program} {w : World} {K : PySem.W.Frag} {mg : Str → Option Value} {base : Heap}
theorem ok_len {C g : Addr} {fd : FuncData} (T : Tb mg) (F : FunD K "__len__" "Tree.__len__" (defArgs s_Tree___len__) (defBody s_Tree___len__) (defScope s_Tree___len__) [] [] g fd) (c : Tc K C) : FnOk P w K mg base (L2.CX P w) 1 g fd ["self"] (spLen C) := by
  refine F.ok sc_Tree___len__ (fun vs H Q E h => ?_) (fun cdv A outer s H vs Q E hr h => ?_)
  · obtain ⟨_, _, rfl, _⟩ := h; rfl
  · obtain ⟨v, Tt, rfl, ht, q⟩ := h
    obtain ⟨t, dx, fs, wv, sv, rfl, h2, h3, ⟨a, vs, rfl, h4, h5⟩, _⟩ := ht.ex
    refine ⟨_, PSs.nox (pss_one (ps_ret (pe_callB call_len_seq (by rfl) T.n_len (by decide +kernel) (pa_cons (pe_fld (pv 0) rfl) pa_nil)))), ?_⟩
    refine ⟨_, rfl, t, C, dx, fs, _, rfl, h2, c.cl, c.no "ways" (by simp), h3, a, vs, rfl, .inr (SqT.of h4), ?_⟩
    rw [h5.len, waysOf_len]
    exact q
theorem ok_forks {C g : Addr} {fd : FuncData} (T : Tb mg) (F : FunD K "forks" "Tree.forks" (defArgs s_Tree_forks) (defBody s_Tree_forks) (defScope s_Tree_forks) [] [] g fd) (c : Tc K C) : FnOk P w K mg base (L2.CX P w) 1 g fd ["self"] (spForks C) := by
  refine F.ok sc_Tree_forks (fun vs H Q E h => ?_) (fun cdv A outer s H vs Q E hr h => ?_)
  · obtain ⟨_, _, rfl, _⟩ := h; rfl
  · obtain ⟨v, Tt, rfl, ht, q⟩ := h
    obtain ⟨t, dx, fs, wv, sv, rfl, h2, h3, _, h6, ⟨a, vs, rfl, h4, h5⟩⟩ := ht.ex
    refine ⟨_, PSs.nox (pss_one (ps_ret (pe_callB call_len_seq (by rfl) T.n_len (by decide +kernel) (pa_cons (pe_fld (pv 0) rfl) pa_nil)))), ?_⟩
    refine ⟨_, rfl, t, C, dx, fs, _, rfl, h2, c.cl, c.no "spans" (by simp), h6, a, vs, rfl, .inr (SqT.of h4), ?_⟩
    rw [h5.len, spansOf_len]
    exact q
end
/-- the property forks -/
structure ForksOf (P : Program) (w : World) (K : PySem.W.Frag) (mg : Str → Option Value) (base : Heap) (C : Addr) : Prop where
  cl : Cls K C
  ex : ∃ (p g : Addr) (fd : FuncData) (ps : List Str), PropOf K C "forks" p g ∧ FnOk P w K mg base (L2.CX P w) 1 g fd ps (spForks C) ∧ Binds K fd ps []
def tForks (C : Addr) (ta : TE) : TE := fun σ H Q => ta σ H fun x H1 => ∃ T : Tr, TreeAt C H1 x T ∧ Q (nV (T.m - 1)) H1
section
variable {X : Cx} {C : Addr} {j : Nat} {e : Expr} {pos : Pos} {ta : TE}
theorem passN {X : Cx} : Passes (L2.CX X.prog X.w) X.nox E0 := fun _ _ _ _ _ _ _ h => by
  obtain ⟨_, _, _, _, _, _, _, _, _, _, _, _, z⟩ := h
  exact z.elim
theorem pe_forks (PF : ForksOf X.prog X.w X.K X.mg X.base C) (hr : Room j X.A) (hj : 2 ≤ j) (he : PE X e ta) (hab : attributeBase e "forks" X.env (eval e X.env) = eval e X.env := by rfl) : PE X (.Attribute e "forks" pos) (tForks C ta) := by
  obtain ⟨p, g, fd, ps, hp, F, b⟩ := PF.ex
  refine ⟨fun pins s σ H Q I h => ?_⟩
  have he2 := pe_store he fun x H1 => ∃ T : Tr, TreeAt C H1 x T ∧ Q (nV (T.m - 1)) H1
  refine (pe_prop (sp := spForks C) (dvs := []) (E := E0) he2 PF.cl hp F (hr.mono hj) b .nil passN hab).run pins s σ H Q I ⟨h, fun v H1 hv => ?_⟩
  obtain ⟨T, hT, q⟩ := hv
  obtain ⟨t, dx, fs, wv, sv, rfl, h2, _⟩ := hT.ex
  exact ⟨t, dx, fs, rfl, h2, _, T, rfl, hT, q⟩
end
end K22
set_option Elab.async false
set_option linter.all false
set_option maxRecDepth 100000
set_option maxHeartbeats 4000000
namespace K22
open PySem PySem.Spec PyProof.Rows L2
/-! checks -/
/-- a value that is asked to be flags: a text, or no text at all -/
inductive StrA (K : PySem.W.Frag) (H : Hp) : V → Option (List Nat) → Prop
  | str (l : List Nat) (h : l.length ≤ 1000) : StrA K H (sV l) (some l)
  | non : StrA K H .non none
  | lst {a : Addr} {xs : List V} (h : H a = some (.lst xs)) : StrA K H (.ref a) none
theorem StrA.same {K : PySem.W.Frag} {H H' : Hp} {x : V} {o : Option (List Nat)} (e : Same H H') (h : StrA K H x o) : StrA K H' x o := by
  cases h with
  | str l h => exact .str l h
  | non => exact .non
  | lst h => exact .lst (e _ _ h)
def isM (ss : List Nat) : Option (List Nat) → Bool
  | some l => l.all fun c => decide (c ∈ ss)
  | none => false
def spIM (K : PySem.W.Frag) : Sp := fun vs H Q _ => ∃ (x : V) (o : Option (List Nat)) (ss : List Nat), vs = [x, sV ss] ∧ StrA K H x o ∧ ∀ H' : Hp, Same H H' → Q (.bl (isM ss o)) H'
section
variable {P : Program} {w : World} {K : PySem.W.Frag} {mg : Str → Option Value} {base : Heap}
theorem ok_is_made_of (T : Tb mg) (F : Df K mg "is_made_of" s_is_made_of) : Cl P w K mg base 1 "is_made_of" (spIM K) := by
  refine cl_mk F sc_is_made_of (fun vs H Q E h => ?_) (fun _ _ _ _ _ _ us hl => match us, hl with | [_, _], _ => rfl) (fun f cdv A outer s H vs Q E hr h => ?_)
  · obtain ⟨_, _, _, rfl, _⟩ := h; rfl
  · have hu := hu_of hr
    obtain ⟨x, o, ss, rfl, hx, q⟩ := h
    refine ⟨_, PSs.nox (pss_one (ps_ret (pe_and (pe_callB call_isi (by rfl) T.n_isinstance (by decide +kernel) (pa_cons (pv 0) (pa_cons (pe_bltn (v := .ty "str") (u := .type "str") (by rfl) T.n_str (by decide +kernel) rfl) pa_nil))) (pe_one (pe_callB (cr_all rfl) (by rfl) T.n_all (by decide +kernel) (pa_cons (pe_lc (own := [("sign", 2)]) (by rfl) sc_is_made_of.nd (pi_str (pv 0)) (blkOk_by (own := [("sign", 2)]) (N := n_is_made_of) (sc := defScope s_is_made_of) (by decide +kernel)) (fun _ _ _ _ _ => (pg_name (i := 2) sc_is_made_of.nd rfl (Or.inl rfl))) (fun _ _ _ _ _ => pts_nil) (fun _ _ _ _ _ => (pe_cmpR op_in_sign (pv 2) (pv 1) (by rfl)))) pa_nil)))))), ?_⟩
    cases hx with
    | non => exact ⟨_, rfl, _, _, _, _, false, rfl, .ty _, .base .non, kit_ty (by decide +kernel), false, rfl, ifF rfl (q H (Same.refl H))⟩
    | lst h => exact ⟨_, rfl, _, _, _, _, false, rfl, .ty _, .base (.lst h), kit_ty (by decide +kernel), false, rfl, ifF rfl (q H (Same.refl H))⟩
    | str l hl =>
      refine ⟨_, rfl, _, _, _, _, true, rfl, .ty _, .base (.str _), kit_ty (by decide +kernel), true, rfl, ifT rfl ?_⟩
      refine ⟨_, rfl, _, rfl, fun D hD => ?_⟩
      refine lc_pre (wf_str l) (fun pre H' => Same H H' ∧ H' D = some (.lst ((pre.map fun c => decide (c ∈ ss)).map V.bl))) ?_ ?_ ?_ ?_
      · exact ⟨(Same.refl H).new hD, upd_same⟩
      · intro _ _ _; trivial
      · rintro pre a post H' e ⟨s1, h1⟩
        refine ⟨rfl, ?_⟩
        refine ⟨_, rfl, _, rfl, a, _, rfl, rfl, _, h1, ?_, s1.put hD, ?_⟩
        · rw [List.length_map, List.length_map]
          have : l.length = pre.length + (post.length + 1) := by rw [e, List.length_append, List.length_cons]
          exact Nat.lt_of_le_of_lt (show pre.length ≤ 1000 by omega) (by decide)
        · rw [upd_same, List.map_append, List.map_append]
          show some (HO.lst (_ ++ [V.bl (decide (a ∈ (sL ss).cps.toList))])) = some (HO.lst (_ ++ [V.bl (decide (a ∈ ss))]))
          rw [sL_tl]
      · rintro H' ⟨s1, h1⟩
        refine ⟨D, l.map fun c => decide (c ∈ ss), rfl, SqL.of h1, ?_⟩
        have e : (l.map fun c => decide (c ∈ ss)).all id = isM ss (some l) := by
          unfold isM
          rw [List.all_map]; rfl
        rw [e]
        exact q H' s1
/-- the error's way out -/
def Err (C : Addr) (f : Str) (v : V) (H : Hp) (E : XK) : Prop := ∀ (H' : Hp) (d : Addr), Same H H' → H d = none → H' d = some (.xd [(f, v)]) → E (.ref C) (some d) H'
def okF (ss : List Nat) (n : Nat) (o : Option (List Nat)) : Bool := isM ss o && (match o with | some l => decide (l.length = n) | none => false)
def spCk (K : PySem.W.Frag) (CT CF : Addr) (ss : List Nat) : Sp := fun vs H Q E => ∃ (tv x : V) (T : Tr) (o : Option (List Nat)), vs = [tv, x] ∧ TreeAt CT H tv T ∧ StrA K H x o ∧
  (okF ss (T.m - 1) o = true → ∀ H' : Hp, Same H H' → Q x H') ∧ (okF ss (T.m - 1) o = false → Err CF "flags" x H E)
theorem cod_LR : V.str ("LR" : Str) = sV [76, 82] := by decide +kernel
theorem cod_LRq : V.str ("LR?" : Str) = sV [76, 82, 63] := by decide +kernel
theorem ok_checked_flags {CT CF : Addr} (T : Tb mg) (F : Df K mg "checked_flags" s_checked_flags) (x_InvalidFlags : Er P w K mg base "InvalidFlags" "flags" CF) (PF : ForksOf P w K mg base CT) (c_is_made_of : Cl P w K mg base 1 "is_made_of" (spIM K)) : Cl P w K mg base 3 "checked_flags" (spCk K CT CF [76, 82]) := by
  refine cl_mk F sc_checked_flags (fun vs H Q E h => ?_) (fun _ _ _ _ _ _ us hl => match us, hl with | [_, _], _ => rfl) (fun f cdv A outer s H vs Q E hr h => ?_)
  · obtain ⟨_, _, _, _, rfl, _⟩ := h; rfl
  · have hu := hu_of hr
    obtain ⟨tv, x, Tt, o, rfl, hT, hx, q, qE⟩ := h
    refine ⟨_, (pss_cons (ps_if (PW.pt (pw_or (pt_not (pt_val (pe_cl c_is_made_of hr (by decide) rfl (pa_cons (pv 1) (pa_cons pe_str pa_nil))))) (pw_or1 (pt_cmpR op_ne (pe_callB call_len_str (by rfl) T.n_len (by decide +kernel) (pa_cons (pv 1) pa_nil)) (pe_forks PF hr (by decide) (pv 0)) (nomark _)))))
      (pss_one (ps_raise1 rfl x_InvalidFlags hr (by decide) (by rfl) (takes_of rfl rfl rfl rfl) (pv 1)))
      pss_nil)
    (pss_one (ps_ret (pv 1)))), ?_⟩
    refine ⟨_, rfl, x, o, [76, 82], ?_, hx, fun H1 s1 => ⟨_, rfl, ?_⟩⟩
    · show [x, V.str ("LR" : Str)] = _
      rw [cod_LR]
    have hT1 := hT.same s1
    cases c : isM [76, 82] o with
    | false =>
      refine ifT rfl (ifT rfl ?_)
      refine ⟨_, rfl, fun d H' s2 hd h2 => qE ?_ H' d (s1.trans s2) (s1.free hd) h2⟩
      unfold okF; rw [c]; rfl
    | true =>
      refine ifF rfl ?_
      cases hx with
      | non => cases c
      | lst _ => cases c
      | str l hl =>
        have hlen : (sL l).length ≤ sizeLine := by rw [sL_len]; exact Nat.le_trans hl (by decide)
        refine ⟨_, rfl, _, rfl, hlen, _, rfl, Tt, hT1, rfl, _, rfl, ?_⟩
        have hd : decide (V.int (((sL l).length : Nat) : Int) = nV (Tt.m - 1)) = decide (l.length = Tt.m - 1) := by rw [sL_len]; exact nV_dec _ _
        by_cases c2 : l.length = Tt.m - 1
        · refine ifF (by rw [hd, decide_eq_true c2]; rfl) ?_
          refine ⟨_, rfl, q ?_ H1 s1⟩
          unfold okF; rw [c]; simp [c2]
        · refine ifT (by rw [hd, decide_eq_false c2]; rfl) ?_
          refine ⟨_, rfl, fun d H' s2 hd h2 => qE ?_ H' d (s1.trans s2) (s1.free hd) h2⟩
          unfold okF; rw [c]; simp [c2]
theorem ok_checked_pattern {CT CF : Addr} (T : Tb mg) (F : Df K mg "checked_pattern" s_checked_pattern) (x_InvalidFlags : Er P w K mg base "InvalidFlags" "flags" CF) (PF : ForksOf P w K mg base CT) (c_is_made_of : Cl P w K mg base 1 "is_made_of" (spIM K)) : Cl P w K mg base 3 "checked_pattern" (spCk K CT CF [76, 82, 63]) := by
  refine cl_mk F sc_checked_pattern (fun vs H Q E h => ?_) (fun _ _ _ _ _ _ us hl => match us, hl with | [_, _], _ => rfl) (fun f cdv A outer s H vs Q E hr h => ?_)
  · obtain ⟨_, _, _, _, rfl, _⟩ := h; rfl
  · have hu := hu_of hr
    obtain ⟨tv, x, Tt, o, rfl, hT, hx, q, qE⟩ := h
    refine ⟨_, (pss_cons (ps_if (PW.pt (pw_or (pt_not (pt_val (pe_cl c_is_made_of hr (by decide) rfl (pa_cons (pv 1) (pa_cons pe_str pa_nil))))) (pw_or1 (pt_cmpR op_ne (pe_callB call_len_str (by rfl) T.n_len (by decide +kernel) (pa_cons (pv 1) pa_nil)) (pe_forks PF hr (by decide) (pv 0)) (nomark _)))))
      (pss_one (ps_raise1 rfl x_InvalidFlags hr (by decide) (by rfl) (takes_of rfl rfl rfl rfl) (pv 1)))
      pss_nil)
    (pss_one (ps_ret (pv 1)))), ?_⟩
    refine ⟨_, rfl, x, o, [76, 82, 63], ?_, hx, fun H1 s1 => ⟨_, rfl, ?_⟩⟩
    · show [x, V.str ("LR?" : Str)] = _
      rw [cod_LRq]
    have hT1 := hT.same s1
    cases c : isM [76, 82, 63] o with
    | false =>
      refine ifT rfl (ifT rfl ?_)
      refine ⟨_, rfl, fun d H' s2 hd h2 => qE ?_ H' d (s1.trans s2) (s1.free hd) h2⟩
      unfold okF; rw [c]; rfl
    | true =>
      refine ifF rfl ?_
      cases hx with
      | non => cases c
      | lst _ => cases c
      | str l hl =>
        have hlen : (sL l).length ≤ sizeLine := by rw [sL_len]; exact Nat.le_trans hl (by decide)
        refine ⟨_, rfl, _, rfl, hlen, _, rfl, Tt, hT1, rfl, _, rfl, ?_⟩
        have hd : decide (V.int (((sL l).length : Nat) : Int) = nV (Tt.m - 1)) = decide (l.length = Tt.m - 1) := by rw [sL_len]; exact nV_dec _ _
        by_cases c2 : l.length = Tt.m - 1
        · refine ifF (by rw [hd, decide_eq_true c2]; rfl) ?_
          refine ⟨_, rfl, q ?_ H1 s1⟩
          unfold okF; rw [c]; simp [c2]
        · refine ifT (by rw [hd, decide_eq_false c2]; rfl) ?_
          refine ⟨_, rfl, fun d H' s2 hd h2 => qE ?_ H' d (s1.trans s2) (s1.free hd) h2⟩
          unfold okF; rw [c]; simp [c2]
/-! checked_number -/
def okN : V → Bool
  | .int i => decide (0 ≤ i)
  | _ => false
def spCN (K : PySem.W.Frag) (CN : Addr) : Sp := fun vs H Q E => ∃ (x : V) (b : Bool), vs = [x, .int 0, .non] ∧ IsI K H x b ∧ (okN x = true → Q x H) ∧ (okN x = false → Err CN "number" x H E)
theorem ok_checked_number {CN : Addr} {f : Addr} {fd : FuncData} (T : Tb mg) (F : FunD K "checked_number" "checked_number" (defArgs s_checked_number) (defBody s_checked_number) (defScope s_checked_number) [.non] [] f fd) (hm : mg "checked_number" = some (.ref f))
    (x_InvalidNumber : Er P w K mg base "InvalidNumber" "number" CN) (c_is_integer : Cl P w K mg base 1 "is_integer" (spII K)) : Cl P w K mg base 3 "checked_number" (spCN K CN) [.non] := by
  have G : FnOk P w K mg base (L2.CX P w) 3 f fd ["number", "least", "most"] (spCN K CN) := by
    refine F.ok sc_checked_number (fun vs H Q E h => ?_) (fun cdv A outer s H vs Q E hr h => ?_)
    · obtain ⟨_, _, rfl, _⟩ := h; rfl
    · have hu := hu_of hr
      obtain ⟨x, b, rfl, hx, q, qE⟩ := h
      refine ⟨_, (pss_cons (ps_if (PW.pt (pw_or (pt_not (pt_val (pe_cl c_is_integer hr (by decide) rfl (pa_cons (pv 0) pa_nil)))) (pw_or1 (pt_cmpR op_lt (pv 0) (pv 1) (nomark _)))))
      (pss_one (ps_raise1 rfl x_InvalidNumber hr (by decide) (by rfl) (takes_of rfl rfl rfl rfl) (pv 0)))
      pss_nil)
    (pss_cons (ps_if (PW.pt (pw_and (pt_cmpR op_notN (pv 2) pe_non (nomark _)) (pw_and1 (pt_cmpR op_gt (pv 0) (pv 2) (nomark _)))))
      (pss_one (ps_raise1 rfl x_InvalidNumber hr (by decide) (by rfl) (takes_of rfl rfl rfl rfl) (pv 0)))
      pss_nil)
    (pss_one (ps_ret (pv 0))))), ?_⟩
      have bad : okN x = false → ∀ d H', Same H H' → H d = none → H' d = some (.xd [("number", x)]) → E (.ref CN) (some d) H' := fun c d H' s hd h => qE c H' d s hd h
      refine ⟨_, rfl, x, b, rfl, hx, b, rfl, ?_⟩
      cases hx with
      | int i =>
        refine ifF rfl ⟨_, rfl, _, rfl, i, 0, rfl, rfl, _, rfl, ?_⟩
        by_cases c : i < 0
        · refine ifT (decide_eq_true c) ⟨_, rfl, bad ?_⟩
          show decide (0 ≤ i) = false
          exact decide_eq_false (by omega)
        · refine ifF (decide_eq_false c) ?_
          refine ⟨_, rfl, rfl, _, rfl, ifF rfl (ifF rfl ?_)⟩
          refine ⟨_, rfl, q ?_⟩
          show decide (0 ≤ i) = true
          exact decide_eq_true (by omega)
      | non => exact ifT rfl (ifT rfl ⟨_, rfl, bad rfl⟩)
      | bl b => exact ifT rfl (ifT rfl ⟨_, rfl, bad rfl⟩)
      | str x => exact ifT rfl (ifT rfl ⟨_, rfl, bad rfl⟩)
      | lst h => exact ifT rfl (ifT rfl ⟨_, rfl, bad rfl⟩)
      | tup h => exact ifT rfl (ifT rfl ⟨_, rfl, bad rfl⟩)
  obtain ⟨ds, hv, hb⟩ := F.binds1 (ps := ["number", "least", "most"]) 2 0 (by simp) rfl fun T kV doc pm an cdv ct us its h1 h2 => match us, its, h1, h2 with | [a, b], [c], _, _ => ⟨_, rfl, rfl⟩
  exact ⟨f, fd, _, ds, G, hm, F.kp, hb, hv⟩
end
end K22
set_option Elab.async false
set_option linter.all false
set_option maxRecDepth 100000
set_option maxHeartbeats 4000000
namespace K22
open PySem PySem.Spec PyProof.Rows L2
/-! trails -/
theorem sIx_at {n d b : Nat} (h : b ≤ n) : HT.sIx n d (some (b : Int)) = b := by rw [HT.sIx_nat]; exact Nat.min_eq_left h
theorem cutV_from {xs : List V} {b : Nat} (h : b ≤ xs.length) : cutV xs (some (b : Int)) none = xs.drop b := by
  unfold cutV
  rw [sIx_at h]
  show (xs.drop b).take (xs.length - b) = _
  rw [List.take_of_length_le (by rw [List.length_drop]; exact Nat.le_refl _)]
theorem cutS_of {l : List Nat} {a b : Nat} (ha : a ≤ l.length) (hb : b ≤ l.length) : cutS (sL l) (some (a : Int)) (some (b : Int)) = sL ((l.drop a).take (b - a)) := by
  unfold cutS
  rw [sL_len, sIx_at ha, sIx_at hb, sL_tl]; rfl
theorem atI_pred {α : Type} {xs : List α} {b : Nat} {x : α} (h : xs[b]? = some x) : atI xs (((b + 1 : Nat) : Int) - 1) = some x := by
  rw [show ((b + 1 : Nat) : Int) - 1 = ((b : Nat) : Int) by omega]
  exact atI_nat h
theorem ix_tupK {X : Cx} {K : PySem.W.Frag} (h : X.K = K) : IxR X (rIxT K) := by subst h; exact ix_tup
theorem ix_listK {X : Cx} {K : PySem.W.Frag} (h : X.K = K) : IxR X (rIxL K) := by subst h; exact ix_list
/-- a text's flag at a fork -/
def eF (E : List Nat) : Nat → Nat := fun f => E.getD f 76
theorem eF_at {E : List Nat} {f : Nat} (h : f < E.length) : E[f]? = some (eF E f) := by
  unfold eF
  rw [List.getElem?_eq_getElem h, List.getD_eq_getElem?_getD, List.getElem?_eq_getElem h]; rfl
def LRs (E : List Nat) : Prop := ∀ c ∈ E, c = 76 ∨ c = 82
theorem eF_LR {E : List Nat} (h : LRs E) (f : Nat) : eF E f = 76 ∨ eF E f = 82 := by
  by_cases c : f < E.length
  · exact h _ (List.mem_of_getElem? (eF_at c))
  · left
    unfold eF
    rw [List.getD_eq_getElem?_getD, List.getElem?_eq_none (Nat.le_of_not_lt c)]; rfl
theorem beg_of {e : Nat → Nat} : ∀ {w : List (Nat × Nat)} {b : Nat}, b ≤ w.length → (∀ x ∈ w.drop b, e x.1 = x.2) → (b = 0 ∨ ∃ x, w[b - 1]? = some x ∧ e x.1 ≠ x.2) → Tr.beg e w = b
  | [], b, hb, _, _ => by
    have : b = 0 := by simpa using hb
    rw [this]; rfl
  | x :: w, b, hb, h1, h2 => by
    rw [Tr.beg_cons]
    cases b with
    | zero =>
      have h3 : Tr.beg e w = 0 := beg_of (Nat.zero_le _) (fun y hy => h1 y (by rw [List.drop_zero] at hy; simp [hy])) (.inl rfl)
      rw [h3, if_neg (by omega), if_pos (h1 x (by simp))]
    | succ b =>
      have h3 : Tr.beg e w = b := by
        refine beg_of (by simpa using hb) (fun y hy => h1 y (by simpa using hy)) ?_
        rcases h2 with h2 | ⟨y, h2, h4⟩
        · cases h2
        · cases b with
          | zero => exact .inl rfl
          | succ b => exact .inr ⟨y, by simpa using h2, h4⟩
      rw [h3]
      cases b with
      | zero =>
        rcases h2 with h2 | ⟨y, h2, h4⟩
        · cases h2
        · simp at h2
          subst h2
          rw [if_neg (by omega), if_neg h4]
      | succ b => rw [if_pos (by omega)]
/-- a while loop with one way out -/
theorem while_to {c : TT} {tb : TS} {D : Ends} {σ : L2.St} {H : Hp} (W : Nat → L2.St → Hp → Prop) (Post : L2.St → Hp → Prop) (h0 : ∃ m, W m σ H) (hp : ∀ σ H, Post σ H → D.nx σ H)
    (hs : ∀ m σ H, W m σ H → (∀ σ H, Post σ H → D.nx σ H) → c σ H fun b H1 => if b = true then ∃ N : L2.St → Hp → Prop, (∀ σ' H', N σ' H' → ∃ m', m' < m ∧ W m' σ' H') ∧ tb { D with nx := N, ct := N, bk := D.nx } σ H1 else D.nx σ H1) : tWhile c tb D σ H :=
  ⟨W, h0, fun m σ H w => hs m σ H w hp⟩
/-- the rest of a tuple -/
theorem rSlA_of {K : PySem.W.Frag} {H : Hp} {a : Addr} {xs : List V} {b : Nat} {Q : VK} (h : H a = some (.tup xs)) (hb : b ≤ xs.length) (q : ∀ p H2, Same H H2 → SqT K H2 p (xs.drop b) → Q (.ref p) H2) : rSlA K (.ref a) (some (b : Int)) none H Q := by
  refine ⟨a, xs, rfl, SqT.of h, fun hw => ?_, fun hw p hp => ?_⟩
  · have h0 := hw.1
    rw [sIx_at hb] at h0
    subst h0
    exact q a H (Same.refl H) (SqT.of h)
  · rw [cutV_from hb]
    exact q p _ ((Same.refl H).new hp) (SqT.of upd_same)
def RowAt (e : Nat → Nat) (T : Tr) (H : Hp) (v : V) (u : Nat) : Prop := ∃ a b, v = .ref a ∧ H a = some (.tup [nV u, .ref b, pV (Tr.hang e (Tr.way 0 T u))]) ∧ H b = some (.tup ((Tr.trail e (Tr.way 0 T u)).map nV))
theorem RowAt.same {e : Nat → Nat} {T : Tr} {H H' : Hp} (s : Same H H') {v : V} {u : Nat} (h : RowAt e T H v u) : RowAt e T H' v u := by
  obtain ⟨a, b, h1, h2, h3⟩ := h
  exact ⟨a, b, h1, s _ _ h2, s _ _ h3⟩
/-- the values with what they stand for -/
theorem zip_at {α : Type} {R : V → α → Prop} {vs : List V} {xs : List α} (h : All2 R vs xs) : (vs.zip xs).map Prod.fst = vs ∧ (vs.zip xs).map Prod.snd = xs ∧ ∀ p ∈ vs.zip xs, R p.1 p.2 := by
  induction h with
  | nil => exact ⟨rfl, rfl, fun p hp => by cases hp⟩
  | cons h t ih =>
    obtain ⟨h1, h2, h3⟩ := ih
    refine ⟨by simp [h1], by simp [h2], fun p hp => ?_⟩
    rw [List.zip_cons_cons] at hp
    rcases List.mem_cons.mp hp with rfl | hp
    · exact h
    · exact h3 p hp
theorem range_split {m u : Nat} {p q : List Nat} (h : List.range m = p ++ u :: q) : p = List.range u ∧ u < m := by
  have hl : m = p.length + (q.length + 1) := by
    have := congrArg List.length h
    simpa using this
  have hu : (List.range m)[p.length]? = some u := by rw [h]; simp
  rw [List.getElem?_range (by omega)] at hu
  have hu := Option.some.inj hu
  refine ⟨?_, by omega⟩
  have := congrArg (List.take p.length) h
  rw [List.take_append_of_le_length (Nat.le_refl _), List.take_length, List.take_range] at this
  rw [← this, ← hu, Nat.min_eq_left (by omega)]
theorem way_len : ∀ (T : Tr) (o u : Nat), (Tr.way o T u).length + 1 ≤ T.m
  | .leaf, o, u => by simp [Tr.way, Tr.m]
  | .node l r, o, u => by
    have h1 := way_len l o u
    have h2 := way_len r (o + l.m) u
    have h3 := Tr.m_pos l
    have h4 := Tr.m_pos r
    rw [Tr.way_node]
    show _ ≤ l.m + r.m
    by_cases c : u < o + l.m
    · rw [if_pos c, List.length_cons]; omega
    · rw [if_neg c, List.length_cons]; omega
section
variable {P : Program} {w : World} {K : PySem.W.Frag} {mg : Str → Option Value} {base : Heap}
def spTR (C : Addr) : Sp := fun vs H Q _ => ∃ (tv : V) (T : Tr) (E : List Nat), vs = [tv, sV E] ∧ TreeAt C H tv T ∧ E.length = T.m - 1 ∧
  ∀ (H' : Hp) (r : Addr) (vs : List V), Same H H' → H r = none → H' r = some (.lst vs) → All2 (RowAt (eF E) T H') vs (List.range T.m) → Q (.ref r) H'
theorem ok_trail_rows {C : Addr} (T : Tb mg) (F : Df K mg "trail_rows" s_trail_rows) (tc : Tc K C) (LO : LenOf P w K mg base C 1 (spLen C)) : Cl P w K mg base 3 "trail_rows" (spTR C) := by
  refine cl_mk F sc_trail_rows (fun vs H Q E h => ?_) (fun _ _ _ _ _ _ us hl => match us, hl with | [_, _], _ => rfl) (fun f cdv A outer s H vs Q E hr h => ?_)
  · obtain ⟨_, _, _, rfl, _⟩ := h; rfl
  · have hu := hu_of hr
    obtain ⟨tv, Tt, E, rfl, hT, hE, q⟩ := h
    refine ⟨_, PSs.nox (pss_cons (ps_set (i := 2) sc_trail_rows.nd rfl (Or.inl rfl) (pe_lst pa_nil))
    (pss_cons (ps_for PassesOwn.never rfl (pi_range1 (by rfl) T.n_range (pa_cons (pe_callB (call_lenO LO hr (by decide)) (by rfl) T.n_len (by decide +kernel) (pa_cons (pv 0) pa_nil)) pa_nil)) (pg_name (i := 3) sc_trail_rows.nd rfl (Or.inl rfl))
      (pss_cons (ps_set (i := 4) sc_trail_rows.nd rfl (Or.inl rfl) (pe_ix ix_tup (pe_fld (pv 0) rfl) (pv 3) (fun _ _ => rfl)))
      (pss_cons (ps_set (i := 5) sc_trail_rows.nd rfl (Or.inl rfl) (pe_callB call_len_seq (by rfl) T.n_len (by decide +kernel) (pa_cons (pv 4) pa_nil)))
      (pss_cons (ps_while PassesOwn.never (PW.pt (pw_and (pt_cmpR op_gt (pv 5) pe_int (nomark _)) (pw_and1 (pt_cmpR op_eq (pe_ix ix_str (pv 1) (pe_ix ix_tup (pe_ix ix_tup (pv 4) (pe_op op_sub (pv 5) pe_int) (fun _ _ => rfl)) pe_int (fun _ _ => rfl)) (fun _ _ => rfl)) (pe_ix ix_tup (pe_ix ix_tup (pv 4) (pe_op op_sub (pv 5) pe_int) (fun _ _ => rfl)) pe_int (fun _ _ => rfl)) (nomark _)))))
        (pss_one (ps_set (i := 5) sc_trail_rows.nd rfl (Or.inl rfl) (pe_op op_sub (pv 5) pe_int))))
      (pss_cons (ps_set (i := 6) sc_trail_rows.nd rfl (Or.inl rfl) (pe_callTy call_tuple_of (by rfl) T.n_tuple (by decide +kernel) (pa_cons (pe_lc (own := [("step", 8)]) (by rfl) sc_trail_rows.nd (pi_tup (pe_slice sl_tupA (pv 4) (po_some (pv 5)) po_none)) (blkOk_by (own := [("step", 8)]) (N := n_trail_rows) (sc := defScope s_trail_rows) (by decide +kernel)) (fun _ _ _ _ _ => (pg_name (i := 8) sc_trail_rows.nd rfl (Or.inl rfl))) (fun _ _ _ _ _ => pts_nil) (fun _ _ _ _ _ => (pe_ix (ix_tupK (K := K) rfl) (pv 8) pe_int (fun _ _ => rfl)))) pa_nil)))
      (pss_cons (ps_set (i := 7) sc_trail_rows.nd rfl (Or.inl rfl) (pe_ifExp (pt_cmpR op_gt (pv 5) pe_int (nomark _)) (pe_ix ix_tup (pe_ix ix_tup (pv 4) (pe_op op_sub (pv 5) pe_int) (fun _ _ => rfl)) pe_int (fun _ _ => rfl)) pe_non))
      (pss_one (ps_expr (pe_bm PySem.F.plainAttrs_list PySem.F.slot_list_append PySem.F.type_list_append mt_append (pv 2) (pa_cons (pe_tup (pa_cons (pv 3) (pa_cons (pv 6) (pa_cons (pv 7) pa_nil)))) pa_nil))))))))))
    (pss_one (ps_ret (pv 2))))), ?_⟩
    have m64 := hT.m64
    have hEl : (sL E).length ≤ sizeLine := by rw [sL_len]; exact Nat.le_trans (show E.length ≤ 64 by omega) (by decide)
    obtain ⟨t, dx, fs, wv, sv, rfl, h2, h3, ⟨wa, ws, rfl, hwa, hws⟩, h6, hsp⟩ := hT.ex
    refine ⟨Nat.zero_le _, fun r hr0 => ?_⟩
    refine ⟨_, rfl, t, dx, fs, rfl, by rw [upd_ne (ne_of_none h2 hr0)]; exact h2, ⟨_, Tt, rfl, hT.same ((Same.refl H).new hr0), Tt.m, rfl, by omega, Tt.m, rfl, ?_⟩⟩
    refine ⟨by omega, by omega, for_pre (wf_range Tt.m) (fun pre σ H' => ∃ vs v3 v4 v5 v6 v7, σ = [some (.ref t), some (sV E), some (.ref r), v3, v4, v5, v6, v7, none] ∧ Same H H' ∧ H' r = some (.lst vs) ∧ All2 (RowAt (eF E) Tt H') vs pre) ?_ ?_ ?_ ?_⟩
    · exact ⟨[], none, none, none, none, none, rfl, (Same.refl H).new hr0, upd_same, .nil⟩
    · intro _ _ _ _; trivial
    · rintro pre u post σ H' e ⟨vs, v3, v4, v5, v6, v7, rfl, s1, hr1, hvs⟩
      obtain ⟨epre, hu⟩ := range_split e
      have hT1 := hT.same s1
      obtain ⟨v, hv, a, xs, rfl, hxa, hxs⟩ := (hws.mono fun _ _ h => h.same s1).at_ (waysOf_at hu)
      refine ⟨_, rfl, t, C, dx, fs, _, rfl, s1 _ _ h2, tc.cl, tc.no "ways" (by simp), h3, _, rfl, wa, ws, _, _, rfl, rfl, SqT.of (s1 _ _ hwa), atI_nat hv, ?_⟩
      refine ⟨_, rfl, a, xs, rfl, .inr (SqT.of hxa), ?_⟩
      have hwl : (Tr.way 0 Tt u).length = xs.length := hxs.len.symm
      have win := Tr.way_in Tt 0 u (Nat.zero_le _) (by omega)
      -- a step of the way
      have stp : ∀ b, b < xs.length → ∃ sv x sa c, xs[b]? = some (.ref sa) ∧ sv = V.ref sa ∧ (Tr.way 0 Tt u)[b]? = some x ∧ H' sa = some (.tup [nV x.1, sV [x.2]]) ∧ E[x.1]? = some c ∧ c = eF E x.1 := fun b hb => by
        have hb2 : b < (Tr.way 0 Tt u).length := by omega
        obtain ⟨v, h1, sa, rfl, h2⟩ := hxs.at_ (List.getElem?_eq_getElem hb2)
        have hin := win _ (List.getElem_mem hb2)
        exact ⟨_, _, sa, _, h1, rfl, List.getElem?_eq_getElem hb2, h2, eF_at (by omega), rfl⟩
      refine while_to (fun m σ H'' => H'' = H' ∧ ∃ b, b = m ∧ b ≤ xs.length ∧ (∀ x ∈ (Tr.way 0 Tt u).drop b, eF E x.1 = x.2) ∧ σ = [some (.ref t), some (sV E), some (.ref r), some (nV u), some (.ref a), some (nV b), v6, v7, none])
        (fun σ H'' => H'' = H' ∧ Tr.beg (eF E) (Tr.way 0 Tt u) ≤ xs.length ∧ σ = [some (.ref t), some (sV E), some (.ref r), some (nV u), some (.ref a), some (nV (Tr.beg (eF E) (Tr.way 0 Tt u))), v6, v7, none]) ⟨_, rfl, _, rfl, Nat.le_refl _, ?_, rfl⟩ ?_ ?_
      · intro x hx
        rw [List.drop_of_length_le (by omega)] at hx
        cases hx
      · rintro σ H'' ⟨rfl, hb, rfl⟩
        refine ⟨_, rfl, _, rfl, _, rfl, ?_⟩
        unfold tNoPart
        refine rSlA_of (K := K) hxa hb fun p H2 s2 h2 => ?_
        refine ⟨p, rfl, ⟨_, h2⟩, fun D hD => ?_⟩
        obtain ⟨z1, z2, z3⟩ := zip_at (hxs.drop (Tr.beg (eF E) (Tr.way 0 Tt u)))
        rw [← z1] at h2
        have s12 := s1.trans s2
        have hDH : H D = none := s12.free hD
        have xs64 : ((xs.drop (Tr.beg (eF E) (Tr.way 0 Tt u))).zip ((Tr.way 0 Tt u).drop (Tr.beg (eF E) (Tr.way 0 Tt u)))).length ≤ 64 := by
          have h1 := congrArg List.length z2
          rw [List.length_map, List.length_drop] at h1
          have h2 := way_len Tt 0 u
          omega
        refine lc_pre (wf_tup (K := K) (a := p) ((xs.drop (Tr.beg (eF E) (Tr.way 0 Tt u))).zip ((Tr.way 0 Tt u).drop (Tr.beg (eF E) (Tr.way 0 Tt u)))) Prod.fst) (fun pre H3 => Same H2 H3 ∧ H3 D = some (.lst (pre.map fun z => nV z.2.1))) ?_ ?_ ?_ ?_
        · exact ⟨(Same.refl H2).new hD, upd_same⟩
        · rintro pre H3 ⟨s3, _⟩
          exact sqt_same s3 h2
        · rintro pre z post H3 e3 ⟨s3, h3D⟩
          obtain ⟨sa, ez, hsa⟩ := z3 z (by rw [e3]; simp)
          have hsa3 := s3 _ _ (s2 _ _ hsa)
          refine ⟨rfl, ?_⟩
          refine ⟨_, rfl, sa, _, 0, _, ez, rfl, SqT.of hsa3, rfl, _, h3D, ?_, s3.put hD, ?_⟩
          · rw [List.length_map]
            rw [e3, List.length_append, List.length_cons] at xs64
            exact small100 (by omega)
          · rw [upd_same, List.map_append]; rfl
        · rintro H3 ⟨s3, h3D⟩
          have etr : (((xs.drop (Tr.beg (eF E) (Tr.way 0 Tt u))).zip ((Tr.way 0 Tt u).drop (Tr.beg (eF E) (Tr.way 0 Tt u)))).map fun z => nV z.2.1) = (Tr.trail (eF E) (Tr.way 0 Tt u)).map nV := by
            unfold Tr.trail
            rw [List.map_map]
            conv => rhs; rw [← z2]
            rw [List.map_map]; rfl
          rw [etr] at h3D
          refine ⟨D, _, rfl, .inl ⟨SqL.of h3D, fun l hl => ?_⟩⟩
          have s13 := s12.trans s3
          have hlH : H l = none := s13.free hl
          have s4 := s3.put (o := .tup ((Tr.trail (eF E) (Tr.way 0 Tt u)).map nV)) (s3.free hl)
          have s04 := s12.trans s4
          have s24 := s2.trans s4
          -- the row's end
          have hr4 := s24 _ _ hr1
          have fin2 : ∀ (hv : V), hv = pV (Tr.hang (eF E) (Tr.way 0 Tt u)) → ∀ p2, upd H3 l (.tup ((Tr.trail (eF E) (Tr.way 0 Tt u)).map nV)) p2 = none → 
              rAppend (.ref r) [.ref p2] (upd (upd H3 l (.tup ((Tr.trail (eF E) (Tr.way 0 Tt u)).map nV))) p2 (.tup [nV u, .ref l, hv])) fun _ H5 => ∃ vs w3 w4 w5 w6 w7, [some (.ref t), some (sV E), some (.ref r), some (nV u), some (.ref a), some (nV (Tr.beg (eF E) (Tr.way 0 Tt u))), some (.ref l), some hv, none] = [some (.ref t), some (sV E), some (.ref r), w3, w4, w5, w6, w7, none] ∧ Same H H5 ∧ H5 r = some (.lst vs) ∧ All2 (RowAt (eF E) Tt H5) vs (pre ++ [u]) := fun hv ehv p2 hp2 => by
            subst ehv
            have s5 := s4.new (o := .tup [nV u, .ref l, pV (Tr.hang (eF E) (Tr.way 0 Tt u))]) hp2
            have hr5 := (s2.trans s5) _ _ hr1
            have nlp : l ≠ p2 := ne_of_none upd_same hp2
            have nrl : l ≠ r := fun e => by rw [e] at hl; rw [(s2.trans s3) _ _ hr1] at hl; cases hl
            have nrp : p2 ≠ r := fun e => by rw [e, hr4] at hp2; cases hp2
            have s6 := ((s12.trans s5)).put (o := .lst (vs ++ [.ref p2])) hr0
            refine ⟨r, vs, _, rfl, rfl, hr5, ?_, _, _, _, _, _, _, rfl, s6, upd_same, ?_⟩
            · have := hvs.len
              rw [epre, List.length_range] at this
              exact small100 (by omega)
            · refine All2.app (hvs.mono fun v y hy => ?_) (.cons ⟨p2, l, rfl, ?_, ?_⟩ .nil)
              · obtain ⟨a1, b1, e1, h1, h2⟩ := (hy.same (s2.trans s5))
                exact ⟨a1, b1, e1, by rw [upd_ne (fun e => by rw [e, hr5] at h1; cases h1)]; exact h1, by rw [upd_ne (fun e => by rw [e, hr5] at h2; cases h2)]; exact h2⟩
              · rw [upd_ne nrp, upd_same]
              · rw [upd_ne nrl, upd_ne nlp, upd_same]
          have hr3 := (s2.trans s3) _ _ hr1
          have nrl : r ≠ l := fun e => by rw [← e] at hl; rw [hr3] at hl; cases hl
          refine ⟨_, rfl, _, 0, rfl, rfl, _, rfl, ?_⟩
          have h3' : 3 ≤ sizeLine := Nat.le_of_lt (small100 (by omega))
          cases eb : Tr.beg (eF E) (Tr.way 0 Tt u) with
          | zero =>
            have eh : V.non = pV (Tr.hang (eF E) (Tr.way 0 Tt u)) := by
              unfold Tr.hang
              rw [if_neg (by omega)]; rfl
            have f2 := fin2 V.non eh
            rw [eb] at f2
            exact ifF rfl ⟨_, rfl, .inl ⟨rfl, _, SqL.of hr4⟩, _, rfl, _, rfl, _, rfl, h3', fun p2 hp2 => f2 p2 hp2⟩
          | succ b =>
            refine ifT (decide_eq_true (by omega)) ?_
            obtain ⟨sv, x, sa, c, hx1, -, hx2, hsa, hc, rfl⟩ := stp b (by omega)
            have eh : nV x.1 = pV (Tr.hang (eF E) (Tr.way 0 Tt u)) := by
              unfold Tr.hang
              rw [if_pos (by omega), eb, Nat.add_sub_cancel, hx2]; rfl
            have f2 := fin2 _ eh
            rw [eb] at f2
            have hxa4 := s24 _ _ hxa
            have hsa4 := s24 _ _ hsa
            refine ⟨_, rfl, _, rfl, _, 1, rfl, rfl, a, xs, _, _, rfl, rfl, SqT.of hxa4, atI_pred hx1, sa, _, 0, _, rfl, rfl, SqT.of hsa4, rfl, ?_⟩
            exact ⟨_, rfl, .inl ⟨rfl, _, SqL.of hr4⟩, _, rfl, _, rfl, _, rfl, h3', fun p2 hp2 => f2 p2 hp2⟩
      · rintro m σ H'' ⟨rfl, b, rfl, hb, hall, rfl⟩ fin
        refine ⟨_, rfl, _, 0, rfl, rfl, _, rfl, ?_⟩
        cases b with
        | zero =>
          have hbeg := beg_of (Nat.zero_le _) hall (.inl rfl)
          exact ifF rfl (ifF rfl (fin _ _ ⟨rfl, by omega, by rw [hbeg]⟩))
        | succ b =>
          refine ifT (decide_eq_true (by omega)) ?_
          obtain ⟨sv, x, sa, c, hx1, -, hx2, hsa, hc, rfl⟩ := stp b (by omega)
          refine ⟨_, rfl, _, rfl, _, rfl, _, 1, rfl, rfl, a, xs, _, _, rfl, rfl, SqT.of hxa, atI_pred hx1, sa, _, 0, _, rfl, rfl, SqT.of hsa, rfl, sL E, ((x.1 : Nat) : Int), eF E x.1, rfl, rfl, hEl, atI_nat (by rw [sL_tl]; exact hc), ?_⟩
          refine ⟨_, rfl, _, rfl, _, 1, rfl, rfl, a, xs, _, _, rfl, rfl, SqT.of hxa, atI_pred hx1, sa, _, 1, _, rfl, rfl, SqT.of hsa, rfl, rfl, _, rfl, ?_⟩
          have hd : decide (V.str ⟨#[eF E x.1]⟩ = sV [x.2]) = decide ([eF E x.1] = [x.2]) := sV_dec [eF E x.1] [x.2]
          by_cases ce : eF E x.1 = x.2
          · refine ifT (by rw [hd]; exact decide_eq_true (by rw [ce])) ⟨_, fun _ _ z => z, ?_⟩
            refine ⟨_, rfl, _, 1, rfl, rfl, b, by omega, rfl, b, rfl, by omega, ?_, ?_⟩
            · intro y hy
              rw [List.drop_eq_getElem_cons (by omega)] at hy
              rcases List.mem_cons.mp hy with e | hy
              · have : x = y := by rw [e]; exact (Option.some.inj ((List.getElem?_eq_getElem (by omega)).symm.trans hx2)).symm
                rw [← this]; exact ce
              · exact hall y hy
            · show [some (V.ref t), some (sV E), some (V.ref r), some (nV u), some (V.ref a), some (V.int (((b + 1 : Nat) : Int) - 1)), v6, v7, none] = _
              rw [show ((b + 1 : Nat) : Int) - 1 = ((b : Nat) : Int) by omega]; rfl
          · refine ifF (by rw [hd]; exact decide_eq_false (fun z => ce (List.cons.inj z).1)) ?_
            have hbeg := beg_of (b := b + 1) (by omega) hall (.inr ⟨x, hx2, ce⟩)
            exact fin _ _ ⟨rfl, by omega, by rw [hbeg]⟩
    · rintro σ H' ⟨vs, v3, v4, v5, v6, v7, rfl, s1, hr1, hvs⟩
      exact ⟨_, rfl, q H' r vs s1 hr0 hr1 hvs⟩
end
end K22
set_option Elab.async false
set_option linter.all false
set_option maxRecDepth 100000
set_option maxHeartbeats 4000000
namespace K22
open PySem PySem.Spec PyProof.Rows L2
theorem rng_le {e : Nat → Nat} : ∀ (T : Tr) (o u : Nat), o ≤ u → u < o + T.m → (Tr.rng e o T u).1 ≤ o + T.m - 1 ∧ (Tr.rng e o T u).2 ≤ o + T.m - 1
  | .leaf, o, u, h1, h2 => by
    show o ≤ o + 1 - 1 ∧ o ≤ o + 1 - 1
    omega
  | .node l r, o, u, h1, h2 => by
    have hp1 := Tr.m_pos l
    have hp2 := Tr.m_pos r
    have hm : (Tr.node l r).m = l.m + r.m := rfl
    rw [hm] at h2 ⊢
    rw [Tr.rng_node]
    by_cases c : u < o + l.m
    · rw [if_pos c]
      have ih := rng_le (e := e) l o u h1 c
      split
      · split
        · show o ≤ _ ∧ o + (l.m + r.m) - 1 ≤ _; omega
        · show o ≤ _ ∧ o + l.m - 1 ≤ _; omega
      · omega
    · rw [if_neg c]
      have ih := rng_le (e := e) r (o + l.m) u (by omega) (by omega)
      split
      · split
        · show o + l.m ≤ _ ∧ o + (l.m + r.m) - 1 ≤ _; omega
        · show o ≤ _ ∧ o + (l.m + r.m) - 1 ≤ _; omega
      · omega
/-- two cuts of texts of one length -/
theorem cut_eq : ∀ {a b : List Nat} (lo hi : Nat), a.length = b.length → ((a.drop lo).take (hi - lo) = (b.drop lo).take (hi - lo) ↔ ∀ f, lo ≤ f → f < hi → f < a.length → a[f]? = b[f]?) := by
  intro a b lo hi hl
  constructor
  · intro h f h1 h2 h3
    have := congrArg (fun l : List Nat => l[f - lo]?) h
    simp only [List.getElem?_take, List.getElem?_drop] at this
    rw [if_pos (by omega), if_pos (by omega), show lo + (f - lo) = f by omega] at this
    exact this
  · intro h
    refine List.ext_getElem? fun i => ?_
    simp only [List.getElem?_take, List.getElem?_drop]
    by_cases c : i < hi - lo
    · rw [if_pos c, if_pos c]
      by_cases c2 : lo + i < a.length
      · exact h _ (by omega) (by omega) c2
      · rw [List.getElem?_eq_none (by omega), List.getElem?_eq_none (by omega)]
    · rw [if_neg c, if_neg c]
section
variable {P : Program} {w : World} {K : PySem.W.Frag} {mg : Str → Option Value} {base : Heap}
def spTP (C : Addr) : Sp := fun vs H Q _ => ∃ (tv : V) (T : Tr) (E : List Nat), vs = [tv, sV E] ∧ TreeAt C H tv T ∧ E.length = T.m - 1 ∧ LRs E ∧
  ∀ (H' : Hp) (d : Addr), Same H H' → H d = none → H' d = some (.dK (dmap (List.range T.m) fun u => pV (Tr.par (eF E) 0 T u))) → Q (.ref d) H'
theorem ok_trail_parents {C : Addr} (T : Tb mg) (F : Df K mg "trail_parents" s_trail_parents) (c_trail_rows : Cl P w K mg base 3 "trail_rows" (spTR C)) : Cl P w K mg base 4 "trail_parents" (spTP C) := by
  refine cl_mk F sc_trail_parents (fun vs H Q E h => ?_) (fun _ _ _ _ _ _ us hl => match us, hl with | [_, _], _ => rfl) (fun f cdv A outer s H vs Q E hr h => ?_)
  · obtain ⟨_, _, _, rfl, _⟩ := h; rfl
  · have hu := hu_of hr
    obtain ⟨tv, Tt, E, rfl, hT, hE, hLR, q⟩ := h
    refine ⟨_, PSs.nox (pss_cons (ps_set (i := 2) sc_trail_parents.nd rfl (Or.inl rfl) (pe_cl c_trail_rows hr (by decide) rfl (pa_cons (pv 0) (pa_cons (pv 1) pa_nil))))
    (pss_cons (ps_set (i := 3) sc_trail_parents.nd rfl (Or.inl rfl) pe_dnewK)
    (pss_cons (ps_for PassesOwn.never rfl (pi_list (pv 2)) (pg_tup (by rfl) (pgs_cons (pg_name (i := 4) sc_trail_parents.nd rfl (Or.inl rfl)) (pgs_cons (pg_name (i := 5) sc_trail_parents.nd rfl (Or.inl rfl)) (pgs_cons (pg_name (i := 6) sc_trail_parents.nd rfl (Or.inl rfl)) pgs_nil))))
      (pss_one (ps_for PassesOwn.never rfl (pi_tup (pv 5)) (pg_name (i := 7) sc_trail_parents.nd rfl (Or.inl rfl))
        (pss_one (ps_dput hu (pv 3) (pv 7) (pv 4) rfl)))))
    (pss_cons (ps_set (i := 8) sc_trail_parents.nd rfl (Or.inl rfl) pe_dnewK)
    (pss_cons (ps_for PassesOwn.never rfl (pi_list (pv 2)) (pg_tup (by rfl) (pgs_cons (pg_name (i := 4) sc_trail_parents.nd rfl (Or.inl rfl)) (pgs_cons (pg_name (i := 6) sc_trail_parents.nd rfl (Or.inl rfl)) (pgs_cons (pg_name (i := 9) sc_trail_parents.nd rfl (Or.inl rfl)) pgs_nil))))
      (pss_one (ps_dput hu (pv 8) (pv 4) (pe_ifExp (pt_cmpR op_isN (pv 9) pe_non (nomark _)) pe_non (pe_dget hu (pv 3) (pv 9) (fun _ _ => rfl))) rfl)))
    (pss_one (ps_ret (pv 8)))))))), ?_⟩
    have m64 := hT.m64
    have he := eF_LR hLR
    refine ⟨_, rfl, _, rfl, tv, Tt, E, rfl, hT, hE, fun H1 r vs s1 hr0 hr1 hvs => ?_⟩
    intro d hd
    obtain ⟨z1, z2, z3⟩ := zip_at hvs
    have hr1' : H1 r = some (.lst ((vs.zip (List.range Tt.m)).map Prod.fst)) := by rw [z1]; exact hr1
    have zu : ∀ {pre : List (V × Nat)} {z : V × Nat} {post : List (V × Nat)}, vs.zip (List.range Tt.m) = pre ++ z :: post → pre.map Prod.snd = List.range z.2 ∧ z.2 < Tt.m := fun {pre z post} e => by
      have e2 := congrArg (List.map Prod.snd) e
      rw [z2, List.map_append, List.map_cons] at e2
      exact range_split e2
    refine ⟨_, rfl, r, rfl, ⟨_, SqL.of ((Same.refl H1).new (o := .dK []) hd _ _ hr1')⟩, for_pre (wf_list (K := K) (a := r) (vs.zip (List.range Tt.m)) Prod.fst)
      (fun pre σ H' => ∃ v4 v5 v6 v7 ks, σ = [some tv, some (sV E), some (.ref r), some (.ref d), v4, v5, v6, v7, none, none] ∧ Same H1 H' ∧ H' d = some (.dK (dmap ks fun f => nV (Tr.own (eF E) 0 Tt f))) ∧ ks.Nodup ∧ (∀ f ∈ ks, f + 1 < Tt.m) ∧ ∀ u ∈ pre.map Prod.snd, ∀ f ∈ Tr.trail (eF E) (Tr.way 0 Tt u), f ∈ ks) ?_ ?_ ?_ ?_⟩
    · exact ⟨none, none, none, none, [], rfl, (Same.refl H1).new hd, upd_same, .nil, fun f hf => (by cases hf), fun u hu => (by cases hu)⟩
    · rintro pre σ H' ⟨v4, v5, v6, v7, ks, rfl, s2, _⟩
      exact SqL.of (s2 _ _ hr1')
    · rintro pre z post σ H' e ⟨v4, v5, v6, v7, ks, rfl, s2, hd2, hnd, hks, hcov⟩
      obtain ⟨-, hu⟩ := zu e
      obtain ⟨a, b, ez, ha, hb⟩ := (z3 z (by rw [e]; simp))
      have ha2 := s2 _ _ ha
      have hb2 := s2 _ _ hb
      refine ⟨a, _, ez, SqT.of ha2, rfl, _, _, rfl, _, _, rfl, _, _, rfl, rfl, ?_⟩
      refine ⟨_, rfl, b, rfl, ⟨_, SqT.of hb2⟩, for_pre (wf_tup (K := K) (a := b) (Tr.trail (eF E) (Tr.way 0 Tt z.2)) nV)
        (fun pre2 σ H' => ∃ v7 ks, σ = [some tv, some (sV E), some (.ref r), some (.ref d), some (nV z.2), some (.ref b), some (pV (Tr.hang (eF E) (Tr.way 0 Tt z.2))), v7, none, none] ∧ Same H1 H' ∧ H' d = some (.dK (dmap ks fun f => nV (Tr.own (eF E) 0 Tt f))) ∧ ks.Nodup ∧ (∀ f ∈ ks, f + 1 < Tt.m) ∧ (∀ u ∈ pre.map Prod.snd, ∀ f ∈ Tr.trail (eF E) (Tr.way 0 Tt u), f ∈ ks) ∧ ∀ f ∈ pre2, f ∈ ks) ?_ ?_ ?_ ?_⟩
      · exact ⟨v7, ks, rfl, s2, hd2, hnd, hks, hcov, fun f hf => by cases hf⟩
      · rintro pre2 σ H' ⟨v7, ks, rfl, s3, _⟩
        exact SqT.of (s3 _ _ hb)
      · rintro pre2 f post2 σ H' e2 ⟨v7, ks, rfl, s3, hd3, hnd, hks, hcov, hcov2⟩
        have hft : f ∈ Tr.trail (eF E) (Tr.way 0 Tt z.2) := by rw [e2]; simp
        have hfm : f + 1 < Tt.m := by
          unfold Tr.trail at hft
          obtain ⟨x, hx, rfl⟩ := List.mem_map.mp hft
          have := Tr.way_in Tt 0 z.2 (Nat.zero_le _) (by omega) x (List.mem_of_mem_drop hx)
          omega
        have hown : Tr.own (eF E) 0 Tt f = z.2 := (Tr.trail_own he Tt 0 z.2 f (Nat.zero_le _) (by omega) (Nat.zero_le _) (by omega)).mp hft
        have klen : ks.length ≤ Tt.m := by
          have := sub_len (a := ks) (b := List.range Tt.m) hnd fun x hx => List.mem_range.mpr (by have := hks x hx; omega)
          rwa [List.length_range] at this
        by_cases c : f ∈ ks
        · refine ⟨_, rfl, _, rfl, _, rfl, d, _, rfl, dput_old hd3 c (small100 (by omega)), ?_⟩
          refine ⟨some (nV f), ks, rfl, s3.put hd, ?_, hnd, hks, hcov, fun g hg => ?_⟩
          · rw [upd_same]
            congr 2
            refine dmap_congr fun v _ => ?_
            unfold upF
            by_cases cv : v = f
            · rw [if_pos cv, cv, hown]
            · rw [if_neg cv]
          · rcases List.mem_append.mp hg with hg | hg
            · exact hcov2 g hg
            · rw [List.mem_singleton.mp hg]; exact c
        · refine ⟨_, rfl, _, rfl, _, rfl, d, _, rfl, dput_add hd3 c (small100 (by omega)), ?_⟩
          refine ⟨some (nV f), ks ++ [f], rfl, s3.put hd, ?_, ?_, ?_, fun u hu g hg => List.mem_append_left _ (hcov u hu g hg), fun g hg => ?_⟩
          · rw [upd_same]
            congr 2
            refine dmap_congr fun v _ => ?_
            unfold upF
            by_cases cv : v = f
            · rw [if_pos cv, cv, hown]
            · rw [if_neg cv]
          · exact List.nodup_append.mpr ⟨hnd, by simp, fun x hx y hy => by simp at hy; intro e; rw [hy] at e; rw [e] at hx; exact c hx⟩
          · intro g hg
            rcases List.mem_append.mp hg with hg | hg
            · exact hks g hg
            · rw [List.mem_singleton.mp hg]; exact hfm
          · rcases List.mem_append.mp hg with hg | hg
            · exact List.mem_append_left _ (hcov2 g hg)
            · exact List.mem_append_right _ hg
      · rintro σ H' ⟨v7, ks, rfl, s3, hd3, hnd, hks, hcov, hcov2⟩
        refine ⟨_, _, _, v7, ks, rfl, s3, hd3, hnd, hks, fun u hu f hf => ?_⟩
        rw [List.map_append] at hu
        rcases List.mem_append.mp hu with hu | hu
        · exact hcov u hu f hf
        · have : u = z.2 := by simpa using hu
          rw [this] at hf
          exact hcov2 f hf
    · rintro σ H' ⟨v4, v5, v6, v7, ks, rfl, s2, hd2, hnd, hks, hcov⟩
      rw [z2] at hcov
      have hall : ∀ f, f + 1 < Tt.m → f ∈ ks := fun f hf => by
        have ho := Tr.own_in (e := eF E) Tt 0 f (Nat.zero_le _) (by omega)
        exact hcov _ (List.mem_range.mpr (by omega)) f ((Tr.trail_own he Tt 0 _ f (Nat.zero_le _) (by omega) (Nat.zero_le _) (by omega)).mpr rfl)
      intro g hg
      have hgH1 : H1 g = none := s2.free hg
      have ngd : d ≠ g := ne_of_none hd2 hg
      refine ⟨_, rfl, r, rfl, ⟨_, SqL.of ((s2.new (o := .dK []) hg) _ _ hr1')⟩, for_pre (wf_list (K := K) (a := r) (vs.zip (List.range Tt.m)) Prod.fst)
        (fun pre σ H' => ∃ v4 v6 v9, σ = [some tv, some (sV E), some (.ref r), some (.ref d), v4, v5, v6, v7, some (.ref g), v9] ∧ Same H1 H' ∧ H' d = some (.dK (dmap ks fun f => nV (Tr.own (eF E) 0 Tt f))) ∧ H' g = some (.dK (dmap (pre.map Prod.snd) fun u => pV (Tr.par (eF E) 0 Tt u)))) ?_ ?_ ?_ ?_⟩
      · exact ⟨v4, v6, none, rfl, s2.new hg, by rw [upd_ne ngd]; exact hd2, upd_same⟩
      · rintro pre σ H' ⟨v4, v6, v9, rfl, s3, _⟩
        exact SqL.of (s3 _ _ hr1')
      · rintro pre z post σ H' e ⟨v4, v6, v9, rfl, s3, hd3, hg3⟩
        obtain ⟨epre, hu⟩ := zu e
        obtain ⟨a, b, ez, ha, hb⟩ := (z3 z (by rw [e]; simp))
        refine ⟨a, _, ez, SqT.of (s3 _ _ ha), rfl, _, _, rfl, _, _, rfl, _, _, rfl, rfl, ?_⟩
        have ph := Tr.par_hang he Tt 0 z.2 (Nat.zero_le _) (by omega)
        have hadd := dput_add (x := pV (Tr.par (eF E) 0 Tt z.2)) hg3 (v := z.2) (by rw [epre]; simp) (small100 (by rw [epre, List.length_range]; omega))
        have ecg : dmap (pre.map Prod.snd ++ [z.2]) (upF (fun u => pV (Tr.par (eF E) 0 Tt u)) z.2 (pV (Tr.par (eF E) 0 Tt z.2))) = dmap (pre.map Prod.snd ++ [z.2]) (fun u => pV (Tr.par (eF E) 0 Tt u)) := dmap_congr fun v _ => by
          unfold upF
          by_cases cv : v = z.2
          · rw [if_pos cv, cv]
          · rw [if_neg cv]
        rw [ecg] at hadd
        have s4 := s3.put (o := .dK (dmap (pre.map Prod.snd ++ [z.2]) fun u => pV (Tr.par (eF E) 0 Tt u))) hgH1
        cases eh : Tr.hang (eF E) (Tr.way 0 Tt z.2) with
        | none =>
          rw [eh] at ph
          have ph : Tr.par (eF E) 0 Tt z.2 = none := ph
          refine ⟨_, rfl, rfl, _, rfl, ifT rfl ?_⟩
          rw [ph] at hadd
          refine ⟨_, rfl, _, rfl, g, _, rfl, hadd, ?_⟩
          refine ⟨_, _, _, rfl, s4, by rw [upd_ne ngd]; exact hd3, by rw [upd_same, List.map_append]; rfl⟩
        | some f =>
          rw [eh] at ph
          have ph : Tr.par (eF E) 0 Tt z.2 = some (Tr.own (eF E) 0 Tt f) := ph
          obtain ⟨c, hc⟩ := Tr.hang_mem eh
          have hin := Tr.way_in Tt 0 z.2 (Nat.zero_le _) (by omega) _ hc
          refine ⟨_, rfl, rfl, _, rfl, ifF (by rfl) ?_⟩
          refine ⟨_, rfl, _, rfl, d, _, rfl, dget_n (.inl hd3) (hall f (by simpa using hin.2)), ?_⟩
          rw [ph] at hadd
          refine ⟨_, rfl, _, rfl, g, _, rfl, hadd, ?_⟩
          refine ⟨_, _, _, rfl, s4, by rw [upd_ne ngd]; exact hd3, by rw [upd_same, List.map_append]; rfl⟩
      · rintro σ H' ⟨v4, v6, v9, rfl, s3, hd3, hg3⟩
        rw [z2] at hg3
        exact ⟨_, rfl, q H' g (s1.trans s3) (s1.free hgH1) hg3⟩
end
end K22
set_option Elab.async false
set_option linter.all false
set_option maxRecDepth 100000
set_option maxHeartbeats 4000000
namespace K22
open PySem PySem.Spec PyProof.Rows L2
section
variable {P : Program} {w : World} {K : PySem.W.Frag} {mg : Str → Option Value} {base : Heap}
/-- the forks below a hang -/
def spFB (C : Addr) : Sp := fun vs H Q _ => ∃ (tv : V) (T : Tr) (E : List Nat) (u : Nat), vs = [tv, sV E, pV (Tr.hang (eF E) (Tr.way 0 T u))] ∧ TreeAt C H tv T ∧ E.length = T.m - 1 ∧ LRs E ∧ u < T.m ∧
  ∀ (H' : Hp) (p : Addr), Same H H' → H' p = some (.tup [nV (Tr.rng (eF E) 0 T u).1, nV (Tr.rng (eF E) 0 T u).2]) → Q (.ref p) H'
theorem ok_forks_below {C : Addr} (T : Tb mg) (F : Df K mg "forks_below" s_forks_below) (tc : Tc K C) (PF : ForksOf P w K mg base C) : Cl P w K mg base 3 "forks_below" (spFB C) := by
  refine cl_mk F sc_forks_below (fun vs H Q E h => ?_) (fun _ _ _ _ _ _ us hl => match us, hl with | [_, _, _], _ => rfl) (fun f cdv A outer s H vs Q E hr h => ?_)
  · obtain ⟨_, _, _, _, rfl, _⟩ := h; rfl
  · have hu := hu_of hr
    obtain ⟨tv, Tt, E, u, rfl, hT, hE, hLR, hu, q⟩ := h
    refine ⟨_, PSs.nox (pss_cons (ps_if (pt_cmpR op_isN (pv 2) pe_non (nomark _))
      (pss_one (ps_ret (pe_tup (pa_cons pe_int (pa_cons (pe_forks PF hr (by decide) (pv 0)) pa_nil)))))
      pss_nil)
    (pss_cons (ps_asg (pe_ix ix_tup (pe_fld (pv 0) rfl) (pv 2) (fun _ _ => rfl)) (pg_tup (by rfl) (pgs_cons (pg_name (i := 3) sc_forks_below.nd rfl (Or.inl rfl)) (pgs_cons (pg_name (i := 4) sc_forks_below.nd rfl (Or.inl rfl)) pgs_nil))))
    (pss_cons (ps_if (pt_cmpR op_eq (pe_ix ix_str (pv 1) (pv 2) (fun _ _ => rfl)) pe_str (nomark _))
      (pss_one (ps_ret (pe_tup (pa_cons (pe_op op_add (pv 2) pe_int) (pa_cons (pv 4) pa_nil)))))
      pss_nil)
    (pss_one (ps_ret (pe_tup (pa_cons (pv 3) (pa_cons (pv 2) pa_nil)))))))), ?_⟩
    have he := eF_LR hLR
    have m64 := hT.m64
    have rh := Tr.rng_hang he Tt 0 u (Nat.zero_le _) (by omega)
    have h2' : 2 ≤ sizeLine := Nat.le_of_lt (small100 (by omega))
    have hEl : (sL E).length ≤ sizeLine := by rw [sL_len]; exact Nat.le_of_lt (small100 (by omega))
    cases eh : Tr.hang (eF E) (Tr.way 0 Tt u) with
    | none =>
      rw [eh] at rh
      have rh : Tr.rng (eF E) 0 Tt u = (0, 0 + Tt.m - 1) := rh
      rw [Nat.zero_add] at rh
      rw [rh] at q
      exact ⟨_, rfl, rfl, _, rfl, ifT rfl ⟨_, rfl, Tt, hT, h2', fun p hp => q _ p ((Same.refl H).new hp) upd_same⟩⟩
    | some g =>
      rw [eh] at rh
      have rh : Tr.rng (eF E) 0 Tt u = if eF E g = 76 then (g + 1, (Tr.span 0 Tt g).2) else ((Tr.span 0 Tt g).1, g) := rh
      obtain ⟨c, hc⟩ := Tr.hang_mem eh
      have hin := (Tr.way_in Tt 0 u (Nat.zero_le _) (by omega) _ hc).2
      have hin : g + 1 < Tt.m := by simpa using hin
      obtain ⟨t, dx, fs, wv, sv, rfl, h2, h3, -, h6, ⟨sa, ss, rfl, hsa, hss⟩⟩ := hT.ex
      obtain ⟨v, hv, pa, rfl, hpa⟩ := hss.at_ (spansOf_at hin)
      refine ⟨_, rfl, rfl, _, rfl, ifF (by rfl) ?_⟩
      refine ⟨_, rfl, t, C, dx, fs, _, rfl, h2, tc.cl, tc.no "spans" (by simp), h6, _, rfl, sa, ss, ((g : Nat) : Int), _, rfl, rfl, SqT.of hsa, atI_nat hv, pa, _, rfl, SqT.of hpa, rfl, _, _, rfl, _, _, rfl, rfl, ?_⟩
      refine ⟨_, rfl, _, rfl, sL E, ((g : Nat) : Int), eF E g, rfl, rfl, hEl, atI_nat (by rw [sL_tl]; exact eF_at (by omega)), ?_⟩
      have hd : decide (V.str ⟨#[eF E g]⟩ = V.str ("L" : Str)) = decide ([eF E g] = [76]) := sV_dec [eF E g] [76]
      by_cases c : eF E g = 76
      · rw [if_pos c] at rh
        rw [rh] at q
        refine ⟨rfl, _, rfl, ifT (by rw [hd, c]; rfl) ?_⟩
        exact ⟨_, rfl, _, 1, rfl, rfl, _, rfl, h2', fun p hp => q _ p ((Same.refl H).new hp) upd_same⟩
      · rw [if_neg c] at rh
        rw [rh] at q
        refine ⟨rfl, _, rfl, ifF (by rw [hd]; exact decide_eq_false fun z => c (List.cons.inj z).1) ?_⟩
        exact ⟨_, rfl, _, rfl, h2', fun p hp => q _ p ((Same.refl H).new hp) upd_same⟩
def spNS (C : Addr) : Sp := fun vs H Q _ => ∃ (tv : V) (T : Tr) (S E : List Nat), vs = [tv, sV S, sV E] ∧ TreeAt C H tv T ∧ S.length = T.m - 1 ∧ E.length = T.m - 1 ∧ LRs E ∧
  ∀ (H' : Hp) (r : Addr), Same H H' → H r = none → H' r = some (.lst ((Tr.need T (eF E) (Tr.fn S)).map nV)) → Q (.ref r) H'
theorem need_test {T : Tr} {S E : List Nat} {u : Nat} (hS : S.length = T.m - 1) (hE : E.length = T.m - 1) :
    (!decide (sV ((S.drop (Tr.rng (eF E) 0 T u).1).take ((Tr.rng (eF E) 0 T u).2 - (Tr.rng (eF E) 0 T u).1)) = sV ((E.drop (Tr.rng (eF E) 0 T u).1).take ((Tr.rng (eF E) 0 T u).2 - (Tr.rng (eF E) 0 T u).1)))) =
      (List.range (T.m - 1)).any fun f => decide ((Tr.rng (eF E) 0 T u).1 ≤ f ∧ f < (Tr.rng (eF E) 0 T u).2 ∧ Tr.fn S f ≠ eF E f) := by
  rw [sV_dec]
  have hc := cut_eq (a := S) (b := E) (Tr.rng (eF E) 0 T u).1 (Tr.rng (eF E) 0 T u).2 (by rw [hS, hE])
  rw [Bool.eq_iff_iff, List.any_eq_true, Bool.not_eq_true', decide_eq_false_iff_not, hc]
  constructor
  · intro h
    refine Classical.byContradiction fun n => h fun f h1 h2 h3 => ?_
    rw [eF_at (E := E) (by omega), List.getElem?_eq_getElem h3]
    refine Classical.byContradiction fun n2 => n ⟨f, List.mem_range.mpr (by omega), decide_eq_true ⟨h1, h2, fun e => n2 ?_⟩⟩
    unfold Tr.fn at e
    rw [List.getD_eq_getElem?_getD, List.getElem?_eq_getElem h3] at e
    exact congrArg some e
  · rintro ⟨f, hf, hd⟩ h
    obtain ⟨h1, h2, h3⟩ := of_decide_eq_true hd
    have hf := List.mem_range.mp hf
    have := h f h1 h2 (by omega)
    rw [eF_at (E := E) (by omega)] at this
    refine h3 ?_
    unfold Tr.fn
    rw [List.getD_eq_getElem?_getD, this]; rfl
theorem ok_needed_slots {C : Addr} (T : Tb mg) (F : Df K mg "needed_slots" s_needed_slots) (c_trail_rows : Cl P w K mg base 3 "trail_rows" (spTR C)) (c_forks_below : Cl P w K mg base 3 "forks_below" (spFB C)) : Cl P w K mg base 4 "needed_slots" (spNS C) := by
  refine cl_mk F sc_needed_slots (fun vs H Q E h => ?_) (fun _ _ _ _ _ _ us hl => match us, hl with | [_, _, _], _ => rfl) (fun f cdv A outer s H vs Q E hr h => ?_)
  · obtain ⟨_, _, _, _, rfl, _⟩ := h; rfl
  · have hu := hu_of hr
    obtain ⟨tv, Tt, S, E, rfl, hT, hS, hE, hLR, q⟩ := h
    refine ⟨_, PSs.nox (pss_cons (ps_set (i := 3) sc_needed_slots.nd rfl (Or.inl rfl) (pe_lst pa_nil))
    (pss_cons (ps_for PassesOwn.never rfl (pi_list (pe_cl c_trail_rows hr (by decide) rfl (pa_cons (pv 0) (pa_cons (pv 2) pa_nil)))) (pg_tup (by rfl) (pgs_cons (pg_name (i := 4) sc_needed_slots.nd rfl (Or.inl rfl)) (pgs_cons (pg_name (i := 5) sc_needed_slots.nd rfl (Or.inl rfl)) (pgs_cons (pg_name (i := 6) sc_needed_slots.nd rfl (Or.inl rfl)) pgs_nil))))
      (pss_cons (ps_asg (pe_cl c_forks_below hr (by decide) rfl (pa_cons (pv 0) (pa_cons (pv 2) (pa_cons (pv 6) pa_nil)))) (pg_tup (by rfl) (pgs_cons (pg_name (i := 7) sc_needed_slots.nd rfl (Or.inl rfl)) (pgs_cons (pg_name (i := 8) sc_needed_slots.nd rfl (Or.inl rfl)) pgs_nil))))
      (pss_one (ps_if (pt_cmpR op_ne (pe_slice sl_str (pv 1) (po_some (pv 7)) (po_some (pv 8))) (pe_slice sl_str (pv 2) (po_some (pv 7)) (po_some (pv 8))) (nomark _))
        (pss_one (ps_expr (pe_bm PySem.F.plainAttrs_list PySem.F.slot_list_append PySem.F.type_list_append mt_append (pv 3) (pa_cons (pv 4) pa_nil))))
        pss_nil))))
    (pss_one (ps_ret (pv 3))))), ?_⟩
    have m64 := hT.m64
    refine ⟨Nat.zero_le _, fun o ho => ?_⟩
    have s0 := (Same.refl H).new (o := .lst []) ho
    refine ⟨_, rfl, _, rfl, tv, Tt, E, rfl, hT.same s0, hE, fun H1 r vs s1 hr0 hr1 hvs => ?_⟩
    obtain ⟨z1, z2, z3⟩ := zip_at hvs
    have hr1' : H1 r = some (.lst ((vs.zip (List.range Tt.m)).map Prod.fst)) := by rw [z1]; exact hr1
    have s01 := s0.trans s1
    have ho1 : H1 o = some (.lst []) := s1 _ _ upd_same
    have nor : r ≠ o := fun e => by rw [e, upd_same] at hr0; cases hr0
    have zu : ∀ {pre : List (V × Nat)} {z : V × Nat} {post : List (V × Nat)}, vs.zip (List.range Tt.m) = pre ++ z :: post → pre.map Prod.snd = List.range z.2 ∧ z.2 < Tt.m := fun {pre z post} e => by
      have e2 := congrArg (List.map Prod.snd) e
      rw [z2, List.map_append, List.map_cons] at e2
      exact range_split e2
    refine ⟨r, rfl, ⟨_, SqL.of hr1'⟩, for_pre (wf_list (K := K) (a := r) (vs.zip (List.range Tt.m)) Prod.fst)
      (fun pre σ H' => ∃ v4 v5 v6 v7 v8, σ = [some tv, some (sV S), some (sV E), some (.ref o), v4, v5, v6, v7, v8] ∧ SameBut o H1 H' ∧ H' o = some (.lst (((pre.map Prod.snd).filter fun u => (List.range (Tt.m - 1)).any fun f => decide ((Tr.rng (eF E) 0 Tt u).1 ≤ f ∧ f < (Tr.rng (eF E) 0 Tt u).2 ∧ Tr.fn S f ≠ eF E f)).map nV))) ?_ ?_ ?_ ?_⟩
    · exact ⟨none, none, none, none, none, rfl, fun b u _ h => h, ho1⟩
    · rintro pre σ H' ⟨v4, v5, v6, v7, v8, rfl, s2, _⟩
      exact SqL.of (s2 _ _ nor hr1')
    · rintro pre z post σ H' e ⟨v4, v5, v6, v7, v8, rfl, s2, ho2⟩
      obtain ⟨epre, hu⟩ := zu e
      obtain ⟨a, b, ez, ha, hb⟩ := (z3 z (by rw [e]; simp))
      have nao : a ≠ o := fun e => by rw [e, ho1] at ha; cases ha
      have sH : Same H H' := fun b u h => s2 _ _ (fun e => by rw [e, ho] at h; cases h) (s01 _ _ h)
      refine ⟨a, _, ez, SqT.of (s2 _ _ nao ha), rfl, _, _, rfl, _, _, rfl, _, _, rfl, rfl, ?_⟩
      refine ⟨_, rfl, _, rfl, _, rfl, tv, Tt, E, z.2, rfl, hT.same sH, hE, hLR, hu, fun H2 p s3 hp => ?_⟩
      refine ⟨p, _, rfl, SqT.of hp, rfl, _, _, rfl, _, _, rfl, rfl, ?_⟩
      have hrl := rng_le (e := eF E) Tt 0 z.2 (Nat.zero_le _) (by omega)
      rw [Nat.zero_add] at hrl
      have hSl : (sL S).length ≤ sizeLine := by rw [sL_len]; exact Nat.le_of_lt (small100 (by omega))
      have hEl : (sL E).length ≤ sizeLine := by rw [sL_len]; exact Nat.le_of_lt (small100 (by omega))
      refine ⟨_, rfl, _, rfl, _, rfl, _, rfl, _, rfl, sL S, rfl, hSl, _, rfl, _, rfl, _, rfl, _, rfl, _, rfl, sL E, rfl, hEl, rfl, _, rfl, ?_⟩
      rw [cutS_of (by omega) (by omega), cutS_of (by omega) (by omega)]
      have nt := need_test (T := Tt) (u := z.2) hS hE
      have hlen : (((pre.map Prod.snd).filter fun u => (List.range (Tt.m - 1)).any fun f => decide ((Tr.rng (eF E) 0 Tt u).1 ≤ f ∧ f < (Tr.rng (eF E) 0 Tt u).2 ∧ Tr.fn S f ≠ eF E f)).map nV).length ≤ 100 := by
        rw [List.length_map]
        have := List.length_filter_le (fun u => (List.range (Tt.m - 1)).any fun f => decide ((Tr.rng (eF E) 0 Tt u).1 ≤ f ∧ f < (Tr.rng (eF E) 0 Tt u).2 ∧ Tr.fn S f ≠ eF E f)) (pre.map Prod.snd)
        rw [epre, List.length_range] at this
        rw [epre]
        omega
      cases hb2 : (List.range (Tt.m - 1)).any fun f => decide ((Tr.rng (eF E) 0 Tt z.2).1 ≤ f ∧ f < (Tr.rng (eF E) 0 Tt z.2).2 ∧ Tr.fn S f ≠ eF E f) with
      | true =>
        refine ifT (nt.trans hb2) ?_
        have ho3 := s3 _ _ ho2
        refine ⟨_, rfl, .inl ⟨rfl, _, SqL.of ho3⟩, _, rfl, o, _, _, rfl, rfl, ho3, small100 hlen, ?_⟩
        refine ⟨_, _, _, _, _, rfl, fun b u hb h => ?_, ?_⟩
        · rw [upd_ne hb]
          exact s3 _ _ (s2 _ _ hb h)
        · rw [upd_same, List.map_append, List.filter_append, List.map_append]
          rw [List.map_cons, List.map_nil, List.filter_cons, if_pos hb2]; rfl
      | false =>
        refine ifF (nt.trans hb2) ?_
        refine ⟨_, _, _, _, _, rfl, fun b u hb h => s3 _ _ (s2 _ _ hb h), ?_⟩
        rw [s3 _ _ ho2, List.map_append, List.filter_append]
        rw [List.map_cons, List.map_nil, List.filter_cons, if_neg (by rw [hb2]; exact Bool.false_ne_true), List.filter_nil, List.append_nil]
    · rintro σ H' ⟨v4, v5, v6, v7, v8, rfl, s2, ho2⟩
      rw [z2] at ho2
      have sH : Same H H' := fun b u h => s2 _ _ (fun e => by rw [e, ho] at h; cases h) (s01 _ _ h)
      exact ⟨_, rfl, q H' o sH ho ho2⟩
end
end K22
set_option Elab.async false
set_option linter.all false
set_option maxRecDepth 100000
set_option maxHeartbeats 4000000
namespace K22
open PySem PySem.Spec PyProof.Rows L2
theorem dc_pre {α : Type} {J : It} {xs : List α} {f : α → V} {G : Hp → Prop} (w : WalkF J xs f G) {g : TG} {tt : TT} {tk tv : TE} {vs : List Nat} {σ : L2.St} {H1 : Hp} {D : Addr} {Qd : Hp → Prop} (Pv : List α → Hp → Prop) (h0 : Pv [] (upd H1 D (.dK []))) (hG : ∀ pre H, Pv pre H → G H)
    (hs : ∀ pre a post H, xs = pre ++ a :: post → Pv pre H → g (f a) (wipe σ vs) H fun σ2 H2 => wipe σ2 vs = wipe σ vs ∧ tt σ2 H2 fun b H3 =>
      if b = true then tk σ2 H3 fun y H4 => tv σ2 H4 fun z H5 => ∃ kvs k, y = kV k ∧ H5 D = some (.dK kvs) ∧ kvs.length < sizeLine ∧ Pv (pre ++ [a]) (upd H5 D (.dK (putK kvs k z))) else Pv (pre ++ [a]) H3) (hd : ∀ H, Pv xs H → Qd H) :
    ∃ W : Nat → Nat → Hp → Prop, (∃ m, W 0 m (upd H1 D (.dK []))) ∧ ∀ i m H, W i m H →
      (J.stop i H ∧ Qd H) ∨ (J.go i H ∧ ∃ Nx : Hp → Prop, (∀ H', Nx H' → ∃ m', m' < m ∧ W (i + 1) m' H') ∧ ∀ x H', J.yld i H x H' → g x (wipe σ vs) H' fun σ2 H2 => wipe σ2 vs = wipe σ vs ∧ tt σ2 H2 fun b H3 =>
        if b = true then tk σ2 H3 fun y H4 => tv σ2 H4 fun z H5 => ∃ kvs k, y = kV k ∧ H5 D = some (.dK kvs) ∧ kvs.length < sizeLine ∧ Nx (upd H5 D (.dK (putK kvs k z))) else Nx H3) := by
  refine ⟨fun i m H => m = xs.length - i ∧ i ≤ xs.length ∧ Pv (xs.take i) H, ⟨xs.length, by simp, Nat.zero_le _, by rw [List.take_zero]; exact h0⟩, ?_⟩
  rintro i m H ⟨rfl, hi, p⟩
  have q := hG _ H p
  by_cases hlt : i < xs.length
  · refine .inr ⟨w.goes i H hlt q, Pv (xs.take (i + 1)), fun H' p' => ⟨xs.length - (i + 1), by omega, rfl, hlt, p'⟩, fun x H' y => ?_⟩
    obtain ⟨rfl, a, ha, rfl⟩ := w.yields i H x H' hlt q y
    rw [take_snoc ha]
    exact hs _ a _ _ (split_at ha) p
  · have e : i = xs.length := by omega
    subst e
    rw [List.take_length] at p
    exact .inl ⟨w.stops H q, hd H p⟩
theorem okF_at {ss : List Nat} {n : Nat} {l : List Nat} (h : okF ss n (some l) = true) : l.length = n ∧ ∀ c ∈ l, c ∈ ss := by
  unfold okF isM at h
  obtain ⟨h1, h2⟩ := Bool.and_eq_true_iff.mp h
  exact ⟨of_decide_eq_true h2, fun c hc => of_decide_eq_true (List.all_eq_true.mp h1 c hc)⟩
theorem okF_LR {n : Nat} {l : List Nat} (h : okF [76, 82] n (some l) = true) : LRs l := fun c hc => by
  have := (okF_at h).2 c hc
  simpa using this
theorem StrA.get {K : PySem.W.Frag} {H : Hp} {x : V} {l : List Nat} (h : StrA K H x (some l)) : x = sV l := by cases h; rfl
theorem okF_some {ss : List Nat} {n : Nat} {o : Option (List Nat)} (h : okF ss n o = true) : ∃ l, o = some l := by
  cases o with
  | none => exact absurd h (by unfold okF isM; simp)
  | some l => exact ⟨l, rfl⟩
/-- what the doors are asked of: a tree, a start and an end; what is wrong with them first, or the forest -/
structure Asked (K : PySem.W.Frag) (CT CF : Addr) (H : Hp) (tv x y : V) (E : XK) (good : Fo → Prop) : Prop where
  ex : ∃ (T : Tr) (ox oy : Option (List Nat)), TreeAt CT H tv T ∧ StrA K H x ox ∧ StrA K H y oy ∧ (okF [76, 82, 63] (T.m - 1) ox = false → Err CF "flags" x H E) ∧
    (okF [76, 82, 63] (T.m - 1) ox = true → okF [76, 82] (T.m - 1) oy = false → Err CF "flags" y H E) ∧
    ∀ S Z, ox = some S → oy = some Z → okF [76, 82, 63] (T.m - 1) ox = true → okF [76, 82] (T.m - 1) oy = true → good (Tr.fo T (eF Z) (Tr.fn S))
def spNP (K : PySem.W.Frag) (CT CF : Addr) : Sp := fun vs H Q E => ∃ (tv x y : V), vs = [tv, x, y] ∧ Asked K CT CF H tv x y E fun F => F.ns.length < 64 → ∀ (H' : Hp) (d : Addr), Same H H' → H d = none → H' d = some (ParD F) → Q (.ref d) H'
section
variable {P : Program} {w : World} {K : PySem.W.Frag} {mg : Str → Option Value} {base : Heap}
theorem ok_needed_parents {CT CF : Addr} (T : Tb mg) (F : Df K mg "needed_parents" s_needed_parents) (c_checked_pattern : Cl P w K mg base 3 "checked_pattern" (spCk K CT CF [76, 82, 63])) (c_checked_flags : Cl P w K mg base 3 "checked_flags" (spCk K CT CF [76, 82]))
    (c_trail_parents : Cl P w K mg base 4 "trail_parents" (spTP CT)) (c_needed_slots : Cl P w K mg base 4 "needed_slots" (spNS CT)) : Cl P w K mg base 5 "needed_parents" (spNP K CT CF) := by
  refine cl_mk F sc_needed_parents (fun vs H Q E h => ?_) (fun _ _ _ _ _ _ us hl => match us, hl with | [_, _, _], _ => rfl) (fun f cdv A outer s H vs Q E hr h => ?_)
  · obtain ⟨_, _, _, rfl, _⟩ := h; rfl
  · have hu := hu_of hr
    obtain ⟨tv, x, y, rfl, ⟨Tt, ox, oy, hT, hx, hy, qx, qy, q⟩⟩ := h
    refine ⟨_, (pss_cons (ps_expr (pe_clX c_checked_pattern hr (by decide) rfl (takes_of rfl rfl rfl rfl) (pa_cons (pv 0) (pa_cons (pv 1) pa_nil))))
    (pss_cons (ps_expr (pe_clX c_checked_flags hr (by decide) rfl (takes_of rfl rfl rfl rfl) (pa_cons (pv 0) (pa_cons (pv 2) pa_nil))))
    (pss_cons (ps_set (i := 3) sc_needed_parents.nd rfl (Or.inr rfl) (pe_cl c_trail_parents hr (by decide) rfl (pa_cons (pv 0) (pa_cons (pv 2) pa_nil))))
    (pss_one (ps_ret (pe_dc (own := [("slot", 4)]) (by rfl) sc_needed_parents.nd (pi_list (pe_cl c_needed_slots hr (by decide) rfl (pa_cons (pv 0) (pa_cons (pv 1) (pa_cons (pv 2) pa_nil))))) (blkOk_by (own := [("slot", 4)]) (N := n_needed_parents) (sc := defScope s_needed_parents) (by decide +kernel)) (fun _ _ _ _ _ => (pg_name (i := 4) sc_needed_parents.nd rfl (Or.inl rfl))) (fun _ _ _ _ _ => pts_nil) (fun _ _ _ _ _ => (pv 4)) (fun _ _ _ _ _ => (pe_dget hu (pv 3) (pv 4) (fun _ _ => rfl))))))))), ?_⟩
    have m64 := hT.m64
    refine ⟨_, rfl, _, rfl, tv, x, Tt, ox, rfl, hT, hx, fun okx H1 s1 => ?_, fun bad => qx bad⟩
    refine ⟨_, rfl, _, rfl, tv, y, Tt, oy, rfl, hT.same s1, hy.same s1, fun oky H2 s2 => ?_, fun bad H' d s hd h => qy okx bad H' d (s1.trans s) (s1.free hd) h⟩
    have s12 := s1.trans s2
    obtain ⟨S, rfl⟩ := okF_some okx
    obtain ⟨Z, rfl⟩ := okF_some oky
    have q := q S Z rfl rfl okx oky
    obtain ⟨hS, -⟩ := okF_at okx
    obtain ⟨hZ, -⟩ := okF_at oky
    have hLR := okF_LR oky
    have ex := hx.get
    have ey := hy.get
    subst ex ey
    refine ⟨_, rfl, _, rfl, tv, Tt, Z, rfl, hT.same s12, hZ, hLR, fun H3 pa s3 hpa hp3 => ?_⟩
    refine ⟨_, rfl, _, rfl, _, rfl, tv, Tt, S, Z, rfl, (hT.same s12).same s3, hS, hZ, hLR, fun H4 r s4 hr0 hr4 => ?_⟩
    have s14 := (s12.trans s3).trans s4
    have hp4 := s4 _ _ hp3
    have npr : pa ≠ r := fun e => by rw [← e, hp3] at hr0; cases hr0
    have nl := Tr.need_lt (e := eF Z) (S := Tr.fn S) Tt
    refine ⟨r, rfl, ⟨_, SqL.of hr4⟩, fun D hD => ?_⟩
    refine dc_pre (wf_list (K := K) (a := r) (Tr.need Tt (eF Z) (Tr.fn S)) nV) (fun pre H' => Same H4 H' ∧ H' D = some (.dK (dmap pre fun u => pV (Tr.par (eF Z) 0 Tt u)))) ?_ ?_ ?_ ?_
    · exact ⟨(Same.refl H4).new hD, upd_same⟩
    · rintro pre H' ⟨s5, _⟩
      exact SqL.of (s5 _ _ hr4)
    · rintro pre u post H' e ⟨s5, h5⟩
      have hum := (Tr.mem_need.mp (show u ∈ Tr.need Tt (eF Z) (Tr.fn S) by rw [e]; simp)).1
      have hlen : pre.length < 64 := by
        have := congrArg List.length e
        rw [List.length_append, List.length_cons] at this
        omega
      have hun : u ∉ pre := fun hm => by
        have nd := Fo.nodup_of_asc (Tr.fo Tt (eF Z) (Tr.fn S)).asc
        have nd : (Tr.need Tt (eF Z) (Tr.fn S)).Nodup := nd
        rw [e] at nd
        exact (List.nodup_append.mp nd).2.2 u hm u List.mem_cons_self rfl
      refine ⟨rfl, ?_⟩
      refine ⟨_, rfl, _, rfl, _, rfl, pa, _, rfl, dget_n (.inl (s5 _ _ hp4)) (List.mem_range.mpr hum), _, kN u, rfl, h5, by rw [dmap_len]; exact small100 (by omega), s5.put hD, ?_⟩
      rw [upd_same, putK_add _ hun]
      congr 2
      refine dmap_congr fun v _ => ?_
      unfold upF
      by_cases cv : v = u
      · rw [if_pos cv, cv]
      · rw [if_neg cv]
    · rintro H' ⟨s5, h5⟩
      exact q (by show (Tr.need Tt (eF Z) (Tr.fn S)).length < 64; omega) H' D (s14.trans s5) (s14.free hD) h5
/-! the four doors -/
def spHC (K : PySem.W.Frag) (CT CF : Addr) : Sp := fun vs H Q E => ∃ (tv x y : V), vs = [tv, x, y] ∧ Asked K CT CF H tv x y E fun F => ∀ H' : Hp, Same H H' → Q (nV (oc F F.ns)) H'
theorem ok_hit_plan_count {CT CF : Addr} (T : Tb mg) (F : Df K mg "hit_plan_count" s_hit_plan_count) (c_needed_parents : Cl P w K mg base 5 "needed_parents" (spNP K CT CF)) (c_order_count : Cl P w K mg base 2 "order_count" spOC) : Cl P w K mg base 6 "hit_plan_count" (spHC K CT CF) := by
  refine cl_mk F sc_hit_plan_count (fun vs H Q E h => ?_) (fun _ _ _ _ _ _ us hl => match us, hl with | [_, _, _], _ => rfl) (fun f cdv A outer s H vs Q E hr h => ?_)
  · obtain ⟨_, _, _, rfl, _⟩ := h; rfl
  · have hu := hu_of hr
    obtain ⟨tv, x, y, rfl, ⟨Tt, ox, oy, hT, hx, hy, qx, qy, q⟩⟩ := h
    refine ⟨_, (pss_one (ps_ret (pe_cl c_order_count hr (by decide) rfl (pa_cons (pe_clX c_needed_parents hr (by decide) rfl (takes_of rfl rfl rfl rfl) (pa_cons (pv 0) (pa_cons (pv 1) (pa_cons (pv 2) pa_nil)))) pa_nil)))), ?_⟩
    refine ⟨_, rfl, _, rfl, _, rfl, tv, x, y, rfl, ⟨Tt, ox, oy, hT, hx, hy, qx, qy, fun S Z e1 e2 o1 o2 h64 H1 d s1 hd h1 => ?_⟩⟩
    exact ⟨_, d, rfl, h1, h64, fun H' s2 => q S Z e1 e2 o1 o2 H' (s1.trans s2)⟩
def spHA (K : PySem.W.Frag) (CT CF CN : Addr) : Sp := fun vs H Q E => ∃ (tv x y rv : V) (b : Bool), vs = [tv, x, y, rv] ∧ IsI K H rv b ∧ Asked K CT CF H tv x y E fun F =>
  (∀ r row, rv = nV r → (ords F F.ns)[r]? = some row → ∀ (H' : Hp) (a : Addr), Same H H' → H a = none → H' a = some (.lst (row.map nV)) → Q (.ref a) H') ∧
  ((okN rv = false ∨ ∃ r, rv = nV r ∧ oc F F.ns ≤ r) → Err CN "number" rv H E)
theorem ok_hit_plan_at {CT CF CN : Addr} (T : Tb mg) (F : Df K mg "hit_plan_at" s_hit_plan_at) (c_needed_parents : Cl P w K mg base 5 "needed_parents" (spNP K CT CF)) (c_checked_number : Cl P w K mg base 3 "checked_number" (spCN K CN) [.non]) (c_order_at : Cl P w K mg base 3 "order_at" (spOA CN)) : Cl P w K mg base 6 "hit_plan_at" (spHA K CT CF CN) := by
  refine cl_mk F sc_hit_plan_at (fun vs H Q E h => ?_) (fun _ _ _ _ _ _ us hl => match us, hl with | [_, _, _, _], _ => rfl) (fun f cdv A outer s H vs Q E hr h => ?_)
  · obtain ⟨_, _, _, _, _, rfl, _⟩ := h; rfl
  · have hu := hu_of hr
    obtain ⟨tv, x, y, rv, b, rfl, hi, ⟨Tt, ox, oy, hT, hx, hy, qx, qy, q⟩⟩ := h
    refine ⟨_, (pss_cons (ps_set (i := 4) sc_hit_plan_at.nd rfl (Or.inl rfl) (pe_clX c_needed_parents hr (by decide) rfl (takes_of rfl rfl rfl rfl) (pa_cons (pv 0) (pa_cons (pv 1) (pa_cons (pv 2) pa_nil)))))
    (pss_cons (ps_expr (pe_clX c_checked_number hr (by decide) rfl (takes_of rfl rfl rfl rfl) (pa_cons (pv 3) (pa_cons pe_int pa_nil))))
    (pss_one (ps_ret (pe_clX c_order_at hr (by decide) rfl (takes_of rfl rfl rfl rfl) (pa_cons (pv 4) (pa_cons (pv 3) pa_nil))))))), ?_⟩
    refine ⟨_, rfl, _, rfl, _, rfl, tv, x, y, rfl, ⟨Tt, ox, oy, hT, hx, hy, qx, qy, fun S Z e1 e2 o1 o2 h64 H1 d s1 hd h1 => ?_⟩⟩
    obtain ⟨q1, q2⟩ := q S Z e1 e2 o1 o2
    refine ⟨_, rfl, rv, b, rfl, hi.same s1, fun ok => ?_, fun bad H' d' s2 hd' h' => q2 (.inl bad) H' d' (s1.trans s2) (s1.free hd') h'⟩
    have : ∃ r, rv = nV r := by
      cases rv with
      | int i =>
        have : 0 ≤ i := of_decide_eq_true ok
        exact ⟨i.toNat, by show V.int i = V.int ((i.toNat : Nat) : Int); rw [Int.toNat_of_nonneg this]⟩
      | _ => cases ok
    obtain ⟨r, rfl⟩ := this
    exact ⟨_, rfl, _, rfl, _, d, r, rfl, h1, h64, fun H' a row s2 ha h' hrow => q1 r row rfl hrow H' a (s1.trans s2) (s1.free ha) h',
      fun hle H' d' s2 hd' h' => q2 (.inr ⟨r, rfl, hle⟩) H' d' (s1.trans s2) (s1.free hd') h'⟩
theorem OrdA.same {H H' : Hp} {F : Fo} {x : V} {b : Bool} (e : Same H H') (h : OrdA K H F x b) : OrdA K H' F x b := by
  cases h with
  | lst h hi => exact .lst (e _ _ h) fun y hy => by obtain ⟨b, hb⟩ := hi y hy; exact ⟨b, hb.same e⟩
  | non => exact .non
  | int i => exact .int i
  | tup h => exact .tup (e _ _ h)
def spHR (K : PySem.W.Frag) (CT CF CS : Addr) : Sp := fun vs H Q E => ∃ (tv x y rv : V), vs = [tv, x, y, rv] ∧ Asked K CT CF H tv x y E fun F => ∃ b, OrdA K H F rv b ∧
  (∀ (a : Addr) (row : List Nat), rv = .ref a → H a = some (.lst (row.map nV)) → Ok F F.ns row → ∀ H' : Hp, Same H H' → Q (nV (rankF F F.ns row)) H') ∧
  (b = false → Err CS "slot" rv H E)
theorem ok_hit_plan_rank {CT CF CS : Addr} (T : Tb mg) (F : Df K mg "hit_plan_rank" s_hit_plan_rank) (x_InvalidSlot : Er P w K mg base "InvalidSlot" "slot" CS) (c_needed_parents : Cl P w K mg base 5 "needed_parents" (spNP K CT CF)) (c_order_rank : Cl P w K mg base 3 "order_rank" (spOR K)) : Cl P w K mg base 6 "hit_plan_rank" (spHR K CT CF CS) := by
  refine cl_mk F sc_hit_plan_rank (fun vs H Q E h => ?_) (fun _ _ _ _ _ _ us hl => match us, hl with | [_, _, _, _], _ => rfl) (fun f cdv A outer s H vs Q E hr h => ?_)
  · obtain ⟨_, _, _, _, rfl, _⟩ := h; rfl
  · have hu := hu_of hr
    obtain ⟨tv, x, y, rv, rfl, ⟨Tt, ox, oy, hT, hx, hy, qx, qy, q⟩⟩ := h
    refine ⟨_, (pss_cons (ps_set (i := 4) sc_hit_plan_rank.nd rfl (Or.inl rfl) (pe_cl c_order_rank hr (by decide) rfl (pa_cons (pe_clX c_needed_parents hr (by decide) rfl (takes_of rfl rfl rfl rfl) (pa_cons (pv 0) (pa_cons (pv 1) (pa_cons (pv 2) pa_nil)))) (pa_cons (pv 3) pa_nil))))
    (pss_cons (ps_if (pt_cmpR op_isN (pv 4) pe_non (nomark _))
      (pss_one (ps_raise1 rfl x_InvalidSlot hr (by decide) (by rfl) (takes_of rfl rfl rfl rfl) (pv 3)))
      pss_nil)
    (pss_one (ps_ret (pv 4))))), ?_⟩
    refine ⟨_, rfl, _, rfl, _, rfl, tv, x, y, rfl, ⟨Tt, ox, oy, hT, hx, hy, qx, qy, fun S Z e1 e2 o1 o2 h64 H1 d s1 hd h1 => ?_⟩⟩
    obtain ⟨b, hb, q1, q2⟩ := q S Z e1 e2 o1 o2
    refine ⟨_, rfl, _, d, rv, b, rfl, h1, h64, hb.same s1, fun bf H2 s2 => ?_, fun a row ea hrow hok H2 s2 => ?_⟩
    · refine ⟨_, rfl, rfl, _, rfl, ifT rfl ⟨_, rfl, fun d' H' s3 hd' h' => ?_⟩⟩
      exact q2 bf H' d' ((s1.trans s2).trans s3) ((s1.trans s2).free hd') h'
    · refine ⟨_, rfl, rfl, _, rfl, ifF rfl ⟨_, rfl, ?_⟩⟩
      subst ea
      cases hb with
      | tup h => rw [s1 _ _ h] at hrow; cases hrow
      | @lst a' xs h hi =>
        have hx1 := s1 _ _ h
        rw [hx1] at hrow
        have exs := HO.lst.inj (Option.some.inj hrow)
        exact q1 a row rfl (by rw [h, exs]) hok H2 (s1.trans s2)
def spHI (K : PySem.W.Frag) (CT CF : Addr) : Sp := fun vs H Q E => ∃ (tv x y rv : V), vs = [tv, x, y, rv] ∧ Asked K CT CF H tv x y E fun F => ∃ b, OrdA K H F rv b ∧ ∀ H' : Hp, Same H H' → Q (.bl b) H'
theorem ok_is_hit_plan {CT CF : Addr} (T : Tb mg) (F : Df K mg "is_hit_plan" s_is_hit_plan) (c_needed_parents : Cl P w K mg base 5 "needed_parents" (spNP K CT CF)) (c_is_order : Cl P w K mg base 2 "is_order" (spIO K)) : Cl P w K mg base 6 "is_hit_plan" (spHI K CT CF) := by
  refine cl_mk F sc_is_hit_plan (fun vs H Q E h => ?_) (fun _ _ _ _ _ _ us hl => match us, hl with | [_, _, _, _], _ => rfl) (fun f cdv A outer s H vs Q E hr h => ?_)
  · obtain ⟨_, _, _, _, rfl, _⟩ := h; rfl
  · have hu := hu_of hr
    obtain ⟨tv, x, y, rv, rfl, ⟨Tt, ox, oy, hT, hx, hy, qx, qy, q⟩⟩ := h
    refine ⟨_, (pss_one (ps_ret (pe_cl c_is_order hr (by decide) rfl (pa_cons (pe_clX c_needed_parents hr (by decide) rfl (takes_of rfl rfl rfl rfl) (pa_cons (pv 0) (pa_cons (pv 1) (pa_cons (pv 2) pa_nil)))) (pa_cons (pv 3) pa_nil))))), ?_⟩
    refine ⟨_, rfl, _, rfl, _, rfl, tv, x, y, rfl, ⟨Tt, ox, oy, hT, hx, hy, qx, qy, fun S Z e1 e2 o1 o2 h64 H1 d s1 hd h1 => ?_⟩⟩
    obtain ⟨b, hb, q1⟩ := q S Z e1 e2 o1 o2
    exact ⟨_, rfl, _, d, rv, b, rfl, h1, h64, hb.same s1, fun H' s2 => q1 H' (s1.trans s2)⟩
end
end K22
set_option Elab.async false
set_option linter.all false
set_option maxRecDepth 100000
set_option maxHeartbeats 4000000
/-! Rules of the layer that the walks of this program lack. -/
namespace K22
open PySem PySem.Spec PyProof.Rows L2
/-- code that is not reached -/
theorem ps_dead {X : Cx} {s : Stmt} : PS X s (fun _ _ _ => False) := ⟨fun _ _ _ _ _ _ h => h.elim⟩
/-- o.f as a target -/
def gFld (K : PySem.W.Frag) (to : TE) (f : Str) : TG := fun v σ H Q => to σ H fun x H1 => ∃ a C dx fs, x = .ref a ∧ H1 a = some (.ins C dx fs) ∧ Cls K C ∧ NoAttr K C f ∧ fs.length < 1000 ∧ Q σ (upd H1 a (.ins C dx (putF f v fs)))
theorem pg_fld {X : Cx} {o : Expr} {f : Str} {pos : Pos} {to : TE} (ho : PE X o to) : PG X (.Attribute o f pos) (gFld X.K to f) := by
  refine ⟨fun pins s σ H v u Q I r h => ?_⟩
  refine PySem.W.kas_attr (thn (ho.run pins s σ H _ I h) fun ov s1 ⟨x, H1, I1, rx, a, C, dx, fs, ex, ea, c, n, l, q⟩ => ?_)
  subst ex
  obtain rfl : ov = Value.ref a := rx
  exact setattr_ok I1 ea c n l r fun s2 I2 => ⟨σ, _, I2, q⟩
/-! ### enumerate(text) -/
def Itw (x : Str) : It :=
  ⟨fun i _ => i < x.cps.size, fun i H v H' => ∃ T c, v = .ref T ∧ H T = none ∧ H' = upd H T (.tup [.int (i : Nat), .str ⟨#[c]⟩]) ∧ x.cps[i]? = some c, fun i _ => x.cps.size ≤ i⟩
theorem turn_enumS {P : Program} {w : World} {K : PySem.W.Frag} {elts : List Expr} {kk : Nat} {tpos : Pos} (x : Str) (t : Tok) (e it : Addr) :
    Turn P w K (.Tuple elts kk tpos) (Itw x) [e, it] e (fun i h => (∃ old, IsEnum h e it ((i : Nat) : Int) old) ∧ h.IsStrIter it (strIterType x) x t i ∧ e ≠ it ∧ i ≤ x.cps.size) where
  mem := by simp
  obj := fun i h st b hb => by
    obtain ⟨⟨old, he⟩, ⟨o, ho, hc, hd⟩, _⟩ := st
    have e' : b = e ∨ b = it := by simpa using hb
    rcases e' with z | z
    · rw [z]; exact ⟨_, he, fun v q => nomatch q⟩
    · rw [z]; exact ⟨o, ho, fun v q => by rw [hd] at q; cases q⟩
  keep := fun i h h' st k => by
    obtain ⟨⟨old, he⟩, ⟨o, ho, r⟩, hne, hle⟩ := st
    exact ⟨⟨old, k e (by simp) _ he⟩, ⟨o, k it (by simp) o ho, r⟩, hne, hle⟩
  item := by
    intro X hP hw hK hc i pins s σ H E I hf st hg
    subst hP hw hK
    obtain ⟨⟨old, he⟩, hit, hne, -⟩ := st
    have hel : e < s.heap.objs.size := Heap.lt_size he
    have hil : it < s.heap.objs.size := by obtain ⟨_, q, _⟩ := hit; exact Heap.lt_size q
    have D := Draws.text (prog := X.prog) (w := X.w) (A := X.A.in1) (I.ok.hd hc) it x t
    refine wpAny_pyNext_enum_itemD D he hit hg hne (by simpa using hne) fun v h' tk hv ho hit' hT hsz hk => ?_
    obtain ⟨c, u, hcx, rfl⟩ := hv
    refine ⟨_, rfl, wpAny_letOwnedTupleGo_enum (s := { s with heap := h', toks := tk + 1 }) ho fun h'' he' sb => ?_⟩
    have hT2 : h''.get? s.heap.objs.size = some { cls := .type "tuple", data := .seq #[.int i tk, .str ⟨#[c]⟩ u] } := (sb.2 _ (Nat.ne_of_gt hel)).trans hT
    have new : ObjOk X.prog X.w (upd H s.heap.objs.size (.tup [.int (i : Nat), .str ⟨#[c]⟩])) h'' s.heap.objs.size (.tup [.int (i : Nat), .str ⟨#[c]⟩]) :=
      ⟨by show 2 ≤ sizeLine; decide, [.int i tk, .str ⟨#[c]⟩ u], .cons ⟨_, rfl⟩ (.cons ⟨_, rfl⟩ .nil), ⟨_, hT2, rfl, _, rfl⟩⟩
    have I1 : Inv X pins σ (upd H s.heap.objs.size (.tup [.int (i : Nat), .str ⟨#[c]⟩])) { s with heap := h'', toks := tk + 1 } :=
      I.turnedNew (ch := [e, it]) (fun b ob hb q => (sb.2 b (fun z => hb (by simp [z]))).trans (hk b ob (fun z => hb (by simp [z])) (fun z => hb (by simp [z])) q)) hf (Nat.le_refl _) new
    refine ⟨.ref s.heap.objs.size, _, I1, rfl, ⟨_, c, rfl, I.hok.fresh (Nat.le_refl _), rfl, hcx⟩, ⟨⟨.str ⟨#[c]⟩ u, ?_⟩, ?_, hne, hg⟩, fun b hb => ?_⟩
    · have e1 : ((i + 1 : Nat) : Int) = (i : Int) + 1 := by omega
      rw [e1]; exact he'
    · obtain ⟨o, ho2, r⟩ := hit'
      exact ⟨o, (sb.2 it (Ne.symm hne)).trans ho2, r⟩
    · have hb' : b < s.heap.objs.size := by
        have e' : b = e ∨ b = it := by simpa using hb
        rcases e' with z | z
        · rw [z]; exact hel
        · rw [z]; exact hil
      rw [upd_ne (Nat.ne_of_lt hb')]
      exact (hf b hb).1
  done := by
    intro X hP hw hK hc i pins s σ H E I hf st hg
    subst hP hw hK
    obtain ⟨⟨old, he⟩, hit, hne, hle⟩ := st
    obtain ⟨f0, f1, f2, f3, f4, f5⟩ := hf it (by simp)
    have hi : i = x.cps.size := Nat.le_antisymm hle hg
    subst hi
    have D := Draws.text (prog := X.prog) (w := X.w) (A := X.A.in1) (I.ok.hd hc) it x t
    exact wpAny_pyNext_enum_endD D he hit fun h' eb => ⟨rfl, I.turned (t' := s.toks) (fun b o hb q => eb b o hb q) f0 f1 f3 f4 f5⟩
  self := fun A i s Q E st h => by
    obtain ⟨⟨_, he⟩, _⟩ := st
    exact wpAny_pyIter_enum he h
def iEnumS (ta : TA) : TI := fun σ H R => ta σ H fun vs H1 => ∃ x, vs = [.str x] ∧ R (Itw x) H1
theorem pi_enumS {X : Cx} {e : Expr} {ta : TA} {p pos tpos : Pos} {elts : List Expr} {kk : Nat} (hg : Gl X "enumerate") (hm : X.mg "enumerate" = none) (ha : PA X [e] ta) (hs : starEach [e] X.env = [(false, eval e X.env)] := by rfl) :
    PI X (.Tuple elts kk tpos) (.Call (.Name "enumerate" p) [e] [] pos) (iEnumS ta) := by
  refine ⟨fun pins s σ H R I h => ?_⟩
  refine Call_ (ld_blt I hg hm boot_enumerate (PyProof.Rows.callWith_type1 (thn (ha.run pos pins s σ H _ I h) fun us s1 ⟨vs, H1, I1, r1, q1⟩ => ?_) hs rfl))
  obtain ⟨x, ex, q⟩ := q1
  subst ex
  cases r1 with
  | cons r rr =>
    cases rr
    obtain ⟨t, rfl⟩ := r
    refine call_enumerate_str fun h' he hit hsz hk => wpAny_pyIter_enum he ?_
    have I2 : Inv X pins σ H1 { s1 with heap := h' } := I1.kept (t' := s1.toks) hk
    refine ⟨s1.heap.objs.size + 1, [s1.heap.objs.size + 1, s1.heap.objs.size], _, _, H1, rfl, I2, turn_enumS x t (s1.heap.objs.size + 1) s1.heap.objs.size, ⟨⟨.none, he⟩, hit, Nat.succ_ne_self _, Nat.zero_le _⟩, fun b hb => ?_, q⟩
    have e' : b = s1.heap.objs.size + 1 ∨ b = s1.heap.objs.size := by simpa using hb
    have hle : s1.heap.objs.size ≤ b := by
      rcases e' with z | z
      · rw [z]; exact Nat.le_add_right _ _
      · rw [z]; exact Nat.le_refl _
    exact I1.fpOk hle (I1.hok.fresh hle)
theorem walk_enumS (z : List Nat) : Walk (Itw ⟨z.toArray⟩) z.length (fun _ => True) (fun i H v H' => ∃ T c, v = .ref T ∧ H T = none ∧ H' = upd H T (.tup [nV i, .str ⟨#[c]⟩]) ∧ z[i]? = some c) :=
  ⟨fun i H hi _ => by show i < z.toArray.size; simpa using hi, fun H _ => by show z.toArray.size ≤ z.length; simp, fun i H x H' _ _ y => by
    obtain ⟨T, c, h1, h2, h3, h4⟩ := y
    exact ⟨T, c, h1, h2, h3, by simpa using h4⟩⟩
/-! ### sorted(rows), the rows read as data -/
theorem vals_each {R : Value → V × PyData → Prop} (hR : ∀ u z, R u z → RelV z.1 u) : ∀ {out : List Value} {zs : List (V × PyData)}, PySem.W.EachIs R out zs → Vals (zs.map Prod.fst) out
  | _, _, .nil => .nil
  | _, _, .cons h t => .cons (hR _ _ h) (vals_each hR t)
theorem each_vals : ∀ {zs : List (V × PyData)} {us : List Value}, Vals (zs.map Prod.fst) us → PySem.W.EachIs (fun u z => RelV z.1 u) us zs
  | [], _, h => by cases h; exact .nil
  | z :: zs, _, h => by
    cases h with
    | cons h t => exact .cons h (each_vals t)
def rSortedZ (K : PySem.W.Frag) (u : Nat) : List V → Hp → VK → Prop := fun vs H Q => ∃ (a : Addr) (zs : List (V × PyData)), vs = [.ref a] ∧ SqL K H a (zs.map Prod.fst) ∧ (∀ z ∈ zs, Dp K H z.1 z.2) ∧ PySem.W.AllAlike (zs.map Prod.snd) ∧ PySem.W.Sortable (zs.map Prod.snd) ∧
  (∀ z ∈ zs, z.2.depth ≤ 60) ∧ ∀ p, H p = none → Q (.ref p) (upd H p (.lst ((zs.mergeSort (PySem.W.dataLe false Prod.snd)).map Prod.fst)))
theorem cr_sortedZ {X : Cx} (hu : X.A.units + 64 < cLine) : CallR X (.builtin "sorted") (rSortedZ X.K X.A.units) := by
  intro pins s σ H vs us Q I r h
  obtain ⟨a, zs, rfl, hs, hd, hal, hk, hdep, q⟩ := h
  obtain ⟨its, rv, hl, hz⟩ := I.list hs
  obtain ⟨u, rfl, ru⟩ := vals1 r
  obtain rfl : u = Value.ref a := ru
  have er : PySem.W.EachIs (fun v (z : V × PyData) => ∃ as, Reads s.heap v (Prod.snd z) as) its zs := by
    clear hs hl hz hal hk hdep q
    revert its
    induction zs with
    | nil => intro its rv; cases rv; exact .nil
    | cons z zs ih =>
      intro its rv
      cases rv with
      | cons h t => exact .cons (Dp.reads I z.2 z.1 _ (hd z (by simp)) h) (ih (fun z hz => hd z (by simp [hz])) _ t)
  have hlen : zs.length ≤ sizeLine := by rw [List.length_map] at hz; exact hz
  refine PySem.W.sorted_data (enc := Prod.snd) hl.isList (each_vals rv) er hal hk hlen (fun b hb => by have := hdep b hb; omega) fun out ho1 ho2 => ?_
  obtain ⟨e, he⟩ := sortedAll_at s.heap its (List.toArray out)
  have ho3 : Vals ((zs.mergeSort (PySem.W.dataLe false Prod.snd)).map Prod.fst) out := vals_each (fun _ _ h => h) ho2
  have new : ObjOk X.prog X.w (upd H (s.heap.objs.size + 1) (.lst ((zs.mergeSort (PySem.W.dataLe false Prod.snd)).map Prod.fst))) (sortedAll s.heap its (List.toArray out)) (s.heap.objs.size + 1) (.lst ((zs.mergeSort (PySem.W.dataLe false Prod.snd)).map Prod.fst)) :=
    ⟨by rw [ho3.length, ho1]; exact hlen, out, e, ho3, he⟩
  exact ⟨.ref (s.heap.objs.size + 1), _, I.laid (t' := s.toks) (fun b o h => sortedAll_old h) (Nat.le_succ _) new, rfl, q _ (I.hok.fresh (Nat.le_succ _))⟩
end K22
set_option Elab.async false
set_option linter.all false
set_option maxRecDepth 100000
set_option maxHeartbeats 4000000
/-! A tree's text and what is read from it. 40 opens, 41 closes, 46 is a slot. Plain Lean. -/
namespace K22
namespace Tr
def txt : Tr → List Nat
  | leaf => [46]
  | node l r => 40 :: (txt l ++ (txt r ++ [41]))
theorem txt_len : ∀ T : Tr, T.txt.length + 2 = 3 * T.m
  | leaf => rfl
  | node l r => by
    have h1 := txt_len l
    have h2 := txt_len r
    show (40 :: (txt l ++ (txt r ++ [41]))).length + 2 = 3 * (l.m + r.m)
    rw [List.length_cons, List.length_append, List.length_append, List.length_singleton]
    omega
/-- how a subtree is named: 1 a slot, 2 a fork -/
def ptr (o : Nat) : Tr → Nat × Nat
  | leaf => (1, o)
  | node l _ => (2, o + l.m - 1)
structure Row where
  f : Nat
  l : Nat × Nat
  r : Nat × Nat
  sp : Nat × Nat
  bd : Nat × Nat
def row (o p : Nat) (l r : Tr) : Row := ⟨o + l.m - 1, ptr o l, ptr (o + l.m) r, (o, o + (l.m + r.m) - 1), (p, p + 1 + l.txt.length + r.txt.length + 1)⟩
/-- after the children -/
def rows (o p : Nat) : Tr → List Row
  | leaf => []
  | node l r => rows o (p + 1) l ++ (rows (o + l.m) (p + 1 + l.txt.length) r ++ [row o p l r])
/-- between the children -/
def asc (o p : Nat) : Tr → List Row
  | leaf => []
  | node l r => asc o (p + 1) l ++ row o p l r :: asc (o + l.m) (p + 1 + l.txt.length) r
theorem asc_perm : ∀ (T : Tr) (o p : Nat), (asc o p T).Perm (rows o p T)
  | leaf, _, _ => .refl _
  | node l r, o, p => by
    show (asc o (p + 1) l ++ row o p l r :: asc (o + l.m) (p + 1 + l.txt.length) r).Perm (rows o (p + 1) l ++ (rows (o + l.m) (p + 1 + l.txt.length) r ++ [row o p l r]))
    refine (asc_perm l o (p + 1)).append (((asc_perm r _ _).cons _).trans ?_)
    exact (List.perm_append_comm (l₁ := [row o p l r])).trans (.refl _)
theorem asc_len : ∀ (T : Tr) (o p : Nat), (asc o p T).length + 1 = T.m
  | leaf, _, _ => rfl
  | node l r, o, p => by
    have h1 := asc_len l o (p + 1)
    have h2 := asc_len r (o + l.m) (p + 1 + l.txt.length)
    show (asc o (p + 1) l ++ row o p l r :: asc (o + l.m) (p + 1 + l.txt.length) r).length + 1 = l.m + r.m
    rw [List.length_append, List.length_cons]
    omega
theorem asc_in : ∀ (T : Tr) (o p : Nat), ∀ x ∈ asc o p T, o ≤ x.f ∧ x.f + 1 < o + T.m
  | leaf, _, _, x, h => by cases h
  | node l r, o, p, x, h => by
    have hl := m_pos l
    have hr := m_pos r
    show o ≤ x.f ∧ x.f + 1 < o + (l.m + r.m)
    rcases List.mem_append.mp h with h | h
    · have := asc_in l o (p + 1) x h; omega
    · rcases List.mem_cons.mp h with rfl | h
      · show o ≤ o + l.m - 1 ∧ o + l.m - 1 + 1 < _; omega
      · have := asc_in r (o + l.m) _ x h; omega
theorem asc_up : ∀ (T : Tr) (o p : Nat), (asc o p T).Pairwise fun a b => a.f < b.f
  | leaf, _, _ => .nil
  | node l r, o, p => by
    have hl := m_pos l
    refine List.pairwise_append.mpr ⟨asc_up l _ _, List.pairwise_cons.mpr ⟨fun x hx => ?_, asc_up r _ _⟩, fun x hx y hy => ?_⟩
    · have := asc_in r _ _ x hx
      show o + l.m - 1 < x.f; omega
    · have h1 := asc_in l _ _ x hx
      rcases List.mem_cons.mp hy with rfl | hy
      · show x.f < o + l.m - 1; omega
      · have := asc_in r _ _ y hy; omega
/-- the row of the fork f stands at its place -/
theorem asc_at : ∀ (T : Tr) (o p i : Nat), i + 1 < T.m → ∃ x, (asc o p T)[i]? = some x ∧ x.f = o + i ∧ x.sp = span o T (o + i)
  | leaf, o, p, i, h => by have : (leaf).m = 1 := rfl; omega
  | node l r, o, p, i, h => by
    have h : i + 1 < l.m + r.m := h
    have hl := m_pos l
    have al := asc_len l o (p + 1)
    rw [span_node]
    show ∃ x, (asc o (p + 1) l ++ row o p l r :: asc (o + l.m) (p + 1 + l.txt.length) r)[i]? = some x ∧ _
    by_cases c1 : i + 1 < l.m
    · obtain ⟨x, h1, h2, h3⟩ := asc_at l o (p + 1) i c1
      refine ⟨x, by rw [List.getElem?_append_left (by omega)]; exact h1, h2, ?_⟩
      rw [if_neg (by omega), if_pos (by omega)]; exact h3
    · by_cases c2 : i + 1 = l.m
      · refine ⟨row o p l r, ?_, by show o + l.m - 1 = o + i; omega, by rw [if_pos (by omega)]; rfl⟩
        rw [List.getElem?_append_right (by omega), show i - (asc o (p + 1) l).length = 0 by omega]; rfl
      · obtain ⟨x, h1, h2, h3⟩ := asc_at r (o + l.m) (p + 1 + l.txt.length) (i - l.m) (by omega)
        have e1 : o + l.m + (i - l.m) = o + i := by omega
        rw [e1] at h2 h3
        refine ⟨x, ?_, h2, ?_⟩
        · rw [List.getElem?_append_right (by omega), show i - (asc o (p + 1) l).length = (i - l.m) + 1 by omega]
          exact h1
        · rw [if_neg (by omega), if_neg (by omega)]; exact h3
/-- every fork of a part of the tree has its children in the table -/
def Lk (lf : Nat → Option ((Nat × Nat) × (Nat × Nat))) (o : Nat) : Tr → Prop
  | leaf => True
  | node l r => lf (o + l.m - 1) = some (ptr o l, ptr (o + l.m) r) ∧ Lk lf o l ∧ Lk lf (o + l.m) r
theorem lk_of (lf : Nat → Option ((Nat × Nat) × (Nat × Nat))) : ∀ (T : Tr) (o p : Nat), (∀ x ∈ asc o p T, lf x.f = some (x.l, x.r)) → Lk lf o T
  | leaf, _, _, _ => trivial
  | node l r, o, p, h => ⟨h (row o p l r) (List.mem_append_right _ List.mem_cons_self), lk_of lf l o (p + 1) fun x hx => h x (List.mem_append_left _ hx), lk_of lf r _ _ fun x hx => h x (List.mem_append_right _ (List.mem_cons_of_mem _ hx))⟩
/-! ### the reading machine -/
structure Nd where
  w : Nat
  a : Nat
  b : Nat
  c : Nat
  p : Nat
structure RS where
  stk : List Nd
  rows : List Row
  slots : Nat
def step (st : RS) (place sign : Nat) : Option RS :=
  if sign = 40 then some ⟨st.stk ++ [⟨0, 0, 0, 0, place⟩], st.rows, st.slots⟩
  else if sign = 46 then some ⟨st.stk ++ [⟨1, st.slots, st.slots, st.slots, place⟩], st.rows, st.slots + 1⟩
  else if sign = 41 then match st.stk.reverse with
    | r :: l :: op :: base => if r.w ≠ 0 ∧ l.w ≠ 0 ∧ op.w = 0 then some ⟨base.reverse ++ [⟨2, l.c, l.b, r.c, op.p⟩], st.rows ++ [⟨l.c, (l.w, l.a), (r.w, r.a), (l.b, r.c), (op.p, place + 1)⟩], st.slots⟩ else none
    | _ => none
  else none
def reads (st : RS) (place : Nat) : List Nat → Option RS
  | [] => some st
  | a :: t => (step st place a).bind fun st' => reads st' (place + 1) t
theorem reads_app (st : RS) (place : Nat) (a b : List Nat) : reads st place (a ++ b) = (reads st place a).bind fun st' => reads st' (place + a.length) b := by
  induction a generalizing st place with
  | nil => rfl
  | cons x a ih =>
    show (step st place x).bind _ = ((step st place x).bind _).bind _
    cases step st place x with
    | none => rfl
    | some st' =>
      show reads st' (place + 1) (a ++ b) = (reads st' (place + 1) a).bind _
      rw [ih, List.length_cons]
      congr 1
      funext s
      congr 1
      omega
def nd (o p : Nat) : Tr → Nd
  | leaf => ⟨1, o, o, o, p⟩
  | node l r => ⟨2, o + l.m - 1, o, o + (l.m + r.m) - 1, p⟩
theorem nd_w (T : Tr) (o p : Nat) : (nd o p T).w ≠ 0 := by
  cases T with
  | leaf => show (1 : Nat) ≠ 0; decide
  | node l r => show (2 : Nat) ≠ 0; decide
theorem nd_ptr (T : Tr) (o p : Nat) : ((nd o p T).w, (nd o p T).a) = ptr o T := by cases T <;> rfl
theorem nd_b (T : Tr) (o p : Nat) : (nd o p T).b = o := by cases T <;> rfl
theorem nd_c (T : Tr) (o p : Nat) : (nd o p T).c = o + T.m - 1 := by
  cases T with
  | leaf => show o = o + 1 - 1; omega
  | node l r => rfl
theorem reads_txt : ∀ (T : Tr) (st : RS) (place : Nat) (rest : List Nat), reads st place (T.txt ++ rest) = reads ⟨st.stk ++ [nd st.slots place T], st.rows ++ rows st.slots place T, st.slots + T.m⟩ (place + T.txt.length) rest
  | leaf, st, place, rest => by
    show reads ⟨st.stk ++ [⟨1, st.slots, st.slots, st.slots, place⟩], st.rows, st.slots + 1⟩ (place + 1) rest = _
    show _ = reads ⟨_, st.rows ++ [], _⟩ _ rest
    rw [List.append_nil]; rfl
  | node l r, st, place, rest => by
    have e1 : (node l r).txt ++ rest = 40 :: (l.txt ++ (r.txt ++ (41 :: rest))) := by
      show 40 :: (txt l ++ (txt r ++ [41])) ++ rest = _
      simp
    rw [e1]
    show reads ⟨st.stk ++ [⟨0, 0, 0, 0, place⟩], st.rows, st.slots⟩ (place + 1) (l.txt ++ (r.txt ++ (41 :: rest))) = _
    rw [reads_txt l, reads_txt r]
    show (step ⟨st.stk ++ [⟨0, 0, 0, 0, place⟩] ++ [nd st.slots (place + 1) l] ++ [nd (st.slots + l.m) (place + 1 + l.txt.length) r], _, _⟩ (place + 1 + l.txt.length + r.txt.length) 41).bind _ = _
    have es : (st.stk ++ [(⟨0, 0, 0, 0, place⟩ : Nd)] ++ [nd st.slots (place + 1) l] ++ [nd (st.slots + l.m) (place + 1 + l.txt.length) r]).reverse = nd (st.slots + l.m) (place + 1 + l.txt.length) r :: nd st.slots (place + 1) l :: ⟨0, 0, 0, 0, place⟩ :: st.stk.reverse := by simp
    unfold step
    rw [if_neg (by decide), if_neg (by decide), if_pos rfl]
    show (match (st.stk ++ [(⟨0, 0, 0, 0, place⟩ : Nd)] ++ [nd st.slots (place + 1) l] ++ [nd (st.slots + l.m) (place + 1 + l.txt.length) r]).reverse with
      | r :: l :: op :: base => _
      | _ => none : Option RS).bind _ = _
    rw [es]
    dsimp only
    rw [if_pos ⟨nd_w _ _ _, nd_w _ _ _, rfl⟩]
    show reads _ (place + 1 + l.txt.length + r.txt.length + 1) rest = _
    have hl := m_pos l
    have hr := m_pos r
    have e2 : (node l r).txt.length = 1 + l.txt.length + r.txt.length + 1 := by
      show (40 :: (txt l ++ (txt r ++ [41]))).length = _
      rw [List.length_cons, List.length_append, List.length_append, List.length_singleton]; omega
    rw [e2, nd_c, nd_b, nd_c, nd_ptr, nd_ptr, List.reverse_reverse]
    have e3 : st.slots + (node l r).m = st.slots + l.m + r.m := by show _ + (l.m + r.m) = _; omega
    rw [e3, show place + (1 + l.txt.length + r.txt.length + 1) = place + 1 + l.txt.length + r.txt.length + 1 by omega]
    congr 1
    congr 1
    · show _ ++ [(⟨2, st.slots + l.m - 1, st.slots, st.slots + l.m + r.m - 1, place⟩ : Nd)] = st.stk ++ [⟨2, st.slots + l.m - 1, st.slots, st.slots + (l.m + r.m) - 1, place⟩]
      rw [Nat.add_assoc st.slots l.m r.m]
    · show st.rows ++ rows st.slots (place + 1) l ++ rows (st.slots + l.m) (place + 1 + l.txt.length) r ++ [(⟨st.slots + l.m - 1, ptr st.slots l, ptr (st.slots + l.m) r, (st.slots, st.slots + l.m + r.m - 1), (place, place + 1 + l.txt.length + r.txt.length + 1)⟩ : Row)]
        = st.rows ++ (rows st.slots (place + 1) l ++ (rows (st.slots + l.m) (place + 1 + l.txt.length) r ++ [row st.slots place l r]))
      unfold row
      rw [Nat.add_assoc st.slots l.m r.m, List.append_assoc, List.append_assoc]
theorem reads_whole (T : Tr) : reads ⟨[], [], 0⟩ 0 T.txt = some ⟨[nd 0 0 T], rows 0 0 T, T.m⟩ := by
  have := reads_txt T ⟨[], [], 0⟩ 0 []
  rw [List.append_nil] at this
  rw [this]
  show some _ = _
  rw [List.nil_append, List.nil_append, Nat.zero_add]
/-- what a step that goes on sees -/
theorem step_close {st st' : RS} {place : Nat} (h : step st place 41 = some st') : ∃ base op l r, st.stk = base ++ [op, l, r] ∧ op.w = 0 ∧ l.w ≠ 0 ∧ r.w ≠ 0 ∧
    st' = ⟨base ++ [⟨2, l.c, l.b, r.c, op.p⟩], st.rows ++ [⟨l.c, (l.w, l.a), (r.w, r.a), (l.b, r.c), (op.p, place + 1)⟩], st.slots⟩ := by
  unfold step at h
  rw [if_neg (by decide), if_neg (by decide), if_pos rfl] at h
  split at h
  · rename_i r l op base es
    split at h
    · rename_i c
      have h := Option.some.inj h
      refine ⟨base.reverse, op, l, r, ?_, c.2.2, c.2.1, c.1, h.symm⟩
      have := congrArg List.reverse es
      rw [List.reverse_reverse] at this
      rw [this]; simp
    · cases h
  · cases h
theorem step_sign {st st' : RS} {place a : Nat} (h : step st place a = some st') : a = 40 ∨ a = 46 ∨ a = 41 := by
  unfold step at h
  split at h
  · exact .inl (by assumption)
  · split at h
    · exact .inr (.inl (by assumption))
    · split at h
      · exact .inr (.inr (by assumption))
      · cases h
theorem step_len {st st' : RS} {place a : Nat} (h : step st place a = some st') : st'.stk.length ≤ st.stk.length + 1 ∧ st'.rows.length ≤ st.rows.length + 1 ∧ st'.slots ≤ st.slots + 1 := by
  rcases step_sign h with rfl | rfl | rfl
  · have := Option.some.inj (show some (⟨st.stk ++ [⟨0, 0, 0, 0, place⟩], st.rows, st.slots⟩ : RS) = some st' from h)
    rw [← this]
    simp
  · have := Option.some.inj (show some (⟨st.stk ++ [⟨1, st.slots, st.slots, st.slots, place⟩], st.rows, st.slots + 1⟩ : RS) = some st' from h)
    rw [← this]
    simp
  · obtain ⟨base, op, l, r, e, _, _, _, rfl⟩ := step_close h
    rw [e]
    simp
/-- the next sign of a text that is read whole -/
theorem reads_next {z : List Nat} {st0 stF : RS} (h : reads st0 0 z = some stF) {i a : Nat} (ha : z[i]? = some a) {st : RS} (hs : reads st0 0 (z.take i) = some st) : ∃ st', step st i a = some st' ∧ reads st0 0 (z.take (i + 1)) = some st' := by
  obtain ⟨hi, rfl⟩ := List.getElem?_eq_some_iff.mp ha
  have e : z = z.take i ++ z[i] :: z.drop (i + 1) := by rw [← List.drop_eq_getElem_cons hi, List.take_append_drop]
  have hl : (z.take i).length = i := by rw [List.length_take]; omega
  rw [e, reads_app, hs] at h
  have h : reads st (0 + (z.take i).length) (z[i] :: z.drop (i + 1)) = some stF := h
  rw [hl, Nat.zero_add] at h
  have h : (step st i z[i]).bind _ = some stF := h
  cases hst : step st i z[i] with
  | none => rw [hst] at h; cases h
  | some st' =>
    refine ⟨st', rfl, ?_⟩
    rw [List.take_add_one, List.getElem?_eq_getElem hi, reads_app, hs]
    show reads st (0 + (z.take i).length) [z[i]] = _
    rw [hl, Nat.zero_add]
    show (step st i z[i]).bind _ = _
    rw [hst]; rfl
/-! ### the ways, laid -/
/-- the ways of a part of the tree behind w -/
def wl (o : Nat) (t : Tr) (w : List (Nat × Nat)) : List (List (Nat × Nat)) := (List.range t.m).map fun i => w ++ way o t (o + i)
theorem wl_leaf (o : Nat) (w : List (Nat × Nat)) : wl o leaf w = [w] := by
  show [w ++ []] = [w]
  rw [List.append_nil]
theorem wl_node (o : Nat) (l r : Tr) (w : List (Nat × Nat)) : wl o (node l r) w = wl o l (w ++ [(o + l.m - 1, 76)]) ++ wl (o + l.m) r (w ++ [(o + l.m - 1, 82)]) := by
  unfold wl
  show (List.range (l.m + r.m)).map _ = _
  rw [List.range_add, List.map_append, List.map_map]
  congr 1
  · refine List.map_congr_left fun i hi => ?_
    have hi := List.mem_range.mp hi
    rw [way_node, if_pos (by omega), List.append_assoc]; rfl
  · refine List.map_congr_left fun i hi => ?_
    show w ++ way o (node l r) (o + (l.m + i)) = _
    rw [way_node, if_neg (by omega), List.append_assoc, Nat.add_assoc]; rfl
end Tr
end K22
set_option Elab.async false
set_option linter.all false
set_option maxRecDepth 100000
set_option maxHeartbeats 4000000
namespace K22
open PySem PySem.Spec PyProof.Rows L2
/-- all tuples stay -/
def TupK (H H' : Hp) : Prop := ∀ b xs, H b = some (.tup xs) → H' b = some (.tup xs)
theorem TupK.of {H H' : Hp} (h : Same H H') : TupK H H' := fun _ _ q => h _ _ q
theorem TupK.refl (H : Hp) : TupK H H := fun _ _ q => q
theorem TupK.trans {H H1 H2 : Hp} (h : TupK H H1) (g : TupK H1 H2) : TupK H H2 := fun _ _ q => g _ _ (h _ _ q)
theorem TupK.new {H H' : Hp} {d : Addr} {o : HO} (e : TupK H H') (h : H' d = none) : TupK H (upd H' d o) := fun b u q => by
  rw [upd_ne (ne_of_none (e b u q) h)]; exact e b u q
theorem TupK.lst {H H' : Hp} {d : Addr} {xs : List V} {o : HO} (e : TupK H H') (h : H' d = some (.lst xs)) : TupK H (upd H' d o) := fun b u q => by
  have := e b u q
  rw [upd_ne (fun z => by rw [z, h] at this; cases this)]; exact this
def word : Nat → Str
  | 0 => ("open" : Str)
  | 1 => ("slot" : Str)
  | _ => ("fork" : Str)
theorem word0 (w : Nat) : decide (V.str (word w) = V.str ("open" : Str)) = decide (w = 0) := by
  match w with
  | 0 => rfl
  | 1 => rfl
  | n + 2 =>
    rw [decide_eq_false (show ¬ n + 2 = 0 by omega)]
    rfl
theorem word1 {w : Nat} (h : w ≠ 0) : decide (V.str (word w) = V.str ("slot" : Str)) = decide (w = 1) := by
  match w, h with
  | 1, _ => rfl
  | n + 2, _ =>
    rw [decide_eq_false (show ¬ n + 2 = 1 by omega)]
    rfl
def NdAt (H : Hp) (v : V) (n : Tr.Nd) : Prop := ∃ a, v = .ref a ∧ H a = some (.tup [.str (word n.w), nV n.a, nV n.b, nV n.c, nV n.p])
theorem NdAt.keep {H H' : Hp} (k : TupK H H') {v : V} {n : Tr.Nd} (h : NdAt H v n) : NdAt H' v n := by obtain ⟨a, h1, h2⟩ := h; exact ⟨a, h1, k _ _ h2⟩
def PtrAt (H : Hp) (v : V) (x : Nat × Nat) : Prop := ∃ a, v = .ref a ∧ H a = some (.tup [.str (word x.1), nV x.2])
theorem PtrAt.keep {H H' : Hp} (k : TupK H H') {v : V} {x : Nat × Nat} (h : PtrAt H v x) : PtrAt H' v x := by obtain ⟨a, h1, h2⟩ := h; exact ⟨a, h1, k _ _ h2⟩
theorem PairAt.keep {H H' : Hp} (k : TupK H H') {v : V} {x : Nat × Nat} (h : PairAt H v x) : PairAt H' v x := by obtain ⟨a, h1, h2⟩ := h; exact ⟨a, h1, k _ _ h2⟩
theorem StepAt.keep {H H' : Hp} (k : TupK H H') {v : V} {x : Nat × Nat} (h : StepAt H v x) : StepAt H' v x := by obtain ⟨a, h1, h2⟩ := h; exact ⟨a, h1, k _ _ h2⟩
theorem WayAt.keep {H H' : Hp} (k : TupK H H') {v : V} {x : List (Nat × Nat)} (h : WayAt H v x) : WayAt H' v x := by obtain ⟨a, vs, h1, h2, h3⟩ := h; exact ⟨a, vs, h1, k _ _ h2, h3.mono fun _ _ h => h.keep k⟩
def RowF (H : Hp) (v : V) (x : Tr.Row) : Prop := ∃ a b c d e, v = .ref a ∧ H a = some (.tup [nV x.f, b, c, d, e]) ∧ PtrAt H b x.l ∧ PtrAt H c x.r ∧ PairAt H d x.sp ∧ PairAt H e x.bd
theorem RowF.keep {H H' : Hp} (k : TupK H H') {v : V} {x : Tr.Row} (h : RowF H v x) : RowF H' v x := by
  obtain ⟨a, b, c, d, e, h1, h2, h3, h4, h5, h6⟩ := h
  exact ⟨a, b, c, d, e, h1, k _ _ h2, h3.keep k, h4.keep k, h5.keep k, h6.keep k⟩
section
variable {P : Program} {w : World} {K : PySem.W.Frag} {mg : Str → Option Value} {base : Heap}
def spEF : Sp := fun vs H Q _ => ∃ (a : Addr) (xs : List V) (bs : List Tr.Nd) (op l r : Tr.Nd), vs = [.ref a] ∧ H a = some (.lst xs) ∧ All2 (NdAt H) xs (bs ++ [op, l, r]) ∧ op.w = 0 ∧ l.w ≠ 0 ∧ r.w ≠ 0 ∧ ∀ H' : Hp, Same H H' → Q (.bl true) H'
theorem ok_ends_fork (T : Tb mg) (F : Df K mg "ends_fork" s_ends_fork) : Cl P w K mg base 1 "ends_fork" spEF := by
  refine cl_mk F sc_ends_fork (fun vs H Q E h => ?_) (fun _ _ _ _ _ _ us hl => match us, hl with | [_], _ => rfl) (fun f cdv A outer s H vs Q E hr h => ?_)
  · obtain ⟨_, _, _, _, _, _, rfl, _⟩ := h; rfl
  · have hu := hu_of hr
    obtain ⟨a, xs, bs, op, l, r, rfl, ha, hxs, h1, h2, h3, q⟩ := h
    refine ⟨_, PSs.nox (pss_one (ps_ret (pe_cmpR (op_eqD hr.units) (pe_lc (own := [("node", 1)]) (by rfl) sc_ends_fork.nd (pi_list (pe_slice sl_list (pv 0) (po_some (pe_un un_neg pe_int)) po_none)) (blkOk_by (own := [("node", 1)]) (N := n_ends_fork) (sc := defScope s_ends_fork) (by decide +kernel)) (fun _ _ _ _ _ => (pg_name (i := 1) sc_ends_fork.nd rfl (Or.inl rfl))) (fun _ _ _ _ _ => pts_nil) (fun _ _ _ _ _ => (pe_cmpR op_eq (pe_ix (ix_tupK (K := K) rfl) (pv 1) pe_int (fun _ _ => rfl)) pe_str (nomark _)))) (pe_lst (pa_cons pe_bl (pa_cons pe_bl (pa_cons pe_bl pa_nil)))) (nomark _)))), ?_⟩
    obtain ⟨us, v1, ws1, rfl, hus, hv1, hws1⟩ := hxs.split
    cases hws1 with
    | cons hv2 hws2 =>
    cases hws2 with
    | cons hv3 hws3 =>
    cases hws3
    rename_i v2 v3
    have hcut : cutV (us ++ v1 :: [v2, v3]) (some (-3)) none = [v1, v2, v3] := by
      have hl : (us ++ v1 :: [v2, v3]).length = us.length + 3 := by simp
      unfold cutV
      have e1 : HT.sIx (us ++ v1 :: [v2, v3]).length 0 (some (-3)) = us.length := by
        rw [hl]
        show (if (-3 : Int) < 0 then ((-3 : Int) + ((us.length + 3 : Nat) : Int)).toNat else min (-3 : Int).toNat (us.length + 3)) = _
        rw [if_pos (by decide)]; omega
      rw [e1]
      show (List.drop us.length (us ++ v1 :: [v2, v3])).take ((us ++ v1 :: [v2, v3]).length - us.length) = _
      rw [List.drop_append_of_le_length (Nat.le_refl _), List.drop_length, hl]
      simp
    refine ⟨_, rfl, _, rfl, _, rfl, _, _, rfl, SqL.of ha, fun p hp => ?_⟩
    rw [hcut]
    have s0 := (Same.refl H).new (o := .lst [v1, v2, v3]) hp
    refine ⟨p, rfl, ⟨_, SqL.of upd_same⟩, fun D hD => ?_⟩
    refine lc_pre (wf_list (K := K) (a := p) [(v1, op), (v2, l), (v3, r)] Prod.fst) (fun pre H' => Same (upd H p (.lst [v1, v2, v3])) H' ∧ H' D = some (.lst (pre.map fun z => V.bl (decide (z.2.w = 0))))) ?_ ?_ ?_ ?_
    · exact ⟨(Same.refl _).new hD, upd_same⟩
    · rintro pre H' ⟨s1, _⟩
      exact SqL.of (s1 _ _ upd_same)
    · rintro pre z post H' e ⟨s1, hd⟩
      have hz : NdAt H z.1 z.2 := by
        have : z ∈ [(v1, op), (v2, l), (v3, r)] := by rw [e]; simp
        simp at this
        rcases this with rfl | rfl | rfl
        · exact hv1
        · exact hv2
        · exact hv3
      obtain ⟨za, ez, hza⟩ := hz
      have hpre : pre.length ≤ 100 := by
        have := congrArg List.length e
        simp at this
        omega
      refine ⟨rfl, ?_⟩
      refine ⟨_, rfl, za, _, 0, _, ez, rfl, SqT.of (s1 _ _ (s0 _ _ hza)), rfl, rfl, _, hd, ?_, s1.put hD, ?_⟩
      · rw [List.length_map]; exact small100 hpre
      · rw [upd_same, List.map_append, word0]; rfl
    · rintro H' ⟨s1, hd⟩
      rw [show ([(v1, op), (v2, l), (v3, r)].map fun z : V × Tr.Nd => V.bl (decide (z.2.w = 0))) = [V.bl true, V.bl false, V.bl false] by
        show [V.bl (decide (op.w = 0)), V.bl (decide (l.w = 0)), V.bl (decide (r.w = 0))] = _
        rw [decide_eq_true h1, decide_eq_false h2, decide_eq_false h3]] at hd
      have h3' : 3 ≤ sizeLine := Nat.le_of_lt (small100 (by omega))
      refine ⟨h3', fun p2 hp2 => ?_⟩
      have ne : D ≠ p2 := ne_of_none hd hp2
      refine ⟨.list [.bool true, .bool false, .bool false], .list [.bool true, .bool false, .bool false], .lst (SqL.of (by rw [upd_ne ne]; exact hd)) (.cons (.bl _) (.cons (.bl _) (.cons (.bl _) .nil))), .lst (SqL.of upd_same) (.cons (.bl _) (.cons (.bl _) (.cons (.bl _) .nil))), rfl, rfl, ?_⟩
      exact q _ ((s0.trans s1).new hp2)
end
end K22
set_option Elab.async false
set_option linter.all false
set_option maxRecDepth 100000
set_option maxHeartbeats 4000000
namespace K22
open PySem PySem.Spec PyProof.Rows L2
theorem sgn40 (a : Nat) : decide (V.str ⟨#[a]⟩ = V.str ("(" : Str)) = decide (a = 40) := by
  have : decide (V.str ⟨#[a]⟩ = V.str ("(" : Str)) = decide ([a] = [40]) := sV_dec [a] [40]
  rw [this]; simp
theorem sgn46 (a : Nat) : decide (V.str ⟨#[a]⟩ = V.str ("." : Str)) = decide (a = 46) := by
  have : decide (V.str ⟨#[a]⟩ = V.str ("." : Str)) = decide ([a] = [46]) := sV_dec [a] [46]
  rw [this]; simp
theorem sgn41 (a : Nat) : decide (V.str ⟨#[a]⟩ = V.str (")" : Str)) = decide (a = 41) := by
  have : decide (V.str ⟨#[a]⟩ = V.str (")" : Str)) = decide ([a] = [41]) := sV_dec [a] [41]
  rw [this]; simp
theorem rSlA_to {K : PySem.W.Frag} {H : Hp} {a : Addr} {x1 x2 x3 x4 x5 : V} {Q : VK} (h : H a = some (.tup [x1, x2, x3, x4, x5])) (q : ∀ p H2, H2 = upd H p (.tup [x1, x2]) → H p = none → Q (.ref p) H2) : rSlA K (.ref a) none (some 2) H Q := by
  refine ⟨a, _, rfl, SqT.of h, fun hw => ?_, fun hw p hp => ?_⟩
  · have := hw.2
    exact absurd this (show ¬ HT.sIx 5 5 (some 2) = 5 by decide)
  · exact q p _ rfl hp
theorem take_len_le {α : Type} (z : List α) (i : Nat) : (z.take i).length ≤ i := by rw [List.length_take]; omega
theorem reads_len : ∀ (z : List Nat) (st st' : Tr.RS) (place : Nat), Tr.reads st place z = some st' → st'.stk.length ≤ st.stk.length + z.length ∧ st'.rows.length ≤ st.rows.length + z.length
  | [], st, st', place, h => by
    have h : some st = some st' := h
    rw [Option.some.inj h]; simp
  | a :: z, st, st', place, h => by
    have h : (Tr.step st place a).bind (fun s => Tr.reads s (place + 1) z) = some st' := h
    cases hs : Tr.step st place a with
    | none => rw [hs] at h; cases h
    | some s1 =>
      rw [hs] at h
      have := reads_len z s1 st' (place + 1) h
      have := Tr.step_len hs
      rw [List.length_cons]; omega
section
variable {P : Program} {w : World} {K : PySem.W.Frag} {mg : Str → Option Value} {base : Heap}
def spRF : Sp := fun vs H Q _ => ∃ T : Tr, vs = [sV T.txt] ∧ T.m ≤ 64 ∧ ∀ (H' : Hp) (r : Addr) (rs : List V), Same H H' → H r = none → H' r = some (.lst rs) → All2 (RowF H') rs (Tr.rows 0 0 T) → Q (.ref r) H'
/-- where read_forks stands -/
structure Rd0 (H H' : Hp) (z : List Nat) (i : Nat) (sk rk : Addr) (st : Tr.RS) (vs rs : List V) : Prop where
  run : Tr.reads ⟨[], [], 0⟩ 0 (z.take i) = some st
  same : Same H H'
  sk0 : H sk = none
  rk0 : H rk = none
  ne : sk ≠ rk
  sk1 : H' sk = some (.lst vs)
  rk1 : H' rk = some (.lst rs)
  stk : All2 (NdAt H') vs st.stk
  rows : All2 (RowF H') rs st.rows
theorem Rd0.len {H H' : Hp} {z : List Nat} {i : Nat} {sk rk : Addr} {st : Tr.RS} {vs rs : List V} (h : Rd0 H H' z i sk rk st vs rs) : vs.length ≤ i ∧ rs.length ≤ i := by
  have := reads_len _ _ _ _ h.run
  have h2 := take_len_le z i
  rw [h.stk.len, h.rows.len]
  simp at this
  omega
/-- both lists as they stand -/
structure Tk (H H' : Hp) (sk rk : Addr) (vs rs : List V) : Prop where
  s : Same H H'
  s0 : H sk = none
  r0 : H rk = none
  ne : sk ≠ rk
  h1 : H' sk = some (.lst vs)
  h2 : H' rk = some (.lst rs)
theorem Tk.new {H H' : Hp} {sk rk p : Addr} {vs rs : List V} (t : Tk H H' sk rk vs rs) (o : HO) (hp : H' p = none) : Tk H (upd H' p o) sk rk vs rs ∧ TupK H' (upd H' p o) :=
  ⟨⟨t.s.new hp, t.s0, t.r0, t.ne, by rw [upd_ne (fun e => by rw [← e, t.h1] at hp; cases hp)]; exact t.h1, by rw [upd_ne (fun e => by rw [← e, t.h2] at hp; cases hp)]; exact t.h2⟩, (TupK.refl H').new hp⟩
theorem Tk.setS {H H' : Hp} {sk rk : Addr} {vs rs : List V} (t : Tk H H' sk rk vs rs) (ws : List V) : Tk H (upd H' sk (.lst ws)) sk rk ws rs ∧ TupK H' (upd H' sk (.lst ws)) :=
  ⟨⟨t.s.put t.s0, t.s0, t.r0, t.ne, upd_same, by rw [upd_ne t.ne.symm]; exact t.h2⟩, (TupK.refl H').lst t.h1⟩
theorem Tk.setR {H H' : Hp} {sk rk : Addr} {vs rs : List V} (t : Tk H H' sk rk vs rs) (ws : List V) : Tk H (upd H' rk (.lst ws)) sk rk vs ws ∧ TupK H' (upd H' rk (.lst ws)) :=
  ⟨⟨t.s.put t.r0, t.s0, t.r0, t.ne, by rw [upd_ne t.ne]; exact t.h1, upd_same⟩, (TupK.refl H').lst t.h2⟩
theorem All2.keepN {H H' : Hp} (k : TupK H H') {vs : List V} {xs : List Tr.Nd} (h : All2 (NdAt H) vs xs) : All2 (NdAt H') vs xs := h.mono fun _ _ h => h.keep k
theorem All2.keepR {H H' : Hp} (k : TupK H H') {vs : List V} {xs : List Tr.Row} (h : All2 (RowF H) vs xs) : All2 (RowF H') vs xs := h.mono fun _ _ h => h.keep k
theorem dropLast_app {α : Type} (xs : List α) (y : α) : (xs ++ [y]).dropLast = xs := List.dropLast_concat
theorem last_app {α : Type} (xs : List α) (y : α) : (xs ++ [y])[(xs ++ [y]).length - 1]? = some y := by simp
theorem ok_read_forks (T : Tb mg) (F : Df K mg "read_forks" s_read_forks) (c_ends_fork : Cl P w K mg base 1 "ends_fork" spEF) : Cl P w K mg base 2 "read_forks" spRF := by
  refine cl_mk F sc_read_forks (fun vs H Q E h => ?_) (fun _ _ _ _ _ _ us hl => match us, hl with | [_], _ => rfl) (fun f cdv A outer s H vs Q E hr h => ?_)
  · obtain ⟨_, rfl, _⟩ := h; rfl
  · have hu := hu_of hr
    obtain ⟨Tt, rfl, m64, q⟩ := h
    refine ⟨_, PSs.nox (pss_cons (ps_set (i := 1) sc_read_forks.nd rfl (Or.inl rfl) (pe_lst pa_nil))
    (pss_cons (ps_set (i := 2) sc_read_forks.nd rfl (Or.inl rfl) (pe_lst pa_nil))
    (pss_cons (ps_set (i := 3) sc_read_forks.nd rfl (Or.inl rfl) pe_int)
    (pss_cons (ps_for PassesOwn.never rfl (pi_enumS (by rfl) T.n_enumerate (pa_cons (pv 0) pa_nil)) (pg_tup (by rfl) (pgs_cons (pg_name (i := 4) sc_read_forks.nd rfl (Or.inl rfl)) (pgs_cons (pg_name (i := 5) sc_read_forks.nd rfl (Or.inl rfl)) pgs_nil)))
      (pss_one (ps_if (pt_cmpR op_eq (pv 5) pe_str (nomark _))
        (pss_one (ps_expr (pe_bm PySem.F.plainAttrs_list PySem.F.slot_list_append PySem.F.type_list_append mt_append (pv 1) (pa_cons (pe_tup (pa_cons pe_str (pa_cons pe_int (pa_cons pe_int (pa_cons pe_int (pa_cons (pv 4) pa_nil)))))) pa_nil))))
        (pss_one (ps_if (pt_cmpR op_eq (pv 5) pe_str (nomark _))
          (pss_cons (ps_expr (pe_bm PySem.F.plainAttrs_list PySem.F.slot_list_append PySem.F.type_list_append mt_append (pv 1) (pa_cons (pe_tup (pa_cons pe_str (pa_cons (pv 3) (pa_cons (pv 3) (pa_cons (pv 3) (pa_cons (pv 4) pa_nil)))))) pa_nil)))
          (pss_one (ps_set (i := 3) sc_read_forks.nd rfl (Or.inl rfl) (pe_op op_add (pv 3) pe_int))))
          (pss_one (ps_if (PW.pt (pw_and (pt_cmpR op_eq (pv 5) pe_str (nomark _)) (pw_and1 (pt_val (pe_cl c_ends_fork hr (by decide) rfl (pa_cons (pv 1) pa_nil))))))
            (pss_cons (ps_set (i := 6) sc_read_forks.nd rfl (Or.inl rfl) (pe_bm0 PySem.F.plainAttrs_list PySem.F.slot_list_pop PySem.F.type_list_pop mt_pop (pv 1)))
            (pss_cons (ps_set (i := 7) sc_read_forks.nd rfl (Or.inl rfl) (pe_bm0 PySem.F.plainAttrs_list PySem.F.slot_list_pop PySem.F.type_list_pop mt_pop (pv 1)))
            (pss_cons (ps_asg (pe_tup (pa_cons (pe_ix ix_tup (pv 7) pe_int (fun _ _ => rfl)) (pa_cons (pe_ix ix_tup (pv 7) pe_int (fun _ _ => rfl)) (pa_cons (pe_ix ix_tup (pv 6) pe_int (fun _ _ => rfl)) (pa_cons (pe_ix ix_tup (pe_bm0 PySem.F.plainAttrs_list PySem.F.slot_list_pop PySem.F.type_list_pop mt_pop (pv 1)) pe_int (fun _ _ => rfl)) pa_nil))))) (pg_tup (by rfl) (pgs_cons (pg_name (i := 8) sc_read_forks.nd rfl (Or.inl rfl)) (pgs_cons (pg_name (i := 9) sc_read_forks.nd rfl (Or.inl rfl)) (pgs_cons (pg_name (i := 10) sc_read_forks.nd rfl (Or.inl rfl)) (pgs_cons (pg_name (i := 11) sc_read_forks.nd rfl (Or.inl rfl)) pgs_nil))))))
            (pss_cons (ps_expr (pe_bm PySem.F.plainAttrs_list PySem.F.slot_list_append PySem.F.type_list_append mt_append (pv 2) (pa_cons (pe_tup (pa_cons (pv 9) (pa_cons (pe_slice sl_tupA (pv 7) po_none (po_some pe_int)) (pa_cons (pe_slice sl_tupA (pv 6) po_none (po_some pe_int)) (pa_cons (pe_tup (pa_cons (pv 8) (pa_cons (pv 10) pa_nil))) (pa_cons (pe_tup (pa_cons (pv 11) (pa_cons (pe_op op_add (pv 4) pe_int) pa_nil))) pa_nil)))))) pa_nil)))
            (pss_one (ps_expr (pe_bm PySem.F.plainAttrs_list PySem.F.slot_list_append PySem.F.type_list_append mt_append (pv 1) (pa_cons (pe_tup (pa_cons pe_str (pa_cons (pv 9) (pa_cons (pv 8) (pa_cons (pv 10) (pa_cons (pv 11) pa_nil)))))) pa_nil))))))))
            (pss_one (ps_ret pe_non)))))))))
    (pss_cons (ps_if (PW.pt (pw_or (pt_cmpR op_ne (pe_callB call_len_seq (by rfl) T.n_len (by decide +kernel) (pa_cons (pv 1) pa_nil)) pe_int (nomark _)) (pw_or1 (pt_cmpR op_eq (pe_ix ix_tup (pe_ix ix_list (pv 1) pe_int (fun _ _ => rfl)) pe_int (fun _ _ => rfl)) pe_str (nomark _)))))
      (pss_one (ps_ret pe_non))
      pss_nil)
    (pss_one (ps_ret (pv 2)))))))), ?_⟩
    have hwhole := Tr.reads_whole Tt
    have hlen := Tr.txt_len Tt
    refine ⟨Nat.zero_le _, fun sk hsk => ⟨Nat.zero_le _, fun rk hrk => ?_⟩⟩
    have nsr : sk ≠ rk := ne_of_none upd_same hrk
    have hrk0 : H rk = none := by rw [upd_ne nsr.symm] at hrk; exact hrk
    refine ⟨_, rfl, _, rfl, for_it (walk_enumS Tt.txt)
      (fun i σ H' => ∃ st vs rs v4 v5 v6 v7 v8 v9 v10 v11, Rd0 H H' Tt.txt i sk rk st vs rs ∧ σ = [some (sV Tt.txt), some (.ref sk), some (.ref rk), some (nV st.slots), v4, v5, v6, v7, v8, v9, v10, v11]) ?_ ?_ ?_ ?_⟩
    · refine ⟨⟨[], [], 0⟩, [], [], _, _, _, _, _, _, _, _, ⟨rfl, ((Same.refl H).new hsk).new hrk, hsk, hrk0, nsr, by rw [upd_ne nsr]; exact upd_same, upd_same, .nil, .nil⟩, rfl⟩
    · intro _ _ _ _ _; trivial
    · rintro i x σ H1 H2 hi ⟨st, vs, rs, v4, v5, v6, v7, v8, v9, v10, v11, R, rfl⟩ ⟨tp, a, rfl, htp, rfl, ha⟩
      obtain ⟨st', hst, hrun⟩ := Tr.reads_next hwhole ha R.run
      have hl := R.len
      have i200 : i ≤ 200 := by omega
      have k0 := (TupK.refl H1).new (o := .tup [nV i, .str ⟨#[a]⟩]) htp
      have s0 := R.same.new (o := .tup [nV i, .str ⟨#[a]⟩]) htp
      have ntp : tp ≠ sk := fun e => by rw [e, R.sk1] at htp; cases htp
      have ntr : tp ≠ rk := fun e => by rw [e, R.rk1] at htp; cases htp
      refine ⟨tp, _, rfl, SqT.of upd_same, rfl, _, _, rfl, _, _, rfl, rfl, ?_⟩
      generalize hH2 : upd H1 tp (.tup [nV i, .str ⟨#[a]⟩]) = H2 at k0 s0
      have hsk2 : H2 sk = some (.lst vs) := by rw [← hH2, upd_ne ntp.symm]; exact R.sk1
      have hrk2 : H2 rk = some (.lst rs) := by rw [← hH2, upd_ne ntr.symm]; exact R.rk1
      have hstk2 := All2.keepN k0 R.stk
      have hrows2 := All2.keepR k0 R.rows
      have h5 : 5 ≤ sizeLine := Nat.le_of_lt (small100 (by omega))
      have hln : ∀ n, n ≤ 300 → n < sizeLine := fun n h => Nat.lt_of_le_of_lt h (by decide)
      rcases Tr.step_sign hst with rfl | rfl | rfl
      · refine ⟨_, rfl, rfl, _, rfl, ifT (by rw [sgn40]; rfl) ?_⟩
        refine ⟨_, rfl, .inl ⟨rfl, _, SqL.of hsk2⟩, _, rfl, h5, fun p hp => ?_⟩
        have nps : p ≠ sk := fun e => by rw [e, hsk2] at hp; cases hp
        have npr : p ≠ rk := fun e => by rw [e, hrk2] at hp; cases hp
        have hst' := Option.some.inj (show some (⟨st.stk ++ [⟨0, 0, 0, 0, i⟩], st.rows, st.slots⟩ : Tr.RS) = some st' from hst)
        subst hst'
        refine ⟨sk, vs, _, rfl, rfl, by rw [upd_ne nps.symm]; exact hsk2, hln _ (by omega), ?_⟩
        have k1 := (TupK.refl H2).new (o := .tup [.str ("open" : Str), .int 0, .int 0, .int 0, nV i]) hp
        have k2 := k1.lst (d := sk) (o := .lst (vs ++ [.ref p])) (by rw [upd_ne nps.symm]; exact hsk2)
        refine ⟨_, _, rs, _, _, _, _, _, _, _, _, ⟨hrun, (s0.new hp).put R.sk0, R.sk0, R.rk0, R.ne, upd_same, ?_, (All2.keepN k2 hstk2).app (.cons ⟨p, rfl, ?_⟩ .nil), All2.keepR k2 hrows2⟩, rfl⟩
        · rw [upd_ne R.ne.symm, upd_ne npr.symm]; exact hrk2
        · rw [upd_ne nps, upd_same]; rfl
      · refine ⟨_, rfl, rfl, _, rfl, ifF (by rw [sgn40]; rfl) ?_⟩
        refine ⟨_, rfl, rfl, _, rfl, ifT (by rw [sgn46]; rfl) ?_⟩
        refine ⟨_, rfl, .inl ⟨rfl, _, SqL.of hsk2⟩, _, rfl, _, rfl, _, rfl, _, rfl, h5, fun p hp => ?_⟩
        have nps : p ≠ sk := fun e => by rw [e, hsk2] at hp; cases hp
        have npr : p ≠ rk := fun e => by rw [e, hrk2] at hp; cases hp
        have hst' := Option.some.inj (show some (⟨st.stk ++ [⟨1, st.slots, st.slots, st.slots, i⟩], st.rows, st.slots + 1⟩ : Tr.RS) = some st' from hst)
        subst hst'
        refine ⟨sk, vs, _, rfl, rfl, by rw [upd_ne nps.symm]; exact hsk2, hln _ (by omega), ?_⟩
        have k1 := (TupK.refl H2).new (o := .tup [.str ("slot" : Str), nV st.slots, nV st.slots, nV st.slots, nV i]) hp
        have k2 := k1.lst (d := sk) (o := .lst (vs ++ [.ref p])) (by rw [upd_ne nps.symm]; exact hsk2)
        refine ⟨_, rfl, _, 1, rfl, rfl, ?_⟩
        refine ⟨_, _, rs, _, _, _, _, _, _, _, _, ⟨hrun, (s0.new hp).put R.sk0, R.sk0, R.rk0, R.ne, upd_same, ?_, (All2.keepN k2 hstk2).app (.cons ⟨p, rfl, ?_⟩ .nil), All2.keepR k2 hrows2⟩, rfl⟩
        · rw [upd_ne R.ne.symm, upd_ne npr.symm]; exact hrk2
        · rw [upd_ne nps, upd_same]; rfl
      · refine ⟨_, rfl, rfl, _, rfl, ifF (by rw [sgn40]; rfl) ?_⟩
        refine ⟨_, rfl, rfl, _, rfl, ifF (by rw [sgn46]; rfl) ?_⟩
        obtain ⟨bs, op, l, r, es, w0, w1, w2, rfl⟩ := Tr.step_close hst
        refine ⟨_, rfl, rfl, _, rfl, ifT (by rw [sgn41]; rfl) ?_⟩
        rw [es] at hstk2
        refine ⟨_, rfl, sk, vs, bs, op, l, r, rfl, hsk2, hstk2, w0, w1, w2, fun H3 s3 => ⟨true, rfl, ifT rfl ?_⟩⟩
        have t3 : Tk H H3 sk rk vs rs := ⟨s0.trans s3, R.sk0, R.rk0, R.ne, s3 _ _ hsk2, s3 _ _ hrk2⟩
        obtain ⟨us, vo, ws1, rfl, hus, hvo, hws1⟩ := (All2.keepN (TupK.of s3) hstk2).split
        cases hws1 with
        | cons hvl hws2 =>
        cases hws2 with
        | cons hvr hws3 =>
        cases hws3
        rename_i vl vr
        have evs : us ++ vo :: [vl, vr] = ((us ++ [vo]) ++ [vl]) ++ [vr] := by simp
        rw [evs] at t3 hl
        have hrows3 := All2.keepR (TupK.of s3) hrows2
        obtain ⟨oa, rfl, hoa⟩ := hvo
        obtain ⟨la, rfl, hla⟩ := hvl
        obtain ⟨ra, rfl, hra⟩ := hvr
        have hul : us.length ≤ i := by
          have := hl.1
          simp at this
          omega
        clear hst evs hstk2 hrows2 hsk2 hrk2 s3 s0 k0 hH2
        refine ⟨_, rfl, .inl ⟨rfl, _, SqL.of t3.h1⟩, sk, _, .ref ra, rfl, rfl, t3.h1, last_app _ _, ?_⟩
        rw [dropLast_app]
        obtain ⟨t4, k4⟩ := t3.setS ((us ++ [V.ref oa]) ++ [V.ref la])
        generalize upd H3 sk (.lst ((us ++ [V.ref oa]) ++ [V.ref la])) = H4 at t4 k4
        refine ⟨_, rfl, .inl ⟨rfl, _, SqL.of t4.h1⟩, sk, _, .ref la, rfl, rfl, t4.h1, last_app _ _, ?_⟩
        rw [dropLast_app]
        obtain ⟨t5, k5⟩ := t4.setS (us ++ [V.ref oa])
        generalize upd H4 sk (.lst (us ++ [V.ref oa])) = H5 at t5 k5
        have k35 := k4.trans k5
        refine ⟨_, rfl, la, _, 2, _, rfl, rfl, SqT.of (k35 _ _ hla), rfl, _, rfl, la, _, 3, _, rfl, rfl, SqT.of (k35 _ _ hla), rfl, _, rfl, ra, _, 3, _, rfl, rfl, SqT.of (k35 _ _ hra), rfl,
          _, rfl, .inl ⟨rfl, _, SqL.of t5.h1⟩, sk, _, .ref oa, rfl, rfl, t5.h1, last_app _ _, ?_⟩
        rw [dropLast_app]
        obtain ⟨t6, k6⟩ := t5.setS us
        generalize upd H5 sk (.lst us) = H6 at t6 k6
        have k36 := k35.trans k6
        refine ⟨oa, _, 4, _, rfl, rfl, SqT.of (k36 _ _ hoa), rfl, Nat.le_of_lt (small100 (show 4 ≤ 100 by omega)), fun p7 hp7 => ?_⟩
        obtain ⟨t7, k7⟩ := t6.new (.tup [nV l.b, nV l.c, nV r.c, nV op.p]) hp7
        have hp7' := upd_same (H := H6) (a := p7) (o := .tup [nV l.b, nV l.c, nV r.c, nV op.p])
        generalize upd H6 p7 (.tup [nV l.b, nV l.c, nV r.c, nV op.p]) = H7 at t7 k7 hp7'
        have k37 := k36.trans k7
        refine ⟨p7, _, rfl, SqT.of hp7', rfl, _, _, rfl, _, _, rfl, _, _, rfl, _, _, rfl, rfl, ?_⟩
        -- rows.append(..)
        refine ⟨_, rfl, .inl ⟨rfl, _, SqL.of t7.h2⟩, _, rfl, _, rfl, _, rfl, ?_⟩
        refine rSlA_to (K := K) (k37 _ _ hla) fun p8 H8 eH8 hp8 => ?_
        obtain ⟨t8, k8⟩ := t7.new (.tup [.str (word l.w), nV l.a]) hp8
        rw [← eH8] at t8 k8
        have h8 : H8 p8 = some (.tup [.str (word l.w), nV l.a]) := by rw [eH8, upd_same]
        have k38 := k37.trans k8
        refine ⟨_, rfl, _, rfl, ?_⟩
        refine rSlA_to (K := K) (k38 _ _ hra) fun p9 H9 eH9 hp9 => ?_
        obtain ⟨t9, k9⟩ := t8.new (.tup [.str (word r.w), nV r.a]) hp9
        rw [← eH9] at t9 k9
        have h9 : H9 p9 = some (.tup [.str (word r.w), nV r.a]) := by rw [eH9, upd_same]
        have k39 := k38.trans k9
        have h2' : 2 ≤ sizeLine := Nat.le_of_lt (small100 (by omega))
        refine ⟨_, rfl, _, rfl, h2', fun pa hpa => ?_⟩
        obtain ⟨ta, ka⟩ := t9.new (.tup [nV l.b, nV r.c]) hpa
        have ha' := upd_same (H := H9) (a := pa) (o := .tup [nV l.b, nV r.c])
        generalize upd H9 pa (.tup [nV l.b, nV r.c]) = Ha at ta ka ha'
        refine ⟨_, rfl, _, rfl, _, 1, rfl, rfl, h2', fun pb hpb => ?_⟩
        obtain ⟨tb, kb⟩ := ta.new (.tup [nV op.p, .int ((i : Int) + 1)]) hpb
        have hb' := upd_same (H := Ha) (a := pb) (o := .tup [nV op.p, .int ((i : Int) + 1)])
        generalize upd Ha pb (.tup [nV op.p, .int ((i : Int) + 1)]) = Hb at tb kb hb'
        refine ⟨h5, fun pc hpc => ?_⟩
        obtain ⟨tc, kc⟩ := tb.new (.tup [nV l.c, .ref p8, .ref p9, .ref pa, .ref pb]) hpc
        have hc' := upd_same (H := Hb) (a := pc) (o := .tup [nV l.c, .ref p8, .ref p9, .ref pa, .ref pb])
        generalize upd Hb pc (.tup [nV l.c, .ref p8, .ref p9, .ref pa, .ref pb]) = Hc at tc kc hc'
        refine ⟨rk, rs, _, rfl, rfl, tc.h2, hln _ (by omega), ?_⟩
        obtain ⟨td, kd⟩ := tc.setR (rs ++ [.ref pc])
        generalize upd Hc rk (.lst (rs ++ [.ref pc])) = Hd at td kd
        refine ⟨_, rfl, .inl ⟨rfl, _, SqL.of td.h1⟩, _, rfl, _, rfl, _, rfl, _, rfl, h5, fun pe hpe => ?_⟩
        obtain ⟨te, ke⟩ := td.new (.tup [.str ("fork" : Str), nV l.c, nV l.b, nV r.c, nV op.p]) hpe
        have he' := upd_same (H := Hd) (a := pe) (o := .tup [.str ("fork" : Str), nV l.c, nV l.b, nV r.c, nV op.p])
        generalize upd Hd pe (.tup [.str ("fork" : Str), nV l.c, nV l.b, nV r.c, nV op.p]) = He at te ke he'
        refine ⟨sk, us, _, rfl, rfl, te.h1, hln _ (by omega), ?_⟩
        obtain ⟨tf, kf⟩ := te.setS (us ++ [.ref pe])
        generalize upd He sk (.lst (us ++ [.ref pe])) = Hf at tf kf
        have kcf := (kd.trans ke).trans kf
        have kbf := kc.trans kcf
        have kaf := kb.trans kbf
        have k9f := ka.trans kaf
        have k8f := k9.trans k9f
        have k3f := k39.trans k9f
        refine ⟨_, _, _, _, _, _, _, _, _, _, _, ⟨hrun, tf.s, R.sk0, R.rk0, R.ne, tf.h1, tf.h2, (All2.keepN k3f hus).app (.cons ⟨pe, rfl, kf _ _ he'⟩ .nil), (All2.keepR k3f hrows3).app (.cons ⟨pc, _, _, _, _, rfl, kcf _ _ hc', ⟨p8, rfl, k8f _ _ h8⟩, ⟨p9, rfl, k9f _ _ h9⟩, ⟨pa, rfl, kaf _ _ ha'⟩, ⟨pb, rfl, kbf _ _ hb'⟩⟩ .nil)⟩, rfl⟩
    · rintro σ H1 ⟨st, vs, rs, v4, v5, v6, v7, v8, v9, v10, v11, R, rfl⟩
      have hrun := R.run
      rw [List.take_length, hwhole] at hrun
      have est := Option.some.inj hrun
      subst est
      have hstk := R.stk
      cases hstk with
      | cons hv ht =>
      cases ht
      obtain ⟨na, rfl, hna⟩ := hv
      refine ⟨_, rfl, sk, _, rfl, .inl (SqL.of R.sk1), rfl, _, rfl, ifF rfl ?_⟩
      refine ⟨_, rfl, sk, _, 0, _, rfl, rfl, SqL.of R.sk1, rfl, na, _, 0, _, rfl, rfl, SqT.of hna, rfl, rfl, _, rfl, ?_⟩
      have hw := Tr.nd_w Tt 0 0
      refine ifF (by rw [word0]; exact decide_eq_false hw) ?_
      exact ⟨_, rfl, q H1 rk rs R.same R.rk0 R.rk1 R.rows⟩
end
end K22
set_option Elab.async false
set_option linter.all false
set_option maxRecDepth 100000
set_option maxHeartbeats 4000000
namespace K22
open PySem PySem.Spec PyProof.Rows L2
/-- a part of the tree that waits on the stack -/
structure It1 where
  o : Nat
  t : Tr
  w : List (Nat × Nat)
def msr : List It1 → Nat
  | [] => 0
  | x :: r => (2 * x.t.m - 1) + msr r
theorem msr_app (a b : List It1) : msr (a ++ b) = msr a + msr b := by
  induction a with
  | nil => simp [msr]
  | cons x a ih => show (2 * x.t.m - 1) + msr (a ++ b) = _; rw [ih]; show _ = (2 * x.t.m - 1) + msr a + msr b; omega
theorem msr_len (a : List It1) : a.length ≤ msr a := by
  induction a with
  | nil => simp [msr]
  | cons x a ih =>
    have := Tr.m_pos x.t
    show a.length + 1 ≤ (2 * x.t.m - 1) + msr a
    omega
def lay : List It1 → List (List (Nat × Nat))
  | [] => []
  | x :: r => lay r ++ Tr.wl x.o x.t x.w
theorem lay_app (a b : List It1) : lay (a ++ b) = lay b ++ lay a := by
  induction a with
  | nil => simp [lay]
  | cons x a ih => show lay (a ++ b) ++ _ = _; rw [ih]; show _ = lay b ++ (lay a ++ _); rw [List.append_assoc]
def Tab (H : Hp) (ls rs : List V) (tab : Nat → Option ((Nat × Nat) × (Nat × Nat))) : Prop := ∀ f x, tab f = some x → ∃ v u, ls[f]? = some v ∧ rs[f]? = some u ∧ PtrAt H v x.1 ∧ PtrAt H u x.2
theorem Tab.keep {H H' : Hp} (k : TupK H H') {ls rs : List V} {tab : Nat → Option ((Nat × Nat) × (Nat × Nat))} (h : Tab H ls rs tab) : Tab H' ls rs tab := fun f x e => by
  obtain ⟨v, u, h1, h2, h3, h4⟩ := h f x e
  exact ⟨v, u, h1, h2, h3.keep k, h4.keep k⟩
def ItAt (H : Hp) (v : V) (x : It1) : Prop := ∃ a b c, v = .ref a ∧ H a = some (.tup [b, c]) ∧ PtrAt H b (Tr.ptr x.o x.t) ∧ WayAt H c x.w
theorem ItAt.keep {H H' : Hp} (k : TupK H H') {v : V} {x : It1} (h : ItAt H v x) : ItAt H' v x := by
  obtain ⟨a, b, c, h1, h2, h3, h4⟩ := h
  exact ⟨a, b, c, h1, k _ _ h2, h3.keep k, h4.keep k⟩
theorem waysOf_wl (T : Tr) : waysOf T = Tr.wl 0 T [] := by
  unfold waysOf Tr.wl
  refine List.map_congr_left fun i _ => ?_
  rw [Nat.zero_add]; rfl
/-- three lists as they stand -/
structure Tl (H H' : Hp) (pk wk sk : Addr) (ps ws vs : List V) : Prop where
  s : Same H H'
  p0 : H pk = none
  w0 : H wk = none
  s0 : H sk = none
  npw : pk ≠ wk
  nps : pk ≠ sk
  nws : wk ≠ sk
  h1 : H' pk = some (.lst ps)
  h2 : H' wk = some (.lst ws)
  h3 : H' sk = some (.lst vs)
section
variable {H H' : Hp} {pk wk sk p : Addr} {ps ws vs : List V}
theorem Tl.new (t : Tl H H' pk wk sk ps ws vs) (o : HO) (hp : H' p = none) : Tl H (upd H' p o) pk wk sk ps ws vs ∧ TupK H' (upd H' p o) :=
  ⟨⟨t.s.new hp, t.p0, t.w0, t.s0, t.npw, t.nps, t.nws, by rw [upd_ne (fun e => by rw [← e, t.h1] at hp; cases hp)]; exact t.h1, by rw [upd_ne (fun e => by rw [← e, t.h2] at hp; cases hp)]; exact t.h2, by rw [upd_ne (fun e => by rw [← e, t.h3] at hp; cases hp)]; exact t.h3⟩, (TupK.refl H').new hp⟩
theorem Tl.setP (t : Tl H H' pk wk sk ps ws vs) (zs : List V) : Tl H (upd H' pk (.lst zs)) pk wk sk zs ws vs ∧ TupK H' (upd H' pk (.lst zs)) :=
  ⟨⟨t.s.put t.p0, t.p0, t.w0, t.s0, t.npw, t.nps, t.nws, upd_same, by rw [upd_ne t.npw.symm]; exact t.h2, by rw [upd_ne t.nps.symm]; exact t.h3⟩, (TupK.refl H').lst t.h1⟩
theorem Tl.setW (t : Tl H H' pk wk sk ps ws vs) (zs : List V) : Tl H (upd H' wk (.lst zs)) pk wk sk ps zs vs ∧ TupK H' (upd H' wk (.lst zs)) :=
  ⟨⟨t.s.put t.w0, t.p0, t.w0, t.s0, t.npw, t.nps, t.nws, by rw [upd_ne t.npw]; exact t.h1, upd_same, by rw [upd_ne t.nws.symm]; exact t.h3⟩, (TupK.refl H').lst t.h2⟩
theorem Tl.setS (t : Tl H H' pk wk sk ps ws vs) (zs : List V) : Tl H (upd H' sk (.lst zs)) pk wk sk ps ws zs ∧ TupK H' (upd H' sk (.lst zs)) :=
  ⟨⟨t.s.put t.s0, t.p0, t.w0, t.s0, t.npw, t.nps, t.nws, by rw [upd_ne t.nps]; exact t.h1, by rw [upd_ne t.nws]; exact t.h2, upd_same⟩, (TupK.refl H').lst t.h3⟩
end
theorem Tl.cat {H H' H5 : Hp} {pk wk sk : Addr} {ps ws vs : List V} (t : Tl H H' pk wk sk ps ws vs) (h : H5 = H' ∨ ∃ p o, H' p = none ∧ H5 = upd H' p (.tup o)) : Tl H H5 pk wk sk ps ws vs ∧ TupK H' H5 := by
  rcases h with rfl | ⟨p, o, hp, rfl⟩
  · exact ⟨t, TupK.refl _⟩
  · exact t.new _ hp
theorem All2.keepI {H H' : Hp} (k : TupK H H') {vs : List V} {xs : List It1} (h : All2 (ItAt H) vs xs) : All2 (ItAt H') vs xs := h.mono fun _ _ h => h.keep k
theorem All2.keepW {H H' : Hp} (k : TupK H H') {vs : List V} {xs : List (List (Nat × Nat))} (h : All2 (WayAt H) vs xs) : All2 (WayAt H') vs xs := h.mono fun _ _ h => h.keep k
theorem All2.last {α : Type} {R : V → α → Prop} {vs : List V} {xs : List α} {x : α} (h : All2 R vs (xs ++ [x])) : ∃ us v, vs = us ++ [v] ∧ All2 R us xs ∧ R v x := by
  obtain ⟨us, v, ws, e, h1, h2, h3⟩ := h.split
  cases h3
  exact ⟨us, v, e, h1, h2⟩
theorem snoc_cases {α : Type} (xs : List α) : xs = [] ∨ ∃ ys y, xs = ys ++ [y] := by
  rcases List.eq_nil_or_concat xs with h | ⟨ys, y, h⟩
  · exact .inl h
  · exact .inr ⟨ys, y, by rw [h, List.concat_eq_append]⟩
/-- a way and one more step -/
theorem catW {K : PySem.W.Frag} {H : Hp} {c : V} {w : List (Nat × Nat)} {x : Nat × Nat} {sa ta : Addr} {Q : VK} (hc : WayAt H c w) (h1 : H sa = some (.tup [nV x.1, sV [x.2]])) (h2 : H ta = some (.tup [.ref sa])) (hl : w.length ≤ 100)
    (q : ∀ y H', Same H H' → WayAt H' y (w ++ [x]) → (H' = H ∨ ∃ p o, H p = none ∧ H' = upd H p (.tup o)) → Q y H') : rCatA K c (.ref ta) H Q := by
  obtain ⟨a, vs, rfl, ha, hvs⟩ := hc
  refine ⟨a, ta, vs, [.ref sa], rfl, rfl, SqT.of ha, SqT.of h2, ?_, fun e => ?_, fun _ e => (by cases e), fun _ _ p hp => ?_⟩
  · rw [hvs.len]
    exact Nat.le_of_lt (Nat.lt_of_le_of_lt (show w.length + 1 ≤ 101 by omega) (by decide))
  · subst e
    cases hvs
    exact q _ H (Same.refl H) ⟨ta, _, rfl, h2, .cons ⟨sa, rfl, h1⟩ .nil⟩ (.inl rfl)
  · refine q _ _ ((Same.refl H).new hp) ⟨p, _, rfl, upd_same, ?_⟩ (.inr ⟨p, _, hp, rfl⟩)
    have k := (TupK.refl H).new (o := .tup (vs ++ [.ref sa])) hp
    exact (hvs.mono fun _ _ h => h.keep k).app (.cons ⟨sa, rfl, k _ _ h1⟩ .nil)
section
variable {P : Program} {w : World} {K : PySem.W.Frag} {mg : Str → Option Value} {base : Heap}
def spLW : Sp := fun vs H Q _ => ∃ (T : Tr) (rv : V) (la ra : Addr) (ls rs : List V) (tab : Nat → Option ((Nat × Nat) × (Nat × Nat))), vs = [rv, .ref la, .ref ra] ∧ T.m ≤ 64 ∧ PtrAt H rv (Tr.ptr 0 T) ∧ H la = some (.tup ls) ∧ H ra = some (.tup rs) ∧ Tab H ls rs tab ∧ Tr.Lk tab 0 T ∧
  ∀ (H' : Hp) (p : Addr) (a b : V), Same H H' → H' p = some (.tup [a, b]) → WaysAt H' b (waysOf T) → Q (.ref p) H'
theorem ok_lay_ways (T : Tb mg) (F : Df K mg "lay_ways" s_lay_ways) : Cl P w K mg base 1 "lay_ways" spLW := by
  refine cl_mk F sc_lay_ways (fun vs H Q E h => ?_) (fun _ _ _ _ _ _ us hl => match us, hl with | [_, _, _], _ => rfl) (fun f cdv A outer s H vs Q E hr h => ?_)
  · obtain ⟨_, _, _, _, _, _, _, rfl, _⟩ := h; rfl
  · have hu := hu_of hr
    obtain ⟨Tt, rv, la, ra, ls, rs, tab, rfl, m64, hrv, hla, hra, htab, hlk, q⟩ := h
    refine ⟨_, PSs.nox (pss_cons (ps_set (i := 3) sc_lay_ways.nd rfl (Or.inl rfl) (pe_lst pa_nil))
    (pss_cons (ps_set (i := 4) sc_lay_ways.nd rfl (Or.inl rfl) (pe_lst pa_nil))
    (pss_cons (ps_set (i := 5) sc_lay_ways.nd rfl (Or.inl rfl) (pe_lst (pa_cons (pe_tup (pa_cons (pv 0) (pa_cons (pe_tup pa_nil) pa_nil))) pa_nil)))
    (pss_cons (ps_while PassesOwn.never (pt_truth (pv 5) (by intro _; rfl))
      (pss_cons (ps_asg (pe_bm0 PySem.F.plainAttrs_list PySem.F.slot_list_pop PySem.F.type_list_pop mt_pop (pv 5)) (pg_tup (by rfl) (pgs_cons (pg_tup (by rfl) (pgs_cons (pg_name (i := 6) sc_lay_ways.nd rfl (Or.inl rfl)) (pgs_cons (pg_name (i := 7) sc_lay_ways.nd rfl (Or.inl rfl)) pgs_nil))) (pgs_cons (pg_name (i := 8) sc_lay_ways.nd rfl (Or.inl rfl)) pgs_nil))))
      (pss_one (ps_if (pt_cmpR op_eq (pv 6) pe_str (nomark _))
        (pss_one (ps_expr (pe_bm PySem.F.plainAttrs_list PySem.F.slot_list_append PySem.F.type_list_append mt_append (pv 4) (pa_cons (pv 8) pa_nil))))
        (pss_cons (ps_expr (pe_bm PySem.F.plainAttrs_list PySem.F.slot_list_append PySem.F.type_list_append mt_append (pv 3) (pa_cons (pv 7) pa_nil)))
        (pss_cons (ps_expr (pe_bm PySem.F.plainAttrs_list PySem.F.slot_list_append PySem.F.type_list_append mt_append (pv 5) (pa_cons (pe_tup (pa_cons (pe_ix ix_tup (pv 2) (pv 7) (fun _ _ => rfl)) (pa_cons (pe_op op_catA (pv 8) (pe_tup (pa_cons (pe_tup (pa_cons (pv 7) (pa_cons pe_str pa_nil))) pa_nil))) pa_nil))) pa_nil)))
        (pss_one (ps_expr (pe_bm PySem.F.plainAttrs_list PySem.F.slot_list_append PySem.F.type_list_append mt_append (pv 5) (pa_cons (pe_tup (pa_cons (pe_ix ix_tup (pv 1) (pv 7) (fun _ _ => rfl)) (pa_cons (pe_op op_catA (pv 8) (pe_tup (pa_cons (pe_tup (pa_cons (pv 7) (pa_cons pe_str pa_nil))) pa_nil))) pa_nil))) pa_nil))))))))))
    (pss_one (ps_ret (pe_tup (pa_cons (pe_callTy call_tuple_of (by rfl) T.n_tuple (by decide +kernel) (pa_cons (pv 3) pa_nil)) (pa_cons (pe_callTy call_tuple_of (by rfl) T.n_tuple (by decide +kernel) (pa_cons (pv 4) pa_nil)) pa_nil))))))))), ?_⟩
    have h2' : 2 ≤ sizeLine := Nat.le_of_lt (small100 (by omega))
    have h1' : 1 ≤ sizeLine := Nat.le_of_lt (small100 (by omega))
    refine ⟨Nat.zero_le _, fun pk hpk => ⟨Nat.zero_le _, fun wk hwk => ?_⟩⟩
    have npw : pk ≠ wk := ne_of_none upd_same hwk
    have hwk0 : H wk = none := by rw [upd_ne npw.symm] at hwk; exact hwk
    have sA := ((Same.refl H).new (o := .lst []) hpk).new (o := .lst []) hwk
    have hA1 : upd (upd H pk (.lst [])) wk (.lst []) pk = some (.lst []) := by rw [upd_ne npw]; exact upd_same
    have hA2 : upd (upd H pk (.lst [])) wk (.lst []) wk = some (.lst []) := upd_same
    generalize upd (upd H pk (.lst [])) wk (.lst []) = HA at sA hA1 hA2
    refine ⟨_, rfl, Nat.zero_le _, fun p0 hp0 => ⟨h2', fun p1 hp1 => ⟨h1', fun sk hsk => ?_⟩⟩⟩
    have sB := sA.new (o := .tup []) hp0
    have hB1 : upd HA p0 (.tup []) pk = some (.lst []) := by rw [upd_ne (fun e => by rw [← e, hA1] at hp0; cases hp0)]; exact hA1
    have hB2 : upd HA p0 (.tup []) wk = some (.lst []) := by rw [upd_ne (fun e => by rw [← e, hA2] at hp0; cases hp0)]; exact hA2
    have hB0 : upd HA p0 (.tup []) p0 = some (.tup []) := upd_same
    generalize upd HA p0 (.tup []) = HB at sB hB1 hB2 hB0 hp1 hsk
    have sC := sB.new (o := .tup [rv, .ref p0]) hp1
    have kC := (TupK.refl HB).new (o := .tup [rv, .ref p0]) hp1
    have hC1 : upd HB p1 (.tup [rv, .ref p0]) pk = some (.lst []) := by rw [upd_ne (fun e => by rw [← e, hB1] at hp1; cases hp1)]; exact hB1
    have hC2 : upd HB p1 (.tup [rv, .ref p0]) wk = some (.lst []) := by rw [upd_ne (fun e => by rw [← e, hB2] at hp1; cases hp1)]; exact hB2
    have hC3 : upd HB p1 (.tup [rv, .ref p0]) p1 = some (.tup [rv, .ref p0]) := upd_same
    have hC0 := kC _ _ hB0
    generalize upd HB p1 (.tup [rv, .ref p0]) = HC at sC hC1 hC2 hC3 hC0 hsk
    have kD := (TupK.refl HC).new (o := .lst [.ref p1]) hsk
    have tD : Tl H (upd HC sk (.lst [.ref p1])) pk wk sk [] [] [.ref p1] := ⟨sC.new hsk, hpk, hwk0, sC.free hsk, npw, (fun e => by rw [← e, hC1] at hsk; cases hsk), (fun e => by rw [← e, hC2] at hsk; cases hsk),
      by rw [upd_ne (fun e => by rw [← e, hC1] at hsk; cases hsk)]; exact hC1, by rw [upd_ne (fun e => by rw [← e, hC2] at hsk; cases hsk)]; exact hC2, upd_same⟩
    have hD3 := kD _ _ hC3
    have hD0 := kD _ _ hC0
    generalize upd HC sk (.lst [.ref p1]) = HD at tD hD3 hD0
    show tSeq _ _ _ _ _
    unfold tSeq
    dsimp only
    refine while_to (fun m σ H' => ∃ its ws ps wss vs v6 v7 v8, m = msr its ∧ Tl H H' pk wk sk ps wss vs ∧ All2 (ItAt H') vs its ∧ All2 (WayAt H') wss ws ∧ ws ++ lay its = waysOf Tt ∧ (∀ x ∈ its, Tr.Lk tab x.o x.t ∧ x.w.length + x.t.m ≤ 64) ∧ ps.length + msr its ≤ 127 ∧
        σ = [some rv, some (.ref la), some (.ref ra), some (.ref pk), some (.ref wk), some (.ref sk), v6, v7, v8])
      (fun σ H' => ∃ ws ps wss v6 v7 v8, Tl H H' pk wk sk ps wss [] ∧ All2 (WayAt H') wss ws ∧ ws = waysOf Tt ∧ σ = [some rv, some (.ref la), some (.ref ra), some (.ref pk), some (.ref wk), some (.ref sk), v6, v7, v8]) ?_ ?_ ?_
    · refine ⟨_, [⟨0, Tt, []⟩], [], [], [], [.ref p1], none, none, none, rfl, tD, .cons ⟨p1, rv, .ref p0, rfl, hD3, hrv.keep (TupK.of tD.s), ⟨p0, [], rfl, hD0, .nil⟩⟩ .nil, .nil, ?_, ?_, ?_, rfl⟩
      · show [] ++ ([] ++ Tr.wl 0 Tt []) = _
        rw [waysOf_wl]; rfl
      · intro x hx
        rw [List.mem_singleton.mp hx]
        exact ⟨hlk, by show 0 + Tt.m ≤ 64; omega⟩
      · show 0 + ((2 * Tt.m - 1) + 0) ≤ 127
        omega
    · rintro σ H' ⟨ws, ps, wss, v6, v7, v8, t, hws, rfl, rfl⟩
      refine ⟨_, rfl, pk, ps, rfl, .inl ⟨SqL.of t.h1, fun pt hpt => ?_⟩⟩
      obtain ⟨t2, k2⟩ := t.new (.tup ps) hpt
      refine ⟨_, rfl, wk, wss, rfl, .inl ⟨SqL.of t2.h2, fun wt hwt => ?_⟩⟩
      obtain ⟨t3, k3⟩ := t2.new (.tup wss) hwt
      refine ⟨h2', fun p hp => ?_⟩
      obtain ⟨t4, k4⟩ := t3.new (.tup [.ref pt, .ref wt]) hp
      refine q _ p (.ref pt) (.ref wt) t4.s upd_same ⟨wt, wss, rfl, k4 _ _ upd_same, All2.keepW ((k2.trans k3).trans k4) hws⟩
    · rintro m σ H' ⟨its, ws, ps, wss, vs, v6, v7, v8, rfl, t, hits, hws, elay, hall, hps, rfl⟩ fin
      refine ⟨_, rfl, _, .inl ⟨_, SqL.of t.h3, rfl⟩, ?_⟩
      rcases snoc_cases its with rfl | ⟨js, x, rfl⟩
      · cases hits
        exact ifF rfl (fin _ _ ⟨ws, ps, wss, v6, v7, v8, t, hws, by rw [← elay]; show ws = ws ++ []; rw [List.append_nil], rfl⟩)
      · obtain ⟨us, v, rfl, hus, hv⟩ := hits.last
        refine ifT (by simp) ⟨_, fun _ _ z => z, ?_⟩
        refine ⟨_, rfl, .inl ⟨rfl, _, SqL.of t.h3⟩, sk, _, v, rfl, rfl, t.h3, last_app _ _, ?_⟩
        rw [dropLast_app]
        obtain ⟨t1, k1⟩ := t.setS us
        generalize upd H' sk (.lst us) = H1 at t1 k1
        obtain ⟨ia, b, c, rfl, hia, hb0, hc⟩ := hv
        generalize hpr : Tr.ptr x.o x.t = pr at hb0
        obtain ⟨pw, pn⟩ := pr
        obtain ⟨ba, rfl, hba⟩ := hb0
        have hba : H' ba = some (.tup [.str (word pw), nV pn]) := hba
        have hc1 := hc.keep k1
        refine ⟨ia, _, rfl, SqT.of (k1 _ _ hia), rfl, _, _, rfl, ?_⟩
        refine ⟨ba, _, rfl, SqT.of (k1 _ _ hba), rfl, _, _, rfl, _, _, rfl, rfl, _, _, rfl, rfl, ?_⟩
        obtain ⟨hlk2, hwl⟩ := hall x (by simp)
        have hm := msr_app js [x]
        have hjs := msr_len js
        have hxm : msr [x] = 2 * x.t.m - 1 := by show (2 * x.t.m - 1) + 0 = _; omega
        have hus2 := hus.len
        have hwm : ws.length ≤ 64 := by
          have := congrArg List.length elay
          rw [List.length_append, waysOf_len] at this
          omega
        have hws2 := hws.len
        obtain ⟨xo, xt, xw⟩ := x
        cases xt with
        | leaf =>
          have hpr : (1, xo) = (pw, pn) := hpr
          have hp1 := (Prod.mk.inj hpr).1
          have hp2 := (Prod.mk.inj hpr).2
          subst hp1 hp2
          refine ⟨_, rfl, rfl, _, rfl, ifT (by rfl) ?_⟩
          refine ⟨_, rfl, .inl ⟨rfl, _, SqL.of t1.h2⟩, _, rfl, wk, wss, _, rfl, rfl, t1.h2, small100 (by omega), ?_⟩
          obtain ⟨t2, k2⟩ := t1.setW (wss ++ [c])
          have k12 := k1.trans k2
          refine ⟨msr js, by rw [hm, hxm]; have := Tr.m_pos Tr.leaf; show _ < _ + (2 * 1 - 1); omega, js, ws ++ [xw], ps, wss ++ [c], us, _, _, _, rfl, t2, All2.keepI k12 hus, (All2.keepW k12 hws).app (.cons (hc.keep k12) .nil), ?_, fun y hy => hall y (by simp [hy]), by omega, rfl⟩
          rw [← elay, lay_app, List.append_assoc]
          congr 1
          show [xw] ++ lay js = ([] ++ Tr.wl xo Tr.leaf xw) ++ lay js
          rw [Tr.wl_leaf]; rfl
        | node l r =>
          have hpr : (2, xo + l.m - 1) = (pw, pn) := hpr
          cases hpr
          have hl := Tr.m_pos l
          have hr := Tr.m_pos r
          have hwl : xw.length + (l.m + r.m) ≤ 64 := hwl
          have hmn : msr [⟨xo, Tr.node l r, xw⟩] = 2 * (l.m + r.m) - 1 := hxm
          rw [hmn] at hm
          refine ⟨_, rfl, rfl, _, rfl, ifF (by rfl) ?_⟩
          refine ⟨_, rfl, .inl ⟨rfl, _, SqL.of t1.h1⟩, _, rfl, pk, ps, _, rfl, rfl, t1.h1, Nat.lt_of_le_of_lt (show ps.length ≤ 127 by omega) (by decide), ?_⟩
          obtain ⟨t2, k2⟩ := t1.setP (ps ++ [nV (xo + l.m - 1)])
          generalize upd H1 pk (.lst (ps ++ [nV (xo + l.m - 1)])) = H2 at t2 k2
          obtain ⟨etab, hlkl, hlkr⟩ := hlk2
          have tb2 := ((htab.keep (TupK.of t2.s))) _ _ etab
          obtain ⟨vl, vr, hvl, hvr, pvl, pvr⟩ := tb2
          have k02 := k1.trans k2
          have hxw : xw.length ≤ 100 := by omega
          refine ⟨_, rfl, .inl ⟨rfl, _, SqL.of t2.h3⟩, _, rfl, _, rfl, ra, rs, _, vr, rfl, rfl, SqT.of (t2.s _ _ hra), atI_nat hvr, _, rfl, _, rfl, h2', fun q1 hq1 => ⟨h1', fun q2 hq2 => ?_⟩⟩
          obtain ⟨t3, k3⟩ := t2.new (.tup [nV (xo + l.m - 1), .str ("R" : Str)]) hq1
          have e3 := upd_same (H := H2) (a := q1) (o := .tup [nV (xo + l.m - 1), .str ("R" : Str)])
          generalize upd H2 q1 (.tup [nV (xo + l.m - 1), .str ("R" : Str)]) = H3 at t3 k3 e3 hq2
          obtain ⟨t4, k4⟩ := t3.new (.tup [.ref q1]) hq2
          have e4 := upd_same (H := H3) (a := q2) (o := .tup [.ref q1])
          generalize upd H3 q2 (.tup [.ref q1]) = H4 at t4 k4 e4
          refine catW (K := K) (x := (xo + l.m - 1, 82)) (hc1.keep ((k2.trans k3).trans k4)) (k4 _ _ e3) e4 hxw fun y5 H5 s5 hy5 either5 => ?_
          obtain ⟨t5, k5⟩ := t4.cat either5
          refine ⟨h2', fun ip hip => ?_⟩
          obtain ⟨t6, k6⟩ := t5.new (.tup [vr, y5]) hip
          have e6 := upd_same (H := H5) (a := ip) (o := .tup [vr, y5])
          generalize upd H5 ip (.tup [vr, y5]) = H6 at t6 k6 e6
          refine ⟨sk, us, _, rfl, rfl, t6.h3, Nat.lt_of_le_of_lt (show us.length ≤ 200 by omega) (by decide), ?_⟩
          obtain ⟨t7, k7⟩ := t6.setS (us ++ [.ref ip])
          generalize upd H6 sk (.lst (us ++ [.ref ip])) = H7 at t7 k7
          have k27 := (((k3.trans k4).trans k5).trans k6).trans k7
          have k67 := k6.trans k7
          -- the left one
          refine ⟨_, rfl, .inl ⟨rfl, _, SqL.of t7.h3⟩, _, rfl, _, rfl, la, ls, _, vl, rfl, rfl, SqT.of (t7.s _ _ hla), atI_nat hvl, _, rfl, _, rfl, h2', fun r1 hr1 => ⟨h1', fun r2 hr2 => ?_⟩⟩
          obtain ⟨t8, k8⟩ := t7.new (.tup [nV (xo + l.m - 1), .str ("L" : Str)]) hr1
          have e8 := upd_same (H := H7) (a := r1) (o := .tup [nV (xo + l.m - 1), .str ("L" : Str)])
          generalize upd H7 r1 (.tup [nV (xo + l.m - 1), .str ("L" : Str)]) = H8 at t8 k8 e8 hr2
          obtain ⟨t9, k9⟩ := t8.new (.tup [.ref r1]) hr2
          have e9 := upd_same (H := H8) (a := r2) (o := .tup [.ref r1])
          generalize upd H8 r2 (.tup [.ref r1]) = H9 at t9 k9 e9
          refine catW (K := K) (x := (xo + l.m - 1, 76)) (hc1.keep (((k2.trans k27).trans k8).trans k9)) (k9 _ _ e8) e9 hxw fun ya Ha sa hya eithera => ?_
          obtain ⟨ta, ka⟩ := t9.cat eithera
          refine ⟨h2', fun jp hjp => ?_⟩
          obtain ⟨tb, kb⟩ := ta.new (.tup [vl, ya]) hjp
          have eb := upd_same (H := Ha) (a := jp) (o := .tup [vl, ya])
          generalize upd Ha jp (.tup [vl, ya]) = Hb at tb kb eb
          refine ⟨sk, us ++ [.ref ip], _, rfl, rfl, tb.h3, Nat.lt_of_le_of_lt (show (us ++ [V.ref ip]).length ≤ 200 by rw [List.length_append, List.length_singleton]; omega) (by decide), ?_⟩
          obtain ⟨tc, kc⟩ := tb.setS (us ++ [.ref ip] ++ [.ref jp])
          generalize upd Hb sk (.lst (us ++ [.ref ip] ++ [.ref jp])) = Hc at tc kc
          have k7c := (((k8.trans k9).trans ka).trans kb).trans kc
          have kac := kb.trans kc
          have k2c := k27.trans k7c
          have k0c := k02.trans k2c
          have msr2 : msr (js ++ [⟨xo + l.m, r, xw ++ [(xo + l.m - 1, 82)]⟩] ++ [⟨xo, l, xw ++ [(xo + l.m - 1, 76)]⟩]) = msr js + (2 * r.m - 1) + (2 * l.m - 1) := by
            rw [msr_app, msr_app]; rfl
          refine ⟨_, by rw [msr2, hm]; omega, js ++ [⟨xo + l.m, r, xw ++ [(xo + l.m - 1, 82)]⟩] ++ [⟨xo, l, xw ++ [(xo + l.m - 1, 76)]⟩], ws, _, wss, _, _, _, _, rfl, tc,
            ((All2.keepI k0c hus).app (.cons ⟨ip, vr, y5, rfl, k7c _ _ (k7 _ _ e6), pvr.keep k2c, hy5.keep (k67.trans k7c)⟩ .nil)).app (.cons ⟨jp, vl, ya, rfl, kc _ _ eb, pvl.keep k2c, hya.keep kac⟩ .nil), All2.keepW k0c hws, ?_, ?_, ?_, rfl⟩
          · rw [← elay, lay_app, lay_app, lay_app]
            congr 1
            show ([] ++ Tr.wl xo l (xw ++ [(xo + l.m - 1, 76)])) ++ (([] ++ Tr.wl (xo + l.m) r (xw ++ [(xo + l.m - 1, 82)])) ++ lay js) = ([] ++ Tr.wl xo (Tr.node l r) xw) ++ lay js
            rw [Tr.wl_node]
            simp
          · intro y hy
            rcases List.mem_append.mp hy with hy | hy
            · rcases List.mem_append.mp hy with hy | hy
              · exact hall y (by simp [hy])
              · rw [List.mem_singleton.mp hy]
                refine ⟨hlkr, ?_⟩
                show (xw ++ [_]).length + r.m ≤ 64
                rw [List.length_append, List.length_singleton]; omega
            · rw [List.mem_singleton.mp hy]
              refine ⟨hlkl, ?_⟩
              show (xw ++ [_]).length + l.m ≤ 64
              rw [List.length_append, List.length_singleton]; omega
          · rw [msr2, List.length_append, List.length_singleton]; omega
end
end K22
set_option Elab.async false
set_option linter.all false
set_option maxRecDepth 100000
set_option maxHeartbeats 4000000
namespace K22
open PySem PySem.Spec PyProof.Rows L2
/-! ### the rows, sorted -/
theorem perm_lift {α β : Type} {f : α → β} {l m : List β} (h : l.Perm m) : ∀ ps : List α, ps.map f = l → ∃ ps' : List α, ps'.Perm ps ∧ ps'.map f = m := by
  induction h with
  | nil => intro ps e; exact ⟨ps, .refl _, e⟩
  | cons x _ ih =>
    intro ps e
    cases ps with
    | nil => cases e
    | cons p ps =>
      obtain ⟨e1, e2⟩ := List.cons.inj e
      obtain ⟨ps', h1, h2⟩ := ih ps e2
      exact ⟨p :: ps', h1.cons p, by rw [List.map_cons, h2, e1]⟩
  | swap x y l =>
    intro ps e
    cases ps with
    | nil => cases e
    | cons p ps =>
      cases ps with
      | nil => cases (List.cons.inj e).2
      | cons r ps =>
        obtain ⟨e1, e2⟩ := List.cons.inj e
        obtain ⟨e3, e4⟩ := List.cons.inj e2
        exact ⟨r :: p :: ps, List.Perm.swap _ _ _, by rw [List.map_cons, List.map_cons, e1, e3, e4]⟩
  | trans _ _ ih1 ih2 =>
    intro ps e
    obtain ⟨ps1, h1, h2⟩ := ih1 ps e
    obtain ⟨ps2, h3, h4⟩ := ih2 ps1 h2
    exact ⟨ps2, h3.trans h1, h4⟩
theorem tri {α : Type} {r : α → α → Prop} : ∀ {l : List α}, l.Pairwise r → ∀ a ∈ l, ∀ b ∈ l, a = b ∨ r a b ∨ r b a
  | [], _, a, ha, _, _ => by cases ha
  | x :: l, h, a, ha, b, hb => by
    obtain ⟨h1, h2⟩ := List.pairwise_cons.mp h
    rcases List.mem_cons.mp ha with rfl | ha'
    · rcases List.mem_cons.mp hb with rfl | hb'
      · exact .inl rfl
      · exact .inr (.inl (h1 b hb'))
    · rcases List.mem_cons.mp hb with rfl | hb'
      · exact .inr (.inr (h1 a ha'))
      · exact tri h2 a ha' b hb'
/-- by whole numbers that all differ, at the head of each -/
theorem lt_first (i j : Int) (r r' : List PyData) (h : i ≠ j) : PySem.W.dataLt (.tuple (.int i :: r)) (.tuple (.int j :: r')) = decide (i < j) := by
  rw [PySem.W.dataLt_tuple, PySem.W.dataLt_cons (by simp [PySem.W.alike])]
  rw [if_neg (by simp only [PyData.eqv, beq_iff_eq]; exact h), PySem.W.dataLt_int]
theorem sorted_first {α : Type} {d : α → PyData} {k : α → Int} {l m : List α} (hd : ∀ x ∈ l, ∃ r, d x = .tuple (.int (k x) :: r)) (p : m.Perm l) (h : m.Pairwise fun a b => k a < k b) : l.mergeSort (PySem.W.dataLe false d) = m := by
  have hT : PySem.W.TotalLe (PySem.W.dataLe false d) := PySem.W.sortLe_total _ _ _
  have hs : (l.mergeSort (PySem.W.dataLe false d)).Pairwise fun a b => PySem.W.dataLe false d a b = true := PySem.W.sort_pairwise hT l
  have hp : (l.mergeSort (PySem.W.dataLe false d)).Perm l := List.mergeSort_perm _ _
  have le_of : ∀ a ∈ l, ∀ b ∈ l, k a < k b → PySem.W.dataLe false d a b = true ∧ PySem.W.dataLe false d b a = false := fun a ha b hb hk => by
    obtain ⟨r, e1⟩ := hd a ha
    obtain ⟨r', e2⟩ := hd b hb
    constructor
    · show (!PySem.W.dataLt (d b) (d a)) = true
      rw [e1, e2, lt_first _ _ _ _ (by omega), decide_eq_false (by omega)]; rfl
    · show (!PySem.W.dataLt (d a) (d b)) = false
      rw [e1, e2, lt_first _ _ _ _ (by omega), decide_eq_true hk]; rfl
  refine List.Perm.eq_of_pairwise (le := fun a b => PySem.W.dataLe false d a b = true) (fun a b ha hb h1 h2 => ?_) hs ?_ (hp.trans p.symm)
  · have ha' : a ∈ l := hp.mem_iff.mp ha
    have hb' : b ∈ l := p.mem_iff.mp hb
    rcases tri h a (p.mem_iff.mpr ha') b hb with e | e | e
    · exact e
    · exact absurd h2 (by rw [(le_of a ha' b hb' e).2]; exact Bool.false_ne_true)
    · exact absurd h1 (by rw [(le_of b hb' a ha' e).2]; exact Bool.false_ne_true)
  · exact h.imp_of_mem fun ha hb hk => (le_of _ (p.mem_iff.mp ha) _ (p.mem_iff.mp hb) hk).1
def rowD (x : Tr.Row) : PyData := .tuple [.int x.f, .tuple [.str (word x.l.1), .int x.l.2], .tuple [.str (word x.r.1), .int x.r.2], .tuple [.int x.sp.1, .int x.sp.2], .tuple [.int x.bd.1, .int x.bd.2]]
theorem dp_ptr {K : PySem.W.Frag} {H : Hp} {v : V} {x : Nat × Nat} (h : PtrAt H v x) : Dp K H v (.tuple [.str (word x.1), .int x.2]) := by
  obtain ⟨a, rfl, ha⟩ := h
  exact .tup (SqT.of ha) (.cons (.str _) (.cons (.int _) .nil))
theorem dp_pair {K : PySem.W.Frag} {H : Hp} {v : V} {x : Nat × Nat} (h : PairAt H v x) : Dp K H v (.tuple [.int x.1, .int x.2]) := by
  obtain ⟨a, rfl, ha⟩ := h
  exact .tup (SqT.of ha) (.cons (.int _) (.cons (.int _) .nil))
theorem dp_row {K : PySem.W.Frag} {H : Hp} {v : V} {x : Tr.Row} (h : RowF H v x) : Dp K H v (rowD x) := by
  obtain ⟨a, b, c, d, e, rfl, ha, h1, h2, h3, h4⟩ := h
  exact .tup (SqT.of ha) (.cons (.int _) (.cons (dp_ptr h1) (.cons (dp_ptr h2) (.cons (dp_pair h3) (.cons (dp_pair h4) .nil)))))
theorem all2_of {α : Type} {R : V → α → Prop} : ∀ {ps : List (V × α)}, (∀ p ∈ ps, R p.1 p.2) → All2 R (ps.map Prod.fst) (ps.map Prod.snd)
  | [], _ => .nil
  | p :: ps, h => .cons (h p (by simp)) (all2_of fun p hp => h p (by simp [hp]))
/-- the call sorted(rows) -/
theorem sorted_rows {K : PySem.W.Frag} {H : Hp} {u : Nat} {ra : Addr} {rs : List V} {T : Tr} {Q : VK} (hr : H ra = some (.lst rs)) (h : All2 (RowF H) rs (Tr.rows 0 0 T)) (q : ∀ p ys, H p = none → All2 (RowF H) ys (Tr.asc 0 0 T) → Q (.ref p) (upd H p (.lst ys))) : rSortedZ K u [.ref ra] H Q := by
  obtain ⟨z1, z2, z3⟩ := zip_at h
  have hz : ∀ z ∈ (rs.zip (Tr.rows 0 0 T)).map fun p => (p.1, rowD p.2), ∃ p ∈ rs.zip (Tr.rows 0 0 T), z = (p.1, rowD p.2) := fun z hz => by
    obtain ⟨p, hp, rfl⟩ := List.mem_map.mp hz
    exact ⟨p, hp, rfl⟩
  refine ⟨ra, (rs.zip (Tr.rows 0 0 T)).map fun p => (p.1, rowD p.2), rfl, ?_, ?_, ?_, ?_, ?_, fun p hp => ?_⟩
  · rw [List.map_map]
    show SqL K H ra ((rs.zip (Tr.rows 0 0 T)).map Prod.fst)
    rw [z1]; exact SqL.of hr
  · intro z hz'
    obtain ⟨p, hp, rfl⟩ := hz z hz'
    exact dp_row (z3 p hp)
  · rw [List.map_map]
    exact PySem.W.AllAlike.of (enc := fun p : V × Tr.Row => rowD p.2) fun a b => by simp [rowD, PySem.W.alike, PySem.W.alikeAll]
  · rw [List.map_map]
    exact PySem.W.Sortable.tuples (enc := fun p : V × Tr.Row => rowD p.2) fun a => ⟨_, _, rfl⟩
  · intro z hz'
    obtain ⟨p, hp, rfl⟩ := hz z hz'
    simp [rowD, PyData.depth, PyData.depthAll]
  · obtain ⟨ps', hp1, hp2⟩ := perm_lift (f := Prod.snd) (Tr.asc_perm T 0 0).symm (rs.zip (Tr.rows 0 0 T)) z2
    have e : ((rs.zip (Tr.rows 0 0 T)).map fun p => (p.1, rowD p.2)).mergeSort (PySem.W.dataLe false Prod.snd) = ps'.map fun p => (p.1, rowD p.2) := by
      refine sorted_first (k := fun z => match z.2 with | .tuple (.int i :: _) => i | _ => 0) (fun z hz' => ?_) (hp1.map _) ?_
      · obtain ⟨p, hp, rfl⟩ := hz z hz'
        exact ⟨_, rfl⟩
      · rw [List.pairwise_map]
        have := Tr.asc_up T 0 0
        rw [← hp2, List.pairwise_map] at this
        exact this.imp fun {a b} hab => by
          show ((a.2.f : Nat) : Int) < ((b.2.f : Nat) : Int)
          omega
    rw [e, List.map_map]
    have hys := all2_of (ps := ps') (R := RowF H) fun p hp => z3 p (hp1.mem_iff.mp hp)
    rw [hp2] at hys
    exact q p _ hp hys
/-! ### a column of the rows, as a field -/
def colOf (H : Hp) (k : Nat) : V → V
  | .ref b => match H b with
    | some (.tup xs) => xs.getD k .non
    | _ => .non
  | _ => .non
theorem SameBut.trans {a : Addr} {H H1 H2 : Hp} (h : SameBut a H H1) (g : SameBut a H1 H2) : SameBut a H H2 := fun b o n e => g b o n (h b o n e)
def rTupOf (K : PySem.W.Frag) : List V → Hp → VK → Prop := fun xs H Q => ∃ p ys, xs = [.ref p] ∧ ((SqL K H p ys ∧ ∀ l, H l = none → Q (.ref l) (upd H l (.tup ys))) ∨ (SqT K H p ys ∧ Q (.ref p) H))
theorem col_stage {K : PySem.W.Frag} {D : Ends} {H : Hp} {t C dx ak : Addr} {fs : List (Str × V)} {i k : Nat} {f : Str} {vs : List V} {v1 v2 v3 v4 : Option V} (hc : Cls K C) (hno : NoAttr K C f) (ht : H t = some (.ins C dx fs)) (hl : fs.length < 100)
    (hi : [some (V.ref t), v1, v2, v3, v4][i]? = some (some (.ref ak))) (hak : H ak = some (.lst vs)) (hvl : vs.length ≤ 100) (hv : ∀ v ∈ vs, ∃ b xs, v = .ref b ∧ H b = some (.tup xs) ∧ k < xs.length)
    (q : ∀ Hn l, SameBut t H Hn → Hn t = some (.ins C dx (putF f (.ref l) fs)) → Hn l = some (.tup (vs.map (colOf H k))) → D.nx [some (V.ref t), v1, v2, v3, v4] Hn) :
    sFld K (tVar 0) (tCB (rTupOf K) (tCons (tLc (iList K (tVar i)) (gName 4) tYes (tOp (rIxT K) (tVar 4) (tC (.int (k : Int)))) [4]) tNil)) f D [some (V.ref t), v1, v2, v3, v4] H := by
  refine ⟨_, hi, ak, rfl, ⟨_, SqL.of hak⟩, fun L hL => ?_⟩
  refine lc_pre (wf_list (K := K) (a := ak) vs fun v => v) (fun pre H' => Same H H' ∧ H' L = some (.lst (pre.map (colOf H k)))) ⟨(Same.refl H).new hL, upd_same⟩ ?_ ?_ ?_
  · rintro pre H' ⟨s, _⟩
    rw [List.map_id']
    exact SqL.of (s _ _ hak)
  · rintro pre v post H' e ⟨s, h1⟩
    obtain ⟨b, xs, rfl, hb, hk⟩ := hv v (by rw [e]; simp)
    refine ⟨rfl, ?_⟩
    refine ⟨_, rfl, b, xs, (k : Int), xs[k], rfl, rfl, SqT.of (s _ _ hb), atI_nat (List.getElem?_eq_getElem hk), _, h1, ?_, s.put hL, ?_⟩
    · rw [List.length_map]
      rw [e, List.length_append, List.length_cons] at hvl
      exact small100 (by omega)
    · rw [upd_same, List.map_append, List.map_cons, List.map_nil]
      have : colOf H k (.ref b) = xs[k] := by
        show (match H b with | some (.tup xs) => xs.getD k V.non | _ => V.non) = _
        rw [hb]
        show xs.getD k V.non = _
        rw [List.getD_eq_getElem?_getD, List.getElem?_eq_getElem hk]; rfl
      rw [this]
  · rintro H' ⟨s, h1⟩
    refine ⟨L, _, rfl, .inl ⟨SqL.of h1, fun l hl2 => ?_⟩⟩
    have ntl : t ≠ l := ne_of_none (s _ _ ht) hl2
    refine ⟨_, rfl, t, C, dx, fs, rfl, by rw [upd_ne ntl]; exact s _ _ ht, hc, hno, by omega, ?_⟩
    refine q _ l ?_ upd_same (by rw [upd_ne ntl.symm, upd_same])
    intro b o n e
    rw [upd_ne n, upd_ne (ne_of_none (s _ _ e) hl2)]
    exact s _ _ e
end K22
set_option Elab.async false
set_option linter.all false
set_option maxRecDepth 100000
set_option maxHeartbeats 4000000
namespace K22
open PySem PySem.Spec PyProof.Rows L2
theorem atI_neg1 {α : Type} (xs : List α) (v : α) : atI (xs ++ [v]) (-1) = some v := atI_last xs v
def spTI (C : Addr) : Sp := fun vs H Q _ => ∃ (t dx : Addr) (T : Tr), vs = [.ref t, sV T.txt] ∧ H t = some (.ins C dx []) ∧ T.m ≤ 64 ∧ ∀ H' : Hp, SameBut t H H' → TreeAt C H' (.ref t) T → Q .non H'
theorem SameBut.refl (a : Addr) (H : Hp) : SameBut a H H := fun _ _ _ h => h
theorem SameBut.fld {a : Addr} {H : Hp} {o : HO} : SameBut a H (upd H a o) := fun b u n h => by rw [upd_ne n]; exact h
theorem SameBut.tup {a : Addr} {H H' : Hp} {C dx : Addr} {fs : List (Str × V)} (s : SameBut a H H') (ha : H a = some (.ins C dx fs)) : TupK H H' := fun b xs h => s b _ (fun e => by rw [e, ha] at h; cases h) h
theorem col_ptrs {H : Hp} {ys : List V} {T : List Tr.Row} (h : All2 (RowF H) ys T) : All2 (PtrAt H) (ys.map (colOf H 1)) (T.map (·.l)) ∧ All2 (PtrAt H) (ys.map (colOf H 2)) (T.map (·.r)) ∧ All2 (PairAt H) (ys.map (colOf H 3)) (T.map (·.sp)) := by
  induction h with
  | nil => exact ⟨.nil, .nil, .nil⟩
  | cons h t ih =>
    obtain ⟨i1, i2, i3⟩ := ih
    obtain ⟨a, b, c, d, e, rfl, ha, h1, h2, h3, h4⟩ := h
    have e1 : ∀ k, colOf H k (.ref a) = [nV _, b, c, d, e].getD k V.non := fun k => by
      show (match H a with | some (.tup xs) => xs.getD k V.non | _ => V.non) = _
      rw [ha]
    refine ⟨.cons ?_ i1, .cons ?_ i2, .cons ?_ i3⟩
    · rw [e1]; exact h1
    · rw [e1]; exact h2
    · rw [e1]; exact h3
theorem col_has {H : Hp} {k : Nat} (hk : k < 5) {ys : List V} {T : List Tr.Row} (h : All2 (RowF H) ys T) : ∀ v ∈ ys, ∃ b xs, v = .ref b ∧ H b = some (.tup xs) ∧ k < xs.length := by
  intro v hv
  obtain ⟨i, hi⟩ := List.getElem?_of_mem hv
  obtain ⟨x, hx, a, b, c, d, e, rfl, ha, _⟩ := h.at' hi
  exact ⟨a, _, rfl, ha, hk⟩
theorem colOf_same {a : Addr} {H H' : Hp} {C dx : Addr} {fs : List (Str × V)} (s : SameBut a H H') (ha : H a = some (.ins C dx fs)) {k : Nat} {ys : List V} {T : List Tr.Row} (h : All2 (RowF H) ys T) : ys.map (colOf H' k) = ys.map (colOf H k) := by
  refine List.map_congr_left fun v hv => ?_
  obtain ⟨i, hi⟩ := List.getElem?_of_mem hv
  obtain ⟨x, hx, b, _, _, _, _, rfl, hb, _⟩ := h.at' hi
  have hb' := s.tup ha _ _ hb
  show (match H' b with | some (.tup xs) => xs.getD k V.non | _ => V.non) = (match H b with | some (.tup xs) => xs.getD k V.non | _ => V.non)
  rw [hb, hb']
theorem tab_lk (T : Tr) : Tr.Lk (fun f => ((Tr.asc 0 0 T)[f]?).map fun x => (x.l, x.r)) 0 T := by
  refine Tr.lk_of _ T 0 0 fun x hx => ?_
  obtain ⟨i, hi⟩ := List.getElem?_of_mem hx
  have hl := Tr.asc_len T 0 0
  have hil : i < (Tr.asc 0 0 T).length := (List.getElem?_eq_some_iff.mp hi).1
  obtain ⟨y, h1, h2, _⟩ := Tr.asc_at T 0 0 i (by omega)
  have e : x = y := Option.some.inj (hi.symm.trans h1)
  subst e
  rw [Nat.zero_add] at h2
  show ((Tr.asc 0 0 T)[x.f]?).map _ = _
  rw [h2, hi]; rfl
theorem asc_spans (T : Tr) : (Tr.asc 0 0 T).map (·.sp) = spansOf T := by
  have hl := Tr.asc_len T 0 0
  refine List.ext_getElem? fun i => ?_
  by_cases c : i + 1 < T.m
  · obtain ⟨y, h1, _, h3⟩ := Tr.asc_at T 0 0 i c
    rw [List.getElem?_map, h1, spansOf_at c]
    show some y.sp = _
    rw [h3, Nat.zero_add]
  · rw [List.getElem?_eq_none (by rw [List.length_map]; omega), List.getElem?_eq_none (by rw [spansOf_len]; omega)]
theorem tab_at {H : Hp} {ls rs : List V} {T : Tr} (h1 : All2 (PtrAt H) ls ((Tr.asc 0 0 T).map (·.l))) (h2 : All2 (PtrAt H) rs ((Tr.asc 0 0 T).map (·.r))) : Tab H ls rs fun f => ((Tr.asc 0 0 T)[f]?).map fun x => (x.l, x.r) := by
  intro f x e
  cases c : (Tr.asc 0 0 T)[f]? with
  | none => simp only [c] at e; cases e
  | some y =>
    simp only [c] at e
    have e : some (y.l, y.r) = some x := e
    obtain ⟨v, hv, hv2⟩ := h1.at_ (i := f) (x := y.l) (by rw [List.getElem?_map, c]; rfl)
    obtain ⟨u, hu, hu2⟩ := h2.at_ (i := f) (x := y.r) (by rw [List.getElem?_map, c]; rfl)
    rw [← Option.some.inj e]
    exact ⟨v, u, hv, hu, hv2, hu2⟩
section
variable {P : Program} {w : World} {K : PySem.W.Frag} {mg : Str → Option Value} {base : Heap}
theorem ok_tree_init {C g : Addr} {fd : FuncData} {uM : Value} (T : Tb mg) (F : FunD K "__init__" "Tree.__init__" (defArgs s_Tree___init__) (defBody s_Tree___init__) (defScope s_Tree___init__) [] [] g fd) (tc : Tc K C) (cM : Con K C "MOST" (.int 64) uM)
    (c_read_forks : Cl P w K mg base 2 "read_forks" spRF) (c_lay_ways : Cl P w K mg base 1 "lay_ways" spLW) : FnOk P w K mg base (L2.CX P w) 3 g fd ["self", "text"] (spTI C) := by
  refine F.ok sc_Tree___init__ (fun vs H Q E h => ?_) (fun cdv A outer s H vs Q E hr h => ?_)
  · obtain ⟨_, _, _, rfl, _⟩ := h; rfl
  · obtain ⟨t, dx, Tt, rfl, ht, m64, q⟩ := h
    refine ⟨_, PSs.nox (pss_cons (ps_set (i := 2) sc_Tree___init__.nd rfl (Or.inl rfl) pe_non)
    (pss_cons (ps_if (PW.pt (pw_and (pt_val (pe_callB call_isi (by rfl) T.n_isinstance (by decide +kernel) (pa_cons (pv 1) (pa_cons (pe_bltn (v := .ty "str") (u := .type "str") (by rfl) T.n_str (by decide +kernel) rfl) pa_nil)))) (pw_and1 (pt_cmpR op_le (pe_callB call_len_str (by rfl) T.n_len (by decide +kernel) (pa_cons (pv 1) pa_nil)) (pe_op op_sub (pe_op op_mul pe_int (pe_con (pv 0) rfl)) pe_int) (nomark _)))))
      (pss_one (ps_set (i := 2) sc_Tree___init__.nd rfl (Or.inl rfl) (pe_cl c_read_forks hr (by decide) rfl (pa_cons (pv 1) pa_nil))))
      pss_nil)
    (pss_cons (ps_if (pt_cmpR op_isN (pv 2) pe_non (nomark _))
      (pss_one ps_dead)
      pss_nil)
    (pss_cons (ps_set (i := 3) sc_Tree___init__.nd rfl (Or.inl rfl) (pe_callB (cr_sortedZ hr.units) (by rfl) T.n_sorted (by decide +kernel) (pa_cons (pv 2) pa_nil)))
    (pss_cons (ps_fld (pv 0) (pv 1) rfl)
    (pss_cons (ps_fld (pv 0) (pe_callTy call_tuple_of (by rfl) T.n_tuple (by decide +kernel) (pa_cons (pe_lc (own := [("row", 4)]) (by rfl) sc_Tree___init__.nd (pi_list (pv 3)) (blkOk_by (own := [("row", 4)]) (N := n_Tree___init__) (sc := defScope s_Tree___init__) (by decide +kernel)) (fun _ _ _ _ _ => (pg_name (i := 4) sc_Tree___init__.nd rfl (Or.inl rfl))) (fun _ _ _ _ _ => pts_nil) (fun _ _ _ _ _ => (pe_ix (ix_tupK (K := K) rfl) (pv 4) pe_int (fun _ _ => rfl)))) pa_nil)) rfl)
    (pss_cons (ps_fld (pv 0) (pe_callTy call_tuple_of (by rfl) T.n_tuple (by decide +kernel) (pa_cons (pe_lc (own := [("row", 4)]) (by rfl) sc_Tree___init__.nd (pi_list (pv 3)) (blkOk_by (own := [("row", 4)]) (N := n_Tree___init__) (sc := defScope s_Tree___init__) (by decide +kernel)) (fun _ _ _ _ _ => (pg_name (i := 4) sc_Tree___init__.nd rfl (Or.inl rfl))) (fun _ _ _ _ _ => pts_nil) (fun _ _ _ _ _ => (pe_ix (ix_tupK (K := K) rfl) (pv 4) pe_int (fun _ _ => rfl)))) pa_nil)) rfl)
    (pss_cons (ps_fld (pv 0) (pe_callTy call_tuple_of (by rfl) T.n_tuple (by decide +kernel) (pa_cons (pe_lc (own := [("row", 4)]) (by rfl) sc_Tree___init__.nd (pi_list (pv 3)) (blkOk_by (own := [("row", 4)]) (N := n_Tree___init__) (sc := defScope s_Tree___init__) (by decide +kernel)) (fun _ _ _ _ _ => (pg_name (i := 4) sc_Tree___init__.nd rfl (Or.inl rfl))) (fun _ _ _ _ _ => pts_nil) (fun _ _ _ _ _ => (pe_ix (ix_tupK (K := K) rfl) (pv 4) pe_int (fun _ _ => rfl)))) pa_nil)) rfl)
    (pss_cons (ps_fld (pv 0) (pe_callTy call_tuple_of (by rfl) T.n_tuple (by decide +kernel) (pa_cons (pe_lc (own := [("row", 4)]) (by rfl) sc_Tree___init__.nd (pi_list (pv 3)) (blkOk_by (own := [("row", 4)]) (N := n_Tree___init__) (sc := defScope s_Tree___init__) (by decide +kernel)) (fun _ _ _ _ _ => (pg_name (i := 4) sc_Tree___init__.nd rfl (Or.inl rfl))) (fun _ _ _ _ _ => pts_nil) (fun _ _ _ _ _ => (pe_ix (ix_tupK (K := K) rfl) (pv 4) pe_int (fun _ _ => rfl)))) pa_nil)) rfl)
    (pss_cons (ps_fld (pv 0) (pe_callTy call_tuple_of (by rfl) T.n_tuple (by decide +kernel) (pa_cons (pe_lc (own := [("row", 4)]) (by rfl) sc_Tree___init__.nd (pi_list (pv 2)) (blkOk_by (own := [("row", 4)]) (N := n_Tree___init__) (sc := defScope s_Tree___init__) (by decide +kernel)) (fun _ _ _ _ _ => (pg_name (i := 4) sc_Tree___init__.nd rfl (Or.inl rfl))) (fun _ _ _ _ _ => pts_nil) (fun _ _ _ _ _ => (pe_ix (ix_tupK (K := K) rfl) (pv 4) pe_int (fun _ _ => rfl)))) pa_nil)) rfl)
    (pss_cons (ps_fld (pv 0) (pe_ifExp (pt_truth (pv 2) (by intro _; rfl)) (pe_tup (pa_cons pe_str (pa_cons (pe_ix ix_tup (pe_ix ix_list (pv 2) (pe_un un_neg pe_int) (fun _ _ => rfl)) pe_int (fun _ _ => rfl)) pa_nil))) (pe_tup (pa_cons pe_str (pa_cons pe_int pa_nil)))) rfl)
    (pss_one (ps_asg (pe_cl c_lay_ways hr (by decide) rfl (pa_cons (pe_fld (pv 0) rfl) (pa_cons (pe_fld (pv 0) rfl) (pa_cons (pe_fld (pv 0) rfl) pa_nil)))) (pg_tup (by rfl) (pgs_cons (pg_fld (pv 0)) (pgs_cons (pg_fld (pv 0)) pgs_nil)))))))))))))))), ?_⟩
    have hlen := Tr.txt_len Tt
    have htl : (sL Tt.txt).length ≤ sizeLine := by rw [sL_len]; exact Nat.le_trans (show Tt.txt.length ≤ 200 by omega) (by decide)
    refine ⟨_, rfl, _, _, _, _, true, rfl, .ty _, .base (.str _), kit_ty (by decide +kernel), true, rfl, ifT rfl ?_⟩
    refine ⟨_, rfl, _, rfl, htl, _, rfl, t, C, dx, [], _, _, rfl, ht, tc.cl, cM, rfl, 3, 64, rfl, rfl, .inr ⟨by decide, by decide⟩, _, 2, rfl, rfl, ((sL Tt.txt).length : Int), _, rfl, rfl, _, rfl, ifT (decide_eq_true (by rw [sL_len]; omega)) ?_⟩
    refine ⟨_, rfl, Tt, rfl, m64, fun H1 ra rs s1 hra0 hra hrs => ?_⟩
    refine ⟨_, rfl, rfl, _, rfl, ifF rfl ?_⟩
    refine ⟨_, rfl, ?_⟩
    unfold tNil
    dsimp only
    refine sorted_rows (K := K) hra hrs fun ak ys hak hys => ?_
    have s2 := s1.new (o := .lst ys) hak
    have k2 := (TupK.refl H1).new (o := .lst ys) hak
    have ht2 : upd H1 ak (.lst ys) t = some (.ins C dx []) := s2 _ _ ht
    have hak2 : upd H1 ak (.lst ys) ak = some (.lst ys) := upd_same
    have hra2 : upd H1 ak (.lst ys) ra = some (.lst rs) := ((Same.refl H1).new hak) _ _ hra
    have hrs2 := All2.keepR k2 hrs
    have hys2 := All2.keepR k2 hys
    generalize upd H1 ak (.lst ys) = H2 at s2 ht2 hak2 hra2 hrs2 hys2
    have hyl : ys.length + 1 = Tt.m := by rw [hys.len]; exact Tr.asc_len Tt 0 0
    have hrl : rs.length + 1 = Tt.m := by rw [hrs.len, ← (Tr.asc_perm Tt 0 0).length_eq]; exact Tr.asc_len Tt 0 0
    -- self.text
    refine ⟨_, rfl, _, rfl, t, C, dx, [], rfl, ht2, tc.cl, tc.no "text" (by simp), by simp, ?_⟩
    have sA : SameBut t H2 (upd H2 t (.ins C dx (putF "text" (sV Tt.txt) []))) := SameBut.fld
    have htA : upd H2 t (.ins C dx (putF "text" (sV Tt.txt) [])) t = some (.ins C dx (putF "text" (sV Tt.txt) [])) := upd_same
    show tSeq _ _ _ _ (upd H2 t (.ins C dx (putF "text" (sV Tt.txt) [])))
    generalize upd H2 t (.ins C dx (putF "text" (sV Tt.txt) [])) = HA at sA htA
    have nat_ : ∀ {b : Addr} {xs : List V}, H2 b = some (.lst xs) → b ≠ t := fun h e => by rw [e, ht2] at h; cases h
    have keep : ∀ {H' : Hp}, SameBut t H2 H' → All2 (RowF H') ys (Tr.asc 0 0 Tt) := fun s => All2.keepR (s.tup ht2) hys2
    have l1 := length_putF "text" (sV Tt.txt) []
    -- lefts
    refine col_stage (k := 1) tc.cl (tc.no "lefts" (by simp)) htA (by simp at l1; omega) rfl (sA _ _ (nat_ hak2) hak2) (by omega) (col_has (by decide) (keep sA)) fun HB lB sB htB hlB => ?_
    have sAB := sA.trans sB
    rw [colOf_same sA ht2 hys2] at hlB
    have l2 := length_putF "lefts" (.ref lB) (putF "text" (sV Tt.txt) [])
    refine col_stage (k := 2) tc.cl (tc.no "rights" (by simp)) htB (by simp at l1; omega) rfl (sAB _ _ (nat_ hak2) hak2) (by omega) (col_has (by decide) (keep sAB)) fun HC lC sC htC hlC => ?_
    have sAC := sAB.trans sC
    rw [colOf_same sAB ht2 hys2] at hlC
    have l3 := length_putF "rights" (.ref lC) (putF "lefts" (.ref lB) (putF "text" (sV Tt.txt) []))
    refine col_stage (k := 3) tc.cl (tc.no "spans" (by simp)) htC (by simp at l1; omega) rfl (sAC _ _ (nat_ hak2) hak2) (by omega) (col_has (by decide) (keep sAC)) fun HD lD sD htD hlD => ?_
    have sAD := sAC.trans sD
    rw [colOf_same sAC ht2 hys2] at hlD
    have l4 := length_putF "spans" (.ref lD) (putF "rights" (.ref lC) (putF "lefts" (.ref lB) (putF "text" (sV Tt.txt) [])))
    refine col_stage (k := 4) tc.cl (tc.no "bounds" (by simp)) htD (by simp at l1; omega) rfl (sAD _ _ (nat_ hak2) hak2) (by omega) (col_has (by decide) (keep sAD)) fun HE lE sE htE hlE => ?_
    have sAE := sAD.trans sE
    have l5 := length_putF "bounds" (.ref lE) (putF "spans" (.ref lD) (putF "rights" (.ref lC) (putF "lefts" (.ref lB) (putF "text" (sV Tt.txt) []))))
    refine col_stage (k := 0) tc.cl (tc.no "postorder" (by simp)) htE (by simp at l1; omega) rfl (sAE _ _ (nat_ hra2) hra2) (by omega) (col_has (T := Tr.rows 0 0 Tt) (by decide) (All2.keepR (sAE.tup ht2) hrs2)) fun HF lF sF htF hlF => ?_
    have sAF := sAE.trans sF
    have l6 := length_putF "postorder" (.ref lF) (putF "bounds" (.ref lE) (putF "spans" (.ref lD) (putF "rights" (.ref lC) (putF "lefts" (.ref lB) (putF "text" (sV Tt.txt) [])))))
    have hlB' := (sC.trans (sD.trans (sE.trans sF))) lB _ (fun e => by rw [e, htB] at hlB; cases hlB) hlB
    have hlC' := (sD.trans (sE.trans sF)) lC _ (fun e => by rw [e, htC] at hlC; cases hlC) hlC
    have hlD' := (sE.trans sF) lD _ (fun e => by rw [e, htD] at hlD; cases hlD) hlD
    have hra' := sAF _ _ (nat_ hra2) hra2
    have hrs' := All2.keepR (sAF.tup ht2) hrs2
    have ptrs := col_ptrs hys2
    have kAF := sAF.tup ht2
    have pB : All2 (PtrAt HF) (ys.map (colOf H2 1)) ((Tr.asc 0 0 Tt).map (·.l)) := ptrs.1.mono fun _ _ h => h.keep kAF
    have pC : All2 (PtrAt HF) (ys.map (colOf H2 2)) ((Tr.asc 0 0 Tt).map (·.r)) := ptrs.2.1.mono fun _ _ h => h.keep kAF
    have pD : All2 (PairAt HF) (ys.map (colOf H2 3)) ((Tr.asc 0 0 Tt).map (·.sp)) := ptrs.2.2.mono fun _ _ h => h.keep kAF
    have sHF : SameBut t H HF := fun b o n h => sAF b o n (s2 _ _ h)
    generalize efs : putF "postorder" (.ref lF) (putF "bounds" (.ref lE) (putF "spans" (.ref lD) (putF "rights" (.ref lC) (putF "lefts" (.ref lB) (putF "text" (sV Tt.txt) []))))) = fs at htF l6
    have flen : fs.length ≤ 6 := by simp at l1; omega
    have look : fs.lookup ("lefts" : Str) = some (.ref lB) ∧ fs.lookup ("rights" : Str) = some (.ref lC) ∧ fs.lookup ("spans" : Str) = some (.ref lD) := by
      rw [← efs]
      refine ⟨?_, ?_, ?_⟩
      · rw [lookup_putF, if_neg (by decide), lookup_putF, if_neg (by decide), lookup_putF, if_neg (by decide), lookup_putF, if_neg (by decide), lookup_putF, if_pos rfl]
      · rw [lookup_putF, if_neg (by decide), lookup_putF, if_neg (by decide), lookup_putF, if_neg (by decide), lookup_putF, if_pos rfl]
      · rw [lookup_putF, if_neg (by decide), lookup_putF, if_neg (by decide), lookup_putF, if_pos rfl]
    clear efs l1 l2 l3 l4 l5 hak2 hak
    have fin : ∀ (Hn : Hp) (p : Addr), SameBut t HF Hn → Hn t = some (.ins C dx (putF "root" (.ref p) fs)) → PtrAt Hn (.ref p) (Tr.ptr 0 Tt) →
        tAsg (tCall spLW [] E0 (tCons (tFld K (tVar 0) "root") (tCons (tFld K (tVar 0) "lefts") (tCons (tFld K (tVar 0) "rights") tNil)))) (gTup K 2 (gCons (gFld K (tVar 0) "preorder") (gCons (gFld K (tVar 0) "ways") gNil)))
          { nx := fun _ H' => Q .non H', rt := fun _ _ => False, bk := fun _ _ => False, ct := fun _ _ => False } [some (.ref t), some (sV Tt.txt), some (.ref ra), some (.ref ak), none] Hn := by
      intro Hn p sN htN hpN
      have kN := sN.tup htF
      have sHN : SameBut t H Hn := sHF.trans sN
      have e1 : (putF "root" (.ref p) fs).lookup ("root" : Str) = some (.ref p) := by rw [lookup_putF, if_pos rfl]
      have e2 : (putF "root" (.ref p) fs).lookup ("lefts" : Str) = some (.ref lB) := by rw [lookup_putF, if_neg (by decide)]; exact look.1
      have e3 : (putF "root" (.ref p) fs).lookup ("rights" : Str) = some (.ref lC) := by rw [lookup_putF, if_neg (by decide)]; exact look.2.1
      have e4 : (putF "root" (.ref p) fs).lookup ("spans" : Str) = some (.ref lD) := by rw [lookup_putF, if_neg (by decide)]; exact look.2.2
      have l7 := length_putF "root" (.ref p) fs
      generalize putF "root" (.ref p) fs = gs at htN e1 e2 e3 e4 l7
      refine ⟨_, rfl, t, C, dx, gs, _, rfl, htN, tc.cl, tc.no "root" (by simp), e1, _, rfl, t, C, dx, gs, _, rfl, htN, tc.cl, tc.no "lefts" (by simp), e2, _, rfl, t, C, dx, gs, _, rfl, htN, tc.cl, tc.no "rights" (by simp), e3, ?_⟩
      refine ⟨Tt, .ref p, lB, lC, _, _, _, rfl, m64, hpN, kN _ _ hlB', kN _ _ hlC', tab_at (pB.mono fun _ _ h => h.keep kN) (pC.mono fun _ _ h => h.keep kN), tab_lk Tt, fun H3 pp a b s3 hpp hways => ?_⟩
      have ht3 := s3 _ _ htN
      have nbt : pp ≠ t := fun e => by rw [e, ht3] at hpp; cases hpp
      refine ⟨pp, _, rfl, SqT.of hpp, rfl, _, _, rfl, ?_⟩
      refine ⟨_, rfl, t, C, dx, gs, rfl, ht3, tc.cl, tc.no "preorder" (by simp), by omega, ?_⟩
      have l8 := length_putF "preorder" a gs
      refine ⟨_, _, rfl, _, rfl, t, C, dx, _, rfl, upd_same, tc.cl, tc.no "ways" (by simp), by omega, rfl, ?_⟩
      refine q _ (fun b2 o n h => ?_) ⟨⟨t, dx, _, b, .ref lD, rfl, upd_same, ?_, ?_, ?_, ?_⟩, m64⟩
      · rw [upd_ne n, upd_ne n]; exact s3 _ _ (sHN b2 o n h)
      · rw [lookup_putF, if_pos rfl]
      · have kf : SameBut t H3 (upd (upd H3 t (.ins C dx (putF "preorder" a gs))) t (.ins C dx (putF "ways" b (putF "preorder" a gs)))) := fun b2 o n h => by rw [upd_ne n, upd_ne n]; exact h
        have kt := kf.tup ht3
        obtain ⟨wa, wvs, rfl, hw1, hw2⟩ := hways
        exact ⟨wa, wvs, rfl, kt _ _ hw1, All2.keepW kt hw2⟩
      · rw [lookup_putF, if_neg (by decide), lookup_putF, if_neg (by decide)]; exact e4
      · have kf : SameBut t H3 (upd (upd H3 t (.ins C dx (putF "preorder" a gs))) t (.ins C dx (putF "ways" b (putF "preorder" a gs)))) := fun b2 o n h => by rw [upd_ne n, upd_ne n]; exact h
        have kt := (kN.trans (TupK.of s3)).trans (kf.tup ht3)
        refine ⟨lD, _, rfl, kt _ _ hlD', ?_⟩
        rw [← asc_spans]
        exact pD.mono fun _ _ h => h.keep kt
    have h2' : 2 ≤ sizeLine := Nat.le_of_lt (small100 (by omega))
    refine ⟨_, rfl, _, .inl ⟨_, SqL.of hra', rfl⟩, ?_⟩
    cases Tt with
    | leaf =>
      cases hrs'
      refine ifF rfl ⟨h2', fun p hp => ?_⟩
      have ntp : t ≠ p := ne_of_none htF hp
      refine ⟨_, rfl, t, C, dx, fs, rfl, by rw [upd_ne ntp]; exact htF, tc.cl, tc.no "root" (by simp), by omega, ?_⟩
      refine fin _ p (fun b o n h => ?_) upd_same ⟨p, rfl, ?_⟩
      · rw [upd_ne n, upd_ne (ne_of_none h hp)]; exact h
      · rw [upd_ne ntp.symm, upd_same]; rfl
    | node l r =>
      have hrows : Tr.rows 0 0 (Tr.node l r) = (Tr.rows 0 1 l ++ Tr.rows (0 + l.m) (1 + l.txt.length) r) ++ [Tr.row 0 0 l r] := by
        show Tr.rows 0 (0 + 1) l ++ (Tr.rows (0 + l.m) (0 + 1 + l.txt.length) r ++ [Tr.row 0 0 l r]) = _
        rw [List.append_assoc, Nat.zero_add]
      rw [hrows] at hrs'
      obtain ⟨us, v, rfl, hus, a, b, c, d, e, rfl, ha, _⟩ := hrs'.last
      refine ifT (by simp) ?_
      refine ⟨_, rfl, _, rfl, ra, _, -1, _, rfl, rfl, SqL.of hra', atI_neg1 _ _, a, _, 0, _, rfl, rfl, SqT.of ha, rfl, h2', fun p hp => ?_⟩
      have ntp : t ≠ p := ne_of_none htF hp
      refine ⟨_, rfl, t, C, dx, fs, rfl, by rw [upd_ne ntp]; exact htF, tc.cl, tc.no "root" (by simp), by omega, ?_⟩
      refine fin _ p (fun b o n h => ?_) upd_same ⟨p, rfl, ?_⟩
      · rw [upd_ne n, upd_ne (ne_of_none h hp)]; exact h
      · rw [upd_ne ntp.symm, upd_same]; rfl
end
end K22
set_option Elab.async false
set_option linter.all false
set_option maxRecDepth 100000
set_option maxHeartbeats 4000000
/-! The law's box of draws: all that is known of a draw is that it lies in its range. -/
namespace K22
open PySem PySem.Spec PyProof.Rows L2
/-- the box stands at b; G is the heap without it -/
structure BxOf (G H : Hp) (b ga ma : Addr) (gs ms : List Int) (st : Int) : Prop where
  same : Same G H
  gb : G b = none
  gg : G ga = none
  gm : G ma = none
  n1 : b ≠ ga
  n2 : b ≠ ma
  n3 : ga ≠ ma
  hb : H b = some (.lst [.ref ga, .ref ma, .int st])
  hg : H ga = some (.lst (gs.map V.int))
  hm : H ma = some (.lst (ms.map V.int))
  ne : ms ≠ []
  lg : gs.length ≤ 63
  lm : ms.length ≤ 63
  rg : ∀ m ∈ ms, 0 ≤ m ∧ m < 2147483647
def Bx (G H : Hp) (b : Addr) : Prop := ∃ ga ma gs ms st, BxOf G H b ga ma gs ms st
theorem Bx.same {G H : Hp} {b : Addr} (B : Bx G H b) : Same G H := by obtain ⟨_, _, _, _, _, B⟩ := B; exact B.same
theorem Bx.ref {G H : Hp} {b : Addr} (B : Bx G H b) : ∃ xs, H b = some (.lst xs) := by obtain ⟨_, _, _, _, _, B⟩ := B; exact ⟨_, B.hb⟩
/-- a new object -/
theorem Bx.new {G H : Hp} {b p : Addr} {o : HO} (B : Bx G H b) (hp : H p = none) : Bx (upd G p o) (upd H p o) b ∧ Same G (upd G p o) := by
  obtain ⟨ga, ma, gs, ms, st, B⟩ := B
  have hG : G p = none := B.same.free hp
  have nb : b ≠ p := ne_of_none B.hb hp
  have ng : ga ≠ p := ne_of_none B.hg hp
  have nm : ma ≠ p := ne_of_none B.hm hp
  refine ⟨⟨ga, ma, gs, ms, st, ⟨fun a u h => ?_, by rw [upd_ne nb]; exact B.gb, by rw [upd_ne ng]; exact B.gg, by rw [upd_ne nm]; exact B.gm, B.n1, B.n2, B.n3, by rw [upd_ne nb]; exact B.hb, by rw [upd_ne ng]; exact B.hg, by rw [upd_ne nm]; exact B.hm, B.ne, B.lg, B.lm, B.rg⟩⟩, (Same.refl G).new hG⟩
  by_cases e : a = p
  · subst e; rw [upd_same] at h ⊢; exact h
  · rw [upd_ne e] at h ⊢; exact B.same _ _ h
/-- an object of ours changed -/
theorem Bx.set {G H : Hp} {b p : Addr} {o o' : HO} (B : Bx G H b) (hp : G p = some o') : Bx (upd G p o) (upd H p o) b := by
  obtain ⟨ga, ma, gs, ms, st, B⟩ := B
  have nb : b ≠ p := fun e => by rw [← e, B.gb] at hp; cases hp
  have ng : ga ≠ p := fun e => by rw [← e, B.gg] at hp; cases hp
  have nm : ma ≠ p := fun e => by rw [← e, B.gm] at hp; cases hp
  refine ⟨ga, ma, gs, ms, st, ⟨fun a u h => ?_, by rw [upd_ne nb]; exact B.gb, by rw [upd_ne ng]; exact B.gg, by rw [upd_ne nm]; exact B.gm, B.n1, B.n2, B.n3, by rw [upd_ne nb]; exact B.hb, by rw [upd_ne ng]; exact B.hg, by rw [upd_ne nm]; exact B.hm, B.ne, B.lg, B.lm, B.rg⟩⟩
  by_cases e : a = p
  · subst e; rw [upd_same] at h ⊢; exact h
  · rw [upd_ne e] at h ⊢; exact B.same _ _ h
/-- a call that knows nothing of the box -/
theorem Bx.call {G H H' : Hp} {b : Addr} (B : Bx G H b) (s : Same H H') : ∃ G', Same G G' ∧ Bx G' H' b ∧ ∀ a o, H' a = some o → (H a = none ∨ ∀ xs, o ≠ .lst xs) → G' a = some o := by
  obtain ⟨ga, ma, gs, ms, st, B⟩ := B
  refine ⟨fun a => if a = b ∨ a = ga ∨ a = ma then none else H' a, fun a o h => ?_, ⟨ga, ma, gs, ms, st, ⟨fun a o h => ?_, if_pos (.inl rfl), if_pos (.inr (.inl rfl)), if_pos (.inr (.inr rfl)), B.n1, B.n2, B.n3, s _ _ B.hb, s _ _ B.hg, s _ _ B.hm, B.ne, B.lg, B.lm, B.rg⟩⟩, fun a o h c => ?_⟩
  · have : ¬ (a = b ∨ a = ga ∨ a = ma) := by
      rintro (e | e | e)
      · rw [e, B.gb] at h; cases h
      · rw [e, B.gg] at h; cases h
      · rw [e, B.gm] at h; cases h
    show (if _ then none else H' a) = _
    rw [if_neg this]; exact s _ _ (B.same _ _ h)
  · have h : (if a = b ∨ a = ga ∨ a = ma then none else H' a) = some o := h
    split at h
    · cases h
    · exact h
  · have : ¬ (a = b ∨ a = ga ∨ a = ma) := by
      rintro (rfl | rfl | rfl)
      · rcases c with c | c
        · rw [B.hb] at c; cases c
        · rw [s _ _ B.hb] at h; exact c _ (Option.some.inj h).symm
      · rcases c with c | c
        · rw [B.hg] at c; cases c
        · rw [s _ _ B.hg] at h; exact c _ (Option.some.inj h).symm
      · rcases c with c | c
        · rw [B.hm] at c; cases c
        · rw [s _ _ B.hm] at h; exact c _ (Option.some.inj h).symm
    show (if _ then none else H' a) = _
    rw [if_neg this]; exact h
theorem ixN_nat {n j : Nat} (h : j < n) : ixN n (j : Int) = some j := by
  unfold ixN
  rw [if_pos (by omega), if_pos (by omega), Int.toNat_natCast]
def spTk : Sp := fun vs H Q _ => ∃ (G : Hp) (b : Addr) (n : Nat), vs = [.ref b, nV n] ∧ n < 2 ^ 30 ∧ Bx G H b ∧ ∀ (H' : Hp) (r : Nat), (r < n ∨ r = 0) → Bx G H' b → Q (nV r) H'
theorem emod_nat {i : Int} {n : Nat} (h : 0 < n) : ∃ r : Nat, r < n ∧ i % (n : Int) = (r : Int) := by
  have h1 := Int.emod_nonneg i (show (n : Int) ≠ 0 by omega)
  have h2 := Int.emod_lt_of_pos i (show (0 : Int) < n by omega)
  exact ⟨(i % (n : Int)).toNat, by omega, by omega⟩
section
variable {P : Program} {w : World} {K : PySem.W.Frag} {mg : Str → Option Value} {base : Heap}
theorem ok_take (T : Tb mg) (F : Df K mg "_law_take" s__law_take) : Cl P w K mg base 1 "_law_take" spTk := by
  refine cl_mk F sc__law_take (fun vs H Q E h => ?_) (fun _ _ _ _ _ _ us hl => match us, hl with | [_, _], _ => rfl) (fun f cdv A outer s H vs Q E hr h => ?_)
  · obtain ⟨_, _, _, rfl, _⟩ := h; rfl
  · have hu := hu_of hr
    obtain ⟨G, b, n, rfl, hn, ⟨ga, ma, gs, ms, st, B⟩, q⟩ := h
    refine ⟨_, PSs.nox (pss_cons (ps_if (pt_cmpR op_lt (pv 1) pe_int (nomark _))
      (pss_one (ps_ret pe_int))
      pss_nil)
    (pss_cons (ps_set (i := 2) sc__law_take.nd rfl (Or.inl rfl) (pe_ix ix_list (pv 0) pe_int (fun _ _ => rfl)))
    (pss_cons (ps_if (pt_truth (pv 2) (by intro _; rfl))
      (pss_cons (ps_set (i := 3) sc__law_take.nd rfl (Or.inl rfl) (pe_ix ix_list (pv 2) pe_int (fun _ _ => rfl)))
      (pss_cons (ps_if (pt_cmpR op_lt (pe_op op_fdiv (pv 3) (pv 1)) pe_int (nomark _))
        (pss_one (ps_asg (pe_slice sl_list (pv 2) (po_some pe_int) po_none) (pg_sub (pv 0) pe_int set_list)))
        (pss_one (ps_asg (pe_op op_fdiv (pv 3) (pv 1)) (pg_sub (pv 2) pe_int set_list))))
      (pss_one (ps_ret (pe_op op_mod (pe_callTy call_int1 (by rfl) T.n_int (by decide +kernel) (pa_cons (pv 3) pa_nil)) (pv 1))))))
      pss_nil)
    (pss_cons (ps_set (i := 4) sc__law_take.nd rfl (Or.inl rfl) (pe_ix ix_list (pv 0) pe_int (fun _ _ => rfl)))
    (pss_cons (ps_asg (pe_op op_add (pv 4) pe_int) (pg_sub (pv 0) pe_int set_list))
    (pss_cons (ps_set (i := 5) sc__law_take.nd rfl (Or.inl rfl) (pe_ix ix_list (pv 0) pe_int (fun _ _ => rfl)))
    (pss_cons (ps_set (i := 6) sc__law_take.nd rfl (Or.inl rfl) (pe_ix ix_list (pv 5) (pe_op op_mod (pe_callTy call_int1 (by rfl) T.n_int (by decide +kernel) (pa_cons (pv 4) pa_nil)) (pe_callB call_len_seq (by rfl) T.n_len (by decide +kernel) (pa_cons (pv 5) pa_nil))) (fun _ _ => rfl)))
    (pss_cons (ps_set (i := 7) sc__law_take.nd rfl (Or.inl rfl) (pe_op op_mod (pe_callTy call_int1 (by rfl) T.n_int (by decide +kernel) (pa_cons (pe_op op_add (pe_op op_add (pe_op op_mul (pv 6) pe_int) (pe_op op_mul (pv 4) pe_int)) pe_int) pa_nil)) pe_int))
    (pss_cons (ps_set (i := 8) sc__law_take.nd rfl (Or.inl rfl) (pe_op op_mod (pe_callTy call_int1 (by rfl) T.n_int (by decide +kernel) (pa_cons (pe_op op_add (pe_op op_add (pe_op op_add (pe_op op_mul (pv 7) (pv 7)) (pe_op op_mul (pv 6) pe_int)) (pe_op op_mul (pv 4) pe_int)) pe_int) pa_nil)) pe_int))
    (pss_cons (ps_set (i := 9) sc__law_take.nd rfl (Or.inl rfl) (pe_op op_mod (pe_callTy call_int1 (by rfl) T.n_int (by decide +kernel) (pa_cons (pe_op op_add (pe_op op_add (pe_op op_mul (pv 8) (pv 8)) (pe_op op_mul (pv 7) pe_int)) (pv 4)) pa_nil)) pe_int))
    (pss_one (ps_ret (pe_op op_mod (pe_op op_fdiv (pe_callTy call_int1 (by rfl) T.n_int (by decide +kernel) (pa_cons (pv 9) pa_nil)) pe_int) (pv 1)))))))))))))), ?_⟩
    refine ⟨_, rfl, (n : Int), 2, rfl, rfl, _, rfl, ?_⟩
    by_cases c : n < 2
    · exact ifT (decide_eq_true (by omega)) (q H 0 (.inr rfl) ⟨ga, ma, gs, ms, st, B⟩)
    refine ifF (decide_eq_false (by omega)) ?_
    have hc : CDiv 0 (n : Int) := ⟨by omega, by omega⟩
    refine ⟨_, rfl, b, _, 0, _, rfl, rfl, SqL.of B.hb, rfl, ?_⟩
    refine ⟨_, rfl, _, .inl ⟨_, SqL.of B.hg, rfl⟩, ?_⟩
    cases gs with
    | cons g gs =>
      refine ifT rfl ?_
      refine ⟨_, rfl, ga, _, 0, .int g, rfl, rfl, SqL.of B.hg, atI_nat (j := 0) rfl, ?_⟩
      refine ⟨_, rfl, _, rfl, g, (n : Int), rfl, rfl, ⟨hc.1, hc.2⟩, _, 2, rfl, rfl, _, rfl, ?_⟩
      obtain ⟨r, hr1, hr2⟩ := emod_nat (i := g) (n := n) (by omega)
      have fin : ∀ H', Bx G H' b → Q (.int (g % (n : Int))) H' := fun H' B' => by
        rw [hr2]
        exact q H' r (.inl hr1) B'
      by_cases c2 : g / (n : Int) < 2
      · refine ifT (decide_eq_true c2) ?_
        refine ⟨_, rfl, _, rfl, ga, _, rfl, SqL.of B.hg, fun p hp => ?_⟩
        have nbp : b ≠ p := ne_of_none B.hb hp
        have ngp : ga ≠ p := ne_of_none B.hg hp
        have nmp : ma ≠ p := ne_of_none B.hm hp
        refine ⟨_, rfl, b, _, 0, 0, rfl, rfl, by rw [upd_ne nbp]; exact B.hb, rfl, ?_⟩
        refine ⟨_, rfl, .inl ⟨g, rfl, _, rfl, g, (n : Int), rfl, rfl, hc.1, ?_⟩⟩
        have hcut : cutV ((g :: gs).map V.int) (some 1) none = gs.map V.int := by
          have := cutV_from (xs := (g :: gs).map V.int) (b := 1) (by simp)
          exact this
        rw [hcut]
        refine fin _ ⟨p, ma, gs, ms, st, ⟨fun a o h => ?_, B.gb, B.same.free hp, B.gm, nbp, B.n2, nmp.symm, upd_same, by rw [upd_ne nbp.symm, upd_same], by rw [upd_ne B.n2.symm, upd_ne nmp]; exact B.hm, B.ne, ?_, B.lm, B.rg⟩⟩
        · rw [upd_ne (fun e => by rw [e, B.gb] at h; cases h), upd_ne (ne_of_none (B.same _ _ h) hp)]
          exact B.same _ _ h
        · have := B.lg
          rw [List.length_cons] at this
          omega
      · refine ifF (decide_eq_false c2) ?_
        refine ⟨_, rfl, _, rfl, g, (n : Int), rfl, rfl, ⟨hc.1, hc.2⟩, _, rfl, ga, _, 0, 0, rfl, rfl, B.hg, ixN_nat (j := 0) (by simp), ?_⟩
        refine ⟨_, rfl, .inl ⟨g, rfl, _, rfl, g, (n : Int), rfl, rfl, hc.1, ?_⟩⟩
        refine fin _ ⟨ga, ma, g / (n : Int) :: gs, ms, st, ⟨fun a o h => ?_, B.gb, B.gg, B.gm, B.n1, B.n2, B.n3, by rw [upd_ne B.n1]; exact B.hb, upd_same, by rw [upd_ne B.n3.symm]; exact B.hm, B.ne, B.lg, B.lm, B.rg⟩⟩
        rw [upd_ne (fun e => by rw [e, B.gg] at h; cases h)]
        exact B.same _ _ h
    | nil =>
      refine ifF rfl ?_
      refine ⟨_, rfl, b, _, 2, _, rfl, rfl, SqL.of B.hb, rfl, ?_⟩
      refine ⟨_, rfl, st, 1, rfl, rfl, _, rfl, b, _, 2, 2, rfl, rfl, B.hb, rfl, ?_⟩
      have B2 : BxOf G (upd H b (.lst [.ref ga, .ref ma, .int (st + 1)])) b ga ma [] ms (st + 1) :=
        ⟨fun a o h => by rw [upd_ne (fun e => by rw [e, B.gb] at h; cases h)]; exact B.same _ _ h, B.gb, B.gg, B.gm, B.n1, B.n2, B.n3, upd_same, by rw [upd_ne B.n1.symm]; exact B.hg, by rw [upd_ne B.n2.symm]; exact B.hm, B.ne, B.lg, B.lm, B.rg⟩
      show tSeq _ _ _ _ (upd H b (.lst [.ref ga, .ref ma, .int (st + 1)]))
      generalize upd H b (.lst [.ref ga, .ref ma, .int (st + 1)]) = H2 at B2
      refine ⟨_, rfl, b, _, 1, _, rfl, rfl, SqL.of B2.hb, rfl, ?_⟩
      have hml : 0 < ms.length := List.length_pos_iff.mpr B2.ne
      obtain ⟨j, hj1, hj2⟩ := emod_nat (i := st) (n := ms.length) hml
      obtain ⟨m, hm⟩ : ∃ m, ms[j]? = some m := ⟨ms[j], List.getElem?_eq_getElem hj1⟩
      have hat : atI (ms.map V.int) (st % ((ms.map V.int).length : Int)) = some (V.int m) := by
        rw [List.length_map, hj2]
        exact atI_nat (by rw [List.getElem?_map, hm]; rfl)
      refine ⟨_, rfl, _, rfl, .inl ⟨st, rfl, _, rfl, ma, _, rfl, .inl (SqL.of B2.hm), st, _, rfl, rfl, by rw [List.length_map]; omega, ma, _, _, _, rfl, rfl, SqL.of B2.hm, hat, ?_⟩⟩
      obtain ⟨m0, m1⟩ := B2.rg m (List.mem_of_getElem? hm)
      obtain ⟨x1, e1⟩ : ∃ x : Int, x = (m * 48271 + st * 69621 + 7919) % 2147483647 := ⟨_, rfl⟩
      obtain ⟨x2, e2⟩ : ∃ x : Int, x = (x1 * x1 + m * 40692 + st * 16807 + 101) % 2147483399 := ⟨_, rfl⟩
      have f0 := Int.emod_nonneg (m * 48271 + st * 69621 + 7919) (show (2147483647 : Int) ≠ 0 by decide)
      have f1 := Int.emod_lt_of_pos (m * 48271 + st * 69621 + 7919) (show (0 : Int) < 2147483647 by decide)
      have g0 := Int.emod_nonneg (x1 * x1 + m * 40692 + st * 16807 + 101) (show (2147483399 : Int) ≠ 0 by decide)
      have g1 := Int.emod_lt_of_pos (x1 * x1 + m * 40692 + st * 16807 + 101) (show (0 : Int) < 2147483399 by decide)
      rw [← e1] at f0 f1
      rw [← e2] at g0 g1
      refine ⟨_, rfl, m, 48271, rfl, rfl, .inr ⟨by decide, by decide⟩, _, rfl, st, 69621, rfl, rfl, .inr ⟨by decide, by decide⟩, _, _, rfl, rfl, _, 7919, rfl, rfl, .inl ⟨_, rfl, _, 2147483647, rfl, rfl, (show (0 : Int) < 2147483647 by decide), ?_⟩⟩
      refine ⟨_, rfl, _, rfl, x1, x1, congrArg V.int e1.symm, congrArg V.int e1.symm, .inl ⟨by omega, by omega⟩, _, rfl, m, 40692, rfl, rfl, .inr ⟨by decide, by decide⟩, _, _, rfl, rfl, _, rfl, st, 16807, rfl, rfl, .inr ⟨by decide, by decide⟩, _, _, rfl, rfl, _, 101, rfl, rfl, .inl ⟨_, rfl, _, 2147483399, rfl, rfl, (show (0 : Int) < 2147483399 by decide), ?_⟩⟩
      refine ⟨_, rfl, _, rfl, x2, x2, congrArg V.int e2.symm, congrArg V.int e2.symm, .inl ⟨by omega, by omega⟩, _, rfl, x1, 7, congrArg V.int e1.symm, rfl, .inr ⟨by decide, by decide⟩, _, _, rfl, rfl, _, rfl, _, st, rfl, rfl, .inl ⟨_, rfl, _, 1000000007, rfl, rfl, (show (0 : Int) < 1000000007 by decide), ?_⟩⟩
      refine ⟨_, rfl, .inl ⟨_, rfl, _, 11, rfl, rfl, ⟨by decide, by decide⟩, _, rfl, _, (n : Int), rfl, rfl, hc.1, ?_⟩⟩
      obtain ⟨r, hr1, hr2⟩ := emod_nat (i := (x2 * x2 + x1 * 7 + st) % 1000000007 / 11) (n := n) (by omega)
      show Q (.int ((x2 * x2 + x1 * 7 + st) % 1000000007 / 11 % (n : Int))) H2
      rw [hr2]
      exact q H2 r (.inl hr1) ⟨ga, ma, [], ms, st + 1, B2⟩
end
end K22
set_option Elab.async false
set_option linter.all false
set_option maxRecDepth 100000
set_option maxHeartbeats 4000000
namespace K22
open PySem PySem.Spec PyProof.Rows L2
/-- a sign, some times -/
def rRepS : R2 := fun x y H Q => ∃ (c n : Nat), x = .str ⟨#[c]⟩ ∧ y = nV n ∧ n ≤ 1000 ∧ Q (sV (List.replicate n c)) H
theorem rep_fold (c : Nat) : ∀ (n : Nat) (a : Array Nat), ((List.replicate n (#[c] : Array Nat)).foldl (· ++ ·) a).toList = a.toList ++ List.replicate n c
  | 0, a => by simp
  | n + 1, a => by
    rw [List.replicate_succ, List.foldl_cons, rep_fold c n, List.replicate_succ]
    simp
theorem op_rep_str {X : Cx} : OpR X (binaryOp .Mult) rRepS := by
  intro pins s σ H x y v u Q I rx ry h
  obtain ⟨c, n, rfl, rfl, hn, q⟩ := h
  obtain ⟨t, rfl⟩ := rx
  obtain ⟨t', rfl⟩ := ry
  have hsz : n < sizeLine := Nat.lt_of_le_of_lt hn (by decide)
  refine P.mul_str ?_ ?_ ?_ ?_
  · have h1 : ¬ ((n : Int) < -(2 ^ 63 : Int)) := by omega
    have h2 : ¬ ((n : Int) ≥ 2 ^ 63) := by omega
    rw [decide_eq_false h1, decide_eq_false h2]; rfl
  · intro h1 h2
    have h3 : (1 : Int) ≤ (2 ^ 63 - 1) / (n : Int) := Int.le_ediv_of_mul_le (by omega) (by omega)
    show ¬ ((1 : Nat) : Int) > _
    omega
  · intro h1 h2
    show Builtin.Str.tooLong (1 * (n : Int).toNat) = false
    rw [Int.toNat_natCast, Nat.one_mul]
    unfold Builtin.Str.tooLong
    exact decide_eq_false (by have := hsz; rw [sizeLine_eq] at this; omega)
  · by_cases h1 : (n : Int) < 1
    · rw [if_pos h1]
      have : n = 0 := by omega
      subst this
      exact ⟨by decide, .str Str.empty, H, I.tok _, ⟨_, rfl⟩, q⟩
    · rw [if_neg h1]
      by_cases h2 : ((n : Int) == 1 || (⟨#[c]⟩ : Str).length == 0) = true
      · rw [if_pos h2]
        have : n = 1 := by
          have h3 : ((⟨#[c]⟩ : Str).length == 0) = false := rfl
          rw [h3, Bool.or_false] at h2
          have := of_decide_eq_true h2
          omega
        subst this
        exact ⟨.str ⟨#[c]⟩, H, I, ⟨_, rfl⟩, q⟩
      · rw [if_neg h2]
        have e : (⟨(List.replicate (n : Int).toNat (#[c] : Array Nat)).foldl (· ++ ·) #[]⟩ : Str) = sL (List.replicate n c) := by
          rw [Int.toNat_natCast]
          unfold sL
          congr 1
          refine Array.toList_inj.mp ?_
          rw [rep_fold]
          simp
        show ((⟨(List.replicate (n : Int).toNat (#[c] : Array Nat)).foldl (· ++ ·) #[]⟩ : Str)).length ≤ sizeLine ∧ EP X pins σ Q (.str ⟨(List.replicate (n : Int).toNat (#[c] : Array Nat)).foldl (· ++ ·) #[]⟩ s.toks) _
        rw [e]
        exact ⟨by rw [sL_len, List.length_replicate]; omega, .str (sL (List.replicate n c)), H, I.tok _, ⟨_, rfl⟩, q⟩
theorem map_nV_inj {a b : List Nat} (h : a.map nV = b.map nV) : a = b := by
  induction a generalizing b with
  | nil => cases b with
    | nil => rfl
    | cons _ _ => cases h
  | cons x a ih => cases b with
    | nil => cases h
    | cons y b =>
      obtain ⟨h1, h2⟩ := List.cons.inj h
      have : x = y := by have := V.int.inj h1; omega
      rw [this, ih h2]
section
variable {P : Program} {w : World} {K : PySem.W.Frag} {mg : Str → Option Value} {base : Heap}
theorem ok_law_is_integer (T : Tb mg) (F : Df K mg "_law_is_integer" s__law_is_integer) : Cl P w K mg base 1 "_law_is_integer" (spII K) := by
  refine cl_mk F sc__law_is_integer (fun vs H Q E h => ?_) (fun _ _ _ _ _ _ us hl => match us, hl with | [_], _ => rfl) (fun f cdv A outer s H vs Q E hr h => ?_)
  · obtain ⟨_, _, rfl, _⟩ := h; rfl
  · have hu := hu_of hr
    obtain ⟨x, b, rfl, hx, q⟩ := h
    refine ⟨_, PSs.nox (pss_one (ps_ret (pe_and (pe_callB call_isi (by rfl) T.n_isinstance (by decide +kernel) (pa_cons (pv 0) (pa_cons (pe_bltn (v := .ty "int") (u := .type "int") (by rfl) T.n_int (by decide +kernel) rfl) pa_nil))) (pe_one (pe_not (pe_callB call_isi (by rfl) T.n_isinstance (by decide +kernel) (pa_cons (pv 0) (pa_cons (pe_bltn (v := .ty "bool") (u := .type "bool") (by rfl) T.n_bool (by decide +kernel) rfl) pa_nil)))))))), ?_⟩
    have go : ∀ (t : String) (b1 b2 : Bool), TyX K H x (.type t) → PySem.W.kitOne K (.type t) (.type "int") = some b1 → (b1 = true → PySem.W.kitOne K (.type t) (.type "bool") = some b2) → b = (b1 && !b2) →
        tAndV (tCB (rIsi K) (tCons (tVar 0) (tCons (tC (.ty "int")) tNil))) (tNotV (tCB (rIsi K) (tCons (tVar 0) (tCons (tC (.ty "bool")) tNil)))) [some x] H Q := by
      intro t b1 b2 ht h1 h2 hb
      refine ⟨_, rfl, x, _, _, _, b1, rfl, .ty _, ht, h1, b1, rfl, ?_⟩
      cases b1 with
      | false => exact ifF rfl (by rw [hb] at q; exact q)
      | true =>
        refine ifT rfl ⟨_, rfl, x, _, _, _, b2, rfl, .ty _, ht, h2 rfl, b2, rfl, ?_⟩
        rw [hb] at q
        exact q
    cases hx with
    | int i => exact go "int" true false (.base (.int i)) (kit_ty (by decide +kernel)) (fun _ => kit_ty (by decide +kernel)) rfl
    | non => exact go "NoneType" false false (.base .non) (kit_ty (by decide +kernel)) (fun z => nomatch z) rfl
    | bl b => exact go "bool" true true (.base (.bl b)) (kit_ty (by decide +kernel)) (fun _ => kit_ty (by decide +kernel)) rfl
    | str x => exact go "str" false false (.base (.str x)) (kit_ty (by decide +kernel)) (fun z => nomatch z) rfl
    | lst h => exact go "list" false false (.base (.lst h)) (kit_ty (by decide +kernel)) (fun z => nomatch z) rfl
    | tup h => exact go "tuple" false false (.base (.tup h)) (kit_ty (by decide +kernel)) (fun z => nomatch z) rfl
def spTr : Sp := fun vs H Q _ => ∃ (a b : Bool), vs = [.bl a, .bl b] ∧ Q (.bl (decide (a = b))) H
theorem ok_law_truth (T : Tb mg) (F : Df K mg "_law_truth" s__law_truth) : Cl P w K mg base 1 "_law_truth" spTr := by
  refine cl_mk F sc__law_truth (fun vs H Q E h => ?_) (fun _ _ _ _ _ _ us hl => match us, hl with | [_, _], _ => rfl) (fun f cdv A outer s H vs Q E hr h => ?_)
  · obtain ⟨_, _, rfl, _⟩ := h; rfl
  · obtain ⟨a, b, rfl, q⟩ := h
    refine ⟨_, PSs.nox (pss_cons (ps_if (pt_val (pv 1))
      (pss_one (ps_ret (pe_cmpR op_is_bl (pv 0) pe_bl (nomark _))))
      pss_nil)
    (pss_one (ps_ret (pe_cmpR op_is_bl (pv 0) pe_bl (nomark _))))), ?_⟩
    refine ⟨_, rfl, b, rfl, ?_⟩
    cases b with
    | true => exact ifT rfl ⟨_, rfl, a, true, rfl, rfl, q⟩
    | false => exact ifF rfl ⟨_, rfl, a, false, rfl, rfl, q⟩
def spSame : Sp := fun vs H Q _ => ∃ (a d : Addr) (xs ys : List Nat), vs = [.ref a, .ref d] ∧ H a = some (.lst (xs.map nV)) ∧ H d = some (.lst (ys.map nV)) ∧ ys.length ≤ 1000 ∧ Q (.bl (decide (xs = ys))) H
theorem ok_law_same (T : Tb mg) (F : Df K mg "_law_same" s__law_same) (c__law_is_integer : Cl P w K mg base 1 "_law_is_integer" (spII K)) : Cl P w K mg base 2 "_law_same" spSame := by
  refine cl_mk F sc__law_same (fun vs H Q E h => ?_) (fun _ _ _ _ _ _ us hl => match us, hl with | [_, _], _ => rfl) (fun f cdv A outer s H vs Q E hr h => ?_)
  · obtain ⟨_, _, _, _, rfl, _⟩ := h; rfl
  · obtain ⟨a, d, xs, ys, rfl, ha, hd, hyl, q⟩ := h
    refine ⟨_, PSs.nox (pss_cons (ps_if (PW.pt (pw_or (pt_not (pt_val (pe_callB call_isi (by rfl) T.n_isinstance (by decide +kernel) (pa_cons (pv 0) (pa_cons (pe_bltn (v := .ty "list") (u := .type "list") (by rfl) T.n_list (by decide +kernel) rfl) pa_nil))))) (pw_or1 (pt_cmpR op_ne (pe_callB call_len_seq (by rfl) T.n_len (by decide +kernel) (pa_cons (pv 0) pa_nil)) (pe_callB call_len_seq (by rfl) T.n_len (by decide +kernel) (pa_cons (pv 1) pa_nil)) (nomark _)))))
      (pss_one (ps_ret pe_bl))
      pss_nil)
    (pss_cons (ps_for PassesOwn.never rfl (pi_range1 (by rfl) T.n_range (pa_cons (pe_callB call_len_seq (by rfl) T.n_len (by decide +kernel) (pa_cons (pv 1) pa_nil)) pa_nil)) (pg_name (i := 2) sc__law_same.nd rfl (Or.inl rfl))
      (pss_one (ps_if (PW.pt (pw_or (pt_not (pt_val (pe_cl c__law_is_integer hr (by decide) rfl (pa_cons (pe_ix ix_list (pv 0) (pv 2) (fun _ _ => rfl)) pa_nil)))) (pw_or1 (pt_cmpR op_ne (pe_ix ix_list (pv 0) (pv 2) (fun _ _ => rfl)) (pe_ix ix_list (pv 1) (pv 2) (fun _ _ => rfl)) (nomark _)))))
        (pss_one (ps_ret pe_bl))
        pss_nil)))
    (pss_one (ps_ret pe_bl)))), ?_⟩
    refine ⟨_, rfl, _, _, _, _, true, rfl, .ty _, .base (.lst ha), kit_ty (by decide +kernel), true, rfl, ifF rfl ?_⟩
    refine ⟨_, rfl, a, _, rfl, .inl (SqL.of ha), _, rfl, d, _, rfl, .inl (SqL.of hd), rfl, _, rfl, ?_⟩
    have hdec : decide (V.int ((xs.map nV).length : Int) = V.int ((ys.map nV).length : Int)) = decide (xs.length = ys.length) := by
      rw [List.length_map, List.length_map]; exact nV_dec _ _
    by_cases c : xs.length = ys.length
    · refine ifF (by rw [hdec, decide_eq_true c]; rfl) ?_
      have hlm : (ys.map nV).length = ys.length := List.length_map _
      refine ⟨_, rfl, d, _, rfl, .inl (SqL.of hd), ((ys.map nV).length : Int), rfl, by omega, by rw [hlm]; omega, ?_⟩
      rw [Int.toNat_natCast, hlm]
      refine for_pre (wf_range ys.length) (fun pre σ H' => H' = H ∧ (∃ v, σ = [some (.ref a), some (.ref d), v]) ∧ ∀ j, j < pre.length → xs[j]? = ys[j]?) ?_ ?_ ?_ ?_
      · exact ⟨rfl, ⟨none, rfl⟩, fun j hj => by cases hj⟩
      · intro _ _ _ _; trivial
      · rintro pre u post σ H' e ⟨rfl, ⟨v, rfl⟩, hpre⟩
        obtain ⟨ep, hu⟩ := range_split e
        have hx : xs[u]? = some xs[u] := List.getElem?_eq_getElem (by omega)
        have hy : ys[u]? = some ys[u] := List.getElem?_eq_getElem hu
        have hxm : atI (xs.map nV) ((u : Nat) : Int) = some (nV xs[u]) := atI_nat (by rw [List.getElem?_map, hx]; rfl)
        have hym : atI (ys.map nV) ((u : Nat) : Int) = some (nV ys[u]) := atI_nat (by rw [List.getElem?_map, hy]; rfl)
        refine ⟨_, rfl, _, rfl, a, _, _, _, rfl, rfl, SqL.of ha, hxm, _, true, rfl, .int _, true, rfl, ifF rfl ?_⟩
        refine ⟨_, rfl, _, rfl, a, _, _, _, rfl, rfl, SqL.of ha, hxm, _, rfl, _, rfl, d, _, _, _, rfl, rfl, SqL.of hd, hym, rfl, _, rfl, ?_⟩
        have hd2 : decide (nV xs[u] = nV ys[u]) = decide (xs[u] = ys[u]) := nV_dec _ _
        by_cases c2 : xs[u] = ys[u]
        · refine ifF (by rw [hd2, decide_eq_true c2]; rfl) ⟨rfl, ⟨_, rfl⟩, fun j hj => ?_⟩
          rw [List.length_append, List.length_singleton] at hj
          by_cases cj : j < pre.length
          · exact hpre j cj
          · have : j = u := by rw [ep, List.length_range] at hj cj; omega
            subst this
            rw [hx, hy, c2]
        · refine ifT (by rw [hd2, decide_eq_false c2]; rfl) ?_
          rw [decide_eq_false (fun z => c2 (by subst z; rfl))] at q
          exact q
      · rintro σ H' ⟨rfl, ⟨v, rfl⟩, hpre⟩
        rw [List.length_range] at hpre
        have : xs = ys := List.ext_getElem? fun j => by
          by_cases cj : j < ys.length
          · exact hpre j cj
          · rw [List.getElem?_eq_none (by omega), List.getElem?_eq_none (by omega)]
        rw [decide_eq_true this] at q
        exact q
    · refine ifT (by rw [hdec, decide_eq_false c]; rfl) ?_
      rw [decide_eq_false (fun z => c (by rw [z]))] at q
      exact q
/-! ### the box -/
def spBox (K : PySem.W.Frag) : Sp := fun vs H Q _ => ∃ (a : Addr) (ns : List Int), vs = [.ref a] ∧ SqL K H a (ns.map V.int) ∧ ns.length ≤ 63 ∧ ∀ (G H' : Hp) (b : Addr), Same H G → Bx G H' b → Q (.ref b) H'
theorem ok_law_box (T : Tb mg) (F : Df K mg "_law_box" s__law_box) : Cl P w K mg base 1 "_law_box" (spBox K) := by
  refine cl_mk F sc__law_box (fun vs H Q E h => ?_) (fun _ _ _ _ _ _ us hl => match us, hl with | [_], _ => rfl) (fun f cdv A outer s H vs Q E hr h => ?_)
  · obtain ⟨_, _, rfl, _⟩ := h; rfl
  · obtain ⟨a, ns, rfl, ha, hn, q⟩ := h
    refine ⟨_, PSs.nox (pss_cons (ps_setLc (i := 1) (own := [("_law_cell", 3)]) (by rfl) sc__law_box.nd rfl rfl (sw_true rfl rfl rfl (by decide +kernel)) (pi_list (pe_slice sl_list (pv 0) po_none (po_some pe_int))) (blkOk_by (own := [("_law_cell", 3)]) (N := n__law_box) (sc := defScope s__law_box) (by decide +kernel)) (fun _ _ _ _ _ => (pg_name (i := 3) sc__law_box.nd rfl (Or.inl rfl))) (fun _ _ _ _ _ => pts_nil) (fun _ _ _ _ _ => (pe_callTy call_int1 (by rfl) T.n_int (by decide +kernel) (pa_cons (pv 3) pa_nil))))
    (pss_cons (ps_setLc (i := 2) (own := [("_law_cell", 3)]) (by rfl) sc__law_box.nd rfl rfl (sw_true rfl rfl rfl (by decide +kernel)) (pi_list (pv 1)) (blkOk_by (own := [("_law_cell", 3)]) (N := n__law_box) (sc := defScope s__law_box) (by decide +kernel)) (fun _ _ _ _ _ => (pg_name (i := 3) sc__law_box.nd rfl (Or.inl rfl))) (fun _ _ _ _ _ => pts_nil) (fun _ _ _ _ _ => (pe_op op_mod (pe_callTy call_int1 (by rfl) T.n_int (by decide +kernel) (pa_cons (pv 3) pa_nil)) pe_int)))
    (pss_cons (ps_if (pt_not (pt_truth (pv 2) (by intro _; rfl)))
      (pss_one (ps_set (i := 2) sc__law_box.nd rfl (Or.inl rfl) (pe_lst (pa_cons pe_int pa_nil))))
      pss_nil)
    (pss_one (ps_ret (pe_lst (pa_cons (pe_lc (own := [("_law_cell", 3)]) (by rfl) sc__law_box.nd (pi_list (pv 1)) (blkOk_by (own := [("_law_cell", 3)]) (N := n__law_box) (sc := defScope s__law_box) (by decide +kernel)) (fun _ _ _ _ _ => (pg_name (i := 3) sc__law_box.nd rfl (Or.inl rfl))) (fun _ _ _ _ _ => (pts_one (pt_cmpR op_ge (pv 3) (pe_op op_pow pe_int pe_int) (nomark _)))) (fun _ _ _ _ _ => (pv 3))) (pa_cons (pv 2) (pa_cons pe_int pa_nil))))))))), ?_⟩
    have sql : ∀ {H1 H2 : Hp} {p : Addr} {xs : List V}, Same H1 H2 → SqL K H1 p xs → SqL K H2 p xs := fun e h => by
      rcases h with h | h
      · exact .inl (L2.Rd.same e h)
      · exact .inr h
    refine ⟨_, rfl, 63, rfl, a, _, rfl, ha, fun p hp => ?_⟩
    have hcut : cutV (ns.map V.int) none (some 63) = ns.map V.int := by
      unfold cutV
      have e2 : HT.sIx (ns.map V.int).length (ns.map V.int).length (some (63 : Int)) = ns.length := by
        have := HT.sIx_nat (ns.map V.int).length (ns.map V.int).length 63
        rw [List.length_map] at this ⊢
        exact this.trans (Nat.min_eq_right hn)
      rw [e2]
      show ((ns.map V.int).drop 0).take (ns.length - 0) = _
      rw [List.drop_zero, List.take_of_length_le (by rw [List.length_map]; omega)]
    rw [hcut]
    have s1 := (Same.refl H).new (o := .lst (ns.map V.int)) hp
    have hp1 : upd H p (.lst (ns.map V.int)) p = some (.lst (ns.map V.int)) := upd_same
    generalize upd H p (.lst (ns.map V.int)) = H1 at s1 hp1
    refine ⟨p, rfl, ⟨_, SqL.of hp1⟩, fun D hD => ?_⟩
    refine lc_pre (wf_list (K := K) (a := p) ns V.int) (fun pre H' => Same H1 H' ∧ H' D = some (.lst (pre.map V.int))) ⟨(Same.refl H1).new hD, upd_same⟩ ?_ ?_ ?_
    · rintro pre H' ⟨s2, _⟩
      exact SqL.of (s2 _ _ hp1)
    · rintro pre i post H' e ⟨s2, h2⟩
      have hl : pre.length ≤ 100 := by
        have := congrArg List.length e
        rw [List.length_append, List.length_cons] at this
        omega
      refine ⟨rfl, ?_⟩
      exact ⟨_, rfl, .inl ⟨i, rfl, _, h2, by rw [List.length_map]; exact small100 hl, s2.put hD, by rw [upd_same, List.map_append]; rfl⟩⟩
    · rintro H2 ⟨s2, h2⟩
      refine ⟨_, rfl, D, rfl, ⟨_, SqL.of h2⟩, fun M hM => ?_⟩
      have nDM : D ≠ M := ne_of_none h2 hM
      have hM1 : H1 M = none := s2.free hM
      refine lc_pre (wf_list (K := K) (a := D) ns V.int) (fun pre H' => Same H2 H' ∧ H' M = some (.lst (pre.map fun i => V.int (i % 2147483647)))) ⟨(Same.refl H2).new hM, upd_same⟩ ?_ ?_ ?_
      · rintro pre H' ⟨s3, _⟩
        exact SqL.of (s3 _ _ h2)
      · rintro pre i post H' e ⟨s3, h3⟩
        have hl : pre.length ≤ 100 := by
          have := congrArg List.length e
          rw [List.length_append, List.length_cons] at this
          omega
        refine ⟨rfl, ?_⟩
        exact ⟨_, rfl, .inl ⟨i, rfl, i, 2147483647, rfl, rfl, (show (0 : Int) < 2147483647 by decide), _, h3, by rw [List.length_map]; exact small100 hl, s3.put hM, by rw [upd_same, List.map_append]; rfl⟩⟩
      · rintro H3 ⟨s3, h3⟩
        have fin : ∀ (mk : Addr) (ms : List Int) (H4 : Hp), Same H2 H4 → H2 mk = none → mk ≠ D → H4 mk = some (.lst (ms.map V.int)) → ms ≠ [] → ms.length ≤ 63 → (∀ m ∈ ms, 0 ≤ m ∧ m < 2147483647) →
            tRet (tLst (tCons (tLc (iList K (tVar 1)) (gName 3) (tTest (tOp (rI0 fun i j => V.bl (decide (j ≤ i))) (tVar 3) (tOp (rI CPow fun i j => V.int (i ^ j.toNat)) (tC (.int 10)) (tC (.int 18))))) (tVar 3) [3]) (tCons (tVar 2) (tCons (tC (.int 0)) tNil))))
              { nx := fun _ H' => Q .non H', rt := Q } [some (.ref a), some (.ref D), some (.ref mk), none] H4 := by
          intro mk ms H4 s4 hmk nmk h4 hne hml hrg
          have s04 := (s1.trans s2).trans s4
          have hD4 := s4 _ _ h2
          have hmkH : H mk = none := (s1.trans s2).free hmk
          have hDH : H D = none := s1.free hD
          refine ⟨_, rfl, D, rfl, ⟨_, SqL.of hD4⟩, fun L hL => ?_⟩
          have nLm : mk ≠ L := ne_of_none h4 hL
          refine lc_pre (wf_list (K := K) (a := D) ns V.int) (fun pre H' => Same H4 H' ∧ ∃ gs : List Int, H' L = some (.lst (gs.map V.int)) ∧ gs.length ≤ pre.length) ⟨(Same.refl H4).new hL, [], upd_same, Nat.le_refl _⟩ ?_ ?_ ?_
          · rintro pre H' ⟨s5, _⟩
            exact SqL.of (s5 _ _ hD4)
          · rintro pre i post H' e ⟨s5, gs, h5, hg⟩
            have hl : pre.length ≤ 100 := by
              have := congrArg List.length e
              rw [List.length_append, List.length_cons] at this
              omega
            refine ⟨rfl, ?_⟩
            refine ⟨_, rfl, 10, 18, rfl, rfl, ⟨by decide, by decide, by decide⟩, i, _, rfl, rfl, _, rfl, ?_⟩
            by_cases c : (10 : Int) ^ (18 : Int).toNat ≤ i
            · refine ifT (decide_eq_true c) ⟨_, rfl, _, h5, by rw [List.length_map]; exact small100 (by omega), s5.put hL, gs ++ [i], by rw [upd_same, List.map_append]; rfl, ?_⟩
              rw [List.length_append, List.length_append]
              simp
              exact hg
            · refine ifF (decide_eq_false c) ⟨s5, gs, h5, ?_⟩
              rw [List.length_append]; omega
          · rintro H5 ⟨s5, gs, h5, hg⟩
            have s05 := s04.trans s5
            have hLH : H L = none := s04.free hL
            refine ⟨_, rfl, Nat.le_of_lt (small100 (show 3 ≤ 100 by omega)), fun b hb => ?_⟩
            have nb1 : L ≠ b := ne_of_none h5 hb
            have nb2 : mk ≠ b := ne_of_none (s5 _ _ h4) hb
            refine q H _ b (Same.refl H) ⟨L, mk, gs, ms, 0, ⟨s05.new hb, s05.free hb, hLH, hmkH, nb1.symm, nb2.symm, nLm.symm, upd_same, by rw [upd_ne nb1]; exact h5, by rw [upd_ne nb2]; exact s5 _ _ h4, hne, by omega, hml, hrg⟩⟩
        refine ⟨_, rfl, _, .inl ⟨_, SqL.of h3, rfl⟩, ?_⟩
        cases ns with
        | nil =>
          refine ifT rfl ⟨Nat.le_of_lt (small100 (show 1 ≤ 100 by omega)), fun Z hZ => ?_⟩
          have nDZ : D ≠ Z := ne_of_none (s3 _ _ h2) hZ
          exact fin Z [0] _ (s3.new hZ) (s3.free hZ) nDZ.symm upd_same (by simp) (by simp) (fun m hm => by rw [List.mem_singleton.mp hm]; exact ⟨by decide, by decide⟩)
        | cons n ns =>
          refine ifF (by simp) ?_
          refine fin M ((n :: ns).map fun i => i % 2147483647) H3 s3 hM nDM.symm ?_ (by simp) (by rw [List.length_map]; exact hn) (fun m hm => ?_)
          · rw [h3, List.map_map]; rfl
          · obtain ⟨i, _, rfl⟩ := List.mem_map.mp hm
            exact ⟨Int.emod_nonneg i (by decide), Int.emod_lt_of_pos i (by decide)⟩
end
end K22
set_option Elab.async false
set_option linter.all false
set_option maxRecDepth 100000
set_option maxHeartbeats 4000000
namespace K22
open PySem PySem.Spec PyProof.Rows L2
section
variable {P : Program} {w : World} {K : PySem.W.Frag} {mg : Str → Option Value} {base : Heap}
/-- a draw of any size -/
def spWd : Sp := fun vs H Q _ => ∃ (G : Hp) (b : Addr) (n : Nat), vs = [.ref b, nV n] ∧ 1 ≤ n ∧ Bx G H b ∧ ∀ (H' : Hp) (r : Nat), r < n → Bx G H' b → Q (nV r) H'
theorem ok_law_wide (T : Tb mg) (F : Df K mg "_law_wide" s__law_wide) (c__law_take : Cl P w K mg base 1 "_law_take" spTk) : Cl P w K mg base 2 "_law_wide" spWd := by
  refine cl_mk F sc__law_wide (fun vs H Q E h => ?_) (fun _ _ _ _ _ _ us hl => match us, hl with | [_, _], _ => rfl) (fun f cdv A outer s H vs Q E hr h => ?_)
  · obtain ⟨_, _, _, rfl, _⟩ := h; rfl
  · obtain ⟨G, b, n, rfl, hn, B, q⟩ := h
    refine ⟨_, PSs.nox (pss_cons (ps_if (pt_cmpR op_lt (pv 1) pe_int (nomark _))
      (pss_one (ps_ret (pe_cl c__law_take hr (by decide) rfl (pa_cons (pv 0) (pa_cons (pv 1) pa_nil)))))
      pss_nil)
    (pss_cons (ps_set (i := 2) sc__law_wide.nd rfl (Or.inl rfl) pe_int)
    (pss_cons (ps_for PassesOwn.never rfl (pi_range1 (by rfl) T.n_range (pa_cons pe_int pa_nil)) (pg_name (i := 3) sc__law_wide.nd rfl (Or.inl rfl))
      (pss_one (ps_set (i := 2) sc__law_wide.nd rfl (Or.inl rfl) (pe_op op_add (pe_op op_mul (pv 2) pe_int) (pe_cl c__law_take hr (by decide) rfl (pa_cons (pv 0) (pa_cons pe_int pa_nil)))))))
    (pss_one (ps_ret (pe_op op_mod (pe_callTy call_int1 (by rfl) T.n_int (by decide +kernel) (pa_cons (pv 2) pa_nil)) (pv 1))))))), ?_⟩
    obtain ⟨N, hN⟩ : ∃ N : Int, N = 1000003 := ⟨_, rfl⟩
    refine ⟨_, rfl, (n : Int), N, rfl, by rw [hN], _, rfl, ?_⟩
    by_cases c : (n : Int) < N
    · exact ifT (decide_eq_true c) ⟨_, rfl, _, rfl, G, b, n, rfl, by omega, B, fun H' r hr B' => q H' r (by omega) B'⟩
    · refine ifF (decide_eq_false c) ?_
      refine ⟨10, rfl, by decide, by decide, for_pre (wf_range 10) (fun pre σ H' => Bx G H' b ∧ ∃ (m : Nat) (v : Option V), σ = [some (.ref b), some (nV n), some (nV m), v]) ?_ ?_ ?_ ?_⟩
      · exact ⟨B, 0, none, rfl⟩
      · intro _ _ _ _; trivial
      · rintro pre u post σ H' e ⟨B', m, v, rfl⟩
        refine ⟨_, rfl, (m : Int), 1000003, rfl, rfl, .inr ⟨by decide, by decide⟩, _, rfl, G, b, 1000003, rfl, by decide, B', fun H2 r hr B2 => ?_⟩
        refine ⟨_, _, rfl, rfl, B2, m * 1000003 + r, some (nV u), ?_⟩
        show [some (V.ref b), some (nV n), some (V.int ((m : Int) * 1000003 + (r : Int))), some (nV u)] = _
        rw [show ((m : Int) * 1000003 + (r : Int)) = ((m * 1000003 + r : Nat) : Int) by omega]; rfl
      · rintro σ H' ⟨B', m, v, rfl⟩
        refine ⟨_, rfl, .inl ⟨(m : Int), rfl, _, rfl, (m : Int), (n : Int), rfl, rfl, (show (0 : Int) < (n : Int) by omega), ?_⟩⟩
        have : ((m : Int) % (n : Int)) = ((m % n : Nat) : Int) := (Int.natCast_emod m n).symm
        show Q (.int ((m : Int) % (n : Int))) H'
        rw [this]
        exact q H' (m % n) (Nat.mod_lt _ (by omega)) B'
def spSl : Sp := fun vs H Q _ => ∃ (G : Hp) (b : Addr), vs = [.ref b] ∧ Bx G H b ∧ ∀ (H' : Hp) (r : Nat), 1 ≤ r → r ≤ 64 → Bx G H' b → Q (nV r) H'
theorem ok_law_slots (T : Tb mg) (F : Df K mg "_law_slots" s__law_slots) (c__law_take : Cl P w K mg base 1 "_law_take" spTk) : Cl P w K mg base 2 "_law_slots" spSl := by
  refine cl_mk F sc__law_slots (fun vs H Q E h => ?_) (fun _ _ _ _ _ _ us hl => match us, hl with | [_], _ => rfl) (fun f cdv A outer s H vs Q E hr h => ?_)
  · obtain ⟨_, _, rfl, _⟩ := h; rfl
  · obtain ⟨G, b, rfl, B, q⟩ := h
    refine ⟨_, PSs.nox (pss_cons (ps_set (i := 1) sc__law_slots.nd rfl (Or.inl rfl) (pe_cl c__law_take hr (by decide) rfl (pa_cons (pv 0) (pa_cons pe_int pa_nil))))
    (pss_cons (ps_if (pt_cmpR op_lt (pv 1) pe_int (nomark _))
      (pss_one (ps_ret pe_int))
      pss_nil)
    (pss_cons (ps_if (pt_cmpR op_eq (pv 1) pe_int (nomark _))
      (pss_one (ps_ret pe_int))
      pss_nil)
    (pss_cons (ps_if (pt_cmpR op_lt (pv 1) pe_int (nomark _))
      (pss_one (ps_ret (pe_op op_add pe_int (pe_cl c__law_take hr (by decide) rfl (pa_cons (pv 0) (pa_cons pe_int pa_nil))))))
      pss_nil)
    (pss_one (ps_ret (pe_op op_sub pe_int (pe_cl c__law_take hr (by decide) rfl (pa_cons (pv 0) (pa_cons pe_int pa_nil)))))))))), ?_⟩
    refine ⟨_, rfl, G, b, 40, rfl, by decide, B, fun H1 k hk B1 => ?_⟩
    refine ⟨_, rfl, (k : Int), 2, rfl, rfl, _, rfl, ?_⟩
    by_cases c1 : k < 2
    · exact ifT (decide_eq_true (by omega)) (q H1 1 (by omega) (by omega) B1)
    refine ifF (decide_eq_false (by omega)) ⟨_, rfl, rfl, _, rfl, ?_⟩
    have hd : decide (nV k = V.int 2) = decide (k = 2) := nV_dec k 2
    by_cases c2 : k = 2
    · exact ifT (by rw [hd]; exact decide_eq_true c2) (q H1 64 (by omega) (by omega) B1)
    refine ifF (by rw [hd]; exact decide_eq_false c2) ⟨_, rfl, (k : Int), 6, rfl, rfl, _, rfl, ?_⟩
    by_cases c3 : k < 6
    · refine ifT (decide_eq_true (by omega)) ⟨_, rfl, G, b, 12, rfl, by decide, B1, fun H2 r hr B2 => ⟨_, _, rfl, rfl, ?_⟩⟩
      have := q H2 (10 + r) (by omega) (by omega) B2
      rw [show nV (10 + r) = V.int (10 + (r : Int)) by show V.int _ = _; rw [Int.natCast_add]; rfl] at this
      exact this
    · refine ifF (decide_eq_false (by omega)) ⟨_, rfl, G, b, 7, rfl, by decide, B1, fun H2 r hr B2 => ⟨_, _, rfl, rfl, ?_⟩⟩
      have := q H2 (8 - r) (by omega) (by omega) B2
      rw [show nV (8 - r) = V.int (8 - (r : Int)) by show V.int _ = _; rw [Int.natCast_sub (by omega)]; rfl] at this
      exact this
def spJn : Sp := fun vs H Q _ => ∃ (G : Hp) (b : Addr) (lean room : Nat), vs = [.ref b, nV lean, nV room] ∧ 1 ≤ room ∧ room ≤ 63 ∧ Bx G H b ∧ ∀ (H' : Hp) (r : Nat), r + 1 ≤ room → Bx G H' b → Q (nV r) H'
theorem ok_law_join (T : Tb mg) (F : Df K mg "_law_join" s__law_join) (c__law_take : Cl P w K mg base 1 "_law_take" spTk) : Cl P w K mg base 2 "_law_join" spJn := by
  refine cl_mk F sc__law_join (fun vs H Q E h => ?_) (fun _ _ _ _ _ _ us hl => match us, hl with | [_, _, _], _ => rfl) (fun f cdv A outer s H vs Q E hr h => ?_)
  · obtain ⟨_, _, _, _, rfl, _⟩ := h; rfl
  · obtain ⟨G, b, lean, room, rfl, hr1, hr2, B, q⟩ := h
    refine ⟨_, PSs.nox (pss_cons (ps_if (pt_cmpR op_eq (pv 1) pe_int (nomark _))
      (pss_one (ps_ret (pe_op op_sub (pv 2) pe_int)))
      pss_nil)
    (pss_cons (ps_if (pt_cmpR op_eq (pv 1) pe_int (nomark _))
      (pss_one (ps_ret pe_int))
      pss_nil)
    (pss_cons (ps_if (pt_cmpR op_eq (pv 1) pe_int (nomark _))
      (pss_cons (ps_set (i := 3) sc__law_join.nd rfl (Or.inl rfl) pe_int)
      (pss_cons (ps_for PassesOwn.never rfl (pi_range1 (by rfl) T.n_range (pa_cons pe_int pa_nil)) (pg_name (i := 4) sc__law_join.nd rfl (Or.inl rfl))
        (pss_one (ps_if (pt_cmpR op_lt (pv 3) (pe_op op_add (pv 2) pe_int) (nomark _))
          (pss_one (ps_set (i := 3) sc__law_join.nd rfl (Or.inl rfl) (pe_op op_mul (pv 3) pe_int)))
          pss_nil)))
      (pss_one (ps_ret (pe_op op_sub (pe_op op_sub (pv 3) (pv 2)) pe_int)))))
      pss_nil)
    (pss_one (ps_ret (pe_cl c__law_take hr (by decide) rfl (pa_cons (pv 0) (pa_cons (pv 2) pa_nil)))))))), ?_⟩
    have hd : ∀ k : Nat, decide (nV lean = V.int (k : Int)) = decide (lean = k) := fun k => nV_dec lean k
    refine ⟨_, rfl, rfl, _, rfl, ?_⟩
    by_cases c0 : lean = 0
    · refine ifT ((hd 0).trans (decide_eq_true c0)) ⟨_, rfl, _, 1, rfl, rfl, ?_⟩
      have := q H (room - 1) (by omega) B
      rw [show nV (room - 1) = V.int ((room : Int) - 1) by show V.int _ = _; rw [Int.natCast_sub (by omega)]; rfl] at this
      exact this
    refine ifF ((hd 0).trans (decide_eq_false c0)) ⟨_, rfl, rfl, _, rfl, ?_⟩
    by_cases c1 : lean = 1
    · exact ifT ((hd 1).trans (decide_eq_true c1)) (q H 0 (by omega) B)
    refine ifF ((hd 1).trans (decide_eq_false c1)) ⟨_, rfl, rfl, _, rfl, ?_⟩
    by_cases c2 : lean = 2
    · refine ifT ((hd 2).trans (decide_eq_true c2)) ?_
      refine ⟨7, rfl, by decide, by decide, for_pre (wf_range 7) (fun pre σ H' => H' = H ∧ ∃ (p : Nat) (v : Option V), σ = [some (.ref b), some (nV lean), some (nV room), some (nV p), v] ∧ (p = 2 ^ pre.length ∨ room + 1 ≤ p) ∧ (p = 1 ∨ ∃ h, p = 2 * h) ∧ p < 2 * (room + 1)) ?_ ?_ ?_ ?_⟩
      · exact ⟨rfl, 1, none, rfl, .inl rfl, .inl rfl, by omega⟩
      · intro _ _ _ _; trivial
      · rintro pre u post σ H' e ⟨rfl, p, v, rfl, hp1, hp2, hp3⟩
        refine ⟨_, rfl, _, rfl, _, 1, rfl, rfl, (p : Int), _, rfl, rfl, _, rfl, ?_⟩
        by_cases c : p < room + 1
        · refine ifT (decide_eq_true (by omega)) ⟨_, rfl, (p : Int), 2, rfl, rfl, .inr ⟨by decide, by decide⟩, ?_⟩
          refine ⟨rfl, p * 2, some (nV u), ?_, ?_, .inr ⟨p, by omega⟩, by omega⟩
          · show [some (V.ref b), some (nV lean), some (nV room), some (V.int ((p : Int) * 2)), some (nV u)] = _
            rw [show ((p : Int) * 2) = ((p * 2 : Nat) : Int) by omega]; rfl
          · rcases hp1 with h | h
            · left; rw [List.length_append, List.length_singleton, Nat.pow_succ, h]
            · omega
        · refine ifF (decide_eq_false (by omega)) ⟨rfl, p, some (nV u), rfl, .inr (by omega), hp2, hp3⟩
      · rintro σ H' ⟨rfl, p, v, rfl, hp1, hp2, hp3⟩
        have h1 : room + 1 ≤ p := by
          rcases hp1 with h | h
          · rw [List.length_range] at h
            rw [h]
            show room + 1 ≤ 128
            omega
          · exact h
        have h2 : p - room - 1 + 1 ≤ room := by
          rcases hp2 with h | ⟨x, h⟩ <;> omega
        refine ⟨_, rfl, _, rfl, _, _, rfl, rfl, _, 1, rfl, rfl, ?_⟩
        have := q H' (p - room - 1) h2 B
        rw [show nV (p - room - 1) = V.int ((p : Int) - (room : Int) - 1) by show V.int _ = _; congr 1; omega] at this
        exact this
    · refine ifF ((hd 2).trans (decide_eq_false c2)) ?_
      exact ⟨_, rfl, _, rfl, G, b, room, rfl, by omega, B, fun H' r hr B' => q H' r (by omega) B'⟩
/-- a text of flags, drawn -/
def spFl : Sp := fun vs H Q _ => ∃ (G : Hp) (b : Addr) (n : Nat), vs = [.ref b, nV n] ∧ n ≤ 63 ∧ Bx G H b ∧ ∀ (G' H' : Hp) (E : List Nat), Same G G' → Bx G' H' b → E.length = n → LRs E → Q (sV E) H'
theorem join_signs : ∀ E : List Nat, Txt.join (⟨#[]⟩ : Str) (E.map fun c => (⟨#[c]⟩ : Str)) = sL E := fun E => by
  have h : ∀ E : List Nat, TL.joinL [] (E.map fun c => [c]) = E := by
    intro E
    induction E with
    | nil => rfl
    | cons c E ih =>
      cases E with
      | nil => rfl
      | cons d E =>
        show [c] ++ ([] ++ TL.joinL [] ((d :: E).map fun c => [c])) = _
        rw [ih]; rfl
  have := SX.join_S [] (E.map fun c => [c])
  rw [h, List.map_map] at this
  exact this
theorem pick_LR {r : Nat} (h : r < 2 ∨ r = 0) : ∃ c, atI (("LR" : Str)).cps.toList (r : Int) = some c ∧ (c = 76 ∨ c = 82) := by
  have : r = 0 ∨ r = 1 := by omega
  rcases this with rfl | rfl
  · exact ⟨76, rfl, .inl rfl⟩
  · exact ⟨82, rfl, .inr rfl⟩
theorem ok_law_flags (T : Tb mg) (F : Df K mg "_law_flags" s__law_flags) (c__law_take : Cl P w K mg base 1 "_law_take" spTk) : Cl P w K mg base 2 "_law_flags" spFl := by
  refine cl_mk F sc__law_flags (fun vs H Q E h => ?_) (fun _ _ _ _ _ _ us hl => match us, hl with | [_, _], _ => rfl) (fun f cdv A outer s H vs Q E hr h => ?_)
  · obtain ⟨_, _, _, rfl, _⟩ := h; rfl
  · obtain ⟨G, b, n, rfl, hn, B, q⟩ := h
    refine ⟨_, PSs.nox (pss_cons (ps_set (i := 2) sc__law_flags.nd rfl (Or.inl rfl) (pe_cl c__law_take hr (by decide) rfl (pa_cons (pv 0) (pa_cons pe_int pa_nil))))
    (pss_cons (ps_if (pt_cmpR op_lt (pv 2) pe_int (nomark _))
      (pss_one (ps_ret (pe_op op_rep_str (pe_ix ix_str pe_str (pv 2) (fun _ _ => rfl)) (pv 1))))
      pss_nil)
    (pss_one (ps_ret (pe_join pe_str (pe_lc (own := [("_law_k", 3)]) (by rfl) sc__law_flags.nd (pi_range1 (by rfl) T.n_range (pa_cons (pv 1) pa_nil)) (blkOk_by (own := [("_law_k", 3)]) (N := n__law_flags) (sc := defScope s__law_flags) (by decide +kernel)) (fun _ _ _ _ _ => (pg_name (i := 3) sc__law_flags.nd rfl (Or.inl rfl))) (fun _ _ _ _ _ => pts_nil) (fun _ _ _ _ _ => (pe_ix ix_str pe_str (pe_cl c__law_take hr (by decide) rfl (pa_cons (pv 0) (pa_cons pe_int pa_nil))) (fun _ _ => rfl))))))))), ?_⟩
    refine ⟨_, rfl, G, b, 5, rfl, by decide, B, fun H1 k hk B1 => ?_⟩
    refine ⟨_, rfl, (k : Int), 2, rfl, rfl, _, rfl, ?_⟩
    by_cases c1 : k < 2
    · obtain ⟨c, hc, hLR⟩ := pick_LR (.inl c1)
      refine ifT (decide_eq_true (by omega)) ⟨_, rfl, _, (k : Int), c, rfl, rfl, by decide, hc, _, rfl, c, n, rfl, rfl, by omega, ?_⟩
      exact q G H1 _ (Same.refl G) B1 List.length_replicate fun x hx => by rw [(List.mem_replicate.mp hx).2]; exact hLR
    refine ifF (decide_eq_false (by omega)) ?_
    refine ⟨⟨_, rfl⟩, _, rfl, (n : Int), rfl, by omega, by omega, fun D hD => ?_⟩
    obtain ⟨B2, s2⟩ := B1.new (o := .lst []) hD
    have hGD : G D = none := B1.same.free hD
    refine lc_pre (wf_range n) (fun pre H' => ∃ (G' : Hp) (E : List Nat), Same G G' ∧ Bx G' H' b ∧ G' D = some (.lst (E.map fun c => V.str ⟨#[c]⟩)) ∧ E.length = pre.length ∧ LRs E) ?_ ?_ ?_ ?_
    · exact ⟨_, [], s2, B2, upd_same, rfl, fun x hx => by cases hx⟩
    · intro _ _ _; trivial
    · rintro pre u post H' e ⟨G', Es, sG, B', hD', hEl, hE⟩
      have hl : pre.length ≤ 100 := by
        have := congrArg List.length e
        rw [List.length_append, List.length_cons, List.length_range] at this
        omega
      refine ⟨rfl, ?_⟩
      refine ⟨_, rfl, G', b, 2, rfl, by decide, B', fun H2 r hr B2 => ?_⟩
      obtain ⟨c, hc, hLR⟩ := pick_LR hr
      refine ⟨_, (r : Int), c, rfl, rfl, by decide, hc, _, B2.same _ _ hD', by rw [List.length_map, hEl]; exact small100 hl, upd G' D (.lst ((Es ++ [c]).map fun c => V.str ⟨#[c]⟩)), Es ++ [c], ?_, ?_, upd_same, ?_, ?_⟩
      · exact sG.put hGD
      · have := B2.set (o := .lst ((Es ++ [c]).map fun c => V.str ⟨#[c]⟩)) hD'
        rw [List.map_append] at this ⊢
        exact this
      · rw [List.length_append, List.length_append, hEl]; rfl
      · intro x hx
        rcases List.mem_append.mp hx with hx | hx
        · exact hE x hx
        · rw [List.mem_singleton.mp hx]; exact hLR
    · rintro H' ⟨G', Es, sG, B', hD', hEl, hE⟩
      rw [List.length_range] at hEl
      refine ⟨⟨#[]⟩, D, Es.map fun c => ⟨#[c]⟩, rfl, rfl, .inl (SqL.of (by rw [B'.same _ _ hD', List.map_map]; rfl)), ?_, ?_⟩
      · have : ((Es.map fun c => (⟨#[c]⟩ : Str)).map (·.length)).sum = Es.length := by
          clear hD' hEl hE
          induction Es with
          | nil => rfl
          | cons c Es ih => rw [List.map_cons, List.map_cons, List.sum_cons, ih, List.length_cons]; show 1 + _ = _; omega
        rw [this, List.length_map]
        show Es.length + Es.length * 0 ≤ 16777216
        omega
      · rw [join_signs]
        exact q G' H' Es sG B' hEl hE
end
end K22
set_option Elab.async false
set_option linter.all false
set_option maxRecDepth 100000
set_option maxHeartbeats 4000000
namespace K22
open PySem PySem.Spec PyProof.Rows L2
theorem Bx.ext {G H H' : Hp} {b : Addr} (B : Bx G H b) (s : Same H H') : Bx G H' b := by
  obtain ⟨ga, ma, gs, ms, st, B⟩ := B
  exact ⟨ga, ma, gs, ms, st, ⟨B.same.trans s, B.gb, B.gg, B.gm, B.n1, B.n2, B.n3, s _ _ B.hb, s _ _ B.hg, s _ _ B.hm, B.ne, B.lg, B.lm, B.rg⟩⟩
theorem sL_app (a b : List Nat) : sL a ++ sL b = sL (a ++ b) := by
  unfold sL
  show (⟨a.toArray ++ b.toArray⟩ : Str) = _
  rw [List.append_toArray]
section
variable {P : Program} {w : World} {K : PySem.W.Frag} {mg : Str → Option Value} {base : Heap}
def spSt : Sp := fun vs H Q _ => ∃ (G : Hp) (b : Addr) (E : List Nat), vs = [.ref b, sV E, sV [63]] ∧ LRs E ∧ E.length ≤ 63 ∧ Bx G H b ∧ ∀ (H' : Hp) (S : List Nat), Bx G H' b → S.length = E.length → (∀ c ∈ S, c ∈ [76, 82, 63]) → Q (sV S) H'
theorem ok_law_start (T : Tb mg) (F : Df K mg "_law_start" s__law_start) (c__law_take : Cl P w K mg base 1 "_law_take" spTk) : Cl P w K mg base 2 "_law_start" spSt := by
  refine cl_mk F sc__law_start (fun vs H Q E h => ?_) (fun _ _ _ _ _ _ us hl => match us, hl with | [_, _, _], _ => rfl) (fun f cdv A outer s H vs Q E hr h => ?_)
  · obtain ⟨_, _, _, rfl, _⟩ := h; rfl
  · obtain ⟨G, b, E, rfl, hLR, hEl, B, q⟩ := h
    refine ⟨_, PSs.nox (pss_cons (ps_set (i := 3) sc__law_start.nd rfl (Or.inl rfl) (pe_cl c__law_take hr (by decide) rfl (pa_cons (pv 0) (pa_cons pe_int pa_nil))))
    (pss_cons (ps_set (i := 4) sc__law_start.nd rfl (Or.inl rfl) (pe_cl c__law_take hr (by decide) rfl (pa_cons (pv 0) (pa_cons (pe_callB call_len_str (by rfl) T.n_len (by decide +kernel) (pa_cons (pv 1) pa_nil)) pa_nil))))
    (pss_cons (ps_set (i := 5) sc__law_start.nd rfl (Or.inl rfl) pe_str)
    (pss_cons (ps_for PassesOwn.never rfl (pi_range1 (by rfl) T.n_range (pa_cons (pe_callB call_len_str (by rfl) T.n_len (by decide +kernel) (pa_cons (pv 1) pa_nil)) pa_nil)) (pg_name (i := 6) sc__law_start.nd rfl (Or.inl rfl))
      (pss_cons (ps_set (i := 7) sc__law_start.nd rfl (Or.inl rfl) (pe_ix ix_str pe_str (pe_callTy call_int1 (by rfl) T.n_int (by decide +kernel) (pa_cons (pe_cmpR op_eq (pe_ix ix_str (pv 1) (pv 6) (fun _ _ => rfl)) pe_str (nomark _)) pa_nil)) (fun _ _ => rfl)))
      (pss_cons (ps_set (i := 8) sc__law_start.nd rfl (Or.inl rfl) pe_int)
      (pss_cons (ps_if (pt_cmpR op_eq (pv 3) pe_int (nomark _))
        (pss_one (ps_set (i := 8) sc__law_start.nd rfl (Or.inl rfl) pe_int))
        pss_nil)
      (pss_cons (ps_if (pt_cmpR op_gt (pv 3) pe_int (nomark _))
        (pss_one (ps_set (i := 8) sc__law_start.nd rfl (Or.inl rfl) (pe_op op_mod (pe_callTy call_int1 (by rfl) T.n_int (by decide +kernel) (pa_cons (pe_cl c__law_take hr (by decide) rfl (pa_cons (pv 0) (pa_cons pe_int pa_nil))) pa_nil)) pe_int)))
        pss_nil)
      (pss_cons (ps_if (PW.pt (pw_and (PW.pt (pw_or (pt_cmpR op_eq (pv 3) pe_int (nomark _)) (pw_or1 (pt_cmpR op_eq (pv 3) pe_int (nomark _))))) (pw_and1 (pt_cmpR op_eq (pv 6) (pv 4) (nomark _)))))
        (pss_one (ps_set (i := 8) sc__law_start.nd rfl (Or.inl rfl) (pv 3)))
        pss_nil)
      (pss_one (ps_set (i := 5) sc__law_start.nd rfl (Or.inl rfl) (pe_op op_add_str (pv 5) (pe_ix ix_list (pe_lst (pa_cons (pe_ix ix_str (pv 1) (pv 6) (fun _ _ => rfl)) (pa_cons (pv 7) (pa_cons (pe_ifExp (pt_truth (pv 2) (by intro _; rfl)) (pv 2) (pv 7)) pa_nil)))) (pv 8) (fun _ _ => rfl)))))))))))
    (pss_one (ps_ret (pv 5))))))), ?_⟩
    have hEs : (sL E).length ≤ sizeLine := by rw [sL_len]; exact Nat.le_of_lt (small100 (by omega))
    refine ⟨_, rfl, G, b, 6, rfl, by decide, B, fun H1 style hst B1 => ?_⟩
    refine ⟨_, rfl, _, rfl, _, rfl, hEs, G, b, E.length, by rw [sL_len]; rfl, by omega, B1, fun H2 at_ hat B2 => ?_⟩
    refine ⟨_, rfl, _, rfl, hEs, ((sL E).length : Int), rfl, by rw [sL_len]; omega, by rw [sL_len]; omega, ?_⟩
    rw [Int.toNat_natCast, sL_len]
    refine for_pre (wf_range E.length) (fun pre σ H' => ∃ (S : List Nat) (v6 v7 v8 : Option V), Bx G H' b ∧ S.length = pre.length ∧ (∀ c ∈ S, c ∈ [76, 82, 63]) ∧
      σ = [some (.ref b), some (sV E), some (sV [63]), some (nV style), some (nV at_), some (sV S), v6, v7, v8]) ?_ ?_ ?_ ?_
    · exact ⟨[], none, none, none, B2, rfl, (fun x hx => by cases hx), rfl⟩
    · intro _ _ _ _; trivial
    · rintro pre u post σ H' e ⟨S, v6, v7, v8, B', hSl, hS, rfl⟩
      obtain ⟨ep, hu⟩ := range_split e
      have hS63 : S.length ≤ 63 := by rw [hSl, ep, List.length_range]; omega
      have hat : atI (sL E).cps.toList ((u : Nat) : Int) = some (eF E u) := atI_nat (by rw [sL_tl]; exact eF_at hu)
      have hec := eF_LR hLR u
      -- the end of a turn
      have fin : ∀ (o p : Nat) (H1 : Hp), (o = 76 ∨ o = 82) → p ≤ 2 → Bx G H1 b →
          tAsg (tOp (fun x y H Q => ∃ i j, x = V.str i ∧ y = V.str j ∧ i.length + j.length ≤ sizeLine ∧ Q (.str (i ++ j)) H) (tVar 5) (tOp (rIxL K) (tLst (tCons (tOp rIxS (tVar 1) (tVar 6)) (tCons (tVar 7) (tCons (tIf (fun σ H Q => tVar 2 σ H fun x H' => ∃ k, TruV K x H' k ∧ Q k H') (tVar 2) (tVar 7)) tNil)))) (tVar 8))) (gName 5)
            { nx := fun σ H' => ∃ (S : List Nat) (v6 v7 v8 : Option V), Bx G H' b ∧ S.length = (pre ++ [u]).length ∧ (∀ c ∈ S, c ∈ [76, 82, 63]) ∧ σ = [some (.ref b), some (sV E), some (sV [63]), some (nV style), some (nV at_), some (sV S), v6, v7, v8], rt := fun _ _ => False, bk := fun _ _ => False, ct := fun _ _ => False }
            [some (.ref b), some (sV E), some (sV [63]), some (nV style), some (nV at_), some (sV S), some (nV u), some (.str ⟨#[o]⟩), some (nV p)] H1 := fun o p H1 ho hp B1 => by
        have h3 : 3 ≤ sizeLine := Nat.le_of_lt (small100 (by omega))
        refine ⟨_, rfl, _, rfl, _, rfl, sL E, ((u : Nat) : Int), eF E u, rfl, rfl, hEs, hat, _, rfl, _, rfl, _, ⟨by decide, rfl⟩, ifT rfl ⟨_, rfl, h3, fun L hL => ?_⟩⟩
        have sN := (Same.refl H1).new (o := .lst [.str ⟨#[eF E u]⟩, .str ⟨#[o]⟩, sV [63]]) hL
        obtain ⟨c, hc, hc2⟩ : ∃ c, ([.str ⟨#[eF E u]⟩, .str ⟨#[o]⟩, sV [63]] : List V)[p]? = some (V.str ⟨#[c]⟩) ∧ c ∈ [76, 82, 63] := by
          have : p = 0 ∨ p = 1 ∨ p = 2 := by omega
          rcases this with rfl | rfl | rfl
          · exact ⟨_, rfl, by rcases hec with h | h <;> rw [h] <;> decide⟩
          · exact ⟨_, rfl, by rcases ho with h | h <;> rw [h] <;> decide⟩
          · exact ⟨63, rfl, by decide⟩
        refine ⟨_, rfl, L, _, ((p : Nat) : Int), _, rfl, rfl, SqL.of upd_same, atI_nat hc, sL S, sL [c], rfl, rfl, ?_, ?_⟩
        · rw [sL_len, sL_len]; exact Nat.le_of_lt (small100 (by simp; omega))
        · refine ⟨S ++ [c], some (nV u), some (.str ⟨#[o]⟩), some (nV p), B1.ext sN, by rw [List.length_append, List.length_append, hSl]; rfl, fun x hx => ?_, ?_⟩
          · rcases List.mem_append.mp hx with hx | hx
            · exact hS x hx
            · rw [List.mem_singleton.mp hx]; exact hc2
          · show [some (V.ref b), some (sV E), some (sV [63]), some (nV style), some (nV at_), some (V.str (sL S ++ sL [c])), some (nV u), some (V.str ⟨#[o]⟩), some (nV p)] = _
            rw [sL_app]; rfl
      have hd : decide (V.str ⟨#[eF E u]⟩ = V.str ("L" : Str)) = decide ([eF E u] = [76]) := sV_dec [eF E u] [76]
      obtain ⟨o, ho, hov⟩ : ∃ o, (o = 76 ∨ o = 82) ∧ atI (("LR" : Str)).cps.toList (if decide (V.str ⟨#[eF E u]⟩ = V.str ("L" : Str)) = true then 1 else 0) = some o := by
        by_cases c : eF E u = 76
        · exact ⟨82, .inr rfl, by rw [if_pos (by rw [hd, c]; rfl)]; rfl⟩
        · exact ⟨76, .inl rfl, by rw [if_neg (by rw [hd, decide_eq_false (fun z => c (List.cons.inj z).1)]; exact Bool.false_ne_true)]; rfl⟩
      refine ⟨_, rfl, _, rfl, sL E, ((u : Nat) : Int), eF E u, rfl, rfl, hEs, hat, rfl, .inr ⟨_, rfl, _, _, o, rfl, rfl, by decide, hov, ?_⟩⟩
      refine ⟨_, rfl, rfl, _, rfl, ?_⟩
      have hdk : ∀ k : Nat, decide (nV style = V.int (k : Int)) = decide (style = k) := fun k => nV_dec style k
      by_cases c3 : style = 3
      · refine ifT ((hdk 3).trans (decide_eq_true c3)) ?_
        refine ⟨_, rfl, (style : Int), 3, rfl, rfl, _, rfl, ifF (decide_eq_false (by omega)) ?_⟩
        refine ⟨_, rfl, rfl, _, rfl, ifF ((hdk 1).trans (decide_eq_false (by omega))) ⟨_, rfl, rfl, _, rfl, ?_⟩⟩
        rw [show (decide (nV style = V.int 2)) = false from (hdk 2).trans (decide_eq_false (by omega))]
        exact fin o 2 H' ho (by omega) B'
      refine ifF ((hdk 3).trans (decide_eq_false c3)) ?_
      refine ⟨_, rfl, (style : Int), 3, rfl, rfl, _, rfl, ?_⟩
      by_cases c4 : 3 < style
      · refine ifT (decide_eq_true (by omega)) ?_
        refine ⟨_, rfl, G, b, 4, rfl, by decide, B', fun H3 r hr B3 => .inl ⟨_, rfl, _, 3, rfl, rfl, (show (0 : Int) < 3 by decide), ?_⟩⟩
        refine ⟨_, rfl, rfl, _, rfl, ifF ((hdk 1).trans (decide_eq_false (by omega))) ⟨_, rfl, rfl, _, rfl, ?_⟩⟩
        rw [show (decide (nV style = V.int 2)) = false from (hdk 2).trans (decide_eq_false (by omega))]
        have f3 := fin o (r % 3) H3 ho (by omega) B3
        rw [show nV (r % 3) = V.int (((r : Nat) : Int) % 3) from rfl] at f3
        exact f3
      refine ifF (decide_eq_false (by omega)) ?_
      have hdu : decide (nV u = nV at_) = decide (u = at_) := nV_dec u at_
      by_cases h1 : style = 1
      · refine ⟨_, rfl, rfl, _, rfl, ifT ((hdk 1).trans (decide_eq_true h1)) (ifT rfl ⟨_, rfl, _, rfl, rfl, _, rfl, ?_⟩)⟩
        by_cases hua : u = at_
        · exact ifT (hdu.trans (decide_eq_true hua)) ⟨_, rfl, fin o style H' ho (by omega) B'⟩
        · exact ifF (hdu.trans (decide_eq_false hua)) (fin o 0 H' ho (by omega) B')
      refine ⟨_, rfl, rfl, _, rfl, ifF ((hdk 1).trans (decide_eq_false h1)) ⟨_, rfl, rfl, _, rfl, ?_⟩⟩
      by_cases h2 : style = 2
      · refine ifT ((hdk 2).trans (decide_eq_true h2)) ⟨_, rfl, _, rfl, rfl, _, rfl, ?_⟩
        by_cases hua : u = at_
        · exact ifT (hdu.trans (decide_eq_true hua)) ⟨_, rfl, fin o style H' ho (by omega) B'⟩
        · exact ifF (hdu.trans (decide_eq_false hua)) (fin o 0 H' ho (by omega) B')
      · refine ifF ((hdk 2).trans (decide_eq_false h2)) ?_
        exact ifF rfl (fin o 0 H' ho (by omega) B')
    · rintro σ H' ⟨S, v6, v7, v8, B', hSl, hS, rfl⟩
      rw [List.length_range] at hSl
      exact ⟨_, rfl, q H' S B' hSl hS⟩
end
end K22
set_option Elab.async false
set_option linter.all false
set_option maxRecDepth 100000
set_option maxHeartbeats 4000000
namespace K22
open PySem PySem.Spec PyProof.Rows L2
/-! what can be shown by repr -/
structure Shw (K : PySem.W.Frag) (H : Hp) (x : V) (d : PyData) : Prop where
  dp : Dp K H x d
  sh : d.showable = true
  nd : d.hasDict = false
  ln : d.shown.length ≤ 12000000
  dep : d.depth ≤ 10
/-- one value without parts -/
inductive Sc (K : PySem.W.Frag) (H : Hp) : V → PyData → Prop
  | non : Sc K H .non .none
  | bl (b : Bool) : Sc K H (.bl b) (.bool b)
  | int (i : Int) (h : i.natAbs.log2 < 1920) : Sc K H (.int i) (.int i)
  | str (l : List Nat) (h : l.length ≤ 1000) (hc : ∀ c ∈ l, c < 16 ^ 8) : Sc K H (sV l) (.str (sL l))
theorem Sc.len {K : PySem.W.Frag} {H : Hp} {x : V} {d : PyData} (h : Sc K H x d) : d.shown.length ≤ 10100 := by
  cases h with
  | non => exact Nat.le_of_lt (by decide)
  | bl b => cases b <;> exact Nat.le_of_lt (by decide)
  | int i h =>
    have := int_text_len_1921 h
    show (Str.ofString (toString i)).length ≤ 10100
    omega
  | str l h hc =>
    have := StrLaws.reprText_len (sL l) (by rw [sL_tl]; exact hc)
    rw [sL_len] at this
    show (reprText (sL l)).length ≤ 10100
    omega
theorem Sc.shw {K : PySem.W.Frag} {H : Hp} {x : V} {d : PyData} (h : Sc K H x d) : Shw K H x d := by
  have hl := h.len
  refine ⟨?_, ?_, ?_, by omega, ?_⟩
  · cases h with
    | non => exact .non
    | bl b => exact .bl b
    | int i h => exact .int i
    | str l h => exact .str _
  · cases h with
    | int i h => exact decide_eq_true h
    | _ => rfl
  · cases h <;> rfl
  · cases h <;> simp [PyData.depth]
theorem Sc.same {K : PySem.W.Frag} {H H' : Hp} {x : V} {d : PyData} (h : Sc K H x d) : Sc K H' x d := by
  cases h with
  | non => exact .non
  | bl b => exact .bl b
  | int i h => exact .int i h
  | str l h hc => exact .str l h hc
inductive ScAll (K : PySem.W.Frag) (H : Hp) : List V → List PyData → Prop
  | nil : ScAll K H [] []
  | cons {x : V} {d : PyData} {xs : List V} {ds : List PyData} (h : Sc K H x d) (t : ScAll K H xs ds) : ScAll K H (x :: xs) (d :: ds)
theorem textFrom_up {L : Nat} : ∀ (ts : List Str) (k : Nat) (acc : Str), (∀ t ∈ ts, t.length ≤ L) → (textFrom k acc ts).length ≤ acc.length + (L + 2) * ts.length
  | [], k, acc, _ => by show acc.length ≤ _; omega
  | t :: ts, k, acc, h => by
    have ih := textFrom_up ts (k + 1) (acc ++ (if k > 0 then ", " else "" : String) ++ t) fun u hu => h u (by simp [hu])
    have e : (acc ++ (if k > 0 then ", " else "" : String) ++ t).length ≤ acc.length + 2 + t.length := by
      rw [strLen_append, strLen_append]
      have : (((if k > 0 then ", " else "" : String)) : Str).length ≤ 2 := by split <;> decide
      omega
    have ht := h t (by simp)
    show (textFrom (k + 1) _ ts).length ≤ _
    rw [List.length_cons, Nat.mul_succ]
    omega
theorem listText_up {L : Nat} (ts : List Str) (h : ∀ t ∈ ts, t.length ≤ L) : (listText ts).length ≤ 2 + (L + 2) * ts.length := by
  unfold listText
  rw [strLen_append]
  have := textFrom_up (L := L) ts 0 "[" h
  have e1 : (("[" : String) : Str).length = 1 := rfl
  have e2 : (("]" : String) : Str).length = 1 := rfl
  rw [e2]
  have e1' : ((("[" : Str))).length = 1 := rfl
  omega
theorem piled_up {L : Nat} : ∀ ts : List Str, (∀ t ∈ ts, t.length ≤ L) → piled ts ≤ (L + 2) * ts.length
  | [], _ => by simp [piled]
  | t :: ts, h => by
    have ih := piled_up ts fun u hu => h u (by simp [hu])
    have ht := h t (by simp)
    rw [piled_cons, List.length_cons, Nat.mul_succ]
    omega
theorem tupleText_up {L : Nat} (ts : List Str) (h : ∀ t ∈ ts, t.length ≤ L) : (tupleText ts).length ≤ 3 + (L + 2) * ts.length := by
  unfold tupleText
  rw [strLen_append, strLen_append]
  have e1 : ((("(" : String) : Str)).length = 1 := rfl
  have e3 : (((if ts.length == 1 then ",)" else ")" : String) : Str)).length ≤ 2 := by split <;> decide
  have e4 : (Str.join ", " ts).length ≤ (L + 2) * ts.length := by
    by_cases c : ts = []
    · subst c; exact Nat.zero_le _
    · have := join_length_add ts c
      have := piled_up ts h
      omega
  have e1' : ((("(" : Str))).length = 1 := rfl
  omega
section
variable {K : PySem.W.Frag} {H : Hp} {xs : List V} {ds : List PyData}
theorem ScAll.len (h : ScAll K H xs ds) : ds.length = xs.length := by induction h with | nil => rfl | cons _ _ ih => rw [List.length_cons, List.length_cons, ih]
theorem ScAll.dp (h : ScAll K H xs ds) : DpAll K H xs ds := by
  induction h with
  | nil => exact .nil
  | cons h _ ih => exact .cons h.shw.dp ih
theorem ScAll.sh (h : ScAll K H xs ds) : PyData.showableAll ds = true ∧ PyData.hasDictAll ds = false ∧ PyData.depthAll ds ≤ 0 ∧ (∀ t ∈ PyData.shownAll ds, t.length ≤ 10100) ∧ (PyData.shownAll ds).length = ds.length := by
  induction h with
  | nil => exact ⟨rfl, rfl, Nat.le_refl _, (fun t ht => by cases ht), rfl⟩
  | @cons x d xs ds h _ ih =>
    obtain ⟨i1, i2, i3, i4, i5⟩ := ih
    have s := h.shw
    refine ⟨by simp [PyData.showableAll, s.sh, i1], by simp [PyData.hasDictAll, s.nd, i2], ?_, fun t ht => ?_, by simp [PyData.shownAll, i5]⟩
    · have : PyData.depth d = 0 := by cases h <;> rfl
      simp [PyData.depthAll, this]
      omega
    · rcases List.mem_cons.mp (show t ∈ PyData.shown d :: PyData.shownAll ds from ht) with rfl | ht
      · exact h.len
      · exact i4 t ht
theorem shw_list {a : Addr} (ha : H a = some (.lst xs)) (h : ScAll K H xs ds) (hl : xs.length ≤ 200) : Shw K H (.ref a) (.list ds) := by
  obtain ⟨i1, i2, i3, i4, i5⟩ := h.sh
  refine ⟨.lst (SqL.of ha) h.dp, i1, i2, ?_, ?_⟩
  · have := listText_up (PyData.shownAll ds) i4
    rw [i5, h.len] at this
    show (listText (PyData.shownAll ds)).length ≤ _
    omega
  · show PyData.depth (.list ds) ≤ 10
    simp only [PyData.depth]
    omega
theorem shw_tup {a : Addr} (ha : H a = some (.tup xs)) (h : ScAll K H xs ds) (hl : xs.length ≤ 200) : Shw K H (.ref a) (.tuple ds) := by
  obtain ⟨i1, i2, i3, i4, i5⟩ := h.sh
  refine ⟨.tup (SqT.of ha) h.dp, i1, i2, ?_, ?_⟩
  · have := tupleText_up (PyData.shownAll ds) i4
    rw [i5, h.len] at this
    show (tupleText (PyData.shownAll ds)).length ≤ _
    omega
  · show PyData.depth (.tuple ds) ≤ 10
    simp only [PyData.depth]
    omega
/-- a list of one -/
theorem shw_one {a : Addr} {x : V} {d : PyData} (ha : H a = some (.lst [x])) (h : Shw K H x d) (hl : d.shown.length ≤ 11000000) (hd : d.depth ≤ 8) : Shw K H (.ref a) (.list [d]) := by
  refine ⟨.lst (SqL.of ha) (.cons h.dp .nil), ?_, ?_, ?_, ?_⟩
  · show PyData.showableAll [d] = true
    simp [PyData.showableAll, h.sh]
  · show PyData.hasDictAll [d] = false
    simp [PyData.hasDictAll, h.nd]
  · have := listText_up (L := 11000000) [d.shown] fun t ht => by rw [List.mem_singleton.mp ht]; exact hl
    show (listText [d.shown]).length ≤ _
    simp at this
    omega
  · show PyData.depth (.list [d]) ≤ 10
    simp [PyData.depth, PyData.depthAll]
    omega
end
/-- the signs of a text, as a list -/
theorem sc_signs {K : PySem.W.Frag} {H : Hp} : ∀ {l : List Nat}, (∀ c ∈ l, c < 16 ^ 8) → ScAll K H (l.map fun c => V.str ⟨#[c]⟩) (l.map fun c => PyData.str ⟨#[c]⟩)
  | [], _ => .nil
  | c :: l, h => .cons (.str [c] (by simp) (fun x hx => by rw [List.mem_singleton.mp hx]; exact h c (by simp))) (sc_signs fun x hx => h x (by simp [hx]))
theorem sc_ints {K : PySem.W.Frag} {H : Hp} : ∀ {l : List Nat}, (∀ c ∈ l, c < 2 ^ 60) → ScAll K H (l.map nV) (l.map fun c : Nat => PyData.int (c : Int))
  | [], _ => .nil
  | c :: l, h => .cons (.int _ (by
      have := h c (by simp)
      have e : ((c : Int)).natAbs = c := Int.natAbs_natCast c
      rw [e]
      by_cases c0 : c = 0
      · subst c0; decide
      · exact Nat.lt_trans ((Nat.log2_lt c0).mpr this) (by decide))) (sc_ints fun x hx => h x (by simp [hx]))
/-! ### flags, bent -/
theorem sql_same {K : PySem.W.Frag} {H H' : Hp} {p : Addr} {xs : List V} (e : Same H H') (h : SqL K H p xs) : SqL K H' p xs := by
  rcases h with h | h
  · exact .inl (L2.Rd.same e h)
  · exact .inr h
mutual
theorem dp_same {K : PySem.W.Frag} {H H' : Hp} (s : Same H H') : ∀ (d : PyData) (x : V), Dp K H x d → Dp K H' x d
  | .none, _, h => by cases h; exact .non
  | .bool b, _, h => by cases h; exact .bl b
  | .int i, _, h => by cases h; exact .int i
  | .str z, _, h => by cases h; exact .str z
  | .list ds, _, h => by
    cases h with
    | lst hs ha => exact .lst (sql_same s hs) (dpAll_same s ds _ ha)
  | .tuple ds, _, h => by
    cases h with
    | tup hs ha => exact .tup (sqt_same s hs) (dpAll_same s ds _ ha)
  | .dict _, _, h => by cases h
theorem dpAll_same {K : PySem.W.Frag} {H H' : Hp} (s : Same H H') : ∀ (ds : List PyData) (xs : List V), DpAll K H xs ds → DpAll K H' xs ds
  | [], _, h => by cases h; exact .nil
  | d :: ds, _, h => by
    cases h with
    | cons h1 h2 => exact .cons (dp_same s d _ h1) (dpAll_same s ds _ h2)
end
theorem Shw.same {K : PySem.W.Frag} {H H' : Hp} {x : V} {d : PyData} (s : Same H H') (h : Shw K H x d) : Shw K H' x d := ⟨dp_same s d x h.dp, h.sh, h.nd, h.ln, h.dep⟩
section
variable {P : Program} {w : World} {K : PySem.W.Frag} {mg : Str → Option Value} {base : Heap}
/-- no flags at all -/
structure Bad (K : PySem.W.Frag) (H : Hp) (ss : List Nat) (n : Nat) (x : V) : Prop where
  ex : ∃ (o : Option (List Nat)) (d : PyData), StrA K H x o ∧ okF ss n o = false ∧ Shw K H x d
theorem Bad.same {H H' : Hp} {ss : List Nat} {n : Nat} {x : V} (s : Same H H') (h : Bad K H ss n x) : Bad K H' ss n x := by
  obtain ⟨o, d, h1, h2, h3⟩ := h.ex
  exact ⟨o, d, h1.same s, h2, h3.same s⟩
theorem bad_str {H : Hp} {ss : List Nat} {n : Nat} {l : List Nat} (h : okF ss n (some l) = false) (hl : l.length ≤ 1000) (hc : ∀ c ∈ l, c < 1000) : Bad K H ss n (sV l) :=
  ⟨some l, _, .str l hl, h, (Sc.str l hl fun c hc' => Nat.lt_of_lt_of_le (hc c hc') (by decide)).shw⟩
theorem okF_len {ss : List Nat} {n : Nat} {l : List Nat} (h : l.length ≠ n) : okF ss n (some l) = false := by
  show (isM ss (some l) && decide (l.length = n)) = false
  rw [decide_eq_false h, Bool.and_false]
theorem okF_sign {ss : List Nat} {n : Nat} {l : List Nat} {c : Nat} (h : c ∈ l) (hn : c ∉ ss) : okF ss n (some l) = false := by
  show ((l.all fun c => decide (c ∈ ss)) && decide (l.length = n)) = false
  have : (l.all fun c => decide (c ∈ ss)) = false := by
    rw [Bool.eq_false_iff]
    intro z
    exact hn (of_decide_eq_true (List.all_eq_true.mp z c h))
  rw [this, Bool.false_and]
def spBt (K : PySem.W.Frag) (ss : List Nat) : Sp := fun vs H Q _ => ∃ (G : Hp) (b : Addr) (F od : List Nat), vs = [.ref b, sV F, sV od] ∧ F.length ≤ 63 ∧ od.length = 4 ∧ (∀ c ∈ od, c ∉ ss) ∧ (∀ c ∈ F, c < 1000) ∧ (∀ c ∈ od, c < 1000) ∧ Bx G H b ∧
  ∀ (G' H' : Hp) (x : V), Same G G' → Bx G' H' b → Bad K G' ss F.length x → Q x H'
theorem cutS_to {l : List Nat} {b : Nat} (h : b ≤ l.length) : cutS (sL l) none (some (b : Int)) = sL (l.take b) := by
  unfold cutS
  rw [sL_len, sIx_at h, sL_tl]
  show sL ((l.drop 0).take (b - 0)) = _
  rw [List.drop_zero, Nat.sub_zero]
theorem cutS_min {l : List Nat} {b : Nat} : cutS (sL l) (some (b : Int)) none = sL (l.drop b) := by
  unfold cutS
  rw [sL_len, HT.sIx_nat, sL_tl]
  show sL ((l.drop (min b l.length)).take (l.length - min b l.length)) = _
  congr 1
  rw [List.take_of_length_le (by rw [List.length_drop]; exact Nat.le_refl _)]
  by_cases c : b ≤ l.length
  · rw [Nat.min_eq_left c]
  · rw [Nat.min_eq_right (by omega), List.drop_length, List.drop_of_length_le (by omega)]
theorem ok_law_bent {ss : List Nat} (T : Tb mg) (F : Df K mg "_law_bent" s__law_bent) (c__law_take : Cl P w K mg base 1 "_law_take" spTk) : Cl P w K mg base 2 "_law_bent" (spBt K ss) := by
  refine cl_mk F sc__law_bent (fun vs H Q E h => ?_) (fun _ _ _ _ _ _ us hl => match us, hl with | [_, _, _], _ => rfl) (fun f cdv A outer s H vs Q E hr h => ?_)
  · obtain ⟨_, _, _, _, rfl, _⟩ := h; rfl
  · obtain ⟨G, b, F, od, rfl, hF, hod, hos, hFc, hoc, B, q⟩ := h
    refine ⟨_, PSs.nox (pss_cons (ps_set (i := 3) sc__law_bent.nd rfl (Or.inl rfl) (pe_cl c__law_take hr (by decide) rfl (pa_cons (pv 0) (pa_cons pe_int pa_nil))))
    (pss_cons (ps_set (i := 4) sc__law_bent.nd rfl (Or.inl rfl) (pe_cl c__law_take hr (by decide) rfl (pa_cons (pv 0) (pa_cons (pe_callB call_len_str (by rfl) T.n_len (by decide +kernel) (pa_cons (pv 1) pa_nil)) pa_nil))))
    (pss_cons (ps_if (pt_cmpR op_lt (pv 3) pe_int (nomark _))
      (pss_one (ps_ret (pe_op op_add_str (pe_op op_add_str (pe_slice sl_str (pv 1) po_none (po_some (pv 4))) (pe_ix ix_str (pv 2) (pv 3) (fun _ _ => rfl))) (pe_slice sl_str (pv 1) (po_some (pe_op op_add (pv 4) pe_int)) po_none))))
      pss_nil)
    (pss_cons (ps_if (pt_cmpR op_eq (pv 3) pe_int (nomark _))
      (pss_one (ps_ret (pe_op op_add_str (pv 1) (pe_ix ix_str pe_str (pe_cl c__law_take hr (by decide) rfl (pa_cons (pv 0) (pa_cons pe_int pa_nil))) (fun _ _ => rfl)))))
      pss_nil)
    (pss_cons (ps_if (pt_cmpR op_eq (pv 3) pe_int (nomark _))
      (pss_one (ps_ret (pe_ifExp (pt_truth (pv 1) (by intro _; rfl)) (pe_slice sl_str (pv 1) (po_some pe_int) po_none) pe_str)))
      pss_nil)
    (pss_cons (ps_if (pt_cmpR op_eq (pv 3) pe_int (nomark _))
      (pss_one (ps_ret (pe_lc (own := [("_law_sign", 5)]) (by rfl) sc__law_bent.nd (pi_str (pv 1)) (blkOk_by (own := [("_law_sign", 5)]) (N := n__law_bent) (sc := defScope s__law_bent) (by decide +kernel)) (fun _ _ _ _ _ => (pg_name (i := 5) sc__law_bent.nd rfl (Or.inl rfl))) (fun _ _ _ _ _ => pts_nil) (fun _ _ _ _ _ => (pv 5)))))
      pss_nil)
    (pss_one (ps_ret pe_non)))))))), ?_⟩
    have hFs : (sL F).length ≤ sizeLine := by rw [sL_len]; exact Nat.le_of_lt (small100 (by omega))
    have hos2 : (sL od).length ≤ sizeLine := by rw [sL_len, hod]; exact Nat.le_of_lt (small100 (by omega))
    refine ⟨_, rfl, G, b, 8, rfl, by decide, B, fun H1 way hway B1 => ?_⟩
    refine ⟨_, rfl, _, rfl, _, rfl, hFs, G, b, F.length, by rw [sL_len]; rfl, by omega, B1, fun H2 at_ hat B2 => ?_⟩
    refine ⟨_, rfl, (way : Int), 4, rfl, rfl, _, rfl, ?_⟩
    by_cases c1 : way < 4
    · refine ifT (decide_eq_true (by omega)) ?_
      obtain ⟨c, hc⟩ : ∃ c, od[way]? = some c := ⟨od[way], List.getElem?_eq_getElem (by omega)⟩
      have hcm := List.mem_of_getElem? hc
      refine ⟨_, rfl, _, rfl, _, rfl, sL F, rfl, hFs, _, rfl, _, rfl, sL od, (way : Int), c, rfl, rfl, hos2, atI_nat (by rw [sL_tl]; exact hc), ?_⟩
      rw [cutS_to (by omega)]
      refine ⟨sL (F.take at_), sL [c], rfl, rfl, ?_, ?_⟩
      · rw [sL_len, sL_len, List.length_take]; exact Nat.le_of_lt (small100 (by simp; omega))
      refine ⟨_, rfl, _, rfl, _, 1, rfl, rfl, _, rfl, sL F, rfl, hFs, ?_⟩
      rw [sL_app, show ((at_ : Int) + 1) = ((at_ + 1 : Nat) : Int) by omega, cutS_min]
      refine ⟨sL (F.take at_ ++ [c]), sL (F.drop (at_ + 1)), rfl, rfl, ?_, ?_⟩
      · rw [sL_len, sL_len, List.length_append, List.length_take, List.length_drop]; exact Nat.le_of_lt (small100 (by simp; omega))
      rw [sL_app]
      refine q G H2 _ (Same.refl G) B2 (bad_str (okF_sign (c := c) (by simp) (hos c hcm)) ?_ ?_)
      · rw [List.length_append, List.length_append, List.length_take, List.length_drop]; simp; omega
      · intro x hx
        rcases List.mem_append.mp hx with hx | hx
        · rcases List.mem_append.mp hx with hx | hx
          · exact hFc x (List.mem_of_mem_take hx)
          · rw [List.mem_singleton.mp hx]; exact hoc c hcm
        · exact hFc x (List.mem_of_mem_drop hx)
    refine ifF (decide_eq_false (by omega)) ⟨_, rfl, rfl, _, rfl, ?_⟩
    have hd : ∀ k : Nat, decide (nV way = V.int (k : Int)) = decide (way = k) := fun k => nV_dec way k
    by_cases c4 : way = 4
    · refine ifT ((hd 4).trans (decide_eq_true c4)) ⟨_, rfl, _, rfl, G, b, 2, rfl, by decide, B2, fun H3 r hr B3 => ?_⟩
      obtain ⟨c, hc, hLR⟩ := pick_LR hr
      refine ⟨_, (r : Int), c, rfl, rfl, by decide, hc, sL F, sL [c], rfl, rfl, ?_, ?_⟩
      · rw [sL_len, sL_len]; exact Nat.le_of_lt (small100 (by simp; omega))
      rw [sL_app]
      refine q G H3 _ (Same.refl G) B3 (bad_str (okF_len (by simp)) (by simp; omega) fun x hx => ?_)
      rcases List.mem_append.mp hx with hx | hx
      · exact hFc x hx
      · rw [List.mem_singleton.mp hx]; rcases hLR with h | h <;> omega
    refine ifF ((hd 4).trans (decide_eq_false c4)) ⟨_, rfl, rfl, _, rfl, ?_⟩
    by_cases c5 : way = 5
    · refine ifT ((hd 5).trans (decide_eq_true c5)) ⟨_, rfl, _, ⟨hFs, rfl⟩, ?_⟩
      cases F with
      | nil =>
        refine ifF rfl ?_
        exact q G H2 _ (Same.refl G) B2 (bad_str (l := [82]) (okF_len (by simp)) (by simp) fun x hx => by rw [List.mem_singleton.mp hx]; omega)
      | cons c F =>
        refine ifT (by rw [sL_len, List.length_cons]; simp; omega) ⟨_, rfl, 1, rfl, sL (c :: F), rfl, hFs, ?_⟩
        have := cutS_min (l := c :: F) (b := 1)
        rw [show cutS (sL (c :: F)) (some 1) none = sL F from this]
        refine q G H2 _ (Same.refl G) B2 (bad_str (okF_len (by rw [List.length_cons]; omega)) (by rw [List.length_cons] at hF; omega) fun x hx => hFc x (by simp [hx]))
    refine ifF ((hd 5).trans (decide_eq_false c5)) ⟨_, rfl, rfl, _, rfl, ?_⟩
    by_cases c6 : way = 6
    · refine ifT ((hd 6).trans (decide_eq_true c6)) ⟨_, rfl, _, rfl, fun D hD => ?_⟩
      obtain ⟨B3, s3⟩ := B2.new (o := .lst []) hD
      have hGD : G D = none := B2.same.free hD
      refine lc_pre (wf_str F) (fun pre H' => ∃ G', Same G G' ∧ Bx G' H' b ∧ G' D = some (.lst (pre.map fun c => V.str ⟨#[c]⟩))) ⟨_, s3, B3, upd_same⟩ ?_ ?_ ?_
      · intro _ _ _; trivial
      · rintro pre c post H' e ⟨G', sG, B', hD'⟩
        have hl : pre.length ≤ 100 := by
          have := congrArg List.length e
          rw [List.length_append, List.length_cons] at this
          omega
        refine ⟨rfl, ?_⟩
        refine ⟨_, rfl, _, B'.same _ _ hD', by rw [List.length_map]; exact small100 hl, upd G' D (.lst ((pre ++ [c]).map fun c => V.str ⟨#[c]⟩)), sG.put hGD, ?_, upd_same⟩
        have := B'.set (o := .lst ((pre ++ [c]).map fun c => V.str ⟨#[c]⟩)) hD'
        rw [List.map_append] at this ⊢
        exact this
      · rintro H' ⟨G', sG, B', hD'⟩
        refine q G' H' _ sG B' ⟨none, _, .lst hD', rfl, shw_list hD' (sc_signs fun c hc => Nat.lt_of_lt_of_le (hFc c hc) (by decide)) (by rw [List.length_map]; omega)⟩
    · refine ifF ((hd 6).trans (decide_eq_false c6)) ?_
      exact q G H2 _ (Same.refl G) B2 ⟨none, _, .non, rfl, Sc.non.shw⟩
end
end K22
set_option Elab.async false
set_option linter.all false
set_option maxRecDepth 100000
set_option maxHeartbeats 4000000
set_option exponentiation.threshold 3000
namespace K22
open PySem PySem.Spec PyProof.Rows L2
theorem char_small (c : Char) : c.toNat < 1114112 := by
  have h := c.valid
  have e : c.toNat = c.val.toNat := rfl
  rcases h with h | ⟨_, h⟩
  · have h : c.val.toNat < 0xD800 := h
    omega
  · have h : c.val.toNat < 0x110000 := h
    omega
theorem text_small {s : String} : ∀ c ∈ (Str.ofString s).cps.toList, c < 16 ^ 8 := by
  intro c hc
  rw [Str.ofString_eq_toList] at hc
  have hc : c ∈ s.toList.map Char.toNat := by simpa using hc
  obtain ⟨x, _, rfl⟩ := List.mem_map.mp hc
  exact Nat.lt_of_lt_of_le (char_small x) (by decide)
theorem sc_text {K : PySem.W.Frag} {H : Hp} {s : String} (h : (Str.ofString s).length ≤ 1000) : ∃ d, Sc K H (.str (Str.ofString s)) d := by
  have e : V.str (Str.ofString s) = sV (Str.ofString s).cps.toList := by
    show V.str (Str.ofString s) = V.str ⟨(Str.ofString s).cps.toList.toArray⟩
    rw [Array.toArray_toList]
  rw [e]
  refine ⟨_, .str _ ?_ text_small⟩
  rw [Array.length_toList]; exact h
theorem log_small {n k : Nat} (h : n < 2 ^ k) (hk : 0 < k) : n.log2 < k := by
  by_cases c : n = 0
  · subst c; exact hk
  · exact (Nat.log2_lt c).mpr h
/-- no rank -/
structure BadR (K : PySem.W.Frag) (n : Nat) (x : V) : Prop where
  ex : ∃ d, (∀ H, Sc K H x d) ∧ (∀ H, ∃ b, IsI K H x b) ∧ (okN x = false ∨ ∃ r, x = nV r ∧ n ≤ r)
section
variable {P : Program} {w : World} {K : PySem.W.Frag} {mg : Str → Option Value} {base : Heap}
def spBr (K : PySem.W.Frag) : Sp := fun vs H Q _ => ∃ (G : Hp) (b : Addr) (n : Nat), vs = [.ref b, nV n] ∧ 1 ≤ n ∧ n < 2 ^ 900 ∧ Bx G H b ∧ ∀ (H' : Hp) (x : V), Bx G H' b → BadR K n x → Q x H'
theorem ok_law_bent_rank (T : Tb mg) (F : Df K mg "_law_bent_rank" s__law_bent_rank) (c__law_take : Cl P w K mg base 1 "_law_take" spTk) (c__law_wide : Cl P w K mg base 2 "_law_wide" spWd) : Cl P w K mg base 3 "_law_bent_rank" (spBr K) := by
  refine cl_mk F sc__law_bent_rank (fun vs H Q E h => ?_) (fun _ _ _ _ _ _ us hl => match us, hl with | [_, _], _ => rfl) (fun f cdv A outer s H vs Q E hr h => ?_)
  · obtain ⟨_, _, _, rfl, _⟩ := h; rfl
  · obtain ⟨G, b, n, rfl, hn1, hn2, B, q⟩ := h
    refine ⟨_, PSs.nox (pss_cons (ps_set (i := 2) sc__law_bent_rank.nd rfl (Or.inl rfl) (pe_cl c__law_take hr (by decide) rfl (pa_cons (pv 0) (pa_cons pe_int pa_nil))))
    (pss_cons (ps_if (pt_cmpR op_eq (pv 2) pe_int (nomark _))
      (pss_one (ps_ret (pe_op op_sub (pe_un un_neg pe_int) (pe_cl c__law_take hr (by decide) rfl (pa_cons (pv 0) (pa_cons pe_int pa_nil))))))
      pss_nil)
    (pss_cons (ps_if (pt_cmpR op_eq (pv 2) pe_int (nomark _))
      (pss_one (ps_ret (pv 1)))
      pss_nil)
    (pss_cons (ps_if (pt_cmpR op_eq (pv 2) pe_int (nomark _))
      (pss_one (ps_ret (pe_op op_add (pe_op op_add (pv 1) pe_int) (pe_cl c__law_take hr (by decide) rfl (pa_cons (pv 0) (pa_cons (pe_op op_pow pe_int pe_int) pa_nil))))))
      pss_nil)
    (pss_cons (ps_if (pt_cmpR op_eq (pv 2) pe_int (nomark _))
      (pss_one (ps_ret pe_non))
      pss_nil)
    (pss_cons (ps_if (pt_cmpR op_eq (pv 2) pe_int (nomark _))
      (pss_one (ps_ret (pe_cmpR op_eq (pe_cl c__law_take hr (by decide) rfl (pa_cons (pv 0) (pa_cons pe_int pa_nil))) pe_int (nomark _))))
      pss_nil)
    (pss_one (ps_ret (pe_callTy call_str_int (by rfl) T.n_str (by decide +kernel) (pa_cons (pe_cl c__law_wide hr (by decide) rfl (pa_cons (pv 0) (pa_cons (pv 1) pa_nil))) pa_nil)))))))))), ?_⟩
    refine ⟨_, rfl, G, b, 6, rfl, by decide, B, fun H1 way hway B1 => ?_⟩
    have hd : ∀ k : Nat, decide (nV way = V.int (k : Int)) = decide (way = k) := fun k => nV_dec way k
    have small : ∀ i : Int, i.natAbs < 2 ^ 901 → i.natAbs.log2 < 1920 := fun i h => Nat.lt_trans (log_small h (by decide)) (by decide)
    have tl : ∀ i : Int, i.natAbs < 2 ^ 901 → (Str.ofString (toString i)).length ≤ 1000 := fun i h => by
      have := int_text_length_le (a := i) (k := 901) (by decide) (log_small h (by decide))
      rw [PySem.ofString_length]
      omega
    have p1 : (2 : Nat) ^ 900 + 2 ^ 900 = 2 ^ 901 := by rw [Nat.pow_succ 2 900, Nat.mul_two]
    have p0 : 10000000000 ≤ (2 : Nat) ^ 900 := Nat.le_trans (show 10000000000 ≤ 2 ^ 40 by decide) (Nat.pow_le_pow_right (by decide) (by decide))
    generalize (2 : Nat) ^ 900 = N at *
    generalize (2 : Nat) ^ 901 = M at *
    refine ⟨_, rfl, rfl, _, rfl, ?_⟩
    by_cases c0 : way = 0
    · refine ifT ((hd 0).trans (decide_eq_true c0)) ⟨1, rfl, _, rfl, G, b, 3, rfl, by decide, B1, fun H2 r hr B2 => ⟨_, _, rfl, rfl, ?_⟩⟩
      refine q H2 _ B2 ⟨_, fun H => .int _ (small _ (by omega)), fun H => ⟨_, .int _⟩, .inl ?_⟩
      exact decide_eq_false (by omega)
    refine ifF ((hd 0).trans (decide_eq_false c0)) ⟨_, rfl, rfl, _, rfl, ?_⟩
    by_cases c1 : way = 1
    · refine ifT ((hd 1).trans (decide_eq_true c1)) ⟨_, rfl, ?_⟩
      exact q H1 _ B1 ⟨_, fun H => .int _ (small _ (by omega)), fun H => ⟨_, .int _⟩, .inr ⟨n, rfl, Nat.le_refl _⟩⟩
    refine ifF ((hd 1).trans (decide_eq_false c1)) ⟨_, rfl, rfl, _, rfl, ?_⟩
    by_cases c2 : way = 2
    · refine ifT ((hd 2).trans (decide_eq_true c2)) ⟨_, rfl, _, 1, rfl, rfl, _, rfl, 10, 9, rfl, rfl, ⟨by decide, by decide, by decide⟩, G, b, 1000000000, rfl, by decide, B1, fun H2 r hr B2 => ⟨_, _, rfl, rfl, ?_⟩⟩
      refine q H2 _ B2 ⟨_, fun H => .int _ (small _ (by omega)), fun H => ⟨_, .int _⟩, .inr ⟨n + 1 + r, ?_, by omega⟩⟩
      show V.int _ = V.int _
      congr 1
    refine ifF ((hd 2).trans (decide_eq_false c2)) ⟨_, rfl, rfl, _, rfl, ?_⟩
    by_cases c3 : way = 3
    · exact ifT ((hd 3).trans (decide_eq_true c3)) (q H1 _ B1 ⟨_, fun H => .non, fun H => ⟨_, .non⟩, .inl rfl⟩)
    refine ifF ((hd 3).trans (decide_eq_false c3)) ⟨_, rfl, rfl, _, rfl, ?_⟩
    by_cases c4 : way = 4
    · refine ifT ((hd 4).trans (decide_eq_true c4)) ⟨_, rfl, G, b, 2, rfl, by decide, B1, fun H2 r hr B2 => ⟨rfl, ?_⟩⟩
      exact q H2 _ B2 ⟨_, fun H => .bl _, fun H => ⟨_, .bl _⟩, .inl rfl⟩
    refine ifF ((hd 4).trans (decide_eq_false c4)) ⟨_, rfl, _, rfl, G, b, n, rfl, hn1, B1, fun H2 r hr B2 => ⟨_, rfl, small _ (by omega), ?_⟩⟩
    obtain ⟨d, _⟩ := sc_text (K := K) (H := H2) (s := toString ((r : Nat) : Int)) (tl _ (by omega))
    have hsc : ∀ H, ∃ d, Sc K H (.str (Str.ofString (toString ((r : Nat) : Int)))) d := fun H => sc_text (tl _ (by omega))
    obtain ⟨d, hd⟩ := hsc H2
    exact q H2 _ B2 ⟨d, fun H => hd.same, fun H => ⟨_, .str _⟩, .inl rfl⟩
end
end K22
set_option Elab.async false
set_option linter.all false
set_option maxRecDepth 100000
set_option maxHeartbeats 4000000
namespace K22
open PySem PySem.Spec PyProof.Rows L2
/-! the law's own ways -/
def LWay (H : Hp) (v : V) (w : List (Nat × Nat)) : Prop := ∃ a vs, v = .ref a ∧ H a = some (.lst vs) ∧ All2 (StepAt H) vs w
def LWays (H : Hp) (v : V) (ws : List (List (Nat × Nat))) : Prop := ∃ a vs, v = .ref a ∧ H a = some (.lst vs) ∧ All2 (LWay H) vs ws
theorem LWay.same {H H' : Hp} (e : Same H H') {v : V} {x : List (Nat × Nat)} (h : LWay H v x) : LWay H' v x := by obtain ⟨a, vs, h1, h2, h3⟩ := h; exact ⟨a, vs, h1, e _ _ h2, h3.mono fun _ _ h => h.same e⟩
theorem LWays.same {H H' : Hp} (e : Same H H') {v : V} {x : List (List (Nat × Nat))} (h : LWays H v x) : LWays H' v x := by obtain ⟨a, vs, h1, h2, h3⟩ := h; exact ⟨a, vs, h1, e _ _ h2, h3.mono fun _ _ h => h.same e⟩
theorem set_cut {l : List Nat} {f c : Nat} (h : f < l.length) : (l.take f ++ [c]) ++ l.drop (f + 1) = l.set f c := by
  rw [List.set_eq_take_append_cons_drop, if_pos h, List.append_assoc]; rfl
theorem hitL_snoc (F : List Nat) (w : List (Nat × Nat)) (x : Nat × Nat) : Tr.hitL F (w ++ [x]) = (Tr.hitL F w).set x.1 x.2 := by
  unfold Tr.hitL
  rw [List.foldl_append]; rfl
section
variable {P : Program} {w : World} {K : PySem.W.Frag} {mg : Str → Option Value} {base : Heap}
def spHit : Sp := fun vs H Q _ => ∃ (F : List Nat) (wv : V) (wy : List (Nat × Nat)), vs = [sV F, wv] ∧ LWay H wv wy ∧ (∀ x ∈ wy, x.1 < F.length) ∧ F.length ≤ 63 ∧ Q (sV (Tr.hitL F wy)) H
theorem ok_law_hit (T : Tb mg) (F : Df K mg "_law_hit" s__law_hit) : Cl P w K mg base 1 "_law_hit" spHit := by
  refine cl_mk F sc__law_hit (fun vs H Q E h => ?_) (fun _ _ _ _ _ _ us hl => match us, hl with | [_, _], _ => rfl) (fun f cdv A outer s H vs Q E hr h => ?_)
  · obtain ⟨_, _, _, rfl, _⟩ := h; rfl
  · obtain ⟨F, wv, wy, rfl, ⟨a, vs, rfl, ha, hvs⟩, hin, hF, q⟩ := h
    refine ⟨_, PSs.nox (pss_cons (ps_for PassesOwn.never rfl (pi_list (pv 1)) (pg_tup (by rfl) (pgs_cons (pg_name (i := 2) sc__law_hit.nd rfl (Or.inl rfl)) (pgs_cons (pg_name (i := 3) sc__law_hit.nd rfl (Or.inl rfl)) pgs_nil)))
      (pss_one (ps_set (i := 0) sc__law_hit.nd rfl (Or.inl rfl) (pe_op op_add_str (pe_op op_add_str (pe_slice sl_str (pv 0) po_none (po_some (pv 2))) (pv 3)) (pe_slice sl_str (pv 0) (po_some (pe_op op_add (pv 2) pe_int)) po_none)))))
    (pss_one (ps_ret (pv 0)))), ?_⟩
    obtain ⟨z1, z2, z3⟩ := zip_at hvs
    have ha' : H a = some (.lst ((vs.zip wy).map Prod.fst)) := by rw [z1]; exact ha
    refine ⟨_, rfl, a, rfl, ⟨_, SqL.of ha'⟩, for_pre (wf_list (K := K) (a := a) (vs.zip wy) Prod.fst) (fun pre σ H' => H' = H ∧ ∃ v2 v3, σ = [some (sV (Tr.hitL F (pre.map Prod.snd))), some (.ref a), v2, v3]) ?_ ?_ ?_ ?_⟩
    · exact ⟨rfl, _, _, rfl⟩
    · rintro pre σ H' ⟨rfl, _⟩
      exact SqL.of ha'
    · rintro pre z post σ H' e ⟨rfl, v2, v3, rfl⟩
      obtain ⟨sa, ez, hsa⟩ := z3 z (by rw [e]; simp)
      have hzw : z.2 ∈ wy := by
        have : z.2 ∈ (vs.zip wy).map Prod.snd := List.mem_map.mpr ⟨z, by rw [e]; simp, rfl⟩
        rwa [z2] at this
      have hf := hin _ hzw
      have hl := Tr.hitL_len (pre.map Prod.snd) F
      refine ⟨sa, _, ez, SqT.of hsa, rfl, _, _, rfl, _, _, rfl, rfl, ?_⟩
      have hs1 : (sL (Tr.hitL F (pre.map Prod.snd))).length ≤ sizeLine := by rw [sL_len, hl]; exact Nat.le_of_lt (small100 (by omega))
      refine ⟨_, rfl, _, rfl, _, rfl, sL (Tr.hitL F (pre.map Prod.snd)), rfl, hs1, _, rfl, ?_⟩
      rw [cutS_to (by rw [hl]; omega)]
      refine ⟨_, sL [z.2.2], rfl, rfl, ?_, ?_⟩
      · rw [sL_len, sL_len, List.length_take, hl]; exact Nat.le_of_lt (small100 (by simp; omega))
      refine ⟨_, rfl, _, rfl, _, 1, rfl, rfl, _, rfl, sL (Tr.hitL F (pre.map Prod.snd)), rfl, hs1, ?_⟩
      rw [sL_app, show (((z.2.1 : Nat) : Int) + 1) = ((z.2.1 + 1 : Nat) : Int) by omega, cutS_min]
      refine ⟨_, _, rfl, rfl, ?_, ?_⟩
      · rw [sL_len, sL_len, List.length_append, List.length_take, List.length_drop, hl]; exact Nat.le_of_lt (small100 (by simp; omega))
      refine ⟨rfl, some (nV z.2.1), some (sV [z.2.2]), ?_⟩
      rw [List.map_append]
      show _ = [some (sV (Tr.hitL F (pre.map Prod.snd ++ [z.2]))), _, _, _]
      rw [hitL_snoc, ← set_cut (by rw [hl]; exact hf), sL_app]; rfl
    · rintro σ H' ⟨rfl, v2, v3, rfl⟩
      rw [z2]
      exact ⟨_, rfl, q⟩
end
theorem beg_le_of {e : Nat → Nat} : ∀ {w : List (Nat × Nat)} {b : Nat}, (∀ x ∈ w.drop b, e x.1 = x.2) → Tr.beg e w ≤ b
  | [], b, _ => Nat.zero_le _
  | x :: w, 0, h => by
    have h2 : Tr.beg e w ≤ 0 := beg_le_of fun y hy => h y (by rw [List.drop_zero] at hy; simp [hy])
    rw [Tr.beg_cons, if_neg (by omega), if_pos (h x (by simp))]
    exact Nat.le_refl _
  | x :: w, b + 1, h => by
    have h2 : Tr.beg e w ≤ b := beg_le_of fun y hy => h y (by simpa using hy)
    rw [Tr.beg_cons]
    by_cases c : 0 < Tr.beg e w
    · rw [if_pos c]; omega
    · rw [if_neg c]; split <;> omega
/-- the last fork that differs -/
theorem hang_snoc {e : Nat → Nat} (w : List (Nat × Nat)) (x : Nat × Nat) : Tr.hang e (w ++ [x]) = if e x.1 = x.2 then Tr.hang e w else some x.1 := by
  induction w with
  | nil =>
    rw [List.nil_append, Tr.hang_cons]
    rfl
  | cons y w ih =>
    rw [List.cons_append, Tr.hang_cons, ih, Tr.hang_cons]
    by_cases c : e x.1 = x.2
    · rw [if_pos c, if_pos c]
    · rw [if_neg c, if_neg c]
section
variable {P : Program} {w : World} {K : PySem.W.Frag} {mg : Str → Option Value} {base : Heap}
/-- the text E, the ways of T -/
structure Lw (H : Hp) (T : Tr) (E : List Nat) (wv : V) : Prop where
  ways : LWays H wv (waysOf T)
  len : E.length = T.m - 1
  LR : LRs E
  m64 : T.m ≤ 64
theorem Lw.same {H H' : Hp} {T : Tr} {E : List Nat} {wv : V} (s : Same H H') (h : Lw H T E wv) : Lw H' T E wv := ⟨h.ways.same s, h.len, h.LR, h.m64⟩
def spHo : Sp := fun vs H Q _ => ∃ (T : Tr) (E : List Nat) (wv : V), vs = [sV E, wv] ∧ Lw H T E wv ∧
  ∀ (H' : Hp) (r : Addr) (L : List Nat), Same H H' → H r = none → H' r = some (.lst (L.map nV)) → L.length = T.m → (∀ f, f + 1 < T.m → L[f]? = some (Tr.own (eF E) 0 T f)) → Q (.ref r) H'
theorem ok_law_holders (T : Tb mg) (F : Df K mg "_law_holders" s__law_holders) : Cl P w K mg base 1 "_law_holders" spHo := by
  refine cl_mk F sc__law_holders (fun vs H Q E h => ?_) (fun _ _ _ _ _ _ us hl => match us, hl with | [_, _], _ => rfl) (fun f cdv A outer s H vs Q E hr h => ?_)
  · obtain ⟨_, _, _, rfl, _⟩ := h; rfl
  · obtain ⟨Tt, E, wv, rfl, ⟨⟨wa, ws, rfl, hwa, hws⟩, hE, hLR, m64⟩, q⟩ := h
    refine ⟨_, PSs.nox (pss_cons (ps_setLc (i := 2) (own := [("_law_way", 6)]) (by rfl) sc__law_holders.nd rfl rfl (sw_true rfl rfl rfl (by decide +kernel)) (pi_list (pv 1)) (blkOk_by (own := [("_law_way", 6)]) (N := n__law_holders) (sc := defScope s__law_holders) (by decide +kernel)) (fun _ _ _ _ _ => (pg_name (i := 6) sc__law_holders.nd rfl (Or.inl rfl))) (fun _ _ _ _ _ => pts_nil) (fun _ _ _ _ _ => pe_int))
    (pss_cons (ps_for PassesOwn.never rfl (pi_range1 (by rfl) T.n_range (pa_cons (pe_callB call_len_seq (by rfl) T.n_len (by decide +kernel) (pa_cons (pv 1) pa_nil)) pa_nil)) (pg_name (i := 3) sc__law_holders.nd rfl (Or.inl rfl))
      (pss_one (ps_for PassesOwn.never rfl (pi_reversed (by rfl) T.n_reversed (pa_cons (pe_ix ix_list (pv 1) (pv 3) (fun _ _ => rfl)) pa_nil)) (pg_tup (by rfl) (pgs_cons (pg_name (i := 4) sc__law_holders.nd rfl (Or.inl rfl)) (pgs_cons (pg_name (i := 5) sc__law_holders.nd rfl (Or.inl rfl)) pgs_nil)))
        (pss_cons (ps_if (pt_cmpR op_ne (pe_ix ix_str (pv 0) (pv 4) (fun _ _ => rfl)) (pv 5) (nomark _))
          (pss_one ps_break)
          pss_nil)
        (pss_one (ps_asg (pv 3) (pg_sub (pv 2) (pv 4) set_list)))))))
    (pss_one (ps_ret (pv 2))))), ?_⟩
    have he := eF_LR hLR
    have hwl : ws.length = Tt.m := by rw [hws.len, waysOf_len]
    have hEl : (sL E).length ≤ sizeLine := by rw [sL_len]; exact Nat.le_of_lt (small100 (by omega))
    refine ⟨_, rfl, wa, rfl, ⟨_, SqL.of hwa⟩, fun r hr0 => ?_⟩
    refine lc_pre (wf_list (K := K) (a := wa) ws fun v => v) (fun pre H' => Same H H' ∧ H' r = some (.lst ((List.replicate pre.length 0).map nV))) ⟨(Same.refl H).new hr0, upd_same⟩ ?_ ?_ ?_
    · rintro pre H' ⟨s1, _⟩
      rw [List.map_id']
      exact SqL.of (s1 _ _ hwa)
    · rintro pre v post H' e ⟨s1, h1⟩
      have hl : pre.length ≤ 100 := by
        have := congrArg List.length e
        rw [List.length_append, List.length_cons] at this
        omega
      refine ⟨rfl, _, h1, by rw [List.length_map, List.length_replicate]; exact small100 hl, s1.put hr0, ?_⟩
      rw [upd_same, List.length_append, List.length_singleton, List.replicate_succ', List.map_append]; rfl
    · rintro H1 ⟨s1, h1⟩
      rw [hwl] at h1
      refine ⟨_, rfl, wa, _, rfl, .inl (SqL.of (s1 _ _ hwa)), (ws.length : Int), rfl, by omega, by omega, ?_⟩
      rw [Int.toNat_natCast, hwl]
      refine for_pre (wf_range Tt.m) (fun pre σ H' => ∃ (L : List Nat) (v3 v4 v5 : Option V), σ = [some (sV E), some (.ref wa), some (.ref r), v3, v4, v5, none] ∧ Same H H' ∧ H' r = some (.lst (L.map nV)) ∧ L.length = Tt.m ∧
        ∀ f, f + 1 < Tt.m → Tr.own (eF E) 0 Tt f < pre.length → L[f]? = some (Tr.own (eF E) 0 Tt f)) ?_ ?_ ?_ ?_
      · exact ⟨List.replicate Tt.m 0, none, none, none, rfl, s1, h1, List.length_replicate, fun f _ h => absurd h (Nat.not_lt_zero _)⟩
      · intro _ _ _ _; trivial
      · rintro pre u post σ H' e ⟨L, v3, v4, v5, rfl, s2, h2, hL, hown⟩
        obtain ⟨ep, hu⟩ := range_split e
        rw [ep, List.length_range] at hown
        obtain ⟨v, hv, a, xs, rfl, hxa, hxs⟩ := hws.at_ (waysOf_at hu)
        obtain ⟨z1, z2, z3⟩ := zip_at hxs
        have hxa2 := s2 _ _ hxa
        rw [← z1] at hxa2
        have win := Tr.way_in Tt 0 u (Nat.zero_le _) (by omega)
        have zl : (xs.zip (Tr.way 0 Tt u)).length = (Tr.way 0 Tt u).length := by
          have := congrArg List.length z2
          rwa [List.length_map] at this
        refine ⟨_, rfl, _, rfl, wa, ws, ((u : Nat) : Int), _, rfl, rfl, SqL.of (s2 _ _ hwa), atI_nat hv, a, _, rfl, SqL.of hxa2, ?_⟩
        -- what stands behind a place is all as wanted
        refine for_pre (wf_rev (K := K) (a := a) (xs.zip (Tr.way 0 Tt u)) Prod.fst)
          (fun pre2 σ H' => ∃ (L : List Nat) (v4 v5 : Option V), σ = [some (sV E), some (.ref wa), some (.ref r), some (nV u), v4, v5, none] ∧ Same H H' ∧ H' r = some (.lst (L.map nV)) ∧ L.length = Tt.m ∧
            (∀ x ∈ pre2, eF E x.2.1 = x.2.2) ∧ (∀ f, f + 1 < Tt.m → Tr.own (eF E) 0 Tt f < u → L[f]? = some (Tr.own (eF E) 0 Tt f)) ∧ ∀ x ∈ pre2, L[x.2.1]? = some u) ?_ ?_ ?_ ?_
        · exact ⟨L, v4, v5, rfl, s2, h2, hL, (fun x hx => by cases hx), hown, (fun x hx => by cases hx)⟩
        · rintro pre2 σ H3 ⟨L, v4, v5, rfl, s3, _⟩
          rw [z1]
          exact SqL.of (s3 _ _ hxa)
        · rintro pre2 z post2 σ H3 e2 ⟨L, v4, v5, rfl, s3, h3, hL, hmat, hlow, hset⟩
          have hzm : z ∈ xs.zip (Tr.way 0 Tt u) := by
            have : z ∈ (xs.zip (Tr.way 0 Tt u)).reverse := by rw [e2]; simp
            exact List.mem_reverse.mp this
          obtain ⟨sa, ez, hsa⟩ := z3 z hzm
          have hzw : z.2 ∈ Tr.way 0 Tt u := by
            have : z.2 ∈ (xs.zip (Tr.way 0 Tt u)).map Prod.snd := List.mem_map.mpr ⟨z, hzm, rfl⟩
            rwa [z2] at this
          have hf := (win _ hzw).2
          -- the part behind
          have hsplit : Tr.way 0 Tt u = (post2.reverse.map Prod.snd) ++ z.2 :: (pre2.reverse.map Prod.snd) := by
            have := congrArg (fun l => (List.reverse l).map Prod.snd) e2
            rw [List.reverse_reverse, z2] at this
            rw [this]; simp
          have hdrop : (Tr.way 0 Tt u).drop (post2.length + 1) = pre2.reverse.map Prod.snd := by
            rw [hsplit, List.drop_append]
            simp
          have hdrop0 : (Tr.way 0 Tt u).drop post2.length = z.2 :: pre2.reverse.map Prod.snd := by
            rw [hsplit, List.drop_append]
            simp
          have hsome : (Tr.way 0 Tt u)[post2.length]? = some z.2 := by
            rw [hsplit, List.getElem?_append_right (by simp)]
            simp
          refine ⟨sa, _, ez, SqT.of (s3 _ _ hsa), rfl, _, _, rfl, _, _, rfl, rfl, ?_⟩
          refine ⟨_, rfl, _, rfl, sL E, ((z.2.1 : Nat) : Int), eF E z.2.1, rfl, rfl, hEl, atI_nat (by rw [sL_tl]; exact eF_at (by omega)), _, rfl, rfl, _, rfl, ?_⟩
          have hd : decide (V.str ⟨#[eF E z.2.1]⟩ = sV [z.2.2]) = decide ([eF E z.2.1] = [z.2.2]) := sV_dec [eF E z.2.1] [z.2.2]
          have hmatd : ∀ x ∈ (Tr.way 0 Tt u).drop (post2.length + 1), eF E x.1 = x.2 := fun x hx => by
            rw [hdrop] at hx
            obtain ⟨y, hy, rfl⟩ := List.mem_map.mp hx
            exact hmat y (List.mem_reverse.mp hy)
          by_cases c : eF E z.2.1 = z.2.2
          · refine ifF (by rw [hd, decide_eq_true (by rw [c])]; rfl) ?_
            have hall0 : ∀ x ∈ (Tr.way 0 Tt u).drop post2.length, eF E x.1 = x.2 := fun x hx => by
              rw [hdrop0] at hx
              rcases List.mem_cons.mp hx with rfl | hx
              · exact c
              · exact hmatd x (by rw [hdrop]; exact hx)
            have htr : z.2.1 ∈ Tr.trail (eF E) (Tr.way 0 Tt u) := by
              have hb := beg_le_of hall0
              unfold Tr.trail
              refine List.mem_map.mpr ⟨z.2, ?_, rfl⟩
              have : z.2 ∈ (Tr.way 0 Tt u).drop post2.length := by rw [hdrop0]; simp
              rw [show post2.length = Tr.beg (eF E) (Tr.way 0 Tt u) + (post2.length - Tr.beg (eF E) (Tr.way 0 Tt u)) by omega, ← List.drop_drop] at this
              exact List.mem_of_mem_drop this
            have hzo := (Tr.trail_own he Tt 0 u z.2.1 (Nat.zero_le _) (by omega) (Nat.zero_le _) (by omega)).mp htr
            refine ⟨_, rfl, _, rfl, _, rfl, r, _, ((z.2.1 : Nat) : Int), z.2.1, rfl, rfl, h3, ixN_nat (by rw [List.length_map, hL]; omega), ?_⟩
            refine ⟨L.set z.2.1 u, _, _, rfl, s3.put hr0, ?_, by rw [List.length_set]; exact hL, ?_, ?_, ?_⟩
            · rw [upd_same, List.map_set]
            · intro x hx
              rcases List.mem_append.mp hx with hx | hx
              · exact hmat x hx
              · rw [List.mem_singleton.mp hx]; exact c
            · intro f hf1 hf2
              rw [List.getElem?_set_ne (fun e => by rw [← e, hzo] at hf2; omega)]
              exact hlow f hf1 hf2
            · intro x hx
              by_cases cx : x.2.1 = z.2.1
              · rw [cx, List.getElem?_set_self (by omega)]
              · rw [List.getElem?_set_ne (fun e => cx e.symm)]
                rcases List.mem_append.mp hx with hx | hx
                · exact hset x hx
                · exact absurd (by rw [List.mem_singleton.mp hx]) cx
          · refine ifT (by rw [hd, decide_eq_false (fun z => c (List.cons.inj z).1)]; rfl) ?_
            have hbeg := beg_of (e := eF E) (b := post2.length + 1) (by
              have := (List.getElem?_eq_some_iff.mp hsome).1
              omega) hmatd (.inr ⟨z.2, hsome, c⟩)
            refine ⟨L, _, _, _, rfl, s3, h3, hL, fun f hf1 hf2 => ?_⟩
            rw [List.length_append, ep, List.length_range, List.length_singleton] at hf2
            by_cases cu : Tr.own (eF E) 0 Tt f < u
            · exact hlow f hf1 cu
            · have eo : Tr.own (eF E) 0 Tt f = u := by omega
              have htr := (Tr.trail_own he Tt 0 u f (Nat.zero_le _) (by omega) (Nat.zero_le _) (by omega)).mpr eo
              unfold Tr.trail at htr
              rw [hbeg, hdrop] at htr
              obtain ⟨y, hy, rfl⟩ := List.mem_map.mp htr
              obtain ⟨x, hx, rfl⟩ := List.mem_map.mp hy
              rw [eo]
              exact hset x (List.mem_reverse.mp hx)
        · rintro σ H3 ⟨L, v4, v5, rfl, s3, h3, hL, hmat, hlow, hset⟩
          refine ⟨L, _, _, _, rfl, s3, h3, hL, fun f hf1 hf2 => ?_⟩
          rw [List.length_append, ep, List.length_range, List.length_singleton] at hf2
          by_cases cu : Tr.own (eF E) 0 Tt f < u
          · exact hlow f hf1 cu
          · have eo : Tr.own (eF E) 0 Tt f = u := by omega
            have htr := (Tr.trail_own he Tt 0 u f (Nat.zero_le _) (by omega) (Nat.zero_le _) (by omega)).mpr eo
            unfold Tr.trail at htr
            obtain ⟨y, hy, rfl⟩ := List.mem_map.mp htr
            have hyw : y ∈ (xs.zip (Tr.way 0 Tt u)).map Prod.snd := by rw [z2]; exact List.mem_of_mem_drop hy
            obtain ⟨x, hx, rfl⟩ := List.mem_map.mp hyw
            rw [eo]
            exact hset x (List.mem_reverse.mpr hx)
      · rintro σ H' ⟨L, v3, v4, v5, rfl, s2, h2, hL, hown⟩
        refine ⟨_, rfl, q H' r L s2 hr0 h2 hL fun f hf => hown f hf ?_⟩
        rw [List.length_range]
        have := Tr.own_in (e := eF E) Tt 0 f (Nat.zero_le _) (by omega)
        omega
end
end K22
set_option Elab.async false
set_option linter.all false
set_option maxRecDepth 100000
set_option maxHeartbeats 4000000
namespace K22
open PySem PySem.Spec PyProof.Rows L2
section
variable {P : Program} {w : World} {K : PySem.W.Frag} {mg : Str → Option Value} {base : Heap}
def spAb : Sp := fun vs H Q _ => ∃ (T : Tr) (E : List Nat) (wv : V), vs = [sV E, wv] ∧ Lw H T E wv ∧
  ∀ (H' : Hp) (r : Addr), Same H H' → H r = none → H' r = some (.lst ((List.range T.m).map fun u => pV (Tr.par (eF E) 0 T u))) → Q (.ref r) H'
theorem ok_law_above (T : Tb mg) (F : Df K mg "_law_above" s__law_above) (c__law_holders : Cl P w K mg base 1 "_law_holders" spHo) : Cl P w K mg base 2 "_law_above" spAb := by
  refine cl_mk F sc__law_above (fun vs H Q E h => ?_) (fun _ _ _ _ _ _ us hl => match us, hl with | [_, _], _ => rfl) (fun f cdv A outer s H vs Q E hr h => ?_)
  · obtain ⟨_, _, _, rfl, _⟩ := h; rfl
  · obtain ⟨Tt, E, wv, rfl, hLw, q⟩ := h
    refine ⟨_, PSs.nox (pss_cons (ps_set (i := 2) sc__law_above.nd rfl (Or.inl rfl) (pe_cl c__law_holders hr (by decide) rfl (pa_cons (pv 0) (pa_cons (pv 1) pa_nil))))
    (pss_cons (ps_set (i := 3) sc__law_above.nd rfl (Or.inl rfl) (pe_lst pa_nil))
    (pss_cons (ps_for PassesOwn.never rfl (pi_list (pv 1)) (pg_name (i := 4) sc__law_above.nd rfl (Or.inl rfl))
      (pss_cons (ps_set (i := 5) sc__law_above.nd rfl (Or.inl rfl) pe_non)
      (pss_cons (ps_for PassesOwn.never rfl (pi_list (pv 4)) (pg_tup (by rfl) (pgs_cons (pg_name (i := 6) sc__law_above.nd rfl (Or.inl rfl)) (pgs_cons (pg_name (i := 7) sc__law_above.nd rfl (Or.inl rfl)) pgs_nil)))
        (pss_one (ps_if (pt_cmpR op_ne (pe_ix ix_str (pv 0) (pv 6) (fun _ _ => rfl)) (pv 7) (nomark _))
          (pss_one (ps_set (i := 5) sc__law_above.nd rfl (Or.inl rfl) (pe_ix ix_list (pv 2) (pv 6) (fun _ _ => rfl))))
          pss_nil)))
      (pss_one (ps_expr (pe_bm PySem.F.plainAttrs_list PySem.F.slot_list_append PySem.F.type_list_append mt_append (pv 3) (pa_cons (pv 5) pa_nil)))))))
    (pss_one (ps_ret (pv 3)))))), ?_⟩
    obtain ⟨⟨wa, ws, rfl, hwa, hws⟩, hE, hLR, m64⟩ := id hLw
    have he := eF_LR hLR
    have hwl : ws.length = Tt.m := by rw [hws.len, waysOf_len]
    have hEl : (sL E).length ≤ sizeLine := by rw [sL_len]; exact Nat.le_of_lt (small100 (by omega))
    refine ⟨_, rfl, _, rfl, Tt, E, .ref wa, rfl, hLw, fun H1 hk L s1 hk0 hk1 hL hown => ?_⟩
    refine ⟨Nat.zero_le _, fun r hr1 => ?_⟩
    have hr0 : H r = none := s1.free hr1
    have nkr : hk ≠ r := ne_of_none hk1 hr1
    have s2 := s1.new (o := .lst []) hr1
    have hk2 : upd H1 r (.lst []) hk = some (.lst (L.map nV)) := by rw [upd_ne nkr]; exact hk1
    have hr2 : upd H1 r (.lst []) r = some (.lst []) := upd_same
    show tSeq _ _ _ _ (upd H1 r (.lst []))
    generalize upd H1 r (.lst []) = H2 at s2 hk2 hr2
    obtain ⟨z1, z2, z3⟩ := zip_at (hws.mono fun v w h => (show LWay H v w from h))
    have hwa' : H wa = some (.lst ((ws.zip (waysOf Tt)).map Prod.fst)) := by rw [z1]; exact hwa
    refine ⟨_, rfl, wa, rfl, ⟨_, SqL.of (s2 _ _ hwa)⟩, for_pre (wf_list (K := K) (a := wa) (ws.zip (waysOf Tt)) Prod.fst)
      (fun pre σ H' => ∃ (v4 v5 v6 v7 : Option V), σ = [some (sV E), some (.ref wa), some (.ref hk), some (.ref r), v4, v5, v6, v7] ∧ Same H H' ∧ H' hk = some (.lst (L.map nV)) ∧ H' r = some (.lst ((List.range pre.length).map fun u => pV (Tr.par (eF E) 0 Tt u)))) ?_ ?_ ?_ ?_⟩
    · exact ⟨none, none, none, none, rfl, s2, hk2, hr2⟩
    · rintro pre σ H' ⟨v4, v5, v6, v7, rfl, s3, _⟩
      exact SqL.of (s3 _ _ hwa')
    · rintro pre z post σ H' e ⟨v4, v5, v6, v7, rfl, s3, hk3, hr3⟩
      obtain ⟨a, xs, ez, ha, hxs⟩ := z3 z (by rw [e]; simp)
      -- which slot
      have hzu : z.2 = Tr.way 0 Tt pre.length ∧ pre.length < Tt.m := by
        have e2 := congrArg (List.map Prod.snd) e
        rw [z2, List.map_append, List.map_cons] at e2
        have hl : Tt.m = pre.length + (post.length + 1) := by
          have := congrArg List.length e2
          rw [waysOf_len] at this
          simpa using this
        have h1 : (waysOf Tt)[pre.length]? = some z.2 := by
          rw [e2, List.getElem?_append_right (by simp)]
          simp
        rw [waysOf_at (by omega)] at h1
        exact ⟨(Option.some.inj h1).symm, by omega⟩
      obtain ⟨hz2, hu⟩ := hzu
      have ez2 : some z.1 = some (V.ref a) := by rw [ez]
      have win := Tr.way_in Tt 0 pre.length (Nat.zero_le _) (by omega)
      obtain ⟨y1, y2, y3⟩ := zip_at hxs
      have ha3 := s3 _ _ ha
      rw [← y1] at ha3
      rw [ez]
      refine ⟨_, rfl, a, rfl, ⟨_, SqL.of ha3⟩, for_pre (wf_list (K := K) (a := a) (xs.zip z.2) Prod.fst)
        (fun pre2 σ H' => ∃ (v6 v7 : Option V), σ = [some (sV E), some (.ref wa), some (.ref hk), some (.ref r), some (.ref a), some (pV ((Tr.hang (eF E) (pre2.map Prod.snd)).map (Tr.own (eF E) 0 Tt))), v6, v7] ∧ Same H H' ∧ H' hk = some (.lst (L.map nV)) ∧ H' r = some (.lst ((List.range pre.length).map fun u => pV (Tr.par (eF E) 0 Tt u)))) ?_ ?_ ?_ ?_⟩
      · exact ⟨v6, v7, rfl, s3, hk3, hr3⟩
      · rintro pre2 σ H4 ⟨v6, v7, rfl, s4, _⟩
        rw [y1]
        exact SqL.of (s4 _ _ ha)
      · rintro pre2 x post2 σ H4 e2 ⟨v6, v7, rfl, s4, hk4, hr4⟩
        obtain ⟨sa, ex, hsa⟩ := y3 x (by rw [e2]; simp)
        have hxw : x.2 ∈ z.2 := by
          have : x.2 ∈ (xs.zip z.2).map Prod.snd := List.mem_map.mpr ⟨x, by rw [e2]; simp, rfl⟩
          rwa [y2] at this
        have hf := (win _ (by rw [← hz2]; exact hxw)).2
        rw [Nat.zero_add] at hf
        refine ⟨sa, _, ex, SqT.of (s4 _ _ hsa), rfl, _, _, rfl, _, _, rfl, rfl, ?_⟩
        refine ⟨_, rfl, _, rfl, sL E, ((x.2.1 : Nat) : Int), eF E x.2.1, rfl, rfl, hEl, atI_nat (by rw [sL_tl]; exact eF_at (by omega)), _, rfl, rfl, _, rfl, ?_⟩
        have hd : decide (V.str ⟨#[eF E x.2.1]⟩ = sV [x.2.2]) = decide ([eF E x.2.1] = [x.2.2]) := sV_dec [eF E x.2.1] [x.2.2]
        by_cases c : eF E x.2.1 = x.2.2
        · refine ifF (by rw [hd, decide_eq_true (by rw [c])]; rfl) ⟨some (nV x.2.1), some (sV [x.2.2]), ?_, s4, hk4, hr4⟩
          rw [List.map_append, List.map_cons, List.map_nil, hang_snoc, if_pos c]; rfl
        · refine ifT (by rw [hd, decide_eq_false (fun z => c (List.cons.inj z).1)]; rfl) ?_
          refine ⟨_, rfl, _, rfl, hk, _, ((x.2.1 : Nat) : Int), nV (Tr.own (eF E) 0 Tt x.2.1), rfl, rfl, SqL.of hk4, atI_nat (by rw [List.getElem?_map, hown _ hf]; rfl), ?_⟩
          refine ⟨some (nV x.2.1), some (sV [x.2.2]), ?_, s4, hk4, hr4⟩
          rw [List.map_append, List.map_cons, List.map_nil, hang_snoc, if_neg c]; rfl
      · rintro σ H4 ⟨v6, v7, rfl, s4, hk4, hr4⟩
        rw [y2, hz2]
        have ph := Tr.par_hang he Tt 0 pre.length (Nat.zero_le _) (by omega)
        rw [← ph]
        refine ⟨_, rfl, .inl ⟨rfl, _, SqL.of hr4⟩, _, rfl, r, _, _, rfl, rfl, hr4, by rw [List.length_map, List.length_range]; exact small100 (by omega), ?_⟩
        refine ⟨_, _, _, _, rfl, s4.put hr0, by rw [upd_ne nkr]; exact hk4, ?_⟩
        rw [upd_same, List.length_append, List.length_singleton, List.range_succ, List.map_append]; rfl
    · rintro σ H' ⟨v4, v5, v6, v7, rfl, s3, hk3, hr3⟩
      have : (ws.zip (waysOf Tt)).length = Tt.m := by
        have := congrArg List.length z2
        rw [List.length_map, waysOf_len] at this
        exact this
      rw [this] at hr3
      exact ⟨_, rfl, q H' r s3 hr0 hr3⟩
end
end K22
set_option Elab.async false
set_option linter.all false
set_option maxRecDepth 100000
set_option maxHeartbeats 4000000
namespace K22
open PySem PySem.Spec PyProof.Rows L2
namespace Tr
/-- marked by the forks below g -/
def mk (T : Tr) (e S : Nat → Nat) (g u : Nat) : Bool := (List.range g).any fun f => decide (S f ≠ e f) && decide (u ∈ ch e 0 T (own e 0 T f))
theorem mk_succ (T : Tr) (e S : Nat → Nat) (g u : Nat) : mk T e S (g + 1) u = (mk T e S g u || (decide (S g ≠ e g) && decide (u ∈ ch e 0 T (own e 0 T g)))) := by
  unfold mk
  rw [List.range_succ, List.any_append]
  simp
theorem mk_need (T : Tr) (e S : Nat → Nat) : (List.range T.m).filter (mk T e S (T.m - 1)) = need T e S := by
  unfold need
  refine List.filter_congr fun u hu => ?_
  have hu := List.mem_range.mp hu
  rw [Bool.eq_iff_iff]
  have h1 : mk T e S (T.m - 1) u = true ↔ ∃ f, f + 1 < T.m ∧ S f ≠ e f ∧ u ∈ ch e 0 T (own e 0 T f) := by
    unfold mk
    rw [List.any_eq_true]
    constructor
    · rintro ⟨f, h1, h2⟩
      obtain ⟨h3, h4⟩ := Bool.and_eq_true_iff.mp h2
      exact ⟨f, by have := List.mem_range.mp h1; omega, of_decide_eq_true h3, of_decide_eq_true h4⟩
    · rintro ⟨f, h1, h2, h3⟩
      exact ⟨f, List.mem_range.mpr (by omega), Bool.and_eq_true_iff.mpr ⟨decide_eq_true h2, decide_eq_true h3⟩⟩
  have h2 := mem_need' (e := e) (S := S) hu
  have h3 : u ∈ need T e S ↔ ((List.range (T.m - 1)).any fun f => decide ((rng e 0 T u).1 ≤ f ∧ f < (rng e 0 T u).2 ∧ S f ≠ e f)) = true := by
    unfold need
    rw [List.mem_filter]
    exact ⟨fun h => h.2, fun h => ⟨List.mem_range.mpr hu, h⟩⟩
  rw [h1, ← h3, h2]
/-- the chain from an owner of a differing fork is short -/
theorem chain_len {T : Tr} {e S : Nat → Nat} {f : Nat} (hf : f + 1 < T.m) (h : S f ≠ e f) : (ch e 0 T (own e 0 T f)).length ≤ T.m := by
  have ho := own_in (e := e) T 0 f (Nat.zero_le _) (by omega)
  have hn : own e 0 T f ∈ (fo T e S).ns := (mem_need' (by omega)).mpr ⟨f, hf, h, ch_self (by omega)⟩
  have h1 := ch_len_le (fo_up T) hn
  have h2 := need_lt (e := e) (S := S) T
  have h1 : (ch e 0 T (own e 0 T f)).length ≤ (need T e S).length := h1
  omega
def cho (e : Nat → Nat) (T : Tr) : Option Nat → List Nat
  | none => []
  | some q => ch e 0 T q
theorem cho_step {e : Nat → Nat} {T : Tr} {u : Nat} (h : u < T.m) : ch e 0 T u = u :: cho e T (par e 0 T u) := by
  cases c : par e 0 T u with
  | none => exact ch_none (Nat.zero_le _) (by omega) c
  | some q => exact ch_some T 0 u q (Nat.zero_le _) (by omega) c
end Tr
section
variable {P : Program} {w : World} {K : PySem.W.Frag} {mg : Str → Option Value} {base : Heap}
def spDu : Sp := fun vs H Q _ => ∃ (T : Tr) (S E : List Nat) (wv : V), vs = [sV S, sV E, wv] ∧ S.length = T.m - 1 ∧ Lw H T E wv ∧
  ∀ (H' : Hp) (r : Addr), Same H H' → H r = none → H' r = some (.lst ((Tr.need T (eF E) (Tr.fn S)).map nV)) → Q (.ref r) H'
theorem ok_law_due (T : Tb mg) (F : Df K mg "_law_due" s__law_due) (c__law_holders : Cl P w K mg base 1 "_law_holders" spHo) (c__law_above : Cl P w K mg base 2 "_law_above" spAb) : Cl P w K mg base 3 "_law_due" spDu := by
  refine cl_mk F sc__law_due (fun vs H Q E h => ?_) (fun _ _ _ _ _ _ us hl => match us, hl with | [_, _, _], _ => rfl) (fun f cdv A outer s H vs Q E hr h => ?_)
  · obtain ⟨_, _, _, _, rfl, _⟩ := h; rfl
  · obtain ⟨Tt, S, E, wv, rfl, hS, hLw, q⟩ := h
    refine ⟨_, PSs.nox (pss_cons (ps_set (i := 3) sc__law_due.nd rfl (Or.inl rfl) (pe_cl c__law_holders hr (by decide) rfl (pa_cons (pv 1) (pa_cons (pv 2) pa_nil))))
    (pss_cons (ps_set (i := 4) sc__law_due.nd rfl (Or.inl rfl) (pe_cl c__law_above hr (by decide) rfl (pa_cons (pv 1) (pa_cons (pv 2) pa_nil))))
    (pss_cons (ps_set (i := 5) sc__law_due.nd rfl (Or.inr rfl) (pe_lc (own := [("_law_way", 9)]) (by rfl) sc__law_due.nd (pi_list (pv 2)) (blkOk_by (own := [("_law_way", 9)]) (N := n__law_due) (sc := defScope s__law_due) (by decide +kernel)) (fun _ _ _ _ _ => (pg_name (i := 9) sc__law_due.nd rfl (Or.inl rfl))) (fun _ _ _ _ _ => pts_nil) (fun _ _ _ _ _ => pe_bl)))
    (pss_cons (ps_for PassesOwn.never rfl (pi_range1 (by rfl) T.n_range (pa_cons (pe_callB call_len_str (by rfl) T.n_len (by decide +kernel) (pa_cons (pv 1) pa_nil)) pa_nil)) (pg_name (i := 6) sc__law_due.nd rfl (Or.inl rfl))
      (pss_cons (ps_set (i := 7) sc__law_due.nd rfl (Or.inl rfl) (pe_ifExp (pt_cmpR op_ne (pe_ix ix_str (pv 0) (pv 6) (fun _ _ => rfl)) (pe_ix ix_str (pv 1) (pv 6) (fun _ _ => rfl)) (nomark _)) (pe_ix ix_list (pv 3) (pv 6) (fun _ _ => rfl)) pe_non))
      (pss_one (ps_for PassesOwn.never rfl (pi_range1 (by rfl) T.n_range (pa_cons (pe_callB call_len_seq (by rfl) T.n_len (by decide +kernel) (pa_cons (pv 2) pa_nil)) pa_nil)) (pg_name (i := 8) sc__law_due.nd rfl (Or.inl rfl))
        (pss_cons (ps_if (pt_cmpR op_isN (pv 7) pe_non (nomark _))
          (pss_one ps_break)
          pss_nil)
        (pss_cons (ps_asg pe_bl (pg_sub (pv 5) (pv 7) set_list))
        (pss_one (ps_set (i := 7) sc__law_due.nd rfl (Or.inl rfl) (pe_ix ix_list (pv 4) (pv 7) (fun _ _ => rfl))))))))))
    (pss_one (ps_ret (pe_lc (own := [("_law_k", 8)]) (by rfl) sc__law_due.nd (pi_range1 (by rfl) T.n_range (pa_cons (pe_callB call_len_seq (by rfl) T.n_len (by decide +kernel) (pa_cons (pv 2) pa_nil)) pa_nil)) (blkOk_by (own := [("_law_k", 8)]) (N := n__law_due) (sc := defScope s__law_due) (by decide +kernel)) (fun _ _ _ _ _ => (pg_name (i := 8) sc__law_due.nd rfl (Or.inl rfl))) (fun _ _ _ _ _ => (pts_one (pt_val (pe_ix (ix_listK (K := K) rfl) (pv 5) (pv 8) (fun _ _ => rfl))))) (fun _ _ _ _ _ => (pv 8))))))))), ?_⟩
    obtain ⟨⟨wa, ws, rfl, hwa, hws⟩, hE, hLR, m64⟩ := id hLw
    have he := eF_LR hLR
    have mpos := Tr.m_pos Tt
    have hwl : ws.length = Tt.m := by rw [hws.len, waysOf_len]
    have hEl : (sL E).length ≤ sizeLine := by rw [sL_len]; exact Nat.le_of_lt (small100 (by omega))
    have hSl : (sL S).length ≤ sizeLine := by rw [sL_len]; exact Nat.le_of_lt (small100 (by omega))
    refine ⟨_, rfl, _, rfl, Tt, E, .ref wa, rfl, hLw, fun H1 hk L s1 hk0 hk1 hL hown => ?_⟩
    refine ⟨_, rfl, _, rfl, Tt, E, .ref wa, rfl, hLw.same s1, fun H2 ab s2 ab0 hab2 => ?_⟩
    have s02 := s1.trans s2
    have hk2 := s2 _ _ hk1
    refine ⟨_, rfl, wa, rfl, ⟨_, SqL.of (s02 _ _ hwa)⟩, fun D hD => ?_⟩
    have hDH : H D = none := s02.free hD
    have nkD : hk ≠ D := ne_of_none hk2 hD
    have naD : ab ≠ D := ne_of_none hab2 hD
    refine lc_pre (wf_list (K := K) (a := wa) ws fun v => v) (fun pre H' => Same H2 H' ∧ H' D = some (.lst ((List.replicate pre.length false).map V.bl))) ⟨(Same.refl H2).new hD, upd_same⟩ ?_ ?_ ?_
    · rintro pre H' ⟨s3, _⟩
      rw [List.map_id']
      exact SqL.of (s3 _ _ (s02 _ _ hwa))
    · rintro pre v post H' e ⟨s3, h3⟩
      have hl : pre.length ≤ 100 := by
        have := congrArg List.length e
        rw [List.length_append, List.length_cons] at this
        omega
      refine ⟨rfl, _, h3, by rw [List.length_map, List.length_replicate]; exact small100 hl, s3.put hD, ?_⟩
      rw [upd_same, List.length_append, List.length_singleton, List.replicate_succ', List.map_append]; rfl
    · rintro H3 ⟨s3, h3⟩
      rw [hwl] at h3
      refine ⟨_, rfl, _, rfl, hEl, ((sL E).length : Int), rfl, by rw [sL_len]; omega, by rw [sL_len]; omega, ?_⟩
      rw [Int.toNat_natCast, sL_len, hE]
      refine for_pre (wf_range (Tt.m - 1)) (fun pre σ H' => ∃ (M : List Bool) (v6 v7 v8 : Option V), σ = [some (sV S), some (sV E), some (.ref wa), some (.ref hk), some (.ref ab), some (.ref D), v6, v7, v8, none] ∧ Same H2 H' ∧ H' D = some (.lst (M.map V.bl)) ∧ M.length = Tt.m ∧
        ∀ u, u < Tt.m → M[u]? = some (Tr.mk Tt (eF E) (Tr.fn S) pre.length u)) ?_ ?_ ?_ ?_
      · refine ⟨List.replicate Tt.m false, none, none, none, rfl, s3, h3, List.length_replicate, fun u hu => ?_⟩
        rw [List.getElem?_replicate, if_pos hu]; rfl
      · intro _ _ _ _; trivial
      · rintro pre g post σ H' e ⟨M, v6, v7, v8, rfl, s4, h4, hM, hMu⟩
        obtain ⟨ep, hg⟩ := range_split e
        rw [ep, List.length_range] at hMu
        have hg1 : g + 1 < Tt.m := by omega
        have hS1 : S[g]? = some S[g] := List.getElem?_eq_getElem (by omega)
        have hfn : Tr.fn S g = S[g] := by unfold Tr.fn; rw [List.getD_eq_getElem?_getD, hS1]; rfl
        refine ⟨_, rfl, _, rfl, sL S, ((g : Nat) : Int), S[g], rfl, rfl, hSl, atI_nat (by rw [sL_tl]; exact hS1), _, rfl, _, rfl, sL E, ((g : Nat) : Int), eF E g, rfl, rfl, hEl, atI_nat (by rw [sL_tl]; exact eF_at (by omega)), rfl, _, rfl, ?_⟩
        have hd : decide (V.str ⟨#[S[g]]⟩ = V.str ⟨#[eF E g]⟩) = decide ([S[g]] = [eF E g]) := sV_dec [S[g]] [eF E g]
        -- the inner loop
        have inner : ∀ (o : Option Nat) (σ0 : Option V), (Tr.cho (eF E) Tt o).length ≤ Tt.m → (∀ x, o = some x → x < Tt.m) →
            (∀ u, (Tr.mk Tt (eF E) (Tr.fn S) g u || decide (u ∈ Tr.cho (eF E) Tt o)) = Tr.mk Tt (eF E) (Tr.fn S) (g + 1) u) →
            tFor (iRng1 (tCons (tCB (fun xs H Q => ∃ p ys, xs = [V.ref p] ∧ (SqL K H p ys ∨ SqT K H p ys) ∧ Q (.int ys.length) H) (tCons (tVar 2) tNil)) tNil)) (gName 8) (tSeq (tIfS (tTest (tOp (fun x y H Q => y = .non ∧ Q (.bl (decide (x = .non))) H) (tVar 7) (tC .non))) tBreak tNext) (tSeq (tAsg (tC (.bl true)) (gSub (tVar 5) (tVar 7) rSetL)) (tAsg (tOp (rIxL K) (tVar 4) (tVar 7)) (gName 7))))
              { nx := fun σ H' => ∃ (M : List Bool) (v6 v7 v8 : Option V), σ = [some (sV S), some (sV E), some (.ref wa), some (.ref hk), some (.ref ab), some (.ref D), v6, v7, v8, none] ∧ Same H2 H' ∧ H' D = some (.lst (M.map V.bl)) ∧ M.length = Tt.m ∧ ∀ u, u < Tt.m → M[u]? = some (Tr.mk Tt (eF E) (Tr.fn S) (pre ++ [g]).length u), rt := fun _ _ => False, bk := fun _ _ => False, ct := fun _ _ => False }
              [some (sV S), some (sV E), some (.ref wa), some (.ref hk), some (.ref ab), some (.ref D), some (nV g), some (pV o), σ0, none] H' := by
          intro o σ0 hol hom hmk
          have fin : ∀ (vis : List Nat) (M : List Bool) (H5 : Hp), vis = Tr.cho (eF E) Tt o → M.length = Tt.m → (∀ u, u < Tt.m → M[u]? = some (Tr.mk Tt (eF E) (Tr.fn S) g u || decide (u ∈ vis))) →
              ∀ u, u < Tt.m → M[u]? = some (Tr.mk Tt (eF E) (Tr.fn S) (pre ++ [g]).length u) := by
            intro vis M H5 ev hM hMv u hu
            rw [hMv u hu, ev, hmk, List.length_append, ep, List.length_range]; rfl
          refine ⟨_, rfl, wa, ws, rfl, .inl (SqL.of (s4 _ _ (s02 _ _ hwa))), (ws.length : Int), rfl, by omega, by omega, ?_⟩
          rw [Int.toNat_natCast, hwl]
          refine for_pre (wf_range Tt.m) (fun pre2 σ H5 => ∃ (vis : List Nat) (o' : Option Nat) (M : List Bool) (v8 : Option V), σ = [some (sV S), some (sV E), some (.ref wa), some (.ref hk), some (.ref ab), some (.ref D), some (nV g), some (pV o'), v8, none] ∧ Same H2 H5 ∧ H5 D = some (.lst (M.map V.bl)) ∧ M.length = Tt.m ∧
            vis.length = pre2.length ∧ vis ++ Tr.cho (eF E) Tt o' = Tr.cho (eF E) Tt o ∧ (∀ x, o' = some x → x < Tt.m) ∧ ∀ u, u < Tt.m → M[u]? = some (Tr.mk Tt (eF E) (Tr.fn S) g u || decide (u ∈ vis))) ?_ ?_ ?_ ?_
          · exact ⟨[], o, M, σ0, rfl, s4, h4, hM, rfl, rfl, hom, fun u hu => by rw [hMu u hu]; simp⟩
          · intro _ _ _ _; trivial
          · rintro pre2 k post2 σ H5 e2 ⟨vis, o', M, v8, rfl, s5, h5, hM, hvl, hvis, hol', hMv⟩
            cases o' with
            | none =>
              refine ⟨_, rfl, rfl, _, rfl, ifT rfl ?_⟩
              have ev : vis = Tr.cho (eF E) Tt o := by rw [← hvis]; show vis = vis ++ []; rw [List.append_nil]
              exact ⟨M, _, _, _, rfl, s5, h5, hM, fin vis M H5 ev hM hMv⟩
            | some x =>
              refine ⟨_, rfl, rfl, _, rfl, ifF rfl ?_⟩
              have hx := hol' x rfl
              have hstep := Tr.cho_step (e := eF E) hx
              refine ⟨_, rfl, _, rfl, D, _, ((x : Nat) : Int), x, rfl, rfl, h5, ixN_nat (by rw [List.length_map, hM]; exact hx), ?_⟩
              have s6 := s5.put (o := .lst ((M.set x true).map V.bl)) hD
              have h6 : upd H5 D (.lst ((M.map V.bl).set x (.bl true))) = upd H5 D (.lst ((M.set x true).map V.bl)) := by rw [List.map_set]
              rw [h6]
              have ha6 := s6 _ _ hab2
              refine ⟨_, rfl, _, rfl, ab, _, ((x : Nat) : Int), pV (Tr.par (eF E) 0 Tt x), rfl, rfl, SqL.of ha6, atI_nat (by rw [List.getElem?_map, List.getElem?_range hx]; rfl), ?_⟩
              refine ⟨vis ++ [x], Tr.par (eF E) 0 Tt x, M.set x true, _, rfl, s6, upd_same, by rw [List.length_set]; exact hM, by rw [List.length_append, List.length_append, hvl]; rfl, ?_, fun y hy => ?_, fun u hu => ?_⟩
              · rw [← hvis, List.append_assoc]
                congr 1
                exact hstep.symm
              · have := Tr.par_in Tt 0 x y (Nat.zero_le _) (by omega) hy
                omega
              · by_cases c : u = x
                · subst c
                  rw [List.getElem?_set_self (by omega)]
                  simp
                · rw [List.getElem?_set_ne (fun e => c e.symm), hMv u hu]
                  congr 2
                  simp [c]
          · rintro σ H5 ⟨vis, o', M, v8, rfl, s5, h5, hM, hvl, hvis, hol', hMv⟩
            rw [List.length_range] at hvl
            have ev : vis = Tr.cho (eF E) Tt o := by
              cases o' with
              | none => rw [← hvis]; show vis = vis ++ []; rw [List.append_nil]
              | some x =>
                exfalso
                have := congrArg List.length hvis
                rw [List.length_append, hvl] at this
                have h2 : Tr.cho (eF E) Tt (some x) = x :: Tr.cho (eF E) Tt (Tr.par (eF E) 0 Tt x) := Tr.cho_step (hol' x rfl)
                rw [h2, List.length_cons] at this
                omega
            exact ⟨M, _, _, _, rfl, s5, h5, hM, fin vis M H5 ev hM hMv⟩
        have hms := fun u => Tr.mk_succ Tt (eF E) (Tr.fn S) g u
        by_cases c : S[g] = eF E g
        · refine ifF (by rw [hd, decide_eq_true (by rw [c])]; rfl) ?_
          refine inner none _ (Nat.zero_le _) (fun x hx => by cases hx) fun u => ?_
          rw [hms, hfn, show decide (S[g] ≠ eF E g) = false from decide_eq_false (fun z => z c), Bool.false_and, Bool.or_false]
          show (_ || decide (u ∈ ([] : List Nat))) = _
          simp
        · refine ifT (by rw [hd, decide_eq_false (fun z => c (List.cons.inj z).1)]; rfl) ?_
          have ho := Tr.own_in (e := eF E) Tt 0 g (Nat.zero_le _) (by omega)
          refine ⟨_, rfl, _, rfl, hk, _, ((g : Nat) : Int), nV (Tr.own (eF E) 0 Tt g), rfl, rfl, SqL.of (s4 _ _ hk2), atI_nat (by rw [List.getElem?_map, hown _ hg1]; rfl), ?_⟩
          refine inner (some (Tr.own (eF E) 0 Tt g)) _ (Tr.chain_len (S := Tr.fn S) hg1 (by rw [hfn]; exact c)) (fun x hx => by cases hx; omega) fun u => ?_
          rw [hms, hfn, show decide (S[g] ≠ eF E g) = true from decide_eq_true c, Bool.true_and]; rfl
      · rintro σ H' ⟨M, v6, v7, v8, rfl, s4, h4, hM, hMu⟩
        rw [List.length_range] at hMu
        refine ⟨_, rfl, wa, _, rfl, .inl (SqL.of (s4 _ _ (s02 _ _ hwa))), (ws.length : Int), rfl, by omega, by omega, fun R hR => ?_⟩
        rw [Int.toNat_natCast, hwl]
        have hRH : H R = none := s02.free (s4.free hR)
        refine lc_pre (wf_range Tt.m) (fun pre H5 => Same H' H5 ∧ H5 R = some (.lst ((pre.filter (Tr.mk Tt (eF E) (Tr.fn S) (Tt.m - 1))).map nV))) ⟨(Same.refl H').new hR, upd_same⟩ ?_ ?_ ?_
        · intro _ _ _; trivial
        · rintro pre u post H5 e ⟨s5, h5⟩
          obtain ⟨ep, hu⟩ := range_split e
          refine ⟨rfl, ?_⟩
          refine ⟨_, rfl, _, rfl, D, _, ((u : Nat) : Int), _, rfl, rfl, SqL.of (s5 _ _ h4), atI_nat (by rw [List.getElem?_map, hMu u hu]; rfl), _, rfl, ?_⟩
          cases c : Tr.mk Tt (eF E) (Tr.fn S) (Tt.m - 1) u with
          | true =>
            refine ifT rfl ⟨_, rfl, _, h5, ?_, s5.put hR, ?_⟩
            · rw [List.length_map]
              have := List.length_filter_le (Tr.mk Tt (eF E) (Tr.fn S) (Tt.m - 1)) pre
              rw [ep, List.length_range] at this
              rw [ep]
              exact small100 (by omega)
            · rw [upd_same, List.filter_append, List.filter_cons, if_pos c, List.map_append]; rfl
          | false =>
            refine ifF rfl ⟨s5, ?_⟩
            rw [h5, List.filter_append, List.filter_cons, if_neg (by rw [c]; exact Bool.false_ne_true)]
            simp
        · rintro H5 ⟨s5, h5⟩
          rw [Tr.mk_need] at h5
          exact q H5 R (s02.trans (s4.trans s5)) hRH h5
end
end K22
set_option Elab.async false
set_option linter.all false
set_option maxRecDepth 100000
set_option maxHeartbeats 4000000
namespace K22
open PySem PySem.Spec PyProof.Rows L2
/-- for k in range(n): up a chain that is no longer than n -/
theorem for_chain {F : Fo} {o0 : Option Nat} {n : Nat} (hn : (cho F o0).length ≤ n) (ho0 : ∀ q, o0 = some q → q ∈ F.ns) {g : TG} {tb : TS} {D : Ends} {σ : L2.St} {H : Hp} (R : List Nat → Option Nat → L2.St → Hp → Prop) (h0 : R [] o0 σ H)
    (hs : ∀ k vis x σ H, vis ++ cho F (some x) = cho F o0 → x ∈ F.ns → R vis (some x) σ H → g (nV k) σ H fun σ2 H2 => tb { D with nx := R (vis ++ [x]) (F.p x), ct := R (vis ++ [x]) (F.p x), bk := D.nx } σ2 H2)
    (hb : ∀ k vis σ H (N : L2.St → Hp → Prop), vis = cho F o0 → R vis none σ H → g (nV k) σ H fun σ2 H2 => tb { D with nx := N, ct := N, bk := D.nx } σ2 H2)
    (hd : ∀ vis σ H, vis = cho F o0 → R vis none σ H → D.nx σ H) :
    ∃ W : Nat → Nat → L2.St → Hp → Prop, (∃ m, W 0 m σ H) ∧ ∀ i m σ H, W i m σ H →
      ((Itr 0 n).stop i H ∧ D.nx σ H) ∨ ((Itr 0 n).go i H ∧ ∃ N : L2.St → Hp → Prop, (∀ σ' H', N σ' H' → ∃ m', m' < m ∧ W (i + 1) m' σ' H') ∧ ∀ x H', (Itr 0 n).yld i H x H' → g x σ H' fun σ2 H2 => tb { D with nx := N, ct := N, bk := D.nx } σ2 H2) := by
  refine ⟨fun i m σ H => m = n - i ∧ i ≤ n ∧ ∃ vis o, R vis o σ H ∧ vis.length = i ∧ vis ++ cho F o = cho F o0 ∧ ∀ q, o = some q → q ∈ F.ns, ⟨n, by simp, Nat.zero_le _, [], o0, h0, rfl, rfl, ho0⟩, ?_⟩
  rintro i m σ H ⟨rfl, hi, vis, o, r, hl, hv, ho⟩
  have w := wf_range n
  have hln : (List.range n).length = n := List.length_range
  by_cases hlt : i < n
  · cases o with
    | none =>
      have ev : vis = cho F o0 := by rw [← hv]; show vis = vis ++ []; rw [List.append_nil]
      refine .inr ⟨w.goes i H (by rw [hln]; exact hlt) trivial, fun _ _ => False, fun _ _ z => z.elim, fun x H' y => ?_⟩
      obtain ⟨rfl, k, _, rfl⟩ := w.yields i H x H' (by rw [hln]; exact hlt) trivial y
      exact hb k vis σ _ _ ev r
    | some x =>
      have hx := ho x rfl
      refine .inr ⟨w.goes i H (by rw [hln]; exact hlt) trivial, R (vis ++ [x]) (F.p x), fun σ' H' r' => ⟨n - (i + 1), by omega, rfl, hlt, vis ++ [x], F.p x, r', by rw [List.length_append, hl]; rfl, ?_, fun q e => F.cl x hx q e⟩, fun y H' yy => ?_⟩
      · rw [← hv, List.append_assoc]
        congr 1
        exact (ch_eq hx).symm
      · obtain ⟨rfl, k, _, rfl⟩ := w.yields i H y H' (by rw [hln]; exact hlt) trivial yy
        exact hs k vis x σ _ hv hx r
  · have e : i = n := by omega
    subst e
    refine .inl ⟨by have := w.stops H trivial; rwa [hln] at this, ?_⟩
    cases o with
    | none => exact hd vis σ H (by rw [← hv]; show vis = vis ++ []; rw [List.append_nil]) r
    | some x =>
      exfalso
      have := congrArg List.length hv
      have h2 : cho F (some x) = x :: cho F (F.p x) := ch_eq (ho x rfl)
      rw [List.length_append, hl, h2, List.length_cons] at this
      omega
theorem cho_len {F : Fo} {u : Nat} (h : u ∈ F.ns) : (F.ch u).length ≤ F.ns.length := ch_len_le F.upNs h
section
variable {P : Program} {w : World} {K : PySem.W.Frag} {mg : Str → Option Value} {base : Heap}
def spHu : Sp := fun vs H Q _ => ∃ (T : Tr) (S E : List Nat) (wv : V), vs = [sV S, sV E, wv] ∧ S.length = T.m - 1 ∧ Lw H T E wv ∧
  ∀ (H' : Hp) (d : Addr), Same H H' → H d = none → H' d = some (ParD (Tr.fo T (eF E) (Tr.fn S))) → Q (.ref d) H'
theorem ok_law_hung (T : Tb mg) (F : Df K mg "_law_hung" s__law_hung) (c__law_above : Cl P w K mg base 2 "_law_above" spAb) (c__law_due : Cl P w K mg base 3 "_law_due" spDu) : Cl P w K mg base 4 "_law_hung" spHu := by
  refine cl_mk F sc__law_hung (fun vs H Q E h => ?_) (fun _ _ _ _ _ _ us hl => match us, hl with | [_, _, _], _ => rfl) (fun f cdv A outer s H vs Q E hr h => ?_)
  · obtain ⟨_, _, _, _, rfl, _⟩ := h; rfl
  · have hu := hu_of hr
    obtain ⟨Tt, S, E, wv, rfl, hS, hLw, q⟩ := h
    refine ⟨_, PSs.nox (pss_cons (ps_set (i := 3) sc__law_hung.nd rfl (Or.inl rfl) (pe_cl c__law_above hr (by decide) rfl (pa_cons (pv 1) (pa_cons (pv 2) pa_nil))))
    (pss_cons (ps_set (i := 4) sc__law_hung.nd rfl (Or.inl rfl) pe_dnewK)
    (pss_cons (ps_for PassesOwn.never rfl (pi_list (pe_cl c__law_due hr (by decide) rfl (pa_cons (pv 0) (pa_cons (pv 1) (pa_cons (pv 2) pa_nil))))) (pg_name (i := 5) sc__law_hung.nd rfl (Or.inl rfl))
      (pss_one (ps_dput hu (pv 4) (pv 5) (pe_ix ix_list (pv 3) (pv 5) (fun _ _ => rfl)) rfl)))
    (pss_one (ps_ret (pv 4)))))), ?_⟩
    have m64 := hLw.m64
    refine ⟨_, rfl, _, rfl, Tt, E, wv, rfl, hLw, fun H1 ab s1 ab0 hab => ?_⟩
    intro d hd
    have nad : ab ≠ d := ne_of_none hab hd
    have s2 := s1.new (o := .dK []) hd
    have hd0 : H d = none := s1.free hd
    have hd2 : upd H1 d (.dK []) d = some (.dK []) := upd_same
    have hab2 : upd H1 d (.dK []) ab = some (.lst ((List.range Tt.m).map fun u => pV (Tr.par (eF E) 0 Tt u))) := by rw [upd_ne nad]; exact hab
    show tSeq _ _ _ _ (upd H1 d (.dK []))
    generalize upd H1 d (.dK []) = H2 at s2 hd2 hab2
    refine ⟨_, rfl, _, rfl, _, rfl, Tt, S, E, wv, rfl, hS, hLw.same s2, fun H3 r s3 hr0 hr3 => ?_⟩
    have s03 := s2.trans s3
    have hd3 := s3 _ _ hd2
    have hab3 := s3 _ _ hab2
    have nrd : d ≠ r := ne_of_none hd2 hr0
    refine ⟨r, rfl, ⟨_, SqL.of hr3⟩, for_pre (wf_list (K := K) (a := r) (Tr.need Tt (eF E) (Tr.fn S)) nV)
      (fun pre σ H' => ∃ v5, σ = [some (sV S), some (sV E), some wv, some (.ref ab), some (.ref d), v5] ∧ SameBut d H3 H' ∧ H' d = some (.dK (dmap pre fun u => pV (Tr.par (eF E) 0 Tt u)))) ?_ ?_ ?_ ?_⟩
    · exact ⟨none, rfl, fun b o _ h => h, hd3⟩
    · rintro pre σ H' ⟨v5, rfl, s4, _⟩
      exact SqL.of (s4 _ _ nrd.symm hr3)
    · rintro pre u post σ H' e ⟨v5, rfl, s4, h4⟩
      have hum := (Tr.mem_need.mp (show u ∈ Tr.need Tt (eF E) (Tr.fn S) by rw [e]; simp)).1
      have hun : u ∉ pre := fun hm => by
        have nd := Fo.nodup_of_asc (Tr.fo Tt (eF E) (Tr.fn S)).asc
        have nd : (Tr.need Tt (eF E) (Tr.fn S)).Nodup := nd
        rw [e] at nd
        exact (List.nodup_append.mp nd).2.2 u hm u List.mem_cons_self rfl
      have hlen : pre.length ≤ 100 := by
        have h1 := congrArg List.length e
        have h2 := Tr.need_lt (e := eF E) (S := Tr.fn S) Tt
        rw [List.length_append, List.length_cons] at h1
        omega
      refine ⟨_, rfl, _, rfl, ab, _, ((u : Nat) : Int), pV (Tr.par (eF E) 0 Tt u), rfl, rfl, SqL.of (s4 _ _ nad hab3), atI_nat (by rw [List.getElem?_map, List.getElem?_range hum]; rfl), ?_⟩
      refine ⟨_, rfl, _, rfl, d, _, rfl, dput_add h4 hun (small100 hlen), ?_⟩
      refine ⟨_, rfl, fun b o n h => by rw [upd_ne n]; exact s4 _ _ n h, ?_⟩
      rw [upd_same]
      congr 2
      refine dmap_congr fun v _ => ?_
      unfold upF
      by_cases cv : v = u
      · rw [if_pos cv, cv]
      · rw [if_neg cv]
    · rintro σ H' ⟨v5, rfl, s4, h4⟩
      exact ⟨_, rfl, q H' d (fun b o h => s4 b o (fun e => by rw [e, hd0] at h; cases h) (s03 _ _ h)) hd0 h4⟩
theorem ok_law_sizes (T : Tb mg) (F : Df K mg "_law_sizes" s__law_sizes) : Cl P w K mg base 1 "_law_sizes" spBS := by
  refine cl_mk F sc__law_sizes (fun vs H Q E h => ?_) (fun _ _ _ _ _ _ us hl => match us, hl with | [_], _ => rfl) (fun f cdv A outer s H vs Q E hr h => ?_)
  · obtain ⟨_, _, rfl, _⟩ := h; rfl
  · have hu := hu_of hr
    obtain ⟨F, pa, rfl, hp, h64, q⟩ := h
    refine ⟨_, PSs.nox (pss_cons (ps_set (i := 1) sc__law_sizes.nd rfl (Or.inl rfl) pe_dnewK)
    (pss_cons (ps_lock (ps_for PassesOwn.never rfl (pi_keys (pv 0)) (pg_name (i := 2) sc__law_sizes.nd rfl (Or.inl rfl))
      (pss_one (ps_dput hu (pv 1) (pv 2) pe_int rfl))))
    (pss_cons (ps_lock (ps_for PassesOwn.never rfl (pi_keys (pv 0)) (pg_name (i := 2) sc__law_sizes.nd rfl (Or.inl rfl))
      (pss_cons (ps_set (i := 3) sc__law_sizes.nd rfl (Or.inl rfl) (pv 2))
      (pss_one (ps_for PassesOwn.never rfl (pi_range1 (by rfl) T.n_range (pa_cons (pe_callB call_lenDR (by rfl) T.n_len (by decide +kernel) (pa_cons (pv 0) pa_nil)) pa_nil)) (pg_name (i := 4) sc__law_sizes.nd rfl (Or.inl rfl))
        (pss_cons (ps_if (pt_cmpR op_isN (pv 3) pe_non (nomark _))
          (pss_one ps_break)
          pss_nil)
        (pss_cons (ps_dput hu (pv 1) (pv 3) (pe_op op_add (pe_dget hu (pv 1) (pv 3) (fun _ _ => rfl)) pe_int) rfl)
        (pss_one (ps_set (i := 3) sc__law_sizes.nd rfl (Or.inl rfl) (pe_dget hu (pv 0) (pv 3) (fun _ _ => rfl)))))))))))
    (pss_one (ps_ret (pv 1)))))), ?_⟩
    intro d hd
    have npd : pa ≠ d := ne_of_none hp hd
    have s1 := (Same.refl H).new (o := .dK []) hd
    have hd1 : upd H d (.dK []) d = some (.dK []) := upd_same
    show tSeq _ _ _ _ (upd H d (.dK []))
    generalize upd H d (.dK []) = H1 at s1 hd1
    have hp1 := s1 _ _ hp
    refine ⟨pa, _, hp1, trivial, fun od => ⟨_, rfl, pa, od, rfl, .inl ⟨_, upd_same, for_pre (wf_keys (d := pa) (o := od) F.ns fun v => pV (F.p v))
      (fun pre σ H' => ∃ v2, σ = [some (.ref pa), some (.ref d), v2, none, none] ∧ SameBut pa H H' ∧ H' pa = some (.frz od (ParD F)) ∧ H' d = some (.dK (dmap pre fun _ => nV 0))) ?_ ?_ ?_ ?_⟩⟩⟩
    · exact ⟨none, rfl, s1.lock, upd_same, by rw [upd_ne npd.symm]; exact hd1⟩
    · rintro pre σ H' ⟨v, rfl, _, h, _⟩
      exact h
    · rintro pre a post σ H' e ⟨v, rfl, s2, h2, h3⟩
      have hn : a ∉ pre := fun hm => by
        have nd := Fo.nodup_of_asc F.asc
        rw [e] at nd
        exact (List.nodup_append.mp nd).2.2 a hm a List.mem_cons_self rfl
      have hlen : pre.length < 100 := by
        have : F.ns.length = pre.length + (post.length + 1) := by rw [e, List.length_append, List.length_cons]
        omega
      refine ⟨_, rfl, _, rfl, d, _, rfl, dput_add h3 hn (small100 (by omega)), ?_⟩
      refine ⟨_, rfl, s2.put hd, by rw [upd_ne npd]; exact h2, ?_⟩
      · rw [upd_same]
        congr 2
        refine dmap_congr fun u _ => ?_
        unfold upF
        by_cases e2 : u = a
        · rw [if_pos e2]; rfl
        · rw [if_neg e2]
    · rintro σ H2 ⟨v, rfl, s2, hz, h2⟩
      refine ⟨hz, ?_⟩
      have s3 : Same H (upd H2 pa (ParD F)) := s2.back hp
      have hp3 := s3 _ _ hp
      have h3 : upd H2 pa (ParD F) d = some (.dK (dmap F.ns fun _ => nV 0)) := by rw [upd_ne npd.symm]; exact h2
      show tSeq _ _ _ _ (upd H2 pa (ParD F))
      generalize upd H2 pa (ParD F) = H3 at s3 hp3 h3
      refine ⟨pa, _, hp3, trivial, fun oe => ⟨_, rfl, pa, oe, rfl, .inl ⟨_, upd_same, for_pre (wf_keys (d := pa) (o := oe) F.ns fun v => pV (F.p v))
        (fun pre σ H' => ∃ v2 v3 v4, σ = [some (.ref pa), some (.ref d), v2, v3, v4] ∧ SameBut pa H H' ∧ H' pa = some (.frz oe (ParD F)) ∧ H' d = some (.dK (dmap F.ns fun v => nV (F.sz pre v)))) ?_ ?_ ?_ ?_⟩⟩⟩
      · refine ⟨v, none, none, rfl, s3.lock, upd_same, ?_⟩
        rw [upd_ne npd.symm]
        exact h3
      · rintro pre σ H' ⟨v2, v3, v4, rfl, _, h, _⟩
        exact h
      · rintro pre u post σ H' e ⟨v2, v3, v4, rfl, s4, h4, hd4⟩
        have hun : u ∈ F.ns := by rw [e]; simp
        refine ⟨_, rfl, ?_⟩
        refine ⟨_, rfl, pa, _, rfl, .inr ⟨oe, h4⟩, _, rfl, by rw [dmap_len]; omega, by rw [dmap_len]; omega, ?_⟩
        rw [Int.toNat_natCast, dmap_len]
        refine for_chain (F := F) (o0 := some u) (cho_len hun) (fun q e => by cases e; exact hun)
          (fun vis o σ H' => ∃ v4, σ = [some (.ref pa), some (.ref d), some (nV u), some (pV o), v4] ∧ SameBut pa H H' ∧ H' pa = some (.frz oe (ParD F)) ∧ H' d = some (.dK (dmap F.ns (szW F pre u o)))) ?_ ?_ ?_ ?_
        · refine ⟨v4, rfl, s4, h4, ?_⟩
          rw [hd4]
          congr 2
          refine dmap_congr fun v _ => ?_
          unfold szW
          rw [if_neg (fun z => z.2 z.1)]; rfl
        · rintro k vis x σ H5 hv hx ⟨v4, rfl, s5, h5, hd5⟩
          have hxc : x ∈ F.ch u := by
            have : x ∈ cho F (some u) := by rw [← hv]; exact List.mem_append_right _ (Fo.mem_ch_self hx)
            exact this
          refine ⟨_, rfl, rfl, _, rfl, ifF rfl ?_⟩
          refine ⟨_, rfl, _, rfl, d, _, rfl, dget_n (.inl hd5) hx, _, 1, rfl, rfl, ?_⟩
          refine ⟨_, rfl, _, rfl, d, _, rfl, dput_old hd5 hx (small100 (by omega)), ?_⟩
          refine ⟨_, rfl, _, rfl, pa, _, rfl, dget_n (.inr ⟨oe, by rw [upd_ne npd]; exact h5⟩) hx, ?_⟩
          refine ⟨_, rfl, s5.put hd, by rw [upd_ne npd]; exact h5, ?_⟩
          rw [upd_same]
          congr 2
          exact szW_step hx hxc F.ns
        · rintro k vis σ H5 N hv ⟨v4, rfl, s5, h5, hd5⟩
          refine ⟨_, rfl, rfl, _, rfl, ifT rfl ?_⟩
          refine ⟨_, _, _, rfl, s5, h5, ?_⟩
          rw [hd5]
          congr 2
          refine dmap_congr fun v _ => ?_
          unfold szW
          rw [sz_snoc]
          simp [cho]
        · rintro vis σ H5 hv ⟨v4, rfl, s5, h5, hd5⟩
          refine ⟨_, _, _, rfl, s5, h5, ?_⟩
          rw [hd5]
          congr 2
          refine dmap_congr fun v _ => ?_
          unfold szW
          rw [sz_snoc]
          simp [cho]
      · rintro σ H4 ⟨v2, v3, v4, rfl, s4, h4, hd4⟩
        refine ⟨h4, _, rfl, ?_⟩
        exact q _ d (s4.back hp) hd (by rw [upd_ne npd.symm]; exact hd4)
def spLc : Sp := fun vs H Q _ => ∃ (F : Fo) (pa : Addr), vs = [.ref pa] ∧ H pa = some (ParD F) ∧ F.ns.length < 64 ∧ ∀ H' : Hp, Same H H' → Q (nV (oc F F.ns)) H'
theorem fac_le : ∀ n : Nat, n ≤ 64 → Fo.fac n ≤ 64 ^ n
  | 0, _ => Nat.le_refl _
  | n + 1, h => by
    have := fac_le n (by omega)
    show (n + 1) * Fo.fac n ≤ 64 ^ n * 64
    rw [Nat.mul_comm]
    exact Nat.mul_le_mul this h
theorem ok_law_count (T : Tb mg) (F : Df K mg "_law_count" s__law_count) (c__law_sizes : Cl P w K mg base 1 "_law_sizes" spBS) : Cl P w K mg base 2 "_law_count" spLc := by
  refine cl_mk F sc__law_count (fun vs H Q E h => ?_) (fun _ _ _ _ _ _ us hl => match us, hl with | [_], _ => rfl) (fun f cdv A outer s H vs Q E hr h => ?_)
  · obtain ⟨_, _, rfl, _⟩ := h; rfl
  · have hu := hu_of hr
    obtain ⟨F, pa, rfl, hp, h64, q⟩ := h
    refine ⟨_, PSs.nox (pss_cons (ps_set (i := 1) sc__law_count.nd rfl (Or.inl rfl) (pe_cl c__law_sizes hr (by decide) rfl (pa_cons (pv 0) pa_nil)))
    (pss_cons (ps_set (i := 2) sc__law_count.nd rfl (Or.inl rfl) pe_int)
    (pss_cons (ps_set (i := 3) sc__law_count.nd rfl (Or.inl rfl) pe_int)
    (pss_cons (ps_set (i := 4) sc__law_count.nd rfl (Or.inl rfl) pe_int)
    (pss_cons (ps_lock (ps_for PassesOwn.never rfl (pi_keys (pv 0)) (pg_name (i := 5) sc__law_count.nd rfl (Or.inl rfl))
      (pss_cons (ps_set (i := 4) sc__law_count.nd rfl (Or.inl rfl) (pe_op op_add (pv 4) pe_int))
      (pss_cons (ps_set (i := 2) sc__law_count.nd rfl (Or.inl rfl) (pe_op op_mul (pv 2) (pv 4)))
      (pss_one (ps_set (i := 3) sc__law_count.nd rfl (Or.inl rfl) (pe_op op_mul (pv 3) (pe_dget hu (pv 1) (pv 5) (fun _ _ => rfl)))))))))
    (pss_one (ps_ret (pe_op op_fdivW (pv 2) (pv 3))))))))), ?_⟩
    refine ⟨_, rfl, F, pa, rfl, hp, h64, fun H1 d s1 hd h1 => ?_⟩
    have hp1 := s1 _ _ hp
    have npd : pa ≠ d := fun e => by rw [← e, hp] at hd; cases hd
    refine ⟨pa, _, hp1, trivial, fun od => ⟨_, rfl, pa, od, rfl, .inl ⟨_, upd_same, for_pre (wf_keys (d := pa) (o := od) F.ns fun v => pV (F.p v))
      (fun pre σ H' => ∃ v5, σ = [some (.ref pa), some (.ref d), some (nV (Fo.fac pre.length)), some (nV (Fo.P pre (F.sz F.ns))), some (nV pre.length), v5] ∧ SameBut pa H H' ∧ H' pa = some (.frz od (ParD F)) ∧ H' d = some (SzD F F.ns)) ?_ ?_ ?_ ?_⟩⟩⟩
    · exact ⟨none, rfl, s1.lock, upd_same, by rw [upd_ne npd.symm]; exact h1⟩
    · rintro pre σ H' ⟨v, rfl, _, h, _⟩
      exact h
    · rintro pre u post σ H' e ⟨v, rfl, s2, h2, hd2⟩
      have hun : u ∈ F.ns := by rw [e]; simp
      have hlen : pre.length < 64 := by
        have : F.ns.length = pre.length + (post.length + 1) := by rw [e, List.length_append, List.length_cons]
        omega
      have hle : F.sz F.ns u ≤ 64 := Nat.le_trans (sz_le u) (by omega)
      refine ⟨_, rfl, _, 1, rfl, rfl, ?_⟩
      refine ⟨_, rfl, _, rfl, _, _, rfl, rfl, .inr ⟨by omega, by omega⟩, ?_⟩
      refine ⟨_, rfl, _, rfl, _, rfl, d, _, rfl, dget_n (.inl hd2) hun, _, _, rfl, rfl, mul_sm (by omega), ?_⟩
      refine ⟨some (nV u), ?_, s2, h2, hd2⟩
      rw [List.length_append, List.length_singleton, P_snoc]
      show [some (V.ref pa), some (V.ref d), some (V.int (((Fo.fac pre.length : Nat) : Int) * (((pre.length : Nat) : Int) + 1))), some (V.int (((Fo.P pre (F.sz F.ns) : Nat) : Int) * ((F.sz F.ns u : Nat) : Int))), some (V.int (((pre.length : Nat) : Int) + 1)), some (nV u)] = [some (V.ref pa), some (V.ref d), some (nV ((pre.length + 1) * Fo.fac pre.length)), some (nV (Fo.P pre (F.sz F.ns) * F.sz F.ns u)), some (nV (pre.length + 1)), some (nV u)]
      have e1 : ((Fo.fac pre.length : Nat) : Int) * (((pre.length : Nat) : Int) + 1) = (((pre.length + 1) * Fo.fac pre.length : Nat) : Int) := by
        rw [Int.natCast_mul, Int.mul_comm]; rfl
      rw [e1, ← Int.natCast_mul]; rfl
    · rintro σ H2 ⟨v, rfl, s2, h2, hd2⟩
      refine ⟨h2, ?_⟩
      have s3 : Same H (upd H2 pa (ParD F)) := s2.back hp
      have hk := Fo.hook F.ns.length F.ns F.upNs rfl
      have hpos : 1 ≤ Fo.P F.ns (F.sz F.ns) := Fo.P_pos fun v hv => Fo.sz_pos F.upNs hv
      have hbd : Fo.P F.ns (F.sz F.ns) < 2 ^ 1000 := by
        have p1 : Fo.P F.ns (F.sz F.ns) ≤ 2 ^ (6 * F.ns.length) := P_le fun x hx => by
          have : F.sz F.ns x ≤ F.ns.length := sz_le x
          show F.sz F.ns x ≤ 2 ^ 6
          omega
        have p2 : 2 ^ (6 * F.ns.length) ≤ 2 ^ 400 := Nat.pow_le_pow_right (by decide) (by omega)
        exact Nat.lt_of_le_of_lt (Nat.le_trans p1 p2) (by decide +kernel)
      refine ⟨_, rfl, _, rfl, ((Fo.fac F.ns.length : Nat) : Int), ((Fo.P F.ns (F.sz F.ns) : Nat) : Int), rfl, rfl, wide_div (b := 1000) (by omega) (by omega) (by decide) (by decide), ?_⟩
      have hv : (((Fo.fac F.ns.length : Nat) : Int) / ((Fo.P F.ns (F.sz F.ns) : Nat) : Int)) = ((oc F F.ns : Nat) : Int) := by
        rw [← hk]
        show (((F.orders F.ns.length F.ns).length * Fo.P F.ns (F.sz F.ns) : Nat) : Int) / _ = _
        rw [Int.natCast_mul, Int.mul_ediv_cancel _ (by omega)]; rfl
      show Q (V.int (((Fo.fac F.ns.length : Nat) : Int) / ((Fo.P F.ns (F.sz F.ns) : Nat) : Int))) _
      rw [hv]
      exact q _ s3
end
end K22
set_option Elab.async false
set_option linter.all false
set_option maxRecDepth 100000
set_option maxHeartbeats 4000000
namespace K22
open PySem PySem.Spec PyProof.Rows L2
/-- sizes that are right where something is left -/
def SzP (H : Hp) (sa : Addr) (F : Fo) (rem : List Nat) : Prop := ∃ f : Nat → V, Rd H sa (.dK (dmap F.ns f)) ∧ ∀ v ∈ rem, f v = nV (F.sz rem v)
theorem rem_filter {F : Fo} {rem : List Nat} (U : F.Up rem) : rem = F.ns.filter fun v => decide (v ∈ rem) := by
  refine List.Perm.eq_of_pairwise (le := (· ≤ ·)) (fun a b _ _ h1 h2 => by omega) (U.asc.imp fun h => by omega) ((F.asc.sublist List.filter_sublist).imp fun h => by omega) ?_
  refine Fo.perm_of_mem (Fo.nodup_of_asc U.asc) ((Fo.nodup_of_asc F.asc).sublist List.filter_sublist) fun x => ?_
  rw [List.mem_filter]
  exact ⟨fun h => ⟨U.sub x h, decide_eq_true h⟩, fun h => of_decide_eq_true h.2⟩
section
variable {P : Program} {w : World} {K : PySem.W.Frag} {mg : Str → Option Value} {base : Heap}
def spSh : Sp := fun vs H Q _ => ∃ (F : Fo) (pa sa : Addr) (rem : List Nat) (l : Nat), vs = [nV (oc F rem), nV rem.length, nV l, .ref pa, .ref sa] ∧ ParAt H pa F ∧ SzP H sa F rem ∧ F.Up rem ∧ l ∈ F.ops rem ∧ F.ns.length ≤ 64 ∧ Q (nV (oc F (rem.erase l))) H
theorem ok_law_share (T : Tb mg) (F : Df K mg "_law_share" s__law_share) : Cl P w K mg base 1 "_law_share" spSh := by
  refine cl_mk F sc__law_share (fun vs H Q E h => ?_) (fun _ _ _ _ _ _ us hl => match us, hl with | [_, _, _, _, _], _ => rfl) (fun f cdv A outer s H vs Q E hr h => ?_)
  · obtain ⟨_, _, _, _, _, rfl, _⟩ := h; rfl
  · have hu := hu_of hr
    obtain ⟨F, pa, sa, rem, l, rfl, hp, ⟨fz, hs, hfz⟩, U, hl, h64n, q⟩ := h
    refine ⟨_, PSs.nox (pss_cons (ps_set (i := 5) sc__law_share.nd rfl (Or.inl rfl) (pv 0))
    (pss_cons (ps_set (i := 6) sc__law_share.nd rfl (Or.inl rfl) (pv 1))
    (pss_cons (ps_set (i := 7) sc__law_share.nd rfl (Or.inl rfl) (pe_dget hu (pv 3) (pv 2) (fun _ _ => rfl)))
    (pss_cons (ps_for PassesOwn.never rfl (pi_range1 (by rfl) T.n_range (pa_cons (pe_callB call_lenDR (by rfl) T.n_len (by decide +kernel) (pa_cons (pv 3) pa_nil)) pa_nil)) (pg_name (i := 8) sc__law_share.nd rfl (Or.inl rfl))
      (pss_cons (ps_if (pt_cmpR op_isN (pv 7) pe_non (nomark _))
        (pss_one ps_break)
        pss_nil)
      (pss_cons (ps_set (i := 5) sc__law_share.nd rfl (Or.inl rfl) (pe_op op_mul (pv 5) (pe_dget hu (pv 4) (pv 7) (fun _ _ => rfl))))
      (pss_cons (ps_set (i := 6) sc__law_share.nd rfl (Or.inl rfl) (pe_op op_mul (pv 6) (pe_op op_sub (pe_dget hu (pv 4) (pv 7) (fun _ _ => rfl)) pe_int)))
      (pss_one (ps_set (i := 7) sc__law_share.nd rfl (Or.inl rfl) (pe_dget hu (pv 3) (pv 7) (fun _ _ => rfl))))))))
    (pss_one (ps_ret (pe_op op_fdivW (pv 5) (pv 6)))))))), ?_⟩
    obtain ⟨hlr, _⟩ := Fo.mem_ops.mp hl
    have hln := U.sub l hlr
    have h64 : rem.length ≤ 64 := Nat.le_trans (sub_len (Fo.nodup_of_asc U.asc) U.sub) h64n
    have tl : (F.ch l).tail = cho F (F.p l) := ch_tail hln
    have st := oc_step U hl
    rw [tl] at st
    have up1 : ∀ q, F.p l = some q → q ∈ rem := fun q e => U.up l hlr q e
    have hin : ∀ x ∈ cho F (F.p l), x ∈ rem := fun x hx => Fo.ch_up U l hln hlr x (by rw [ch_eq hln]; exact List.mem_cons_of_mem _ hx)
    have big : ∀ x ∈ cho F (F.p l), 2 ≤ F.sz rem x := by rw [← tl]; exact Fo.tail_big U hl
    have ln : (cho F (F.p l)).length + 1 ≤ F.ns.length := by
      have := cho_len hln
      rw [ch_eq hln, List.length_cons] at this; omega
    refine ⟨_, rfl, _, rfl, _, rfl, _, rfl, pa, _, rfl, dget_n hp hln, ?_⟩
    refine ⟨_, rfl, pa, _, rfl, hp, _, rfl, by rw [dmap_len]; omega, by rw [dmap_len]; omega, ?_⟩
    rw [Int.toNat_natCast, dmap_len]
    have fin : ∀ (vis : List Nat) (v8 : Option V), vis = cho F (F.p l) → ∀ (u d : Nat), u = oc F rem * Fo.P vis (F.sz rem) → d = rem.length * Fo.P vis (fun v => F.sz rem v - 1) →
        tRet (tOp (rI CDivW fun i j => .int (i / j)) (tVar 5) (tVar 6)) { nx := fun _ H' => Q .non H', rt := Q } [some (nV (oc F rem)), some (nV rem.length), some (nV l), some (.ref pa), some (.ref sa), some (nV u), some (nV d), some (pV none), v8] H := by
      intro vis v8 ev u d eu ed
      subst ev
      have hd : 1 ≤ d := by
        rw [ed]
        exact Nat.mul_pos (List.length_pos_of_mem hlr) (Fo.P_pos fun x hx => by have := big x hx; omega)
      have hd2 : d < 2 ^ 1000 := by
        rw [ed]
        have p1 : Fo.P (cho F (F.p l)) (fun v => F.sz rem v - 1) ≤ 2 ^ (6 * (cho F (F.p l)).length) := P_le fun x hx => by
          have : F.sz rem x ≤ rem.length := sz_le x
          show F.sz rem x - 1 ≤ 2 ^ 6
          omega
        have p2 : 2 ^ (6 * (cho F (F.p l)).length) ≤ 2 ^ 400 := Nat.pow_le_pow_right (by decide) (by omega)
        calc rem.length * _ ≤ 2 ^ 6 * 2 ^ 400 := Nat.mul_le_mul (by omega) (Nat.le_trans p1 p2)
          _ < 2 ^ 1000 := by decide +kernel
      have hv : ((u : Int) / (d : Int)) = ((oc F (rem.erase l) : Nat) : Int) := by
        have : u = d * oc F (rem.erase l) := by rw [eu, ed]; exact st
        rw [this, Int.natCast_mul, Int.mul_ediv_cancel_left _ (by omega)]
      refine ⟨_, rfl, _, rfl, (u : Int), (d : Int), rfl, rfl, wide_div (b := 1000) (by omega) (by omega) (by decide) (by decide), ?_⟩
      show Q (V.int ((u : Int) / (d : Int))) H
      rw [hv]
      exact q
    refine for_chain (F := F) (o0 := F.p l) (by omega) (fun q e => F.cl l hln q e)
      (fun vis o σ H' => H' = H ∧ ∃ (u d : Nat) (v8 : Option V), σ = [some (nV (oc F rem)), some (nV rem.length), some (nV l), some (.ref pa), some (.ref sa), some (nV u), some (nV d), some (pV o), v8] ∧ u = oc F rem * Fo.P vis (F.sz rem) ∧ d = rem.length * Fo.P vis (fun v => F.sz rem v - 1)) ?_ ?_ ?_ ?_
    · exact ⟨rfl, oc F rem, rem.length, none, rfl, by show _ = _ * 1; omega, by show _ = _ * 1; omega⟩
    · rintro k vis x σ H' hv hx ⟨rfl, u, d, v8, rfl, eu, ed⟩
      have hxc : x ∈ cho F (F.p l) := by rw [← hv]; exact List.mem_append_right _ (Fo.mem_ch_self hx)
      have hxr := hin x hxc
      have s64 : F.sz rem x ≤ 64 := Nat.le_trans (sz_le x) h64
      have s2 := big x hxc
      have hg : DGet H' sa (nV x) (some (nV (F.sz rem x))) := by
        have := dget_n hs hx
        rw [hfz x hxr] at this
        exact this
      refine ⟨_, rfl, rfl, _, rfl, ifF rfl ?_⟩
      refine ⟨_, rfl, _, rfl, _, rfl, sa, _, rfl, hg, (u : Int), ((F.sz rem x : Nat) : Int), rfl, rfl, mul_sm (by omega), ?_⟩
      refine ⟨_, rfl, _, rfl, _, rfl, sa, _, rfl, hg, ((F.sz rem x : Nat) : Int), 1, rfl, rfl, (d : Int), _, rfl, rfl, .inr ⟨by omega, by omega⟩, ?_⟩
      refine ⟨_, rfl, _, rfl, pa, _, rfl, dget_n hp hx, ?_⟩
      refine ⟨rfl, u * F.sz rem x, d * (F.sz rem x - 1), some (nV k), ?_, ?_, ?_⟩
      · have c1 : (u : Int) * ((F.sz rem x : Nat) : Int) = ((u * F.sz rem x : Nat) : Int) := (Int.natCast_mul ..).symm
        have c2 : (d : Int) * (((F.sz rem x : Nat) : Int) - 1) = ((d * (F.sz rem x - 1) : Nat) : Int) := by
          rw [Int.natCast_mul, Int.natCast_sub (by omega)]; rfl
        show [some (nV (oc F rem)), some (nV rem.length), some (nV l), some (V.ref pa), some (V.ref sa), some (V.int ((u : Int) * ((F.sz rem x : Nat) : Int))), some (V.int ((d : Int) * (((F.sz rem x : Nat) : Int) - 1))), some (pV (F.p x)), some (nV k)] = _
        rw [c1, c2]; rfl
      · rw [eu, P_snoc, Nat.mul_assoc]
      · rw [ed, P_snoc, Nat.mul_assoc]
    · rintro k vis σ H' N hv ⟨rfl, u, d, v8, rfl, eu, ed⟩
      exact ⟨_, rfl, rfl, _, rfl, ifT rfl (fin vis _ hv u d eu ed)⟩
    · rintro vis σ H' hv ⟨rfl, u, d, v8, rfl, eu, ed⟩
      exact fin vis v8 hv u d eu ed
end
end K22
set_option Elab.async false
set_option linter.all false
set_option maxRecDepth 100000
set_option maxHeartbeats 4000000
namespace K22
open PySem PySem.Spec PyProof.Rows L2
section
variable {P : Program} {w : World} {K : PySem.W.Frag} {mg : Str → Option Value} {base : Heap}
def spLr : Sp := fun vs H Q _ => ∃ (F : Fo) (a pa : Addr) (row : List Nat), vs = [.ref a, .ref pa] ∧ H a = some (.lst (row.map nV)) ∧ H pa = some (ParD F) ∧ F.ns.length < 64 ∧ Ok F F.ns row ∧ ∀ H' : Hp, Same H H' → Q (nV (rankF F F.ns row)) H'
theorem ok_law_rank (T : Tb mg) (F : Df K mg "_law_rank" s__law_rank) (c__law_sizes : Cl P w K mg base 1 "_law_sizes" spBS) (c__law_count : Cl P w K mg base 2 "_law_count" spLc) (c__law_share : Cl P w K mg base 1 "_law_share" spSh) : Cl P w K mg base 3 "_law_rank" spLr := by
  refine cl_mk F sc__law_rank (fun vs H Q E h => ?_) (fun _ _ _ _ _ _ us hl => match us, hl with | [_, _], _ => rfl) (fun f cdv A outer s H vs Q E hr h => ?_)
  · obtain ⟨_, _, _, _, rfl, _⟩ := h; rfl
  · have hu := hu_of hr
    obtain ⟨F, a, pa, row, rfl, ha, hp, h64, hok, q⟩ := h
    refine ⟨_, PSs.nox (pss_cons (ps_set (i := 2) sc__law_rank.nd rfl (Or.inl rfl) (pe_cl c__law_sizes hr (by decide) rfl (pa_cons (pv 1) pa_nil)))
    (pss_cons (ps_set (i := 3) sc__law_rank.nd rfl (Or.inl rfl) (pe_cl c__law_count hr (by decide) rfl (pa_cons (pv 1) pa_nil)))
    (pss_cons (ps_set (i := 4) sc__law_rank.nd rfl (Or.inl rfl) pe_dnewK)
    (pss_cons (ps_set (i := 5) sc__law_rank.nd rfl (Or.inl rfl) pe_int)
    (pss_cons (ps_for PassesOwn.never rfl (pi_range1 (by rfl) T.n_range (pa_cons (pe_callB call_len_seq (by rfl) T.n_len (by decide +kernel) (pa_cons (pv 0) pa_nil)) pa_nil)) (pg_name (i := 6) sc__law_rank.nd rfl (Or.inl rfl))
      (pss_cons (ps_set (i := 7) sc__law_rank.nd rfl (Or.inl rfl) (pe_ix ix_list (pv 0) (pv 6) (fun _ _ => rfl)))
      (pss_cons (ps_lock (ps_for PassesOwn.never rfl (pi_keys (pv 1)) (pg_name (i := 8) sc__law_rank.nd rfl (Or.inl rfl))
        (pss_one (ps_if (PW.pt (pw_and (pt_cmpR op_lt (pv 8) (pv 7) (nomark _)) (pw_and (pt_cmp (pc_dnotin hu (pv 8) (pv 4))) (pw_and1 (pt_cmpR op_eq (pe_dget hu (pv 2) (pv 8) (fun _ _ => rfl)) pe_int (nomark _))))))
          (pss_one (ps_set (i := 5) sc__law_rank.nd rfl (Or.inl rfl) (pe_op op_add (pv 5) (pe_cl c__law_share hr (by decide) rfl (pa_cons (pv 3) (pa_cons (pe_op op_sub (pe_callB call_len_seq (by rfl) T.n_len (by decide +kernel) (pa_cons (pv 0) pa_nil)) (pv 6)) (pa_cons (pv 8) (pa_cons (pv 1) (pa_cons (pv 2) pa_nil)))))))))
          pss_nil))))
      (pss_cons (ps_set (i := 3) sc__law_rank.nd rfl (Or.inl rfl) (pe_cl c__law_share hr (by decide) rfl (pa_cons (pv 3) (pa_cons (pe_op op_sub (pe_callB call_len_seq (by rfl) T.n_len (by decide +kernel) (pa_cons (pv 0) pa_nil)) (pv 6)) (pa_cons (pv 7) (pa_cons (pv 1) (pa_cons (pv 2) pa_nil)))))))
      (pss_cons (ps_dput hu (pv 4) (pv 7) pe_bl rfl)
      (pss_cons (ps_set (i := 9) sc__law_rank.nd rfl (Or.inl rfl) (pe_dget hu (pv 1) (pv 7) (fun _ _ => rfl)))
      (pss_one (ps_for PassesOwn.never rfl (pi_range1 (by rfl) T.n_range (pa_cons (pe_callB call_len_seq (by rfl) T.n_len (by decide +kernel) (pa_cons (pv 0) pa_nil)) pa_nil)) (pg_name (i := 10) sc__law_rank.nd rfl (Or.inl rfl))
        (pss_cons (ps_if (pt_cmpR op_isN (pv 9) pe_non (nomark _))
          (pss_one ps_break)
          pss_nil)
        (pss_cons (ps_dput hu (pv 2) (pv 9) (pe_op op_sub (pe_dget hu (pv 2) (pv 9) (fun _ _ => rfl)) pe_int) rfl)
        (pss_one (ps_set (i := 9) sc__law_rank.nd rfl (Or.inl rfl) (pe_dget hu (pv 1) (pv 9) (fun _ _ => rfl))))))))))))))
    (pss_one (ps_ret (pv 5)))))))), ?_⟩
    have hperm := hok.perm
    have hnd : row.Nodup := hperm.nodup_iff.mpr (Fo.nodup_of_asc F.asc)
    have hrl : row.length = F.ns.length := hperm.length_eq
    refine ⟨_, rfl, F, pa, rfl, hp, h64, fun H1 sa s1 hsa h1 => ?_⟩
    refine ⟨_, rfl, F, pa, rfl, s1 _ _ hp, h64, fun H2 s2 => ?_⟩
    have h2 := s2 _ _ h1
    have s12 := s1.trans s2
    intro d hd
    have nsd : sa ≠ d := ne_of_none h2 hd
    have hd0 : H d = none := s12.free hd
    have nps : pa ≠ sa := fun e => by rw [← e, hp] at hsa; cases hsa
    have npd : pa ≠ d := fun e => by rw [← e, hp] at hd0; cases hd0
    have s3 := s12.new (o := .dK []) hd
    have hs3 : upd H2 d (.dK []) sa = some (SzD F F.ns) := by rw [upd_ne nsd]; exact h2
    have hd3 : upd H2 d (.dK []) d = some (.dK []) := upd_same
    show tSeq _ _ _ _ (upd H2 d (.dK []))
    generalize upd H2 d (.dK []) = H3 at s3 hs3 hd3
    have hlm : (row.map nV).length = row.length := List.length_map _
    refine ⟨_, rfl, a, _, rfl, .inl (SqL.of (s3 _ _ ha)), ((row.map nV).length : Int), rfl, by omega, by omega, ?_⟩
    rw [Int.toNat_natCast, hlm]
    refine for_pre (wf_range row.length) (fun pre σ H' => ∃ (rem : List Nat) (r : Nat) (f : Nat → V) (v6 v7 v8 v9 v10 : Option V), σ = [some (.ref a), some (.ref pa), some (.ref sa), some (nV (oc F rem)), some (.ref d), some (nV r), v6, v7, v8, v9, v10] ∧ Same H H' ∧
      H' sa = some (.dK (dmap F.ns f)) ∧ (∀ v ∈ rem, f v = nV (F.sz rem v)) ∧ H' d = some (.dK (dmap (row.take pre.length) fun _ => .bl true)) ∧ F.Up rem ∧ Ok F rem (row.drop pre.length) ∧ r + rankF F rem (row.drop pre.length) = rankF F F.ns row ∧ rem.length + pre.length = row.length) ?_ ?_ ?_ ?_
    · exact ⟨F.ns, 0, _, none, none, none, none, none, rfl, s3, hs3, fun v _ => rfl, hd3, F.upNs, hok, by show 0 + rankF F F.ns row = _; omega, by simp [hrl]⟩
    · intro _ _ _ _; trivial
    · rintro pre n post σ H4 e ⟨rem, r, f, v6, v7, v8, v9, v10, rfl, s4, hs4, hf4, hd4, U, hok4, hrk, hrem⟩
      obtain ⟨ep, hn⟩ := range_split e
      have epl : pre.length = n := by rw [ep, List.length_range]
      rw [epl] at hd4 hok4 hrk hrem
      obtain ⟨z, hz⟩ : ∃ z, row[n]? = some z := ⟨row[n], List.getElem?_eq_getElem hn⟩
      have hdz : row.drop n = z :: row.drop (n + 1) := by
        obtain ⟨h1, h2⟩ := List.getElem?_eq_some_iff.mp hz
        rw [← h2]
        exact List.drop_eq_getElem_cons h1
      rw [hdz] at hok4 hrk
      have hzop : z ∈ F.ops rem := by cases hok4 with | cons h _ => exact h
      have htl : Ok F (rem.erase z) (row.drop (n + 1)) := by cases hok4 with | cons _ t => exact t
      have hzr := (Fo.mem_ops.mp hzop).1
      have hzn := U.sub z hzr
      have h64r : rem.length ≤ 64 := by omega
      have erk : rankF F rem (z :: row.drop (n + 1)) = sumL ((F.ops rem).filter fun l => decide (l < z)) (fun l => oc F (rem.erase l)) + rankF F (rem.erase z) (row.drop (n + 1)) := rfl
      -- who is placed
      have hplaced : ∀ v, v ∈ F.ns → (v ∈ row.take n ↔ v ∉ rem) := fun v hv => by
        have hp1 : (row.drop n).Perm rem := by rw [hdz]; exact hok4.perm
        have hvr : v ∈ row.take n ++ row.drop n := by rw [List.take_append_drop]; exact hperm.mem_iff.mpr hv
        have hnd2 : (row.take n ++ row.drop n).Nodup := by rw [List.take_append_drop]; exact hnd
        constructor
        · intro h1 h2
          exact (List.nodup_append.mp hnd2).2.2 v h1 v (hp1.mem_iff.mpr h2) rfl
        · intro h1
          rcases List.mem_append.mp hvr with h | h
          · exact h
          · exact absurd (hp1.mem_iff.mp h) h1
      have hp4 := s4 _ _ hp
      refine ⟨_, rfl, _, rfl, a, _, ((n : Nat) : Int), nV z, rfl, rfl, SqL.of (s4 _ _ ha), atI_nat (by rw [List.getElem?_map, hz]; rfl), ?_⟩
      -- for other in hung
      refine ⟨pa, _, hp4, trivial, fun od => ⟨_, rfl, pa, od, rfl, .inl ⟨_, upd_same, for_pre (wf_keys (d := pa) (o := od) F.ns fun v => pV (F.p v))
        (fun pre2 σ H' => ∃ v8, σ = [some (.ref a), some (.ref pa), some (.ref sa), some (nV (oc F rem)), some (.ref d), some (nV (r + sumL (pre2.filter fun l => decide (l < z) && (decide (l ∈ rem) && F.sz rem l == 1)) fun l => oc F (rem.erase l))), some (nV n), some (nV z), v8, v9, v10] ∧ SameBut pa H4 H' ∧ H' pa = some (.frz od (ParD F))) ?_ ?_ ?_ ?_⟩⟩⟩
      · exact ⟨v8, rfl, (Same.refl H4).lock, upd_same⟩
      · rintro pre2 σ H' ⟨v, rfl, _, h⟩
        exact h
      · rintro pre2 l post2 σ H5 e2 ⟨v, rfl, s5, h5⟩
        have hln : l ∈ F.ns := by rw [e2]; simp
        have hp5 : ParAt H5 pa F := .inr ⟨od, h5⟩
        have hs5 := s5 _ _ nps.symm hs4
        have hd5 := s5 _ _ npd.symm hd4
        have keep : ∀ (c : (decide (l < z) && (decide (l ∈ rem) && F.sz rem l == 1)) = false), ∃ v8, ([some (V.ref a), some (.ref pa), some (.ref sa), some (nV (oc F rem)), some (.ref d), some (nV (r + sumL (pre2.filter fun l => decide (l < z) && (decide (l ∈ rem) && F.sz rem l == 1)) fun l => oc F (rem.erase l))), some (nV n), some (nV z), some (nV l), v9, v10] : L2.St) = [some (.ref a), some (.ref pa), some (.ref sa), some (nV (oc F rem)), some (.ref d), some (nV (r + sumL ((pre2 ++ [l]).filter fun l => decide (l < z) && (decide (l ∈ rem) && F.sz rem l == 1)) fun l => oc F (rem.erase l))), some (nV n), some (nV z), v8, v9, v10] ∧ SameBut pa H4 H5 ∧ H5 pa = some (.frz od (ParD F)) := fun c => by
          refine ⟨some (nV l), ?_, s5, h5⟩
          rw [List.filter_append, List.filter_cons, if_neg (by rw [c]; exact Bool.false_ne_true), List.filter_nil, List.append_nil]
        refine ⟨_, rfl, _, rfl, ((l : Nat) : Int), ((z : Nat) : Int), rfl, rfl, _, rfl, ?_⟩
        by_cases c1 : l < z
        · refine ifT (decide_eq_true (by omega)) ?_
          refine ⟨_, rfl, _, rfl, d, _, rfl, dget_o (.inl hd5) l, _, rfl, ?_⟩
          by_cases c2 : l ∈ rem
          · rw [if_neg (fun z => (hplaced l hln).mp z c2)]
            refine ifT rfl ?_
            have hg : DGet H5 sa (nV l) (some (nV (F.sz rem l))) := by
              have := dget_n (.inl hs5) hln
              rw [hf4 l c2] at this
              exact this
            have hd : decide (nV (F.sz rem l) = V.int 1) = decide (F.sz rem l = 1) := nV_dec _ 1
            refine ⟨_, rfl, _, rfl, sa, _, rfl, hg, rfl, _, rfl, ?_⟩
            by_cases c3 : F.sz rem l = 1
            · refine ifT (hd.trans (decide_eq_true c3)) ?_
              refine ⟨_, rfl, _, rfl, _, rfl, a, _, rfl, .inl (SqL.of (s5 _ _ (fun e => by rw [e, hp] at ha; cases ha) (s4 _ _ ha))), _, rfl, _, _, rfl, rfl, _, rfl, _, rfl, _, rfl, F, pa, sa, rem, l, ?_, hp5, ⟨f, .inl hs5, hf4⟩, U, Fo.mem_ops.mpr ⟨c2, c3⟩, by omega, _, _, rfl, rfl, ?_⟩
              · show [nV (oc F rem), V.int (((row.map nV).length : Int) - (n : Int)), nV l, V.ref pa, V.ref sa] = _
                rw [hlm, show ((row.length : Nat) : Int) - ((n : Nat) : Int) = ((rem.length : Nat) : Int) by omega]; rfl
              · refine ⟨some (nV l), ?_, s5, h5⟩
                rw [List.filter_append, List.filter_cons, if_pos (by simp [c1, c2, c3]), sumL_app, List.filter_nil, sumL_cons, sumL_nil, Nat.add_zero, ← Nat.add_assoc]
                show _ = [some (V.ref a), some (V.ref pa), some (V.ref sa), some (nV (oc F rem)), some (V.ref d), some (V.int ((_ + _ : Nat) : Int)), _, _, _, _, _]
                rw [Int.natCast_add]
                rfl
            · exact ifF (hd.trans (decide_eq_false c3)) (keep (by simp [c3]))
          · rw [if_pos ((hplaced l hln).mpr c2)]
            exact ifF rfl (ifF rfl (keep (by simp [c2])))
        · exact ifF (decide_eq_false (by omega)) (ifF rfl (keep (by simp [c1])))
      · rintro σ H5 ⟨v, rfl, s5, h5⟩
        refine ⟨h5, ?_⟩
        have s6 : Same H4 (upd H5 pa (ParD F)) := s5.back hp4
        have s46 := s4.trans s6
        have hp6 := s46 _ _ hp
        have hs6 := s6 _ _ hs4
        have hd6 := s6 _ _ hd4
        show tSeq _ _ _ _ (upd H5 pa (ParD F))
        generalize upd H5 pa (ParD F) = H6 at s6 s46 hp6 hs6 hd6
        have efilt : (F.ns.filter fun l => decide (l < z) && (decide (l ∈ rem) && F.sz rem l == 1)) = (F.ops rem).filter fun l => decide (l < z) := by
          have h := rem_filter U
          have e3 : F.ops rem = (F.ns.filter fun v => decide (v ∈ rem)).filter fun l => F.sz rem l == 1 := congrArg (fun t : List Nat => t.filter fun l => F.sz rem l == 1) h
          rw [e3, List.filter_filter, List.filter_filter]
          refine List.filter_congr fun x hx => ?_
          cases decide (x < z) <;> cases decide (x ∈ rem) <;> cases (F.sz rem x == 1) <;> rfl
        rw [efilt]
        have hs6' : SzP H6 sa F rem := ⟨f, .inl hs6, hf4⟩
        refine ⟨_, rfl, _, rfl, a, _, rfl, .inl (SqL.of (s46 _ _ ha)), _, rfl, _, _, rfl, rfl, _, rfl, _, rfl, _, rfl, F, pa, sa, rem, z, ?_, .inl hp6, hs6', U, hzop, by omega, ?_⟩
        · show [nV (oc F rem), V.int (((row.map nV).length : Int) - (n : Int)), nV z, V.ref pa, V.ref sa] = _
          rw [hlm, show ((row.length : Nat) : Int) - ((n : Nat) : Int) = ((rem.length : Nat) : Int) by omega]; rfl
        have hznt : z ∉ row.take n := fun h => (hplaced z hzn).mp h hzr
        refine ⟨_, rfl, _, rfl, d, _, rfl, dput_add hd6 hznt (small100 (by rw [List.length_take]; omega)), ?_⟩
        have etk : row.take n ++ [z] = row.take (n + 1) := by rw [List.take_add_one, hz]; rfl
        have eup : dmap (row.take n ++ [z]) (upF (fun _ => V.bl true) z (.bl true)) = dmap (row.take (n + 1)) fun _ => V.bl true := by
          rw [etk]
          refine dmap_congr fun v _ => ?_
          unfold upF
          by_cases c : v = z <;> simp [c]
        rw [eup]
        have s7 := s46.put (o := .dK (dmap (row.take (n + 1)) fun _ => V.bl true)) hd0
        have hd7 : upd H6 d (.dK (dmap (row.take (n + 1)) fun _ => V.bl true)) d = some (.dK (dmap (row.take (n + 1)) fun _ => V.bl true)) := upd_same
        have hs7 : upd H6 d (.dK (dmap (row.take (n + 1)) fun _ => V.bl true)) sa = some (.dK (dmap F.ns f)) := by rw [upd_ne nsd]; exact hs6
        have hp7 := s7 _ _ hp
        show tSeq _ _ _ _ (upd H6 d (.dK (dmap (row.take (n + 1)) fun _ => V.bl true)))
        generalize upd H6 d (.dK (dmap (row.take (n + 1)) fun _ => V.bl true)) = H7 at s7 hd7 hs7 hp7
        refine ⟨_, rfl, _, rfl, pa, _, rfl, dget_n (.inl hp7) hzn, ?_⟩
        have chz := ch_eq hzn
        have hcn : (z :: cho F (F.p z)).Nodup := by rw [← chz]; exact Fo.ch_nodup z hzn
        have hcin : ∀ x ∈ cho F (F.p z), x ∈ rem.erase z := fun x hx => by
          refine (List.mem_erase_of_ne fun e => ?_).mpr (Fo.ch_up U z hzn hzr x (by rw [chz]; exact List.mem_cons_of_mem _ hx))
          rw [e] at hx
          exact (List.nodup_cons.mp hcn).1 hx
        have ndr : rem.Nodup := Fo.nodup_of_asc U.asc
        have el := erase_len hzop
        -- the next turn
        have fin : ∀ (vis : List Nat) (f : Nat → V) (H8 : Hp) (v9 v10 : Option V) (rr : Nat), vis = cho F (F.p z) → (∀ v ∈ rem.erase z, f v = nV (F.sz rem v - if v ∈ vis then 1 else 0)) → Same H H8 → H8 sa = some (.dK (dmap F.ns f)) → H8 d = some (.dK (dmap (row.take (n + 1)) fun _ => V.bl true)) →
            rr = r + sumL ((F.ops rem).filter fun l => decide (l < z)) (fun l => oc F (rem.erase l)) →
            ∃ (rem2 : List Nat) (r2 : Nat) (f2 : Nat → V) (v6 v7 v8 v9' v10' : Option V), ([some (.ref a), some (.ref pa), some (.ref sa), some (nV (oc F (rem.erase z))), some (.ref d), some (nV rr), some (nV n), some (nV z), v, v9, v10] : L2.St) = [some (.ref a), some (.ref pa), some (.ref sa), some (nV (oc F rem2)), some (.ref d), some (nV r2), v6, v7, v8, v9', v10'] ∧ Same H H8 ∧
              H8 sa = some (.dK (dmap F.ns f2)) ∧ (∀ v ∈ rem2, f2 v = nV (F.sz rem2 v)) ∧ H8 d = some (.dK (dmap (row.take (pre ++ [n]).length) fun _ => .bl true)) ∧ F.Up rem2 ∧ Ok F rem2 (row.drop (pre ++ [n]).length) ∧ r2 + rankF F rem2 (row.drop (pre ++ [n]).length) = rankF F F.ns row ∧ rem2.length + (pre ++ [n]).length = row.length := by
          intro vis f H8 v9 v10 rr ev hf s8 h8 hd8 err
          have epn : (pre ++ [n]).length = n + 1 := by rw [List.length_append, epl]; rfl
          rw [epn]
          refine ⟨rem.erase z, rr, f, _, _, _, _, _, rfl, s8, h8, fun x hx => ?_, hd8, U.erase hzop, htl, by rw [← hrk, erk, err]; omega, by omega⟩
          rw [hf x hx]
          have hxz : x ≠ z := fun e => ndr.not_mem_erase (e ▸ hx)
          have e1 := Fo.sz_erase U hzr x
          have e2 : x ∈ F.ch z ↔ x ∈ vis := by rw [chz, ev]; simp [hxz]
          congr 1
          by_cases c : x ∈ vis
          · rw [if_pos (e2.mpr c)] at e1
            rw [if_pos c]; omega
          · rw [if_neg (fun h => c (e2.mp h))] at e1
            rw [if_neg c]; omega
        have hchl : (cho F (F.p z)).length ≤ row.length := by
          have := cho_len hzn
          rw [chz, List.length_cons] at this
          omega
        refine ⟨_, rfl, a, _, rfl, .inl (SqL.of (s7 _ _ ha)), ((row.map nV).length : Int), rfl, by omega, by omega, ?_⟩
        rw [Int.toNat_natCast, hlm]
        refine for_chain (F := F) (o0 := F.p z) hchl (fun q e => F.cl z hzn q e)
          (fun vis o σ H' => ∃ (f : Nat → V) (v10 : Option V), σ = [some (.ref a), some (.ref pa), some (.ref sa), some (nV (oc F (rem.erase z))), some (.ref d), some (nV (r + sumL ((F.ops rem).filter fun l => decide (l < z)) fun l => oc F (rem.erase l))), some (nV n), some (nV z), v, some (pV o), v10] ∧ Same H H' ∧ H' sa = some (.dK (dmap F.ns f)) ∧ H' d = some (.dK (dmap (row.take (n + 1)) fun _ => V.bl true)) ∧
            (∀ v ∈ rem.erase z, f v = nV (F.sz rem v - if v ∈ vis then 1 else 0)) ∧ vis ++ cho F o = cho F (F.p z)) ?_ ?_ ?_ ?_
        · exact ⟨f, v10, rfl, s7, hs7, hd7, fun x hx => by rw [hf4 x (List.mem_of_mem_erase hx)]; simp, rfl⟩
        · rintro k vis x σ H8 hv hx ⟨f, v10, rfl, s8, h8, hd8, hf8, hvis⟩
          have hxc : x ∈ cho F (F.p z) := by rw [← hv]; exact List.mem_append_right _ (Fo.mem_ch_self hx)
          have hxr := hcin x hxc
          have hxrem := List.mem_of_mem_erase hxr
          have hxv : x ∉ vis := fun h => by
            have := (List.nodup_cons.mp hcn).2
            rw [← hv] at this
            exact (List.nodup_append.mp this).2.2 x h x (Fo.mem_ch_self hx) rfl
          have hxp := Fo.sz_pos U hxrem
          have hfx := hf8 x hxr
          rw [if_neg hxv, Nat.sub_zero] at hfx
          have hg : DGet H8 sa (nV x) (some (nV (F.sz rem x))) := by
            have := dget_n (.inl h8) hx
            rw [hfx] at this
            exact this
          have hp8 := s8 _ _ hp
          refine ⟨_, rfl, rfl, _, rfl, ifF rfl ?_⟩
          refine ⟨_, rfl, _, rfl, sa, _, rfl, hg, _, 1, rfl, rfl, _, rfl, _, rfl, sa, _, rfl, dput_old h8 hx (small100 (by omega)), ?_⟩
          refine ⟨_, rfl, _, rfl, pa, _, rfl, dget_n (.inl (by rw [upd_ne nps]; exact hp8)) hx, ?_⟩
          refine ⟨upF f x (.int (((F.sz rem x : Nat) : Int) - 1)), _, rfl, s8.put hsa, upd_same, by rw [upd_ne nsd.symm]; exact hd8, fun y hy => ?_, ?_⟩
          · unfold upF
            by_cases c : y = x
            · subst c
              rw [if_pos rfl, if_pos (by simp)]
              show V.int _ = V.int _
              rw [Int.natCast_sub hxp]; rfl
            · rw [if_neg c, hf8 y hy]
              simp [c]
          · rw [← hv, List.append_assoc]
            congr 1
            exact (ch_eq hx).symm
        · rintro k vis σ H8 N hv ⟨f, v10, rfl, s8, h8, hd8, hf8, hvis⟩
          exact ⟨_, rfl, rfl, _, rfl, ifT rfl (fin vis f H8 _ _ _ hv hf8 s8 h8 hd8 rfl)⟩
        · rintro vis σ H8 hv ⟨f, v10, rfl, s8, h8, hd8, hf8, hvis⟩
          exact fin vis f H8 _ _ _ hv hf8 s8 h8 hd8 rfl
    · rintro σ H' ⟨rem, r, f, v6, v7, v8, v9, v10, rfl, s4, hs4, hf4, hd4, U, hok4, hrk, hrem⟩
      rw [List.length_range, List.drop_length] at hrk
      have : r = rankF F F.ns row := by
        rw [← hrk]; rfl
      subst this
      exact ⟨_, rfl, q H' s4⟩
end
end K22
set_option Elab.async false
set_option linter.all false
set_option maxRecDepth 100000
set_option maxHeartbeats 4000000
namespace K22
open PySem PySem.Spec PyProof.Rows L2
/-- as the law judges a row -/
def goJ (F : Fo) : List Nat → List V → Bool
  | _, [] => true
  | seen, .int i :: r => if 0 ≤ i ∧ i.toNat ∈ F.ns then (if i.toNat ∈ seen ∨ (∃ u ∈ F.ns, F.p u = some i.toNat ∧ u ∉ seen) then false else goJ F (seen ++ [i.toNat]) r) else false
  | _, _ :: _ => false
theorem goJ_int (F : Fo) (seen : List Nat) (i : Int) (r : List V) : goJ F seen (.int i :: r) = if 0 ≤ i ∧ i.toNat ∈ F.ns then (if i.toNat ∈ seen ∨ (∃ u ∈ F.ns, F.p u = some i.toNat ∧ u ∉ seen) then false else goJ F (seen ++ [i.toNat]) r) else false := by rw [goJ]
theorem goJ_row {F : Fo} : ∀ {xs : List V} {seen : List Nat}, goJ F seen xs = true → seen.Nodup → ∃ row : List Nat, xs = row.map nV ∧ (∀ a ∈ row, a ∈ F.ns) ∧ (seen ++ row).Nodup ∧
    ∀ pre a post, row = pre ++ a :: post → ∀ u ∈ F.ns, F.p u = some a → u ∈ seen ++ pre
  | [], seen, h, nd => ⟨[], rfl, by simp, by simpa using nd, fun pre a post e => by
      have := congrArg List.length e
      simp at this⟩
  | x :: xs, seen, h, nd => by
    cases x with
    | int i =>
      rw [goJ_int] at h
      by_cases c1 : 0 ≤ i ∧ i.toNat ∈ F.ns
      · rw [if_pos c1] at h
        by_cases c2 : i.toNat ∈ seen ∨ (∃ u ∈ F.ns, F.p u = some i.toNat ∧ u ∉ seen)
        · rw [if_pos c2] at h; cases h
        · rw [if_neg c2] at h
          have hn : i.toNat ∉ seen := fun z => c2 (.inl z)
          have nd2 : (seen ++ [i.toNat]).Nodup := List.nodup_append.mpr ⟨nd, by simp, fun a ha b hb => by simp at hb; intro e; rw [hb] at e; rw [e] at ha; exact hn ha⟩
          obtain ⟨row, e1, e2, e3, e4⟩ := goJ_row h nd2
          refine ⟨i.toNat :: row, ?_, ?_, ?_, ?_⟩
          · rw [List.map_cons, e1]
            congr 1
            show V.int i = V.int ((i.toNat : Nat) : Int)
            rw [Int.toNat_of_nonneg c1.1]
          · intro a ha
            rcases List.mem_cons.mp ha with rfl | ha
            · exact c1.2
            · exact e2 a ha
          · rw [List.append_assoc] at e3; exact e3
          · intro pre a post e u hu hq
            cases pre with
            | nil =>
              rw [List.nil_append] at e
              have ea : i.toNat = a := (List.cons.inj e).1
              rw [List.append_nil]
              refine Classical.byContradiction fun hm => c2 (.inr ⟨u, hu, by rw [ea]; exact hq, hm⟩)
            | cons b pre =>
              rw [List.cons_append] at e
              obtain ⟨eb, er⟩ := List.cons.inj e
              have := e4 pre a post er u hu hq
              rw [← eb]
              rw [List.append_assoc] at this
              exact this
      · rw [if_neg c1] at h; cases h
    | non => cases h
    | bl _ => cases h
    | str _ => cases h
    | byt _ => cases h
    | flt _ => cases h
    | ref _ => cases h
    | ty _ => cases h
theorem goJ_ok {F : Fo} : ∀ {row seen : List Nat}, (∀ a ∈ row, a ∈ F.ns) → (seen ++ row).Nodup → (∀ pre a post, row = pre ++ a :: post → ∀ u ∈ F.ns, F.p u = some a → u ∈ seen ++ pre) → goJ F seen (row.map nV) = true
  | [], seen, _, _, _ => rfl
  | a :: row, seen, h1, h2, h3 => by
    show goJ F seen (.int (a : Int) :: row.map nV) = true
    rw [goJ_int]
    have ha := h1 a (by simp)
    rw [if_pos ⟨by omega, by simpa using ha⟩, if_neg ?_]
    · refine goJ_ok (fun b hb => h1 b (by simp [hb])) (by rw [List.append_assoc]; exact h2) fun pre b post e u hu hq => ?_
      have := h3 (a :: pre) b post (by rw [e]; rfl) u hu hq
      rw [List.append_assoc]
      exact this
    · have hs : a ∉ seen := fun z => (List.nodup_append.mp h2).2.2 a z a (by simp) rfl
      rintro (z | ⟨u, hu, e, hn⟩)
      · exact hs (by simpa using z)
      · have := h3 [] a row rfl u hu (by simpa using e)
        rw [List.append_nil] at this
        exact hn this
/-- both judge alike -/
theorem goJ_isOrd {F : Fo} (xs : List V) : isOrdL F xs = (decide (xs.length = F.ns.length) && goJ F [] xs) := by
  rw [Bool.eq_iff_iff]
  constructor
  · intro h
    obtain ⟨row, rfl, hok⟩ := isOrd_row h
    have hperm := hok.perm
    have hnd := hperm.nodup_iff.mpr (Fo.nodup_of_asc F.asc)
    refine Bool.and_eq_true_iff.mpr ⟨decide_eq_true (by rw [List.length_map]; exact hperm.length_eq), goJ_ok (fun a ha => hok.mem a ha) (by simpa using hnd) fun pre a post e u hu hq => ?_⟩
    rw [List.nil_append]
    have hur : u ∈ row := hperm.mem_iff.mpr hu
    rw [e] at hur
    rcases List.mem_append.mp hur with h | h
    · exact h
    · exfalso
      rcases List.mem_cons.mp h with rfl | h
      · exact Fo.not_mem_up hu hq (Fo.mem_ch_self hu)
      · obtain ⟨p1, p2, rfl⟩ := List.append_of_mem h
        exact hok.before F.upNs (pre ++ a :: p1) u p2 (by rw [e]; simp) a hq (by simp)
  · intro h
    obtain ⟨h1, h2⟩ := Bool.and_eq_true_iff.mp h
    obtain ⟨row, rfl, e2, e3, e4⟩ := goJ_row h2 (by simp)
    have hl := of_decide_eq_true h1
    rw [List.length_map] at hl
    have hnd : row.Nodup := by simpa using e3
    refine isOrd_ok (ok_of F.upNs (len_perm hnd e2 (by omega) (Fo.nodup_of_asc F.asc)) fun pre a post e q hq hm => ?_)
    obtain ⟨p1, p2, rfl⟩ := List.append_of_mem hm
    have ha : a ∈ F.ns := e2 a (by rw [e]; simp)
    have := e4 p1 q (p2 ++ a :: post) (by rw [e]; simp) a ha hq
    rw [List.nil_append] at this
    rw [e] at hnd
    rw [List.append_assoc] at hnd
    exact (List.nodup_append.mp hnd).2.2 a this a (by simp) rfl
section
variable {P : Program} {w : World} {K : PySem.W.Frag} {mg : Str → Option Value} {base : Heap}
theorem ok_law_judged (T : Tb mg) (F : Df K mg "_law_judged" s__law_judged) (c__law_is_integer : Cl P w K mg base 1 "_law_is_integer" (spII K)) : Cl P w K mg base 2 "_law_judged" (fun vs H Q _ => ∃ (F : Fo) (pa : Addr) (x : V) (b : Bool), vs = [x, .ref pa] ∧ H pa = some (ParD F) ∧ F.ns.length < 64 ∧ OrdA K H F x b ∧ ∀ H' : Hp, Same H H' → Q (.bl b) H') := by
  refine cl_mk F sc__law_judged (fun vs H Q E h => ?_) (fun _ _ _ _ _ _ us hl => match us, hl with | [_, _], _ => rfl) (fun f cdv A outer s H vs Q E hr h => ?_)
  · obtain ⟨_, _, _, _, rfl, _⟩ := h; rfl
  · have hu := hu_of hr
    obtain ⟨F, pa, x, b, rfl, hp, h64, hx, q⟩ := h
    refine ⟨_, PSs.nox (pss_cons (ps_if (PW.pt (pw_or (pt_not (pt_val (pe_callB call_isi (by rfl) T.n_isinstance (by decide +kernel) (pa_cons (pv 0) (pa_cons (pe_bltn (v := .ty "list") (u := .type "list") (by rfl) T.n_list (by decide +kernel) rfl) pa_nil))))) (pw_or1 (pt_cmpR op_ne (pe_callB call_len_seq (by rfl) T.n_len (by decide +kernel) (pa_cons (pv 0) pa_nil)) (pe_callB call_lenDR (by rfl) T.n_len (by decide +kernel) (pa_cons (pv 1) pa_nil)) (nomark _)))))
      (pss_one (ps_ret pe_bl))
      pss_nil)
    (pss_cons (ps_set (i := 2) sc__law_judged.nd rfl (Or.inl rfl) pe_dnewK)
    (pss_cons (ps_for PassesOwn.never rfl (pi_list (pv 0)) (pg_name (i := 3) sc__law_judged.nd rfl (Or.inl rfl))
      (pss_cons (ps_if (PW.pt (pw_or (pt_not (pt_val (pe_cl c__law_is_integer hr (by decide) rfl (pa_cons (pv 3) pa_nil)))) (pw_or (pt_cmp (pc_dnotin hu (pv 3) (pv 1))) (pw_or1 (pt_cmp (pc_din hu (pv 3) (pv 2)))))))
        (pss_one (ps_ret pe_bl))
        pss_nil)
      (pss_cons (ps_lock (ps_for PassesOwn.never rfl (pi_keys (pv 1)) (pg_name (i := 4) sc__law_judged.nd rfl (Or.inl rfl))
        (pss_one (ps_if (PW.pt (pw_and (pt_cmpR op_eq (pe_dget hu (pv 1) (pv 4) (fun _ _ => rfl)) (pv 3) (nomark _)) (pw_and1 (pt_cmp (pc_dnotin hu (pv 4) (pv 2))))))
          (pss_one (ps_ret pe_bl))
          pss_nil))))
      (pss_one (ps_dput hu (pv 2) (pv 3) pe_bl rfl)))))
    (pss_one (ps_ret pe_bl))))), ?_⟩
    cases hx with
    | non => exact ⟨_, rfl, _, _, _, _, false, rfl, .ty _, .base .non, kit_ty (by decide +kernel), false, rfl, ifT rfl (ifT rfl (q H (Same.refl H)))⟩
    | int i => exact ⟨_, rfl, _, _, _, _, false, rfl, .ty _, .base (.int i), kit_ty (by decide +kernel), false, rfl, ifT rfl (ifT rfl (q H (Same.refl H)))⟩
    | tup h => exact ⟨_, rfl, _, _, _, _, false, rfl, .ty _, .base (.tup h), kit_ty (by decide +kernel), false, rfl, ifT rfl (ifT rfl (q H (Same.refl H)))⟩
    | @lst a xs h hi =>
      refine ⟨_, rfl, _, _, _, _, true, rfl, .ty _, .base (.lst h), kit_ty (by decide +kernel), true, rfl, ifF rfl ?_⟩
      refine ⟨_, rfl, a, xs, rfl, .inl (SqL.of h), _, rfl, pa, _, rfl, .inl hp, rfl, _, rfl, ?_⟩
      rw [goJ_isOrd] at q
      have hd : decide (V.int (xs.length : Int) = V.int (((dmap F.ns fun v => pV (F.p v)).length : Nat) : Int)) = decide (xs.length = F.ns.length) := by
        rw [dmap_len]
        exact nV_dec _ _
      by_cases c : xs.length = F.ns.length
      · refine ifF (by rw [hd, decide_eq_true c]; rfl) ?_
        rw [decide_eq_true c, Bool.true_and] at q
        intro d hd0
        have npd : pa ≠ d := ne_of_none hp hd0
        refine ⟨_, rfl, a, rfl, ⟨_, SqL.of ((upd_ne (ne_of_none h hd0)).trans h)⟩, for_pre (wf_list (K := K) (a := a) xs fun v => v)
          (fun pre σ H' => ∃ (seen : List Nat) (v3 v4 : Option V), pre = seen.map nV ∧ σ = [some (.ref a), some (.ref pa), some (.ref d), v3, v4] ∧ Same H H' ∧ H' d = some (.dK (dmap seen fun _ => .bl true)) ∧ ∀ post, xs = pre ++ post → goJ F [] xs = goJ F seen post) ?_ ?_ ?_ ?_⟩
        · exact ⟨[], none, none, rfl, rfl, (Same.refl H).new hd0, upd_same, fun post e => by rw [List.nil_append] at e; rw [← e]⟩
        · rintro pre σ H' ⟨seen, v3, v4, e, rfl, s1, h1, h2⟩
          rw [List.map_id']
          exact SqL.of (s1 _ _ h)
        · rintro pre y post σ H' e ⟨seen, v3, v4, rfl, rfl, s1, h1, h2⟩
          have hg := h2 _ e
          obtain ⟨bi, hbi⟩ := hi y (by rw [e]; simp)
          have hbi' := hbi.same s1
          have hp1 := s1 _ _ hp
          have hlen : seen.length < 100 := by
            have : xs.length = seen.length + (post.length + 1) := by rw [e, List.length_append, List.length_map, List.length_cons]
            omega
          have retF : ∀ H'', Same H' H'' → goJ F [] xs = false → Q (.bl false) H'' := fun H'' s2 z => by
            have := q H'' (s1.trans s2)
            rw [z] at this
            exact this
          refine ⟨_, rfl, y, bi, rfl, hbi', bi, rfl, ?_⟩
          cases hbi with
          | int i =>
            refine ifF rfl ?_
            refine ⟨_, rfl, _, rfl, pa, _, rfl, dget_i (.inl hp1) i, _, rfl, ?_⟩
            rw [goJ_int] at hg
            by_cases c1 : 0 ≤ i ∧ i.toNat ∈ F.ns
            · rw [if_pos c1] at hg ⊢
              refine ifF rfl ?_
              have ei : V.int i = nV i.toNat := by
                show V.int i = V.int ((i.toNat : Nat) : Int)
                rw [Int.toNat_of_nonneg c1.1]
              refine ⟨_, rfl, _, rfl, d, _, rfl, by rw [ei]; exact dget_o (.inl h1) i.toNat, _, rfl, ?_⟩
              by_cases c2 : i.toNat ∈ seen
              · rw [if_pos c2]
                refine ifT rfl ?_
                exact retF H' (Same.refl H') (by rw [hg, if_pos (.inl c2)])
              · rw [if_neg c2]
                refine ifF rfl ?_
                -- for other in hung
                refine ⟨pa, _, hp1, trivial, fun od => ⟨_, rfl, pa, od, rfl, .inl ⟨_, upd_same, for_pre (wf_keys (d := pa) (o := od) F.ns fun v => pV (F.p v))
                  (fun pre2 σ H' => ∃ v4, σ = [some (.ref a), some (.ref pa), some (.ref d), some (.int i), v4] ∧ SameBut pa H H' ∧ H' pa = some (.frz od (ParD F)) ∧ H' d = some (.dK (dmap seen fun _ => .bl true)) ∧ ∀ u ∈ pre2, ¬ (F.p u = some i.toNat ∧ u ∉ seen)) ?_ ?_ ?_ ?_⟩⟩⟩
                · exact ⟨v4, rfl, s1.lock, upd_same, by rw [upd_ne npd.symm]; exact h1, fun u hu => by cases hu⟩
                · rintro pre2 σ H' ⟨v, rfl, _, h, _⟩
                  exact h
                · rintro pre2 u post2 σ H5 e2 ⟨v, rfl, s5, h5, hd5, hnone⟩
                  have hun : u ∈ F.ns := by rw [e2]; simp
                  refine ⟨_, rfl, _, rfl, pa, _, rfl, dget_n (.inr ⟨od, h5⟩) hun, _, rfl, ?_⟩
                  have stay : ∀ (c : ¬ (F.p u = some i.toNat ∧ u ∉ seen)), ∃ v4, ([some (V.ref a), some (.ref pa), some (.ref d), some (.int i), some (nV u)] : L2.St) = [some (.ref a), some (.ref pa), some (.ref d), some (.int i), v4] ∧ SameBut pa H H5 ∧ H5 pa = some (.frz od (ParD F)) ∧ H5 d = some (.dK (dmap seen fun _ => .bl true)) ∧ ∀ y ∈ pre2 ++ [u], ¬ (F.p y = some i.toNat ∧ y ∉ seen) := fun c =>
                    ⟨some (nV u), rfl, s5, h5, hd5, fun y hy => by
                      rcases List.mem_append.mp hy with hy | hy
                      · exact hnone y hy
                      · rw [List.mem_singleton.mp hy]; exact c⟩
                  cases ep : F.p u with
                  | none =>
                    refine ⟨rfl, _, rfl, ifF rfl (ifF rfl (stay fun z => ?_))⟩
                    rw [ep] at z
                    cases z.1
                  | some w =>
                    refine ⟨rfl, _, rfl, ?_⟩
                    have hdw : decide (nV w = V.int i) = decide (w = i.toNat) := by rw [ei]; exact nV_dec _ _
                    by_cases cw : w = i.toNat
                    · refine ifT (hdw.trans (decide_eq_true cw)) ?_
                      refine ⟨_, rfl, _, rfl, d, _, rfl, dget_o (.inl hd5) u, _, rfl, ?_⟩
                      by_cases cu : u ∈ seen
                      · rw [if_pos cu]
                        exact ifF rfl (stay fun z => z.2 cu)
                      · rw [if_neg cu]
                        refine ifT rfl ?_
                        have s6 : Same H (upd H5 pa (ParD F)) := s5.back hp
                        refine ⟨h5, ?_⟩
                        have := q _ s6
                        rw [hg, if_pos (.inr ⟨u, hun, by rw [ep, cw], cu⟩)] at this
                        exact this
                    · refine ifF (hdw.trans (decide_eq_false cw)) (ifF rfl (stay fun z => ?_))
                      rw [ep] at z
                      exact cw (Option.some.inj z.1)
                · rintro σ H5 ⟨v, rfl, s5, h5, hd5, hnone⟩
                  refine ⟨h5, ?_⟩
                  have s6 : Same H (upd H5 pa (ParD F)) := s5.back hp
                  have hd6 : upd H5 pa (ParD F) d = some (.dK (dmap seen fun _ => .bl true)) := by rw [upd_ne npd.symm]; exact hd5
                  generalize upd H5 pa (ParD F) = H6 at s6 hd6
                  have dp : DPut H6 d (.int i) (.bl true) (upd H6 d (.dK (dmap (seen ++ [i.toNat]) (upF (fun _ => .bl true) i.toNat (.bl true))))) := by
                    rw [ei]; exact dput_add hd6 c2 (small100 (by omega))
                  have eu : dmap (seen ++ [i.toNat]) (upF (fun _ => V.bl true) i.toNat (.bl true)) = dmap (seen ++ [i.toNat]) (fun _ => V.bl true) := dmap_congr fun v _ => by unfold upF; by_cases z : v = i.toNat <;> simp [z]
                  have nxt : ∀ post2, xs = (seen.map nV ++ [V.int i]) ++ post2 → goJ F [] xs = goJ F (seen ++ [i.toNat]) post2 := by
                    intro post2 e2
                    rw [hg, if_neg (fun z => z.elim c2 fun ⟨u, h1, h2, h3⟩ => hnone u h1 ⟨h2, h3⟩)]
                    rw [e, List.append_assoc] at e2
                    have e3 := List.append_cancel_left e2
                    rw [(List.cons.inj e3).2]; rfl
                  exact ⟨_, rfl, _, rfl, d, _, rfl, dp, seen ++ [i.toNat], some (.int i), v, by rw [List.map_append, ei]; rfl, rfl, s6.put hd0, by rw [upd_same, eu], nxt⟩
            · rw [if_neg c1] at hg ⊢
              refine ifT rfl ?_
              exact ifT rfl (retF H' (Same.refl H') hg)
          | non => exact ifT rfl (ifT rfl (retF H' (Same.refl H') hg))
          | bl b => exact ifT rfl (ifT rfl (retF H' (Same.refl H') hg))
          | str x => exact ifT rfl (ifT rfl (retF H' (Same.refl H') hg))
          | lst h => exact ifT rfl (ifT rfl (retF H' (Same.refl H') hg))
          | tup h => exact ifT rfl (ifT rfl (retF H' (Same.refl H') hg))
        · rintro σ H' ⟨seen, v3, v4, e, rfl, s1, h1, h2⟩
          have := h2 [] (by simp)
          have q2 := q H' s1
          rw [this] at q2
          exact q2
      · refine ifT (by rw [hd, decide_eq_false c]; rfl) ?_
        have q2 := q H (Same.refl H)
        rw [decide_eq_false c] at q2
        exact q2
end
end K22
set_option Elab.async false
set_option linter.all false
set_option maxRecDepth 100000
set_option maxHeartbeats 4000000
/-! All rows, in order, that lead to the end: the orders. Plain Lean. -/
namespace K22
theorem okR_ok {F : Fo} {rem row : List Nat} (h : OkR F rem row) : Ok F rem row := by
  induction h with
  | nil => exact .nil
  | cons h _ ih => exact .cons h ih
theorem ok_okR {F : Fo} {rem row : List Nat} (h : Ok F rem row) : OkR F rem row := by
  induction h with
  | nil => exact .nil
  | cons h _ ih => exact .cons h ih
def rowsAll (m : Nat) : Nat → List (List Nat)
  | 0 => [[]]
  | k + 1 => (rowsAll m k).flatMap fun row => (List.range m).map fun s => row ++ [s]
theorem rowsAll_mem {m : Nat} : ∀ {k : Nat} {row : List Nat}, row ∈ rowsAll m k ↔ row.length = k ∧ ∀ a ∈ row, a < m
  | 0, row => by
    show row ∈ [[]] ↔ _
    rw [List.mem_singleton]
    constructor
    · rintro rfl; exact ⟨rfl, fun a h => by cases h⟩
    · rintro ⟨h, _⟩; exact List.length_eq_zero_iff.mp h
  | k + 1, row => by
    show row ∈ (rowsAll m k).flatMap _ ↔ _
    rw [List.mem_flatMap]
    constructor
    · rintro ⟨r, hr, hs⟩
      obtain ⟨s, hs2, rfl⟩ := List.mem_map.mp hs
      obtain ⟨h1, h2⟩ := rowsAll_mem.mp hr
      refine ⟨by rw [List.length_append, h1]; rfl, fun a ha => ?_⟩
      rcases List.mem_append.mp ha with ha | ha
      · exact h2 a ha
      · rw [List.mem_singleton.mp ha]; exact List.mem_range.mp hs2
    · rintro ⟨h1, h2⟩
      rcases List.eq_nil_or_concat row with rfl | ⟨r, s, rfl⟩
      · cases h1
      · rw [List.concat_eq_append] at h1 h2 ⊢
        rw [List.length_append, List.length_singleton] at h1
        exact ⟨r, rowsAll_mem.mpr ⟨by omega, fun a ha => h2 a (by simp [ha])⟩, List.mem_map.mpr ⟨s, List.mem_range.mpr (h2 s (by simp)), rfl⟩⟩
/-- before, by the first place that differs -/
def lexL (a b : List Nat) : Prop := ∃ p x y r s, a = p ++ x :: r ∧ b = p ++ y :: s ∧ x < y
theorem lexL_cons {a b : List Nat} (z : Nat) (h : lexL a b) : lexL (z :: a) (z :: b) := by
  obtain ⟨p, x, y, r, s, rfl, rfl, hxy⟩ := h
  exact ⟨z :: p, x, y, r, s, rfl, rfl, hxy⟩
theorem lexL_app {a b : List Nat} (u v : List Nat) (h : lexL a b) : lexL (a ++ u) (b ++ v) := by
  obtain ⟨p, x, y, r, s, rfl, rfl, hxy⟩ := h
  exact ⟨p, x, y, r ++ u, s ++ v, by simp, by simp, hxy⟩
theorem lexL_asym : ∀ {a b : List Nat}, lexL a b → ¬ lexL b a := by
  rintro a b ⟨p, x, y, r, s, ea, eb, hxy⟩ ⟨p2, x2, y2, r2, s2, eb2, ea2, hxy2⟩
  have h1 : p ++ x :: r = p2 ++ y2 :: s2 := ea.symm.trans ea2
  have h2 : p ++ y :: s = p2 ++ x2 :: r2 := eb.symm.trans eb2
  clear ea eb ea2 eb2
  induction p generalizing p2 with
  | nil =>
    cases p2 with
    | nil =>
      have e1 := (List.cons.inj (show x :: r = y2 :: s2 from h1)).1
      have e2 := (List.cons.inj (show y :: s = x2 :: r2 from h2)).1
      omega
    | cons z p2 =>
      have e1 := (List.cons.inj (show x :: r = z :: (p2 ++ y2 :: s2) from h1)).1
      have e2 := (List.cons.inj (show y :: s = z :: (p2 ++ x2 :: r2) from h2)).1
      omega
  | cons w p ih =>
    cases p2 with
    | nil =>
      have e1 := (List.cons.inj (show w :: (p ++ x :: r) = y2 :: s2 from h1)).1
      have e2 := (List.cons.inj (show w :: (p ++ y :: s) = x2 :: r2 from h2)).1
      omega
    | cons z p2 =>
      exact ih p2 (List.cons.inj (show w :: (p ++ x :: r) = z :: (p2 ++ y2 :: s2) from h1)).2 (List.cons.inj (show w :: (p ++ y :: s) = z :: (p2 ++ x2 :: r2) from h2)).2
theorem rowsAll_sorted (m : Nat) : ∀ k, (rowsAll m k).Pairwise lexL
  | 0 => List.pairwise_singleton _ _
  | k + 1 => by
    show ((rowsAll m k).flatMap _).Pairwise lexL
    rw [List.pairwise_flatMap]
    refine ⟨fun row _ => ?_, (rowsAll_sorted m k).imp fun {a b} h => ?_⟩
    · rw [List.pairwise_map]
      exact (List.pairwise_lt_range (n := m)).imp fun {x y} hxy => ⟨row, x, y, [], [], rfl, rfl, hxy⟩
    · intro u hu v hv
      obtain ⟨s, _, rfl⟩ := List.mem_map.mp hu
      obtain ⟨t, _, rfl⟩ := List.mem_map.mp hv
      exact lexL_app _ _ h
theorem ords_sorted {F : Fo} : ∀ (n : Nat) {rem : List Nat}, rem.length = n → F.Up rem → (ords F rem).Pairwise lexL
  | 0, rem, h, U => by
    have : rem = [] := List.length_eq_zero_iff.mp h
    subst this
    exact List.pairwise_singleton _ _
  | n + 1, rem, h, U => by
    have hne : rem ≠ [] := fun z => by rw [z] at h; cases h
    rw [ords_eq U hne, List.pairwise_flatMap]
    refine ⟨fun l hl => ?_, (ops_asc U).imp fun {a b} hab => ?_⟩
    · rw [List.pairwise_map]
      have el := erase_len hl
      exact (ords_sorted n (by omega) (U.erase hl)).imp fun h => lexL_cons l h
    · intro u hu v hv
      obtain ⟨s, _, rfl⟩ := List.mem_map.mp hu
      obtain ⟨t, _, rfl⟩ := List.mem_map.mp hv
      exact ⟨[], a, b, s, t, rfl, rfl, hab⟩
theorem sorted_nodup {l : List (List Nat)} (h : l.Pairwise lexL) : l.Nodup := h.imp fun {a b} hab e => by
  subst e
  exact lexL_asym hab hab
theorem rows_ords {F : Fo} {m : Nat} {p : List Nat → Bool} (hp : ∀ row, row.length = F.ns.length → (∀ a ∈ row, a < m) → (p row = true ↔ Ok F F.ns row)) (hm : ∀ a ∈ F.ns, a < m) :
    (rowsAll m F.ns.length).filter p = ords F F.ns := by
  have U : F.Up F.ns := ⟨fun _ h => h, F.asc, fun v hv q e => F.cl v hv q e⟩
  have s1 : ((rowsAll m F.ns.length).filter p).Pairwise lexL := (rowsAll_sorted m _).sublist List.filter_sublist
  have s2 := ords_sorted (F := F) F.ns.length rfl U
  refine List.Perm.eq_of_pairwise (le := lexL) (fun a b _ _ h1 h2 => absurd h2 (lexL_asym h1)) s1 s2 ?_
  refine (List.perm_ext_iff_of_nodup (sorted_nodup s1) (sorted_nodup s2)).mpr fun row => ?_
  rw [List.mem_filter, rowsAll_mem, ok_iff F.ns.length rfl U]
  constructor
  · rintro ⟨⟨h1, h2⟩, h3⟩
    exact (hp row h1 h2).mp h3
  · intro h
    have hl := h.perm.length_eq
    have ha : ∀ a ∈ row, a < m := fun a ha => hm a (h.mem a ha)
    exact ⟨⟨hl, ha⟩, (hp row hl ha).mpr h⟩
end K22
set_option Elab.async false
set_option linter.all false
set_option maxRecDepth 100000
set_option maxHeartbeats 4000000
namespace K22
open PySem PySem.Spec PyProof.Rows L2
theorem pg_tupK {X : Cx} {K : PySem.W.Frag} {es : List Expr} {k : Nat} {t : TGs} {n : Nat} {pos : Pos} (hK : X.K = K) (hc : X.calm = true) (h : PGs X es t)
    (hn : (assignEach es X.env).length = n := by rfl) (hst : (assignEach es X.env).findIdx? (·.1) = none := by rfl) : PG X (.Tuple es k pos) (gTup K n t) := by
  subst hK
  exact pg_tup hc h hn hst
theorem rowsAll_len (m : Nat) : ∀ k, (rowsAll m k).length = m ^ k
  | 0 => rfl
  | k + 1 => by
    show ((rowsAll m k).flatMap _).length = _
    rw [List.length_flatMap]
    have : ((rowsAll m k).map fun row => ((List.range m).map fun s => row ++ [s]).length) = (rowsAll m k).map fun _ => m := List.map_congr_left fun row _ => by rw [List.length_map, List.length_range]
    rw [this, List.map_const', List.sum_replicate_nat, rowsAll_len m k, Nat.pow_succ]
/-- a row and the state behind it, away from x -/
def PairL (T : Tr) (S : List Nat) (x : Addr) (H : Hp) (v : V) (row : List Nat) : Prop := ∃ a b, v = .ref a ∧ H a = some (.tup [.ref b, sV (Tr.runL T S row)]) ∧ H b = some (.lst (row.map nV)) ∧ a ≠ x ∧ b ≠ x
theorem PairL.but {T : Tr} {S : List Nat} {x : Addr} {H H' : Hp} (s : SameBut x H H') {v : V} {row : List Nat} (h : PairL T S x H v row) : PairL T S x H' v row := by
  obtain ⟨a, b, h1, h2, h3, h4, h5⟩ := h
  exact ⟨a, b, h1, s _ _ h4 h2, s _ _ h5 h3, h4, h5⟩
theorem PairL.to {T : Tr} {S : List Nat} {x y : Addr} {H H' : Hp} (s : Same H H') (hy : H y = none) {v : V} {row : List Nat} (h : PairL T S x H v row) : PairL T S y H' v row := by
  obtain ⟨a, b, h1, h2, h3, h4, h5⟩ := h
  exact ⟨a, b, h1, s _ _ h2, s _ _ h3, ne_of_none h2 hy, ne_of_none h3 hy⟩
def RowL (H : Hp) (v : V) (row : List Nat) : Prop := ∃ a, v = .ref a ∧ H a = some (.lst (row.map nV))
section
variable {P : Program} {w : World} {K : PySem.W.Frag} {mg : Str → Option Value} {base : Heap}
def spRw : Sp := fun vs H Q _ => ∃ (T : Tr) (S E : List Nat) (wv : V), vs = [sV S, sV E, wv, nV (Tr.fo T (eF E) (Tr.fn S)).ns.length] ∧ S.length = T.m - 1 ∧ Lw H T E wv ∧ T.m ≤ 5 ∧
  ∀ (H' : Hp) (r : Addr) (vs : List V), Same H H' → H r = none → H' r = some (.lst vs) → All2 (RowL H') vs (ords (Tr.fo T (eF E) (Tr.fn S)) (Tr.fo T (eF E) (Tr.fn S)).ns) → Q (.ref r) H'
theorem runL_snoc (T : Tr) (S row : List Nat) (s : Nat) : Tr.runL T S (row ++ [s]) = Tr.hitL (Tr.runL T S row) (Tr.way 0 T s) := by
  unfold Tr.runL
  rw [List.foldl_append]; rfl
theorem rows_fo {T : Tr} {S E : List Nat} (hS : S.length = T.m - 1) (hE : E.length = T.m - 1) (hLR : LRs E) :
    (rowsAll T.m (Tr.fo T (eF E) (Tr.fn S)).ns.length).filter (fun row => decide (Tr.runL T S row = E)) = ords (Tr.fo T (eF E) (Tr.fn S)) (Tr.fo T (eF E) (Tr.fn S)).ns := by
  have he := eF_LR hLR
  have hfe : ∀ f, f + 1 < T.m → eF E f = Tr.fn E f := fun f hf => by
    have h1 := eF_at (E := E) (f := f) (by omega)
    unfold Tr.fn
    rw [List.getD_eq_getElem?_getD, h1]; rfl
  refine rows_ords (fun row hl hm => ?_) Tr.fo_lt
  rw [decide_eq_true_iff]
  have := Tr.runL_iff (T := T) (E := E) (st := S) (row := row) hE hS (fun f hf => by rw [← hfe f hf]; exact he f) (eF E) hfe he hm hl
  rw [this]
  exact ⟨okR_ok, ok_okR⟩
theorem ok_law_rows (T : Tb mg) (F : Df K mg "_law_rows" s__law_rows) (c__law_hit : Cl P w K mg base 1 "_law_hit" spHit) : Cl P w K mg base 2 "_law_rows" spRw := by
  refine cl_mk F sc__law_rows (fun vs H Q E h => ?_) (fun _ _ _ _ _ _ us hl => match us, hl with | [_, _, _, _], _ => rfl) (fun f cdv A outer s H vs Q E hr h => ?_)
  · obtain ⟨_, _, _, _, rfl, _⟩ := h; rfl
  · have hu := hu_of hr
    obtain ⟨Tt, S, E, wv, rfl, hS, hLw, m5, q⟩ := h
    refine ⟨_, PSs.nox (pss_cons (ps_set (i := 4) sc__law_rows.nd rfl (Or.inl rfl) (pe_lst (pa_cons (pe_tup (pa_cons (pe_lst pa_nil) (pa_cons (pv 0) pa_nil))) pa_nil)))
    (pss_cons (ps_for PassesOwn.never rfl (pi_range1 (by rfl) T.n_range (pa_cons (pv 3) pa_nil)) (pg_name (i := 5) sc__law_rows.nd rfl (Or.inl rfl))
      (pss_cons (ps_set (i := 6) sc__law_rows.nd rfl (Or.inl rfl) (pe_lst pa_nil))
      (pss_cons (ps_for PassesOwn.never rfl (pi_list (pv 4)) (pg_tup (by rfl) (pgs_cons (pg_name (i := 7) sc__law_rows.nd rfl (Or.inl rfl)) (pgs_cons (pg_name (i := 8) sc__law_rows.nd rfl (Or.inl rfl)) pgs_nil)))
        (pss_one (ps_for PassesOwn.never rfl (pi_range1 (by rfl) T.n_range (pa_cons (pe_callB call_len_seq (by rfl) T.n_len (by decide +kernel) (pa_cons (pv 2) pa_nil)) pa_nil)) (pg_name (i := 9) sc__law_rows.nd rfl (Or.inl rfl))
          (pss_one (ps_expr (pe_bm PySem.F.plainAttrs_list PySem.F.slot_list_append PySem.F.type_list_append mt_append (pv 6) (pa_cons (pe_tup (pa_cons (pe_op op_cat (pv 7) (pe_lst (pa_cons (pv 9) pa_nil))) (pa_cons (pe_cl c__law_hit hr (by decide) rfl (pa_cons (pv 8) (pa_cons (pe_ix ix_list (pv 2) (pv 9) (fun _ _ => rfl)) pa_nil))) pa_nil))) pa_nil)))))))
      (pss_one (ps_set (i := 4) sc__law_rows.nd rfl (Or.inl rfl) (pv 6))))))
    (pss_one (ps_ret (pe_lc (own := [("_law_row", 7), ("_law_state", 8)]) (by rfl) sc__law_rows.nd (pi_list (pv 4)) (blkOk_by (own := [("_law_row", 7), ("_law_state", 8)]) (N := n__law_rows) (sc := defScope s__law_rows) (by decide +kernel)) (fun _ _ _ _ _ => (pg_tupK (K := K) (n := 2) rfl (by rfl) (pgs_cons (pg_name (i := 7) sc__law_rows.nd rfl (Or.inl rfl)) (pgs_cons (pg_name (i := 8) sc__law_rows.nd rfl (Or.inl rfl)) pgs_nil)))) (fun _ _ _ _ _ => (pts_one (pt_cmpR op_eq (pv 8) (pv 1) (nomark _)))) (fun _ _ _ _ _ => (pv 7))))))), ?_⟩
    have hrows := rows_fo hS hLw.len hLw.LR
    have hnl := Tr.need_lt (e := eF E) (S := Tr.fn S) Tt
    have hns : (Tr.fo Tt (eF E) (Tr.fn S)).ns.length ≤ 4 := by
      show (Tr.need Tt (eF E) (Tr.fn S)).length ≤ 4
      omega
    generalize hn : (Tr.fo Tt (eF E) (Tr.fn S)).ns.length = n at *
    obtain ⟨⟨wa, ws, rfl, hwa, hws⟩, hE, hLR, m64⟩ := id hLw
    have hwl : ws.length = Tt.m := by rw [hws.len, waysOf_len]
    have big : ∀ k, k ≤ 4 → Tt.m ^ k ≤ 625 := fun k hk => Nat.le_trans (Nat.pow_le_pow_left m5 k) (Nat.le_trans (Nat.pow_le_pow_right (by decide) hk) (by decide))
    have hsz : ∀ k, k ≤ 700 → k < sizeLine := fun k hk => Nat.lt_of_le_of_lt hk (by decide)
    have h1' : 1 ≤ sizeLine := Nat.le_of_lt (small100 (by omega))
    have h2' : 2 ≤ sizeLine := Nat.le_of_lt (small100 (by omega))
    -- rows = [([], start)]
    refine ⟨Nat.zero_le _, fun p0 hp0 => ?_⟩
    refine ⟨_, rfl, h2', fun p1 hp1 => ⟨h1', fun rk hrk => ?_⟩⟩
    have s1 := (Same.refl H).new (o := .lst []) hp0
    have e1 : upd H p0 (.lst []) p0 = some (.lst []) := upd_same
    generalize upd H p0 (.lst []) = H1 at s1 e1 hp1 hrk
    have s2 := s1.new (o := .tup [.ref p0, sV S]) hp1
    have k2 := (Same.refl H1).new (o := .tup [.ref p0, sV S]) hp1
    have e2 : upd H1 p1 (.tup [.ref p0, sV S]) p1 = some (.tup [.ref p0, sV S]) := upd_same
    have e1' := k2 _ _ e1
    generalize upd H1 p1 (.tup [.ref p0, sV S]) = H2 at s2 k2 e2 e1' hrk
    have s3 := s2.new (o := .lst [.ref p1]) hrk
    have k3 := (Same.refl H2).new (o := .lst [.ref p1]) hrk
    have e3 : upd H2 rk (.lst [.ref p1]) rk = some (.lst [.ref p1]) := upd_same
    have pr0 : PairL Tt S rk (upd H2 rk (.lst [.ref p1])) (.ref p1) [] := ⟨p1, p0, rfl, k3 _ _ e2, k3 _ _ e1', ne_of_none e2 hrk, ne_of_none e1' hrk⟩
    show tSeq _ _ _ _ (upd H2 rk (.lst [.ref p1]))
    generalize upd H2 rk (.lst [.ref p1]) = H3 at s3 k3 e3 pr0
    refine ⟨_, rfl, (n : Int), rfl, by omega, by omega, ?_⟩
    rw [Int.toNat_natCast]
    refine for_pre (wf_range n) (fun pre σ H' => ∃ (rk : Addr) (vs : List V) (v5 v6 v7 v8 v9 : Option V), σ = [some (sV S), some (sV E), some (.ref wa), some (nV n), some (.ref rk), v5, v6, v7, v8, v9] ∧ Same H H' ∧ H' rk = some (.lst vs) ∧ All2 (PairL Tt S rk H') vs (rowsAll Tt.m pre.length)) ?_ ?_ ?_ ?_
    · exact ⟨rk, _, none, none, none, none, none, rfl, s3, e3, .cons pr0 .nil⟩
    · intro _ _ _ _; trivial
    · rintro pre k post σ H4 e ⟨rk, vs, v5, v6, v7, v8, v9, rfl, s4, h4, hvs⟩
      obtain ⟨ep, hk⟩ := range_split e
      have epl : pre.length = k := by rw [ep, List.length_range]
      rw [epl] at hvs
      refine ⟨Nat.zero_le _, fun lk hlk => ?_⟩
      have hlk0 : H lk = none := s4.free hlk
      have nrl : rk ≠ lk := ne_of_none h4 hlk
      have s5 := s4.new (o := .lst []) hlk
      have k5 := (Same.refl H4).new (o := .lst []) hlk
      have h5 := k5 _ _ h4
      have hvs5 : All2 (PairL Tt S lk (upd H4 lk (.lst []))) vs (rowsAll Tt.m k) := hvs.mono fun v row h => h.to k5 hlk
      have hl5 : upd H4 lk (.lst []) lk = some (.lst []) := upd_same
      show tSeq _ _ _ _ (upd H4 lk (.lst []))
      generalize upd H4 lk (.lst []) = H5 at s5 k5 h5 hvs5 hl5
      obtain ⟨z1, z2, z3⟩ := zip_at hvs5
      have h5' : H5 rk = some (.lst ((vs.zip (rowsAll Tt.m k)).map Prod.fst)) := by rw [z1]; exact h5
      refine ⟨_, rfl, rk, rfl, ⟨_, SqL.of h5⟩, for_pre (wf_list (K := K) (a := rk) (vs.zip (rowsAll Tt.m k)) Prod.fst)
        (fun pre2 σ H' => ∃ (us : List V) (v7 v8 v9 : Option V), σ = [some (sV S), some (sV E), some (.ref wa), some (nV n), some (.ref rk), some (nV k), some (.ref lk), v7, v8, v9] ∧ SameBut lk H5 H' ∧ H' lk = some (.lst us) ∧ All2 (PairL Tt S lk H') us ((pre2.map Prod.snd).flatMap fun row => (List.range Tt.m).map fun s => row ++ [s])) ?_ ?_ ?_ ?_⟩
      · exact ⟨[], v7, v8, v9, rfl, fun b o _ h => h, hl5, .nil⟩
      · rintro pre2 σ H' ⟨us, v7, v8, v9, rfl, s6, _⟩
        exact SqL.of (s6 _ _ nrl h5')
      · rintro pre2 z post2 σ H6 ee ⟨us, v7, v8, v9, rfl, s6, h6, hus⟩
        obtain ⟨a, b, ez, ha, hb, na, nb⟩ := z3 z (by rw [ee]; simp)
        have hzm : z.2 ∈ rowsAll Tt.m k := by
          have : z.2 ∈ (vs.zip (rowsAll Tt.m k)).map Prod.snd := List.mem_map.mpr ⟨z, by rw [ee]; simp, rfl⟩
          rwa [z2] at this
        obtain ⟨hzl, hza⟩ := rowsAll_mem.mp hzm
        have hzk : (vs.zip (rowsAll Tt.m k)).length = Tt.m ^ k := by
          have := congrArg List.length z2
          rw [List.length_map, rowsAll_len] at this
          exact this
        have hp2 : (pre2.length + 1) * Tt.m ≤ 625 := by
          have h1 : pre2.length + 1 ≤ Tt.m ^ k := by
            rw [← hzk, ee, List.length_append, List.length_cons]; omega
          have h2 := big (k + 1) (by omega)
          rw [Nat.pow_succ] at h2
          exact Nat.le_trans (Nat.mul_le_mul_right _ h1) h2
        refine ⟨a, _, ez, SqT.of (s6 _ _ na ha), rfl, _, _, rfl, _, _, rfl, rfl, ?_⟩
        have s06 : Same H H6 := fun x o h => s6 _ _ (fun e => by rw [e, hlk0] at h; cases h) (s5 _ _ h)
        refine ⟨_, rfl, wa, _, rfl, .inl (SqL.of (s06 _ _ hwa)), (ws.length : Int), rfl, by omega, by omega, ?_⟩
        rw [Int.toNat_natCast, hwl]
        refine for_pre (wf_range Tt.m) (fun pre3 σ H' => ∃ (us : List V) (v9 : Option V), σ = [some (sV S), some (sV E), some (.ref wa), some (nV n), some (.ref rk), some (nV k), some (.ref lk), some (.ref b), some (sV (Tr.runL Tt S z.2)), v9] ∧ SameBut lk H5 H' ∧ H' lk = some (.lst us) ∧
          All2 (PairL Tt S lk H') us (((pre2.map Prod.snd).flatMap fun row => (List.range Tt.m).map fun s => row ++ [s]) ++ pre3.map fun s => z.2 ++ [s])) ?_ ?_ ?_ ?_
        · exact ⟨us, v9, rfl, s6, h6, by rw [List.map_nil, List.append_nil]; exact hus⟩
        · intro _ _ _ _; trivial
        · rintro pre3 t post3 σ H7 e3 ⟨us, v9, rfl, s7, h7, hus⟩
          obtain ⟨ep3, ht⟩ := range_split e3
          have s07 : Same H H7 := fun x o h => s7 _ _ (fun e => by rw [e, hlk0] at h; cases h) (s5 _ _ h)
          have hb7 := s7 _ _ nb hb
          obtain ⟨wv, hwv, hway⟩ := hws.at_ (waysOf_at ht)
          have hul : us.length ≤ 625 := by
            have := hus.len
            rw [List.length_append, List.length_map, List.length_flatMap, ep3, List.length_range] at this
            have h1 : ((pre2.map Prod.snd).map fun row => ((List.range Tt.m).map fun s => row ++ [s]).length) = (pre2.map Prod.snd).map fun _ => Tt.m := List.map_congr_left fun row _ => by rw [List.length_map, List.length_range]
            rw [h1, List.map_const', List.sum_replicate_nat, List.length_map] at this
            rw [this]
            have : pre2.length * Tt.m + Tt.m = (pre2.length + 1) * Tt.m := by rw [Nat.succ_mul]
            omega
          refine ⟨_, rfl, .inl ⟨rfl, _, SqL.of h7⟩, _, rfl, _, rfl, h1', fun q1 hq1 => ?_⟩
          have k8 := (Same.refl H7).new (o := .lst [nV t]) hq1
          have e8 : upd H7 q1 (.lst [nV t]) q1 = some (.lst [nV t]) := upd_same
          generalize upd H7 q1 (.lst [nV t]) = H8 at k8 e8
          refine ⟨b, q1, _, _, rfl, rfl, k8 _ _ hb7, e8, ?_, fun q2 hq2 => ?_⟩
          · rw [List.length_map, hzl]; exact Nat.le_of_lt (hsz _ (by simp; omega))
          have k9 := (Same.refl H8).new (o := .lst (z.2.map nV ++ [nV t])) hq2
          have e9 : upd H8 q2 (.lst (z.2.map nV ++ [nV t])) q2 = some (.lst (z.2.map nV ++ [nV t])) := upd_same
          generalize upd H8 q2 (.lst (z.2.map nV ++ [nV t])) = H9 at k9 e9
          have k79 := k8.trans k9
          have hrl := Tr.runL_len Tt z.2 S
          refine ⟨_, rfl, _, rfl, _, rfl, wa, ws, ((t : Nat) : Int), wv, rfl, rfl, SqL.of (k79 _ _ (s07 _ _ hwa)), atI_nat hwv, Tr.runL Tt S z.2, wv, Tr.way 0 Tt t, rfl, (hway.same s07).same k79, fun x hx => ?_, by rw [hrl]; omega, h2', fun q3 hq3 => ?_⟩
          · have := Tr.way_in Tt 0 t (Nat.zero_le _) (by omega) x hx
            rw [hrl]; omega
          have k10 := (Same.refl H9).new (o := .tup [.ref q2, sV (Tr.hitL (Tr.runL Tt S z.2) (Tr.way 0 Tt t))]) hq3
          have e10 : upd H9 q3 (.tup [.ref q2, sV (Tr.hitL (Tr.runL Tt S z.2) (Tr.way 0 Tt t))]) q3 = some (.tup [.ref q2, sV (Tr.hitL (Tr.runL Tt S z.2) (Tr.way 0 Tt t))]) := upd_same
          generalize upd H9 q3 (.tup [.ref q2, sV (Tr.hitL (Tr.runL Tt S z.2) (Tr.way 0 Tt t))]) = H10 at k10 e10
          have k710 := k79.trans k10
          have h10 := k710 _ _ h7
          have nq3 : q3 ≠ lk := fun e => by rw [e, k79 _ _ h7] at hq3; cases hq3
          have nq2 : q2 ≠ lk := fun e => by rw [e, k8 _ _ h7] at hq2; cases hq2
          refine ⟨lk, us, _, rfl, rfl, h10, hsz _ (by omega), ?_⟩
          have sb : SameBut lk H7 (upd H10 lk (.lst (us ++ [.ref q3]))) := fun x o n h => by rw [upd_ne n]; exact k710 _ _ h
          refine ⟨us ++ [.ref q3], _, rfl, s7.trans sb, upd_same, ?_⟩
          rw [List.map_append, ← List.append_assoc]
          refine (hus.mono fun v row h => h.but sb).app (.cons ⟨q3, q2, rfl, ?_, ?_, nq3, nq2⟩ .nil)
          · rw [upd_ne nq3, runL_snoc]; exact e10
          · rw [upd_ne nq2, k10 _ _ e9, List.map_append]; rfl
        · rintro σ H7 ⟨us, v9, rfl, s7, h7, hus⟩
          refine ⟨us, _, _, _, rfl, s7, h7, ?_⟩
          rw [List.map_append, List.flatMap_append]
          simpa using hus
      · rintro σ H6 ⟨us, v7, v8, v9, rfl, s6, h6, hus⟩
        rw [z2] at hus
        have s06 : Same H H6 := fun x o h => s6 _ _ (fun e => by rw [e, hlk0] at h; cases h) (s5 _ _ h)
        refine ⟨_, rfl, lk, us, _, _, _, _, _, rfl, s06, h6, ?_⟩
        rw [List.length_append, epl]
        exact hus
    · rintro σ H4 ⟨rk, vs, v5, v6, v7, v8, v9, rfl, s4, h4, hvs⟩
      rw [List.length_range] at hvs
      obtain ⟨z1, z2, z3⟩ := zip_at hvs
      have h4' : H4 rk = some (.lst ((vs.zip (rowsAll Tt.m n)).map Prod.fst)) := by rw [z1]; exact h4
      refine ⟨_, rfl, rk, rfl, ⟨_, SqL.of h4⟩, fun D hD => ?_⟩
      have hD0 : H D = none := s4.free hD
      refine lc_pre (wf_list (K := K) (a := rk) (vs.zip (rowsAll Tt.m n)) Prod.fst) (fun pre H' => Same H4 H' ∧ ∃ us, H' D = some (.lst us) ∧ us.length ≤ pre.length ∧ All2 (RowL H4) us ((pre.map Prod.snd).filter fun row => decide (Tr.runL Tt S row = E))) ⟨(Same.refl H4).new hD, [], upd_same, Nat.le_refl _, .nil⟩ ?_ ?_ ?_
      · rintro pre H' ⟨s5, _⟩
        exact SqL.of (s5 _ _ h4')
      · rintro pre z post H5 e ⟨s5, us, h5, hul, hus⟩
        obtain ⟨a, b, ez, ha, hb, na, nb⟩ := z3 z (by rw [e]; simp)
        have hpl : pre.length ≤ 625 := by
          have h1 := congrArg List.length z2
          rw [List.length_map, rowsAll_len] at h1
          have h2 := big n hns
          rw [e, List.length_append] at h1
          omega
        refine ⟨a, _, ez, SqT.of (s5 _ _ ha), rfl, _, _, rfl, _, _, rfl, rfl, rfl, ?_⟩
        refine ⟨_, rfl, _, rfl, rfl, _, rfl, ?_⟩
        have hd : decide (sV (Tr.runL Tt S z.2) = sV E) = decide (Tr.runL Tt S z.2 = E) := sV_dec _ _
        by_cases c : Tr.runL Tt S z.2 = E
        · refine ifT (hd.trans (decide_eq_true c)) ⟨_, rfl, us, h5, hsz _ (by omega), s5.put hD, us ++ [.ref b], upd_same, by rw [List.length_append, List.length_append]; simp; exact hul, ?_⟩
          rw [List.map_append, List.filter_append, List.map_cons, List.map_nil, List.filter_cons, if_pos (decide_eq_true c)]
          exact hus.app (.cons ⟨b, rfl, hb⟩ .nil)
        · refine ifF (hd.trans (decide_eq_false c)) ⟨s5, us, h5, by rw [List.length_append]; omega, ?_⟩
          rw [List.map_append, List.filter_append, List.map_cons, List.map_nil, List.filter_cons, if_neg (by rw [decide_eq_false c]; exact Bool.false_ne_true), List.filter_nil, List.append_nil]
          exact hus
      · rintro H5 ⟨s5, us, h5, hul, hus⟩
        rw [z2, hrows] at hus
        exact q H5 D us (s4.trans s5) hD0 h5 (hus.mono fun v row h => by obtain ⟨b, h1, h2⟩ := h; exact ⟨b, h1, s5 _ _ h2⟩)
end
end K22
set_option Elab.async false
set_option linter.all false
set_option maxRecDepth 100000
set_option maxHeartbeats 4000000
namespace K22
open PySem PySem.Spec PyProof.Rows L2
/-! the law's tree: pieces that are joined two by two -/
def sumM : List Tr → Nat
  | [] => 0
  | t :: r => t.m + sumM r
theorem sumM_app (a b : List Tr) : sumM (a ++ b) = sumM a + sumM b := by
  induction a with
  | nil => simp [sumM]
  | cons t a ih => show t.m + sumM (a ++ b) = t.m + sumM a + sumM b; rw [ih]; omega
theorem len_sumM (a : List Tr) : a.length ≤ sumM a := by
  induction a with
  | nil => simp [sumM]
  | cons t a ih => have := Tr.m_pos t; show a.length + 1 ≤ t.m + sumM a; omega
/-- the way of the slot k within its own piece -/
def wayF : Nat → List Tr → Nat → List (Nat × Nat)
  | _, [], _ => []
  | o, t :: r, k => if k < o + t.m then Tr.way o t k else wayF (o + t.m) r k
theorem wayF_join (l r : Tr) (B : List Tr) : ∀ (A : List Tr) (o k : Nat), o ≤ k → wayF o (A ++ Tr.node l r :: B) k =
    if o + sumM A ≤ k ∧ k < o + sumM A + (l.m + r.m) then (o + sumM A + l.m - 1, if k < o + sumM A + l.m then 76 else 82) :: wayF o (A ++ l :: r :: B) k else wayF o (A ++ l :: r :: B) k
  | [], o, k, h => by
    have hl := Tr.m_pos l
    show (if k < o + (l.m + r.m) then Tr.way o (Tr.node l r) k else wayF (o + (l.m + r.m)) B k) = if o + 0 ≤ k ∧ k < o + 0 + (l.m + r.m) then (o + 0 + l.m - 1, if k < o + 0 + l.m then 76 else 82) :: (if k < o + l.m then Tr.way o l k else (if k < o + l.m + r.m then Tr.way (o + l.m) r k else wayF (o + l.m + r.m) B k)) else (if k < o + l.m then Tr.way o l k else (if k < o + l.m + r.m then Tr.way (o + l.m) r k else wayF (o + l.m + r.m) B k))
    simp only [Nat.add_zero]
    by_cases c : k < o + (l.m + r.m)
    · rw [if_pos c, if_pos ⟨h, c⟩, Tr.way_node]
      by_cases c2 : k < o + l.m
      · rw [if_pos c2, if_pos c2, if_pos c2]
      · rw [if_neg c2, if_neg c2, if_neg c2, if_pos (by omega)]
    · rw [if_neg c, if_neg (fun z => c z.2), if_neg (by omega), if_neg (by omega), Nat.add_assoc]
  | t :: A, o, k, h => by
    show (if k < o + t.m then Tr.way o t k else wayF (o + t.m) (A ++ Tr.node l r :: B) k) = if o + (t.m + sumM A) ≤ k ∧ k < o + (t.m + sumM A) + (l.m + r.m) then (o + (t.m + sumM A) + l.m - 1, if k < o + (t.m + sumM A) + l.m then 76 else 82) :: (if k < o + t.m then Tr.way o t k else wayF (o + t.m) (A ++ l :: r :: B) k) else (if k < o + t.m then Tr.way o t k else wayF (o + t.m) (A ++ l :: r :: B) k)
    by_cases c : k < o + t.m
    · rw [if_pos c, if_pos c, if_neg (by omega)]
    · rw [if_neg c, if_neg c, wayF_join l r B A (o + t.m) k (by omega)]
      have e1 : o + t.m + sumM A = o + (t.m + sumM A) := by omega
      rw [e1]
def PieceX (x : Addr) (H : Hp) (v : V) (o : Nat) (t : Tr) : Prop := ∃ a, v = .ref a ∧ a ≠ x ∧ H a = some (.lst [sV t.txt, nV o, nV (o + t.m - 1)])
def LWayX (x : Addr) (H : Hp) (v : V) (w : List (Nat × Nat)) : Prop := ∃ a vs, v = .ref a ∧ a ≠ x ∧ H a = some (.lst vs) ∧ All2 (StepAt H) vs w
theorem PieceX.but {x : Addr} {H H' : Hp} (s : SameBut x H H') {v : V} {o : Nat} {t : Tr} (h : PieceX x H v o t) : PieceX x H' v o t := by
  obtain ⟨a, h1, h2, h3⟩ := h
  exact ⟨a, h1, h2, s _ _ h2 h3⟩
theorem SameBut.tupL {x : Addr} {H H' : Hp} {xs : List V} (s : SameBut x H H') (h : H x = some (.lst xs)) : TupK H H' := fun b ys e => s b _ (fun z => by rw [z, h] at e; cases e) e
theorem LWayX.but {x : Addr} {H H' : Hp} {xs : List V} (s : SameBut x H H') (hx : H x = some (.lst xs)) {v : V} {w : List (Nat × Nat)} (h : LWayX x H v w) : LWayX x H' v w := by
  obtain ⟨a, vs, h1, h2, h3, h4⟩ := h
  exact ⟨a, vs, h1, h2, s _ _ h2 h3, h4.mono fun _ _ h => h.keep (s.tupL hx)⟩
theorem PieceX.to {x y : Addr} {H H' : Hp} (s : Same H H') (hy : H y = none) {v : V} {o : Nat} {t : Tr} (h : PieceX x H v o t) : PieceX y H' v o t := by
  obtain ⟨a, h1, h2, h3⟩ := h
  exact ⟨a, h1, ne_of_none h3 hy, s _ _ h3⟩
inductive Pcs (x : Addr) (H : Hp) : Nat → List V → List Tr → Prop
  | nil (o : Nat) : Pcs x H o [] []
  | cons {o : Nat} {v : V} {t : Tr} {vs : List V} {ts : List Tr} (h : PieceX x H v o t) (r : Pcs x H (o + t.m) vs ts) : Pcs x H o (v :: vs) (t :: ts)
theorem Pcs.mono {x y : Addr} {H H' : Hp} {o : Nat} {vs : List V} {ts : List Tr} (h : Pcs x H o vs ts) (f : ∀ v o t, PieceX x H v o t → PieceX y H' v o t) : Pcs y H' o vs ts := by
  induction h with
  | nil => exact .nil _
  | cons h _ ih => exact .cons (f _ _ _ h) ih
theorem Pcs.len {x : Addr} {H : Hp} {o : Nat} {vs : List V} {ts : List Tr} (h : Pcs x H o vs ts) : vs.length = ts.length := by
  induction h with
  | nil => rfl
  | cons _ _ ih => rw [List.length_cons, List.length_cons, ih]
theorem Pcs.app {x : Addr} {H : Hp} {o : Nat} {vs us : List V} {ts ss : List Tr} (h : Pcs x H o vs ts) : ∀ (g : Pcs x H (o + sumM ts) us ss), Pcs x H o (vs ++ us) (ts ++ ss) := by
  induction h with
  | nil o => intro g; exact g
  | @cons o v t vs ts h _ ih =>
    intro g
    refine .cons h (ih ?_)
    rw [show o + t.m + sumM ts = o + sumM (t :: ts) by show _ = o + (t.m + sumM ts); omega]
    exact g
theorem Pcs.split {x : Addr} {H : Hp} {ss : List Tr} : ∀ {ts : List Tr} {o : Nat} {vs : List V}, Pcs x H o vs (ts ++ ss) → ∃ va vb, vs = va ++ vb ∧ Pcs x H o va ts ∧ Pcs x H (o + sumM ts) vb ss
  | [], o, vs, h => ⟨[], vs, rfl, .nil _, h⟩
  | t :: ts, o, vs, h => by
    cases h with
    | cons h r =>
      obtain ⟨va, vb, e, h1, h2⟩ := Pcs.split r
      exact ⟨_ :: va, vb, by rw [e]; rfl, .cons h h1, by rw [show o + sumM (t :: ts) = o + t.m + sumM ts by show o + (t.m + sumM ts) = _; omega]; exact h2⟩
theorem set_range {α : Type} (n k : Nat) (g : Nat → α) (x : α) : ((List.range n).map g).set k x = (List.range n).map fun i => if i = k then x else g i := by
  refine List.ext_getElem? fun i => ?_
  by_cases c : i < n
  · rw [List.getElem?_map, List.getElem?_range c]
    by_cases c2 : i = k
    · subst c2
      rw [List.getElem?_set_self (by simpa using c)]
      simp
    · rw [List.getElem?_set_ne (fun e => c2 e.symm), List.getElem?_map, List.getElem?_range c]
      simp [c2]
  · rw [List.getElem?_eq_none (by simp; omega), List.getElem?_eq_none (by simp; omega)]
theorem cutV_to {xs : List V} {b : Nat} (h : b ≤ xs.length) : cutV xs none (some (b : Int)) = xs.take b := by
  unfold cutV
  rw [sIx_at h]
  show (xs.drop 0).take (b - 0) = _
  rw [List.drop_zero, Nat.sub_zero]
theorem wf_range2 (o n : Nat) : WalkF (Itr (o : Int) n) (List.range n) (fun i => nV (o + i)) (fun _ => True) := by
  have w := walk_range (lo := (o : Int)) (n := n)
  have e : (List.range n).length = n := List.length_range
  refine ⟨fun i H hi h => w.goes i H (by rw [e] at hi; exact hi) h, fun H h => by rw [e]; exact w.stops H h, fun i H x H' hi h y => ?_⟩
  rw [e] at hi
  obtain ⟨h1, h2⟩ := w.yields i H x H' hi h y
  exact ⟨h1, i, List.getElem?_range hi, by rw [h2]; rfl⟩
section
variable {P : Program} {w : World} {K : PySem.W.Frag} {mg : Str → Option Value} {base : Heap}
def spTe : Sp := fun vs H Q _ => ∃ (G : Hp) (b : Addr) (n : Nat), vs = [.ref b, nV n] ∧ 1 ≤ n ∧ n ≤ 64 ∧ Bx G H b ∧
  ∀ (G' H' : Hp) (p : Addr) (wv : V) (T : Tr), Same G G' → Bx G' H' b → T.m = n → G' p = some (.tup [sV T.txt, wv]) → LWays G' wv (waysOf T) → Q (.ref p) H'
theorem ok_law_tree (T : Tb mg) (F : Df K mg "_law_tree" s__law_tree) (c__law_take : Cl P w K mg base 1 "_law_take" spTk) (c__law_join : Cl P w K mg base 2 "_law_join" spJn) : Cl P w K mg base 3 "_law_tree" spTe := by
  refine cl_mk F sc__law_tree (fun vs H Q E h => ?_) (fun _ _ _ _ _ _ us hl => match us, hl with | [_, _], _ => rfl) (fun f cdv A outer s H vs Q E hr h => ?_)
  · obtain ⟨_, _, _, rfl, _⟩ := h; rfl
  · obtain ⟨G, b, n, rfl, hn1, hn2, B, q⟩ := h
    refine ⟨_, PSs.nox (pss_cons (ps_set (i := 2) sc__law_tree.nd rfl (Or.inl rfl) (pe_cl c__law_take hr (by decide) rfl (pa_cons (pv 0) (pa_cons pe_int pa_nil))))
    (pss_cons (ps_setLc (i := 4) (own := [("_law_k", 3)]) (by rfl) sc__law_tree.nd rfl rfl (sw_true rfl rfl rfl (by decide +kernel)) (pi_range1 (by rfl) T.n_range (pa_cons (pv 1) pa_nil)) (blkOk_by (own := [("_law_k", 3)]) (N := n__law_tree) (sc := defScope s__law_tree) (by decide +kernel)) (fun _ _ _ _ _ => (pg_name (i := 3) sc__law_tree.nd rfl (Or.inl rfl))) (fun _ _ _ _ _ => pts_nil) (fun _ _ _ _ _ => (pe_lst (pa_cons pe_str (pa_cons (pv 3) (pa_cons (pv 3) pa_nil))))))
    (pss_cons (ps_setLc (i := 5) (own := [("_law_k", 3)]) (by rfl) sc__law_tree.nd rfl rfl (sw_true rfl rfl rfl (by decide +kernel)) (pi_range1 (by rfl) T.n_range (pa_cons (pv 1) pa_nil)) (blkOk_by (own := [("_law_k", 3)]) (N := n__law_tree) (sc := defScope s__law_tree) (by decide +kernel)) (fun _ _ _ _ _ => (pg_name (i := 3) sc__law_tree.nd rfl (Or.inl rfl))) (fun _ _ _ _ _ => pts_nil) (fun _ _ _ _ _ => (pe_lst pa_nil)))
    (pss_cons (ps_for PassesOwn.never rfl (pi_range1 (by rfl) T.n_range (pa_cons (pe_op op_sub (pv 1) pe_int) pa_nil)) (pg_name (i := 6) sc__law_tree.nd rfl (Or.inl rfl))
      (pss_cons (ps_set (i := 7) sc__law_tree.nd rfl (Or.inl rfl) (pe_cl c__law_join hr (by decide) rfl (pa_cons (pv 0) (pa_cons (pv 2) (pa_cons (pe_op op_sub (pe_callB call_len_seq (by rfl) T.n_len (by decide +kernel) (pa_cons (pv 4) pa_nil)) pe_int) pa_nil)))))
      (pss_cons (ps_set (i := 8) sc__law_tree.nd rfl (Or.inl rfl) (pe_ix ix_list (pv 4) (pv 7) (fun _ _ => rfl)))
      (pss_cons (ps_set (i := 9) sc__law_tree.nd rfl (Or.inl rfl) (pe_ix ix_list (pv 4) (pe_op op_add (pv 7) pe_int) (fun _ _ => rfl)))
      (pss_cons (ps_for PassesOwn.never rfl (pi_range2 (by rfl) T.n_range (pa_cons (pe_ix ix_list (pv 8) pe_int (fun _ _ => rfl)) (pa_cons (pe_op op_add (pe_ix ix_list (pv 9) pe_int (fun _ _ => rfl)) pe_int) pa_nil))) (pg_name (i := 3) sc__law_tree.nd rfl (Or.inl rfl))
        (pss_one (ps_asg (pe_op op_cat (pe_lst (pa_cons (pe_tup (pa_cons (pe_ix ix_list (pv 8) pe_int (fun _ _ => rfl)) (pa_cons (pe_ix ix_str pe_str (pe_callTy call_int1 (by rfl) T.n_int (by decide +kernel) (pa_cons (pe_cmpR op_gt (pv 3) (pe_ix ix_list (pv 8) pe_int (fun _ _ => rfl)) (nomark _)) pa_nil)) (fun _ _ => rfl)) pa_nil))) pa_nil)) (pe_ix ix_list (pv 5) (pv 3) (fun _ _ => rfl))) (pg_sub (pv 5) (pv 3) set_list))))
      (pss_one (ps_set (i := 4) sc__law_tree.nd rfl (Or.inl rfl) (pe_op op_cat (pe_op op_cat (pe_slice sl_list (pv 4) po_none (po_some (pv 7))) (pe_lst (pa_cons (pe_lst (pa_cons (pe_op op_add_str (pe_op op_add_str (pe_op op_add_str pe_str (pe_ix ix_list (pv 8) pe_int (fun _ _ => rfl))) (pe_ix ix_list (pv 9) pe_int (fun _ _ => rfl))) pe_str) (pa_cons (pe_ix ix_list (pv 8) pe_int (fun _ _ => rfl)) (pa_cons (pe_ix ix_list (pv 9) pe_int (fun _ _ => rfl)) pa_nil)))) pa_nil))) (pe_slice sl_list (pv 4) (po_some (pe_op op_add (pv 7) pe_int)) po_none)))))))))
    (pss_one (ps_ret (pe_tup (pa_cons (pe_ix ix_list (pe_ix ix_list (pv 4) pe_int (fun _ _ => rfl)) pe_int (fun _ _ => rfl)) (pa_cons (pv 5) pa_nil))))))))), ?_⟩
    have h3' : 3 ≤ sizeLine := Nat.le_of_lt (small100 (by omega))
    have h2' : 2 ≤ sizeLine := Nat.le_of_lt (small100 (by omega))
    have h1' : 1 ≤ sizeLine := Nat.le_of_lt (small100 (by omega))
    refine ⟨_, rfl, G, b, 6, rfl, by decide, B, fun H1 lean hlean B1 => ?_⟩
    -- pieces
    refine ⟨_, rfl, (n : Int), rfl, by omega, by omega, fun D hD => ?_⟩
    rw [Int.toNat_natCast]
    obtain ⟨B2, s2⟩ := B1.new (o := .lst []) hD
    have hGD : G D = none := B1.same.free hD
    refine lc_pre (wf_range n) (fun pre H' => ∃ (G' : Hp) (vs : List V), Same G G' ∧ Bx G' H' b ∧ G' D = some (.lst vs) ∧ Pcs D G' 0 vs (List.replicate pre.length Tr.leaf)) ⟨_, [], s2, B2, upd_same, .nil 0⟩ ?_ ?_ ?_
    · intro _ _ _; trivial
    · rintro pre k post H' e ⟨G', vs, sG, B', hD', hvs⟩
      obtain ⟨ep, hk⟩ := range_split e
      have epl : pre.length = k := by rw [ep, List.length_range]
      have hvl := hvs.len
      rw [List.length_replicate, epl] at hvl
      refine ⟨rfl, ?_⟩
      refine ⟨_, rfl, _, rfl, h3', fun p hp => ?_⟩
      obtain ⟨B3, s3⟩ := B'.new (o := .lst [.str ("." : Str), nV k, nV k]) hp
      have hDp : D ≠ p := ne_of_none (B'.same _ _ hD') hp
      have hD3 : upd G' p (.lst [.str ("." : Str), nV k, nV k]) D = some (.lst vs) := s3 _ _ hD'
      have e3 : upd G' p (.lst [.str ("." : Str), nV k, nV k]) p = some (.lst [.str ("." : Str), nV k, nV k]) := upd_same
      generalize upd G' p (.lst [.str ("." : Str), nV k, nV k]) = G3 at B3 s3 hD3 e3
      refine ⟨vs, B3.same _ _ hD3, small100 (by omega), upd G3 D (.lst (vs ++ [.ref p])), vs ++ [.ref p], (sG.trans s3).put hGD, B3.set hD3, upd_same, ?_⟩
      have sb : SameBut D G' (upd G3 D (.lst (vs ++ [.ref p]))) := fun x o n h => by rw [upd_ne n]; exact s3 _ _ h
      rw [List.length_append, List.length_singleton, List.replicate_succ']
      refine (hvs.mono fun v o t h => h.but sb).app (.cons ⟨p, rfl, hDp.symm, ?_⟩ (.nil _))
      have hs : ∀ j, sumM (List.replicate j Tr.leaf) = j := fun j => by
        induction j with
        | zero => rfl
        | succ j ih => rw [List.replicate_succ]; show 1 + sumM _ = _; rw [ih]; omega
      rw [hs, epl, upd_ne hDp.symm, e3, Nat.zero_add]; rfl
    · rintro H2 ⟨G2, vs, sG2, B2, hD2, hvs⟩
      rw [List.length_range] at hvs
      -- ways
      refine ⟨_, rfl, (n : Int), rfl, by omega, by omega, fun wk hwk => ?_⟩
      rw [Int.toNat_natCast]
      obtain ⟨B3, s3⟩ := B2.new (o := .lst []) hwk
      have hGwk2 : G2 wk = none := B2.same.free hwk
      have hGwk : G wk = none := sG2.free hGwk2
      have nDw : D ≠ wk := ne_of_none hD2 hGwk2
      refine lc_pre (wf_range n) (fun pre H' => ∃ (G' : Hp) (wvs : List V), Same G2 G' ∧ Bx G' H' b ∧ G' wk = some (.lst wvs) ∧ All2 (LWayX wk G') wvs (List.replicate pre.length [])) ⟨_, [], s3, B3, upd_same, .nil⟩ ?_ ?_ ?_
      · intro _ _ _; trivial
      · rintro pre k post H' e ⟨G', wvs, sG, B', hw', hwvs⟩
        obtain ⟨ep, hk⟩ := range_split e
        have epl : pre.length = k := by rw [ep, List.length_range]
        have hvl := hwvs.len
        rw [List.length_replicate, epl] at hvl
        refine ⟨rfl, ?_⟩
        refine ⟨Nat.zero_le _, fun p hp => ?_⟩
        obtain ⟨B3, s3⟩ := B'.new (o := .lst []) hp
        have hwp : wk ≠ p := ne_of_none (B'.same _ _ hw') hp
        have hw3 : upd G' p (.lst []) wk = some (.lst wvs) := s3 _ _ hw'
        have e3 : upd G' p (.lst []) p = some (.lst []) := upd_same
        generalize upd G' p (.lst []) = G3 at B3 s3 hw3 e3
        refine ⟨wvs, B3.same _ _ hw3, small100 (by omega), upd G3 wk (.lst (wvs ++ [.ref p])), wvs ++ [.ref p], (sG.trans s3).put hGwk2, B3.set hw3, upd_same, ?_⟩
        have sb : SameBut wk G' (upd G3 wk (.lst (wvs ++ [.ref p]))) := fun x o n h => by rw [upd_ne n]; exact s3 _ _ h
        rw [List.length_append, List.length_singleton, List.replicate_succ']
        exact (hwvs.mono fun v y h => h.but sb hw').app (.cons ⟨p, [], rfl, hwp.symm, by rw [upd_ne hwp.symm]; exact e3, .nil⟩ .nil)
      · rintro H3 ⟨G3, wvs, sG3, B3, hw3, hwvs⟩
        rw [List.length_range] at hwvs
        have sG03 := sG2.trans sG3
        have hD3 := sG3 _ _ hD2
        have hvs3 : Pcs wk G3 0 vs (List.replicate n Tr.leaf) := hvs.mono fun v o t h => h.to sG3 hGwk2
        have hws0 : All2 (LWayX wk G3) wvs ((List.range n).map (wayF 0 (List.replicate n Tr.leaf))) := by
          have hz : ∀ j o k, wayF o (List.replicate j Tr.leaf) k = [] := fun j => by
            induction j with
            | zero => intro o k; rfl
            | succ j ih =>
              intro o k
              rw [List.replicate_succ]
              show (if k < o + 1 then [] else wayF (o + 1) (List.replicate j Tr.leaf) k) = []
              split
              · rfl
              · exact ih _ _
          have : (List.range n).map (wayF 0 (List.replicate n Tr.leaf)) = List.replicate n [] := by
            rw [show (wayF 0 (List.replicate n Tr.leaf)) = fun _ => [] from funext fun k => hz n 0 k, List.map_const', List.length_range]
          rw [this]; exact hwvs
        have hsl : sumM (List.replicate n Tr.leaf) = n := by
          have hs : ∀ j, sumM (List.replicate j Tr.leaf) = j := fun j => by
            induction j with
            | zero => rfl
            | succ j ih => rw [List.replicate_succ]; show 1 + sumM _ = _; rw [ih]; omega
          exact hs n
        refine ⟨_, rfl, _, 1, rfl, rfl, (n : Int) - 1, rfl, by omega, by omega, ?_⟩
        rw [show ((n : Int) - 1).toNat = n - 1 by omega]
        refine for_pre (wf_range (n - 1)) (fun pre σ H' => ∃ (G' : Hp) (pk : Addr) (vs wvs : List V) (ts : List Tr) (v3 v6 v7 v8 v9 : Option V), σ = [some (.ref b), some (nV n), some (nV lean), v3, some (.ref pk), some (.ref wk), v6, v7, v8, v9] ∧ Same G G' ∧ Bx G' H' b ∧ G' pk = some (.lst vs) ∧ pk ≠ wk ∧ Pcs wk G' 0 vs ts ∧
          G' wk = some (.lst wvs) ∧ All2 (LWayX wk G') wvs ((List.range n).map (wayF 0 ts)) ∧ sumM ts = n ∧ ts.length + pre.length = n) ?_ ?_ ?_ ?_
        · exact ⟨G3, D, vs, wvs, _, none, none, none, none, none, rfl, sG03, B3, hD3, nDw, hvs3, hw3, hws0, hsl, by simp⟩
        · intro _ _ _ _; trivial
        · rintro pre stp post σ H4 e ⟨G4, pk, vs, wvs, ts, v3, v6, v7, v8, v9, rfl, sG4, B4, hpk, npw, hvs, hwk4, hwv, hsum, hlen⟩
          obtain ⟨ep, hst⟩ := range_split e
          have epl : pre.length = stp := by rw [ep, List.length_range]
          have hvl := hvs.len
          refine ⟨_, rfl, _, rfl, _, rfl, pk, vs, rfl, .inl (SqL.of (B4.same _ _ hpk)), _, 1, rfl, rfl, G4, b, lean, ts.length - 1, ?_, by omega, by omega, B4, fun H5 at_ hat B5 => ?_⟩
          · show [V.ref b, nV lean, V.int ((vs.length : Int) - 1)] = _
            rw [hvl, show ((ts.length : Nat) : Int) - 1 = ((ts.length - 1 : Nat) : Int) by omega]; rfl
          -- the two pieces
          obtain ⟨A, l, r, Bs, ets, hAl⟩ : ∃ A l r Bs, ts = A ++ l :: r :: Bs ∧ A.length = at_ := by
            have h1 : at_ < ts.length := by omega
            have h2 : at_ + 1 < ts.length := by omega
            refine ⟨ts.take at_, ts[at_], ts[at_ + 1], ts.drop (at_ + 2), ?_, by rw [List.length_take]; omega⟩
            rw [← List.drop_eq_getElem_cons h2, ← List.drop_eq_getElem_cons h1, List.take_append_drop]
          subst ets
          obtain ⟨va, vb0, rfl, hva, hvb0⟩ := hvs.split
          cases hvb0 with
          | cons hv1 hr1 =>
          cases hr1 with
          | cons hv2 hvb =>
          rename_i v1 vs1 v2 vb
          have hval := hva.len
          rw [Nat.zero_add] at hv1 hv2 hvb
          obtain ⟨la, rfl, nla, hla⟩ := hv1
          obtain ⟨ra, rfl, nra, hra⟩ := hv2
          have hlp := Tr.m_pos l
          have hrp := Tr.m_pos r
          have hsA := sumM_app A (l :: r :: Bs)
          have hsB : sumM (l :: r :: Bs) = l.m + (r.m + sumM Bs) := rfl
          rw [hsB] at hsA
          have hpk5 := B5.same _ _ hpk
          have g1 : (va ++ V.ref la :: V.ref ra :: vb)[at_]? = some (V.ref la) := by rw [List.getElem?_append_right (by omega), show at_ - va.length = 0 by omega]; rfl
          have g2 : (va ++ V.ref la :: V.ref ra :: vb)[at_ + 1]? = some (V.ref ra) := by rw [List.getElem?_append_right (by omega), show at_ + 1 - va.length = 1 by omega]; rfl
          refine ⟨_, rfl, _, rfl, pk, _, (at_ : Int), .ref la, rfl, rfl, SqL.of hpk5, atI_nat g1, ?_⟩
          refine ⟨_, rfl, _, rfl, _, 1, rfl, rfl, pk, _, ((at_ : Int) + 1), .ref ra, rfl, rfl, SqL.of hpk5, ?_, ?_⟩
          · exact atI_nat (j := at_ + 1) g2
          refine ⟨_, rfl, la, _, 1, _, rfl, rfl, SqL.of (B5.same _ _ hla), rfl, _, rfl, ra, _, 2, _, rfl, rfl, SqL.of (B5.same _ _ hra), rfl, _, 1, rfl, rfl, ((sumM A : Nat) : Int), ((sumM A + l.m + r.m - 1 : Nat) : Int) + 1, rfl, ⟨by omega, by omega, by omega, by omega⟩, ?_⟩
          rw [show (((sumM A + l.m + r.m - 1 : Nat) : Int) + 1 - ((sumM A : Nat) : Int)).toNat = l.m + r.m by omega]
          refine for_pre (wf_range2 (sumM A) (l.m + r.m)) (fun pre2 σ H' => ∃ (G' : Hp) (wvs : List V) (v3 : Option V), σ = [some (.ref b), some (nV n), some (nV lean), v3, some (.ref pk), some (.ref wk), some (nV stp), some (nV at_), some (.ref la), some (.ref ra)] ∧ SameBut wk G4 G' ∧ Same G G' ∧ Bx G' H' b ∧ G' wk = some (.lst wvs) ∧
            All2 (LWayX wk G') wvs ((List.range n).map fun k => if sumM A ≤ k ∧ k < sumM A + pre2.length then (sumM A + l.m - 1, if k < sumM A + l.m then 76 else 82) :: wayF 0 (A ++ l :: r :: Bs) k else wayF 0 (A ++ l :: r :: Bs) k)) ?_ ?_ ?_ ?_
          · refine ⟨G4, wvs, v3, rfl, fun x o _ h => h, sG4, B5, hwk4, ?_⟩
            have : ((List.range n).map fun k => if sumM A ≤ k ∧ k < sumM A + ([] : List Nat).length then (sumM A + l.m - 1, if k < sumM A + l.m then 76 else 82) :: wayF 0 (A ++ l :: r :: Bs) k else wayF 0 (A ++ l :: r :: Bs) k) = (List.range n).map (wayF 0 (A ++ l :: r :: Bs)) := List.map_congr_left fun k _ => by
              rw [if_neg (by rw [List.length_nil]; omega)]
            rw [this]; exact hwv
          · intro _ _ _ _; trivial
          · rintro pre2 i post2 σ H6 e2 ⟨G6, wvs, v3, rfl, sb6, sG6, B6, hwk6, hwv6⟩
            obtain ⟨ep2, hi⟩ := range_split e2
            have epl2 : pre2.length = i := by rw [ep2, List.length_range]
            rw [epl2] at hwv6
            have hla6 := sb6 _ _ nla hla
            have hkn : sumM A + i < n := by omega
            obtain ⟨wo, hwo, oa, ovs, rfl, noa, hoa, hovs⟩ := hwv6.at_ (i := sumM A + i) (x := wayF 0 (A ++ l :: r :: Bs) (sumM A + i)) (by
              rw [List.getElem?_map, List.getElem?_range hkn]
              show some (if _ then _ else _) = _
              rw [if_neg (by omega)])
            have hwl := hwv6.len
            rw [List.length_map, List.length_range] at hwl
            obtain ⟨c, hc, hcv⟩ : ∃ c, c = (if sumM A + i < sumM A + l.m then 76 else 82) ∧ atI (("LR" : Str)).cps.toList (if decide (((sumM A + l.m - 1 : Nat) : Int) < ((sumM A + i : Nat) : Int)) = true then 1 else 0) = some c := by
              by_cases c : sumM A + i < sumM A + l.m
              · refine ⟨76, by rw [if_pos c], ?_⟩
                rw [if_neg (by rw [decide_eq_false (by omega)]; exact Bool.false_ne_true)]; rfl
              · refine ⟨82, by rw [if_neg c], ?_⟩
                rw [if_pos (decide_eq_true (by omega))]; rfl
            refine ⟨_, rfl, la, _, 2, _, rfl, rfl, SqL.of (B6.same _ _ hla6), rfl, _, rfl, _, rfl, la, _, 2, _, rfl, rfl, SqL.of (B6.same _ _ hla6), rfl, _, _, rfl, rfl, .inr ⟨_, rfl, _, _, c, rfl, rfl, by decide, hcv, h2', fun t1 ht1 => ⟨h1', fun q1 hq1 => ?_⟩⟩⟩
            obtain ⟨B7, k7⟩ := B6.new (o := .tup [nV (sumM A + l.m - 1), .str ⟨#[c]⟩]) ht1
            have e7 : upd G6 t1 (.tup [nV (sumM A + l.m - 1), .str ⟨#[c]⟩]) t1 = some (.tup [nV (sumM A + l.m - 1), .str ⟨#[c]⟩]) := upd_same
            generalize upd H6 t1 (.tup [nV (sumM A + l.m - 1), .str ⟨#[c]⟩]) = H7 at B7 hq1
            generalize upd G6 t1 (.tup [nV (sumM A + l.m - 1), .str ⟨#[c]⟩]) = G7 at B7 k7 e7
            obtain ⟨B8, k8⟩ := B7.new (o := .lst [.ref t1]) hq1
            have e8 : upd G7 q1 (.lst [.ref t1]) q1 = some (.lst [.ref t1]) := upd_same
            have e78 := k8 _ _ e7
            generalize upd H7 q1 (.lst [.ref t1]) = H8 at B8
            generalize upd G7 q1 (.lst [.ref t1]) = G8 at B8 k8 e8 e78
            have k68 := k7.trans k8
            have hoa8 := k68 _ _ hoa
            have hwk8 := k68 _ _ hwk6
            refine ⟨_, rfl, _, rfl, wk, wvs, ((sumM A + i : Nat) : Int), .ref oa, rfl, rfl, SqL.of (B8.same _ _ hwk8), atI_nat hwo, q1, oa, _, ovs, rfl, rfl, B8.same _ _ e8, B8.same _ _ hoa8, ?_, fun c1 hc1 => ?_⟩
            · have hol := hovs.len
              have hwf : (wayF 0 (A ++ l :: r :: Bs) (sumM A + i)).length ≤ 100 := by
                have hgen : ∀ (ts : List Tr) (o k : Nat), (wayF o ts k).length ≤ sumM ts := by
                  intro ts
                  induction ts with
                  | nil => intro o k; exact Nat.zero_le _
                  | cons t ts ih =>
                    intro o k
                    show (if k < o + t.m then Tr.way o t k else wayF (o + t.m) ts k).length ≤ t.m + sumM ts
                    have h1 := way_len t o k
                    have h2 := ih (o + t.m) k
                    split <;> omega
                have := hgen (A ++ l :: r :: Bs) 0 (sumM A + i)
                omega
              rw [hol]
              exact Nat.le_of_lt (Nat.lt_of_le_of_lt (show [V.ref t1].length + _ ≤ 200 by simp; omega) (by decide))
            obtain ⟨B9, k9⟩ := B8.new (o := .lst ([.ref t1] ++ ovs)) hc1
            have e9 : upd G8 c1 (.lst ([.ref t1] ++ ovs)) c1 = some (.lst ([.ref t1] ++ ovs)) := upd_same
            have hwk9 := k9 _ _ hwk8
            have e79 := k9 _ _ e78
            have hwc : wk ≠ c1 := fun e => by rw [← e, B8.same _ _ hwk8] at hc1; cases hc1
            generalize upd H8 c1 (.lst ([.ref t1] ++ ovs)) = H9 at B9
            generalize upd G8 c1 (.lst ([.ref t1] ++ ovs)) = G9 at B9 k9 e9 hwk9 e79
            have k69 := k68.trans k9
            refine ⟨_, rfl, _, rfl, wk, wvs, ((sumM A + i : Nat) : Int), sumM A + i, rfl, rfl, B9.same _ _ hwk9, ixN_nat (by omega), ?_⟩
            have sb9 : SameBut wk G6 (upd G9 wk (.lst (wvs.set (sumM A + i) (.ref c1)))) := fun x o n h => by rw [upd_ne n]; exact k69 _ _ h
            have kt : TupK G9 (upd G9 wk (.lst (wvs.set (sumM A + i) (.ref c1)))) := (TupK.refl G9).lst hwk9
            refine ⟨upd G9 wk (.lst (wvs.set (sumM A + i) (.ref c1))), wvs.set (sumM A + i) (.ref c1), some (nV (sumM A + i)), rfl, sb6.trans sb9, (sG6.trans k69).put hGwk, B9.set hwk9, upd_same, ?_⟩
            have hnew : LWayX wk (upd G9 wk (.lst (wvs.set (sumM A + i) (.ref c1)))) (.ref c1) ((sumM A + l.m - 1, c) :: wayF 0 (A ++ l :: r :: Bs) (sumM A + i)) :=
              ⟨c1, [.ref t1] ++ ovs, rfl, hwc.symm, by rw [upd_ne hwc.symm]; exact e9, .cons ⟨t1, rfl, kt _ _ e79⟩ (hovs.mono fun _ _ h => (h.same k69).keep kt)⟩
            have hset := (hwv6.mono fun v y h => h.but sb9 hwk6).set (i := sumM A + i) hnew
            rw [set_range] at hset
            have : ((List.range n).map fun k => if sumM A ≤ k ∧ k < sumM A + (pre2 ++ [i]).length then (sumM A + l.m - 1, if k < sumM A + l.m then 76 else 82) :: wayF 0 (A ++ l :: r :: Bs) k else wayF 0 (A ++ l :: r :: Bs) k) =
              (List.range n).map fun j => if j = sumM A + i then (sumM A + l.m - 1, c) :: wayF 0 (A ++ l :: r :: Bs) (sumM A + i) else (if sumM A ≤ j ∧ j < sumM A + i then (sumM A + l.m - 1, if j < sumM A + l.m then 76 else 82) :: wayF 0 (A ++ l :: r :: Bs) j else wayF 0 (A ++ l :: r :: Bs) j) := List.map_congr_left fun j _ => by
              rw [List.length_append, epl2, List.length_singleton]
              by_cases cj : j = sumM A + i
              · subst cj
                rw [if_pos ⟨by omega, by omega⟩, if_pos rfl, hc]
              · rw [if_neg cj]
                by_cases cj2 : sumM A ≤ j ∧ j < sumM A + i
                · rw [if_pos cj2, if_pos ⟨cj2.1, by omega⟩]
                · rw [if_neg cj2, if_neg (fun z => cj2 ⟨z.1, by omega⟩)]
            rw [this]; exact hset
          · rintro σ H6 ⟨G6, wvs, v3, rfl, sb6, sG6, B6, hwk6, hwv6⟩
            rw [List.length_range] at hwv6
            have hjoin : ((List.range n).map fun k => if sumM A ≤ k ∧ k < sumM A + (l.m + r.m) then (sumM A + l.m - 1, if k < sumM A + l.m then 76 else 82) :: wayF 0 (A ++ l :: r :: Bs) k else wayF 0 (A ++ l :: r :: Bs) k) = (List.range n).map (wayF 0 (A ++ Tr.node l r :: Bs)) := List.map_congr_left fun k _ => by
              rw [wayF_join l r Bs A 0 k (Nat.zero_le _), Nat.zero_add]
            rw [hjoin] at hwv6
            have hpk6 := sb6 _ _ npw hpk
            have hla6 := sb6 _ _ nla hla
            have hra6 := sb6 _ _ nra hra
            have hva6 := hva.mono fun v o t h => h.but sb6
            have hvb6 := hvb.mono fun v o t h => h.but sb6
            have hpl : (va ++ V.ref la :: V.ref ra :: vb).length ≤ 64 := by
              rw [hvl]
              have := len_sumM (A ++ l :: r :: Bs)
              omega
            have hzs : ∀ k, k ≤ 300 → k < sizeLine := fun k hk => Nat.lt_of_le_of_lt hk (by decide)
            have hlt := Tr.txt_len l
            have hrt := Tr.txt_len r
            refine ⟨_, rfl, _, rfl, _, rfl, pk, _, rfl, SqL.of (B6.same _ _ hpk6), fun p1 hp1 => ?_⟩
            rw [cutV_to (b := at_) (by rw [hvl]; omega)]
            have etake : (va ++ V.ref la :: V.ref ra :: vb).take at_ = va := by
              rw [List.take_append_of_le_length (by omega), List.take_of_length_le (by omega)]
            rw [etake]
            obtain ⟨B7, k7⟩ := B6.new (o := .lst va) hp1
            have e7 : upd G6 p1 (.lst va) p1 = some (.lst va) := upd_same
            generalize upd H6 p1 (.lst va) = H7 at B7
            generalize upd G6 p1 (.lst va) = G7 at B7 k7 e7
            have hla7 := B7.same _ _ (k7 _ _ hla6)
            have hra7 := B7.same _ _ (k7 _ _ hra6)
            refine ⟨_, rfl, la, _, 0, _, rfl, rfl, SqL.of hla7, rfl, sL [40], sL l.txt, rfl, rfl, by rw [sL_len, sL_len]; exact Nat.le_of_lt (hzs _ (by simp; omega)), _, rfl, ra, _, 0, _, rfl, rfl, SqL.of hra7, rfl, sL [40] ++ sL l.txt, sL r.txt, rfl, rfl, by rw [sL_app, sL_len, sL_len]; exact Nat.le_of_lt (hzs _ (by simp; omega)), sL [40] ++ sL l.txt ++ sL r.txt, sL [41], rfl, rfl, by rw [sL_app, sL_app, sL_len, sL_len]; exact Nat.le_of_lt (hzs _ (by simp; omega)),
              _, rfl, la, _, 1, _, rfl, rfl, SqL.of hla7, rfl, _, rfl, ra, _, 2, _, rfl, rfl, SqL.of hra7, rfl, h3', fun p2 hp2 => ⟨h1', fun p3 hp3 => ?_⟩⟩
            have etxt : V.str (sL [40] ++ sL l.txt ++ sL r.txt ++ sL [41]) = sV (Tr.node l r).txt := by
              rw [sL_app, sL_app, sL_app]
              show V.str (sL _) = V.str (sL (40 :: (l.txt ++ (r.txt ++ [41]))))
              congr 2
              simp
            have hp2' : H7 p2 = none := hp2
            rw [etxt] at hp3 ⊢
            obtain ⟨B8, k8⟩ := B7.new (o := .lst [sV (Tr.node l r).txt, nV (sumM A), nV (sumM A + l.m + r.m - 1)]) hp2'
            have e8 : upd G7 p2 (.lst [sV (Tr.node l r).txt, nV (sumM A), nV (sumM A + l.m + r.m - 1)]) p2 = some (.lst [sV (Tr.node l r).txt, nV (sumM A), nV (sumM A + l.m + r.m - 1)]) := upd_same
            have np2 : p2 ≠ wk := fun e => by rw [e, B7.same _ _ (k7 _ _ hwk6)] at hp2'; cases hp2'
            generalize upd H7 p2 (.lst [sV (Tr.node l r).txt, nV (sumM A), nV (sumM A + l.m + r.m - 1)]) = H8 at B8 hp3
            generalize upd G7 p2 (.lst [sV (Tr.node l r).txt, nV (sumM A), nV (sumM A + l.m + r.m - 1)]) = G8 at B8 k8 e8
            obtain ⟨B9, k9⟩ := B8.new (o := .lst [.ref p2]) hp3
            have e9 : upd G8 p3 (.lst [.ref p2]) p3 = some (.lst [.ref p2]) := upd_same
            generalize upd H8 p3 (.lst [.ref p2]) = H9 at B9
            generalize upd G8 p3 (.lst [.ref p2]) = G9 at B9 k9 e9
            have k79 := k8.trans k9
            refine ⟨p1, p3, _, _, rfl, rfl, B9.same _ _ (k79 _ _ e7), B9.same _ _ e9, ?_, fun p4 hp4 => ?_⟩
            · rw [List.length_append, List.length_cons] at hpl
              exact Nat.le_of_lt (hzs _ (by simp; omega))
            obtain ⟨B10, k10⟩ := B9.new (o := .lst (va ++ [.ref p2])) hp4
            have e10 : upd G9 p4 (.lst (va ++ [.ref p2])) p4 = some (.lst (va ++ [.ref p2])) := upd_same
            generalize upd H9 p4 (.lst (va ++ [.ref p2])) = H10 at B10
            generalize upd G9 p4 (.lst (va ++ [.ref p2])) = G10 at B10 k10 e10
            have k610 := (k7.trans k79).trans k10
            refine ⟨_, rfl, _, rfl, _, 2, rfl, rfl, _, rfl, pk, _, rfl, SqL.of (B10.same _ _ (k610 _ _ hpk6)), fun p5 hp5 => ?_⟩
            have ecut : cutV (va ++ V.ref la :: V.ref ra :: vb) (some ((at_ : Int) + 2)) none = vb := by
              have := cutV_from (xs := va ++ V.ref la :: V.ref ra :: vb) (b := at_ + 2) (by rw [hvl]; omega)
              rw [show (((at_ + 2 : Nat)) : Int) = (at_ : Int) + 2 by omega] at this
              rw [this, List.drop_append, List.drop_of_length_le (by omega), show at_ + 2 - va.length = 2 by omega]; rfl
            rw [ecut]
            obtain ⟨B11, k11⟩ := B10.new (o := .lst vb) hp5
            have e11 : upd G10 p5 (.lst vb) p5 = some (.lst vb) := upd_same
            generalize upd H10 p5 (.lst vb) = H11 at B11
            generalize upd G10 p5 (.lst vb) = G11 at B11 k11 e11
            refine ⟨p4, p5, _, _, rfl, rfl, B11.same _ _ (k11 _ _ e10), B11.same _ _ e11, ?_, fun p6 hp6 => ?_⟩
            · rw [List.length_append, List.length_cons, List.length_cons] at hpl
              exact Nat.le_of_lt (hzs _ (by simp; omega))
            obtain ⟨B12, k12⟩ := B11.new (o := .lst (va ++ [.ref p2] ++ vb)) hp6
            have e12 : upd G11 p6 (.lst (va ++ [.ref p2] ++ vb)) p6 = some (.lst (va ++ [.ref p2] ++ vb)) := upd_same
            have k612 := (k610.trans k11).trans k12
            have np6 : p6 ≠ wk := fun e => by rw [e, B11.same _ _ (k11 _ _ (k610 _ _ hwk6))] at hp6; cases hp6
            have hwk12 := k612 _ _ hwk6
            have sb12 : SameBut wk G6 (upd G11 p6 (.lst (va ++ [.ref p2] ++ vb))) := fun x o _ h => k612 _ _ h
            generalize upd G11 p6 (.lst (va ++ [.ref p2] ++ vb)) = GX at B12 k12 e12 k612 hwk12 sb12
            refine ⟨GX, p6, _, wvs, A ++ Tr.node l r :: Bs, _, _, _, _, _, rfl, sG6.trans k612, B12, e12, np6, ?_, hwk12, hwv6.mono fun v y h => h.but sb12 hwk6, ?_, ?_⟩
            · have h1 := hva6.mono fun v o t (h : PieceX wk G6 v o t) => h.but sb12
              have h2 := hvb6.mono fun v o t (h : PieceX wk G6 v o t) => h.but sb12
              rw [List.append_assoc va]
              refine h1.app (.cons ⟨p2, rfl, np2, ?_⟩ ?_)
              · have := (((k9.trans k10).trans k11).trans k12) _ _ e8
                rw [this, Nat.zero_add]
                show _ = some (HO.lst [_, _, nV (sumM A + (l.m + r.m) - 1)])
                rw [Nat.add_assoc]
              · rw [Nat.zero_add]
                show Pcs _ _ (sumM A + (l.m + r.m)) vb Bs
                rw [← Nat.add_assoc]; exact h2
            · rw [sumM_app]
              show sumM A + ((l.m + r.m) + sumM Bs) = n
              omega
            · rw [List.length_append, List.length_cons] at hlen ⊢
              rw [List.length_cons] at hlen
              rw [List.length_append, List.length_singleton]
              omega
        · rintro σ H4 ⟨G4, pk, vs, wvs, ts, v3, v6, v7, v8, v9, rfl, sG4, B4, hpk, npw, hvs, hwk4, hwv, hsum, hlen⟩
          rw [List.length_range] at hlen
          obtain ⟨Tt, rfl⟩ : ∃ t, ts = [t] := by
            match ts, hlen with
            | [t], _ => exact ⟨t, rfl⟩
            | [], h => exact absurd h (by simp; omega)
            | _ :: _ :: _, h => exact absurd h (by simp; omega)
          cases hvs with
          | cons hv1 hr1 =>
          cases hr1
          rename_i v1
          obtain ⟨pa, rfl, npa, hpa⟩ := hv1
          have hm : Tt.m = n := by rw [← hsum]; show Tt.m = Tt.m + 0; omega
          refine ⟨_, rfl, pk, _, 0, _, rfl, rfl, SqL.of (B4.same _ _ hpk), rfl, pa, _, 0, _, rfl, rfl, SqL.of (B4.same _ _ hpa), rfl, _, rfl, h2', fun p hp => ?_⟩
          obtain ⟨B5, k5⟩ := B4.new (o := .tup [sV Tt.txt, .ref wk]) hp
          refine q _ _ p (.ref wk) Tt (sG4.trans k5) B5 hm upd_same ⟨wk, wvs, rfl, k5 _ _ hwk4, ?_⟩
          have : (List.range n).map (wayF 0 [Tt]) = waysOf Tt := by
            unfold waysOf
            rw [hm]
            refine List.map_congr_left fun k hk => ?_
            have hk := List.mem_range.mp hk
            show (if k < 0 + Tt.m then Tr.way 0 Tt k else _) = _
            rw [if_pos (by omega)]
          rw [this] at hwv
          exact hwv.mono fun v y h => by
            obtain ⟨a, ys, h1, h2, h3, h4⟩ := h
            exact ⟨a, ys, h1, k5 _ _ h3, h4.mono fun _ _ h => h.same k5⟩
end
end K22
set_option Elab.async false
set_option linter.all false
set_option maxRecDepth 100000
set_option maxHeartbeats 4000000
namespace K22
open PySem PySem.Spec PyProof.Rows L2
/-- a value without parts, whatever the heap -/
def Sx (K : PySem.W.Frag) (y : V) : Prop := ∃ d, (∀ H, Sc K H y d) ∧ ∀ H, ∃ b, IsI K H y b
theorem sx_int {K : PySem.W.Frag} {a : Nat} (h : a < 2 ^ 60) : Sx K (nV a) := ⟨.int (a : Int), fun H => .int _ (by
  rw [Int.natAbs_natCast]
  exact Nat.lt_trans (log_small h (by decide)) (by decide)), fun H => ⟨_, .int _⟩⟩
theorem sx_all {K : PySem.W.Frag} {H : Hp} : ∀ {xs : List V}, (∀ y ∈ xs, Sx K y) → ∃ ds, ScAll K H xs ds
  | [], _ => ⟨[], .nil⟩
  | x :: xs, h => by
    obtain ⟨d, h1, _⟩ := h x (by simp)
    obtain ⟨ds, h2⟩ := sx_all (H := H) (xs := xs) fun y hy => h y (by simp [hy])
    exact ⟨d :: ds, .cons (h1 H) h2⟩
/-- what is asked in place of a row -/
structure Bnt (K : PySem.W.Frag) (H : Hp) (x : V) : Prop where
  ord : ∀ F, ∃ b, OrdA K H F x b
  shw : ∃ d, Shw K H x d
theorem Bnt.same {K : PySem.W.Frag} {H H' : Hp} {x : V} (s : Same H H') (h : Bnt K H x) : Bnt K H' x := ⟨fun F => by obtain ⟨b, hb⟩ := h.ord F; exact ⟨b, hb.same s⟩, by obtain ⟨d, hd⟩ := h.shw; exact ⟨d, hd.same s⟩⟩
theorem bnt_list {K : PySem.W.Frag} {H : Hp} {a : Addr} {xs : List V} (ha : H a = some (.lst xs)) (h : ∀ y ∈ xs, Sx K y) (hl : xs.length ≤ 200) : Bnt K H (.ref a) := by
  obtain ⟨ds, hds⟩ := sx_all (H := H) h
  exact ⟨fun F => ⟨_, .lst ha fun y hy => (h y hy).choose_spec.2 H⟩, _, shw_list ha hds hl⟩
theorem bnt_row {K : PySem.W.Frag} {H : Hp} {a : Addr} {row : List Nat} (ha : H a = some (.lst (row.map nV))) (h : ∀ y ∈ row, y < 64) (hl : row.length ≤ 200) : Bnt K H (.ref a) :=
  bnt_list ha (fun y hy => by obtain ⟨x, hx, rfl⟩ := List.mem_map.mp hy; exact sx_int (Nat.lt_trans (h x hx) (by decide))) (by rw [List.length_map]; exact hl)
theorem cutV_min {xs : List V} {b : Nat} : cutV xs (some (b : Int)) none = xs.drop b := by
  unfold cutV
  rw [HT.sIx_nat]
  show (xs.drop (min b xs.length)).take (xs.length - min b xs.length) = _
  rw [List.take_of_length_le (by rw [List.length_drop]; exact Nat.le_refl _)]
  by_cases c : b ≤ xs.length
  · rw [Nat.min_eq_left c]
  · rw [Nat.min_eq_right (by omega), List.drop_length, List.drop_of_length_le (by omega)]
section
variable {P : Program} {w : World} {K : PySem.W.Frag} {mg : Str → Option Value} {base : Heap}
def spBd (K : PySem.W.Frag) : Sp := fun vs H Q _ => ∃ (G : Hp) (b ra : Addr) (row : List Nat) (m way : Nat), vs = [.ref b, .ref ra, nV m, nV way] ∧ m ≤ 64 ∧ (∀ a ∈ row, a < 64) ∧ row.length ≤ 63 ∧ G ra = some (.lst (row.map nV)) ∧ Bx G H b ∧
  ∀ (G' H' : Hp) (x : V), Same G G' → Bx G' H' b → Bnt K G' x → Q x H'
theorem ok_law_bend (T : Tb mg) (F : Df K mg "_law_bend" s__law_bend) (c__law_take : Cl P w K mg base 1 "_law_take" spTk) : Cl P w K mg base 2 "_law_bend" (spBd K) := by
  refine cl_mk F sc__law_bend (fun vs H Q E h => ?_) (fun _ _ _ _ _ _ us hl => match us, hl with | [_, _, _, _], _ => rfl) (fun f cdv A outer s H vs Q E hr h => ?_)
  · obtain ⟨_, _, _, _, _, _, rfl, _⟩ := h; rfl
  · obtain ⟨G, b, ra, row, m, way, rfl, hm, hrow, hrl, hra, B, q⟩ := h
    refine ⟨_, PSs.nox (pss_cons (ps_set (i := 4) sc__law_bend.nd rfl (Or.inl rfl) (pe_cl c__law_take hr (by decide) rfl (pa_cons (pv 0) (pa_cons (pe_callB call_len_seq (by rfl) T.n_len (by decide +kernel) (pa_cons (pv 1) pa_nil)) pa_nil))))
    (pss_cons (ps_set (i := 5) sc__law_bend.nd rfl (Or.inl rfl) (pe_cl c__law_take hr (by decide) rfl (pa_cons (pv 0) (pa_cons (pe_callB call_len_seq (by rfl) T.n_len (by decide +kernel) (pa_cons (pv 1) pa_nil)) pa_nil))))
    (pss_cons (ps_set (i := 6) sc__law_bend.nd rfl (Or.inl rfl) (pe_cl c__law_take hr (by decide) rfl (pa_cons (pv 0) (pa_cons (pv 2) pa_nil))))
    (pss_cons (ps_if (PW.pt (pw_and (pt_cmpR op_eq (pv 3) pe_int (nomark _)) (pw_and1 (pt_truth (pv 1) (by intro _; rfl)))))
      (pss_cons (ps_set (i := 7) sc__law_bend.nd rfl (Or.inl rfl) (pe_callTy call_list_of (by rfl) T.n_list (by decide +kernel) (pa_cons (pv 1) pa_nil)))
      (pss_cons (ps_asg (pe_ix ix_list (pv 1) (pv 5) (fun _ _ => rfl)) (pg_sub (pv 7) (pv 4) set_list))
      (pss_cons (ps_asg (pe_ix ix_list (pv 1) (pv 4) (fun _ _ => rfl)) (pg_sub (pv 7) (pv 5) set_list))
      (pss_one (ps_ret (pv 7))))))
      pss_nil)
    (pss_cons (ps_if (pt_cmpR op_eq (pv 3) pe_int (nomark _))
      (pss_one (ps_ret (pe_op op_cat (pe_slice sl_list (pv 1) po_none (po_some (pv 4))) (pe_slice sl_list (pv 1) (po_some (pe_op op_add (pv 4) pe_int)) po_none))))
      pss_nil)
    (pss_cons (ps_if (pt_cmpR op_eq (pv 3) pe_int (nomark _))
      (pss_one (ps_ret (pe_op op_cat (pe_op op_cat (pe_slice sl_list (pv 1) po_none (po_some (pv 4))) (pe_lst (pa_cons (pv 6) pa_nil))) (pe_slice sl_list (pv 1) (po_some (pv 4)) po_none))))
      pss_nil)
    (pss_cons (ps_if (PW.pt (pw_and (pt_cmpR op_eq (pv 3) pe_int (nomark _)) (pw_and1 (pt_truth (pv 1) (by intro _; rfl)))))
      (pss_one (ps_ret (pe_op op_cat (pe_op op_cat (pe_slice sl_list (pv 1) po_none (po_some (pv 4))) (pe_lst (pa_cons (pv 6) pa_nil))) (pe_slice sl_list (pv 1) (po_some (pe_op op_add (pv 4) pe_int)) po_none))))
      pss_nil)
    (pss_cons (ps_if (pt_cmpR op_eq (pv 3) pe_int (nomark _))
      (pss_one (ps_ret (pe_revL (pv 1))))
      pss_nil)
    (pss_cons (ps_if (pt_cmpR op_eq (pv 3) pe_int (nomark _))
      (pss_one (ps_ret (pe_callTy call_tuple_of (by rfl) T.n_tuple (by decide +kernel) (pa_cons (pv 1) pa_nil))))
      pss_nil)
    (pss_cons (ps_if (pt_cmpR op_eq (pv 3) pe_int (nomark _))
      (pss_one (ps_ret pe_non))
      pss_nil)
    (pss_cons (ps_if (pt_cmpR op_eq (pv 3) pe_int (nomark _))
      (pss_one (ps_ret (pe_op op_cat (pe_op op_cat (pe_slice sl_list (pv 1) po_none (po_some (pv 4))) (pe_lst (pa_cons pe_non pa_nil))) (pe_slice sl_list (pv 1) (po_some (pe_op op_add (pv 4) pe_int)) po_none))))
      pss_nil)
    (pss_cons (ps_if (pt_cmpR op_eq (pv 3) pe_int (nomark _))
      (pss_one (ps_ret (pe_lst (pa_cons (pe_callTy call_list_of (by rfl) T.n_list (by decide +kernel) (pa_cons (pv 1) pa_nil)) pa_nil))))
      pss_nil)
    (pss_cons (ps_if (pt_cmpR op_eq (pv 3) pe_int (nomark _))
      (pss_one (ps_ret (pe_op op_cat (pe_op op_cat (pe_slice sl_list (pv 1) po_none (po_some (pv 4))) (pe_lst (pa_cons (pe_callTy call_str_int (by rfl) T.n_str (by decide +kernel) (pa_cons (pv 6) pa_nil)) pa_nil))) (pe_slice sl_list (pv 1) (po_some (pe_op op_add (pv 4) pe_int)) po_none))))
      pss_nil)
    (pss_cons (ps_if (pt_cmpR op_eq (pv 3) pe_int (nomark _))
      (pss_one (ps_ret (pv 6)))
      pss_nil)
    (pss_one (ps_ret (pe_lc (own := [("_law_one", 8)]) (by rfl) sc__law_bend.nd (pi_list (pv 1)) (blkOk_by (own := [("_law_one", 8)]) (N := n__law_bend) (sc := defScope s__law_bend) (by decide +kernel)) (fun _ _ _ _ _ => (pg_name (i := 8) sc__law_bend.nd rfl (Or.inl rfl))) (fun _ _ _ _ _ => pts_nil) (fun _ _ _ _ _ => (pe_ifExp (pt_cmpR op_lt (pv 8) pe_int (nomark _)) (pe_cmpR op_eq (pv 8) pe_int (nomark _)) (pv 8)))))))))))))))))))), ?_⟩
    have hlm : (row.map nV).length = row.length := List.length_map _
    have h1' : 1 ≤ sizeLine := Nat.le_of_lt (small100 (by omega))
    have hz : ∀ k, k ≤ 300 → k < sizeLine := fun k hk => Nat.lt_of_le_of_lt hk (by decide)
    have arg : V.int (((row.map nV).length : Nat) : Int) = nV row.length := by rw [hlm]; rfl
    refine ⟨_, rfl, _, rfl, ra, _, rfl, .inl (SqL.of (B.same _ _ hra)), G, b, row.length, by rw [arg]; rfl, by omega, B, fun H1 at_ hat B1 => ?_⟩
    refine ⟨_, rfl, _, rfl, ra, _, rfl, .inl (SqL.of (B1.same _ _ hra)), G, b, row.length, by rw [arg]; rfl, by omega, B1, fun H2 by_ hby B2 => ?_⟩
    refine ⟨_, rfl, _, rfl, G, b, m, rfl, by omega, B2, fun H3 slot hslot B3 => ?_⟩
    have hra3 := B3.same _ _ hra
    have hd : ∀ k : Nat, decide (nV way = V.int (k : Int)) = decide (way = k) := fun k => nV_dec way k
    have hsx : ∀ y ∈ row.map nV, Sx K y := fun y hy => by obtain ⟨x, hx, rfl⟩ := List.mem_map.mp hy; exact sx_int (Nat.lt_trans (hrow x hx) (by decide))
    have hslx : Sx K (nV slot) := sx_int (Nat.lt_of_le_of_lt (show slot ≤ 64 by omega) (by decide))
    -- a new list as the answer
    have ans : ∀ (G4 H4 : Hp) (xs : List V) (p : Addr), Same G G4 → Bx G4 H4 b → H4 p = none → (∀ y ∈ xs, Sx K y) → xs.length ≤ 200 → Q (.ref p) (upd H4 p (.lst xs)) := fun G4 H4 xs p sG B4 hp hx hl => by
      obtain ⟨B5, s5⟩ := B4.new (o := .lst xs) hp
      exact q _ _ _ (sG.trans s5) B5 (bnt_list upd_same hx hl)
    -- two parts and something between
    have cut1 : cutV (row.map nV) none (some (at_ : Int)) = (row.map nV).take at_ := cutV_to (by rw [hlm]; omega)
    have cut2 : cutV (row.map nV) (some ((at_ : Int) + 1)) none = (row.map nV).drop (at_ + 1) := by
      have := cutV_min (xs := row.map nV) (b := at_ + 1)
      rw [show (((at_ + 1 : Nat)) : Int) = (at_ : Int) + 1 by omega] at this
      exact this
    have cut3 : cutV (row.map nV) (some (at_ : Int)) none = (row.map nV).drop at_ := cutV_min
    have sTake : ∀ y ∈ (row.map nV).take at_, Sx K y := fun y hy => hsx y (List.mem_of_mem_take hy)
    have sDrop : ∀ k, ∀ y ∈ (row.map nV).drop k, Sx K y := fun k y hy => hsx y (List.mem_of_mem_drop hy)
    have lTake : ((row.map nV).take at_).length ≤ 63 := by rw [List.length_take, hlm]; omega
    have lDrop : ∀ k, ((row.map nV).drop k).length ≤ 63 := fun k => by rw [List.length_drop, hlm]; omega
    -- row[:at] + [y] + row[k:]
    have mid : ∀ (y : V) (te : TE) (k : Nat) (to : TO), (∀ (H : Hp) (Q : VK), (∀ H', Same H H' → Q y H') → te [some (.ref b), some (.ref ra), some (nV m), some (nV way), some (nV at_), some (nV by_), some (nV slot), none, none] H Q) →
        (∀ (H : Hp) (Q : Option Int → Hp → Prop), (∀ i, cutV (row.map nV) (some i) none = (row.map nV).drop k → Q (some i) H) → to [some (.ref b), some (.ref ra), some (nV m), some (nV way), some (nV at_), some (nV by_), some (nV slot), none, none] H Q) → Sx K y →
        tOp rCat (tOp rCat (tSl (rSlL K) (tVar 1) tNoPart (tPart (tVar 4))) (tLst (tCons te tNil))) (tSl (rSlL K) (tVar 1) to tNoPart) [some (.ref b), some (.ref ra), some (nV m), some (nV way), some (nV at_), some (nV by_), some (nV slot), none, none] H3 Q := by
      intro y te k to hte hto hy
      refine ⟨_, rfl, _, rfl, _, rfl, ra, _, rfl, SqL.of hra3, fun p1 hp1 => ?_⟩
      rw [cut1]
      have s1 := (Same.refl H3).new (o := .lst ((row.map nV).take at_)) hp1
      have e1 : upd H3 p1 (.lst ((row.map nV).take at_)) p1 = some (.lst ((row.map nV).take at_)) := upd_same
      generalize upd H3 p1 (.lst ((row.map nV).take at_)) = H4 at s1 e1
      refine hte _ _ fun H5 s2 => ⟨h1', fun p2 hp2 => ?_⟩
      have s12 := s1.trans s2
      have e1' := s2 _ _ e1
      have s3 := s12.new (o := .lst [y]) hp2
      have k3 := (Same.refl H5).new (o := .lst [y]) hp2
      have e2 : upd H5 p2 (.lst [y]) p2 = some (.lst [y]) := upd_same
      generalize upd H5 p2 (.lst [y]) = H6 at s3 k3 e2
      refine ⟨p1, p2, _, _, rfl, rfl, k3 _ _ e1', e2, Nat.le_of_lt (hz _ (by simp; omega)), fun p3 hp3 => ?_⟩
      have s4 := s3.new (o := .lst ((row.map nV).take at_ ++ [y])) hp3
      have e3 : upd H6 p3 (.lst ((row.map nV).take at_ ++ [y])) p3 = some (.lst ((row.map nV).take at_ ++ [y])) := upd_same
      generalize upd H6 p3 (.lst ((row.map nV).take at_ ++ [y])) = H7 at s4 e3
      refine ⟨_, rfl, hto _ _ fun i hi => ?_⟩
      refine ⟨ra, _, rfl, SqL.of (s4 _ _ hra3), fun p4 hp4 => ?_⟩
      rw [hi]
      have s5 := s4.new (o := .lst ((row.map nV).drop k)) hp4
      have k5 := (Same.refl H7).new (o := .lst ((row.map nV).drop k)) hp4
      have e4 : upd H7 p4 (.lst ((row.map nV).drop k)) p4 = some (.lst ((row.map nV).drop k)) := upd_same
      generalize upd H7 p4 (.lst ((row.map nV).drop k)) = H8 at s5 k5 e4
      have ld := lDrop k
      refine ⟨p3, p4, _, _, rfl, rfl, k5 _ _ e3, e4, Nat.le_of_lt (hz _ (by rw [List.length_append]; simp; omega)), fun p5 hp5 => ?_⟩
      refine ans G H8 _ p5 (Same.refl G) (B3.ext s5) hp5 (fun z hz => ?_) ?_
      · rcases List.mem_append.mp hz with hz | hz
        · rcases List.mem_append.mp hz with hz | hz
          · exact sTake z hz
          · rw [List.mem_singleton.mp hz]; exact hy
        · exact sDrop k z hz
      · rw [List.length_append, List.length_append]; simp; omega
    have and2 : ∀ (k : Nat) (Q : Bool → Hp → Prop), Q (decide (way = k) && !(row.map nV).isEmpty) H3 → tAnd (tTest (tOp rEq (tVar 3) (tC (.int (k : Int))))) (fun σ H Q => tVar 1 σ H fun x H' => ∃ k, TruV K x H' k ∧ Q k H')
        [some (.ref b), some (.ref ra), some (nV m), some (nV way), some (nV at_), some (nV by_), some (nV slot), none, none] H3 Q := by
      intro k Q hq
      refine ⟨_, rfl, rfl, _, rfl, ?_⟩
      by_cases c : way = k
      · refine ifT ((hd k).trans (decide_eq_true c)) ⟨_, rfl, _, .inl ⟨_, SqL.of hra3, rfl⟩, ?_⟩
        rw [decide_eq_true c, Bool.true_and] at hq
        exact hq
      · refine ifF ((hd k).trans (decide_eq_false c)) ?_
        rw [decide_eq_false c, Bool.false_and] at hq
        exact hq
    have add1 : ∀ (H : Hp) (Q : Option Int → Hp → Prop), (∀ i, cutV (row.map nV) (some i) none = (row.map nV).drop (at_ + 1) → Q (some i) H) → (tPart (tOp (rI0 fun i j => .int (i + j)) (tVar 4) (tC (.int 1)))) [some (.ref b), some (.ref ra), some (nV m), some (nV way), some (nV at_), some (nV by_), some (nV slot), none, none] H Q := fun H Q hq =>
      ⟨_, rfl, _, 1, rfl, rfl, _, rfl, hq _ cut2⟩
    have add0 : ∀ (H : Hp) (Q : Option Int → Hp → Prop), (∀ i, cutV (row.map nV) (some i) none = (row.map nV).drop at_ → Q (some i) H) → (tPart (tVar 4)) [some (.ref b), some (.ref ra), some (nV m), some (nV way), some (nV at_), some (nV by_), some (nV slot), none, none] H Q := fun H Q hq =>
      ⟨_, rfl, _, rfl, hq _ cut3⟩
    refine and2 0 _ ?_
    by_cases c0 : way = 0 ∧ row ≠ []
    · have hne : 0 < row.length := List.length_pos_iff.mpr c0.2
      have ha : at_ < row.length := by omega
      have hb : by_ < row.length := by omega
      refine ifT (by rw [decide_eq_true c0.1]; cases row with | nil => exact absurd rfl c0.2 | cons _ _ => rfl) ?_
      refine ⟨_, rfl, ra, _, rfl, .inl (SqL.of hra3), fun p hp => ?_⟩
      obtain ⟨B4, k4⟩ := B3.new (o := .lst (row.map nV)) hp
      have e4 : upd G p (.lst (row.map nV)) p = some (.lst (row.map nV)) := upd_same
      show tSeq _ _ _ _ (upd H3 p (.lst (row.map nV)))
      generalize upd H3 p (.lst (row.map nV)) = H4 at B4
      generalize upd G p (.lst (row.map nV)) = G4 at B4 k4 e4
      have hr4 := B4.same _ _ (k4 _ _ hra)
      have gA : atI (row.map nV) ((at_ : Nat) : Int) = some (nV row[at_]) := atI_nat (by rw [List.getElem?_map, List.getElem?_eq_getElem ha]; rfl)
      have gB : atI (row.map nV) ((by_ : Nat) : Int) = some (nV row[by_]) := atI_nat (by rw [List.getElem?_map, List.getElem?_eq_getElem hb]; rfl)
      have npr : ra ≠ p := fun e => by rw [← e, hra3] at hp; cases hp
      refine ⟨_, rfl, _, rfl, ra, _, _, _, rfl, rfl, SqL.of hr4, gB, _, rfl, _, rfl, p, _, _, at_, rfl, rfl, B4.same _ _ e4, ixN_nat (by rw [hlm]; exact ha), ?_⟩
      have B5 := B4.set (o := .lst ((row.map nV).set at_ (nV row[by_]))) e4
      have e5 : upd G4 p (.lst ((row.map nV).set at_ (nV row[by_]))) p = some (.lst ((row.map nV).set at_ (nV row[by_]))) := upd_same
      have h5r : upd H4 p (.lst ((row.map nV).set at_ (nV row[by_]))) ra = some (.lst (row.map nV)) := by rw [upd_ne npr]; exact hr4
      have sG5 : Same G (upd G4 p (.lst ((row.map nV).set at_ (nV row[by_])))) := k4.put (B3.same.free hp)
      generalize upd H4 p (.lst ((row.map nV).set at_ (nV row[by_]))) = H5 at B5 h5r
      generalize upd G4 p (.lst ((row.map nV).set at_ (nV row[by_]))) = G5 at B5 e5 sG5
      refine ⟨_, rfl, _, rfl, ra, _, _, _, rfl, rfl, SqL.of h5r, gA, _, rfl, _, rfl, p, _, _, by_, rfl, rfl, B5.same _ _ e5, ixN_nat (by rw [List.length_set, hlm]; exact hb), ?_⟩
      have B6 := B5.set (o := .lst (((row.map nV).set at_ (nV row[by_])).set by_ (nV row[at_]))) e5
      refine ⟨_, rfl, q _ _ _ (sG5.put (B3.same.free hp)) B6 ?_⟩
      have : ((row.map nV).set at_ (nV row[by_])).set by_ (nV row[at_]) = ((row.set at_ row[by_]).set by_ row[at_]).map nV := by rw [List.map_set, List.map_set]
      refine bnt_row (row := (row.set at_ row[by_]).set by_ row[at_]) (by rw [upd_same, this]) (fun y hy => ?_) (by rw [List.length_set, List.length_set]; omega)
      rcases List.mem_or_eq_of_mem_set hy with h | h
      · rcases List.mem_or_eq_of_mem_set h with h | h
        · exact hrow y h
        · rw [h]; exact hrow _ (List.getElem_mem hb)
      · rw [h]; exact hrow _ (List.getElem_mem ha)
    refine ifF (by
      by_cases c : way = 0
      · have : row = [] := Classical.byContradiction fun z => c0 ⟨c, z⟩
        subst this; simp
      · rw [decide_eq_false c]; rfl) ?_
    refine ⟨_, rfl, rfl, _, rfl, ?_⟩
    by_cases c1 : way = 1
    · refine ifT ((hd 1).trans (decide_eq_true c1)) ?_
      refine ⟨_, rfl, _, rfl, _, rfl, ra, _, rfl, SqL.of hra3, fun p1 hp1 => ?_⟩
      rw [cut1]
      have s1 := (Same.refl H3).new (o := .lst ((row.map nV).take at_)) hp1
      have e1 : upd H3 p1 (.lst ((row.map nV).take at_)) p1 = some (.lst ((row.map nV).take at_)) := upd_same
      generalize upd H3 p1 (.lst ((row.map nV).take at_)) = H4 at s1 e1
      refine ⟨_, rfl, _, rfl, _, 1, rfl, rfl, _, rfl, ra, _, rfl, SqL.of (s1 _ _ hra3), fun p2 hp2 => ?_⟩
      rw [cut2]
      have s2 := s1.new (o := .lst ((row.map nV).drop (at_ + 1))) hp2
      have k2 := (Same.refl H4).new (o := .lst ((row.map nV).drop (at_ + 1))) hp2
      have e2 : upd H4 p2 (.lst ((row.map nV).drop (at_ + 1))) p2 = some (.lst ((row.map nV).drop (at_ + 1))) := upd_same
      generalize upd H4 p2 (.lst ((row.map nV).drop (at_ + 1))) = H5 at s2 k2 e2
      have ld := lDrop (at_ + 1)
      refine ⟨p1, p2, _, _, rfl, rfl, k2 _ _ e1, e2, Nat.le_of_lt (hz _ (by omega)), fun p3 hp3 => ?_⟩
      refine ans G H5 _ p3 (Same.refl G) (B3.ext s2) hp3 (fun z hz => ?_) (by rw [List.length_append]; omega)
      rcases List.mem_append.mp hz with hz | hz
      · exact sTake z hz
      · exact sDrop _ z hz
    refine ifF ((hd 1).trans (decide_eq_false c1)) ⟨_, rfl, rfl, _, rfl, ?_⟩
    by_cases c2 : way = 2
    · exact ifT ((hd 2).trans (decide_eq_true c2)) (mid (nV slot) (tVar 6) at_ _ (fun H Q h => ⟨_, rfl, h H (Same.refl H)⟩) add0 hslx)
    refine ifF ((hd 2).trans (decide_eq_false c2)) ?_
    refine and2 3 _ ?_
    cases c3 : (decide (way = 3) && !(row.map nV).isEmpty) with
    | true => exact ifT rfl (mid (nV slot) (tVar 6) (at_ + 1) _ (fun H Q h => ⟨_, rfl, h H (Same.refl H)⟩) add1 hslx)
    | false =>
      refine ifF rfl ⟨_, rfl, rfl, _, rfl, ?_⟩
      by_cases c4 : way = 4
      · refine ifT ((hd 4).trans (decide_eq_true c4)) ⟨_, rfl, ra, _, rfl, SqL.of hra3, fun p hp => ?_⟩
        exact ans G H3 _ p (Same.refl G) B3 hp (fun z hz => hsx z (List.mem_reverse.mp hz)) (by rw [List.length_reverse, hlm]; omega)
      refine ifF ((hd 4).trans (decide_eq_false c4)) ⟨_, rfl, rfl, _, rfl, ?_⟩
      by_cases c5 : way = 5
      · refine ifT ((hd 5).trans (decide_eq_true c5)) ⟨_, rfl, ra, _, rfl, .inl ⟨SqL.of hra3, fun p hp => ?_⟩⟩
        obtain ⟨B5, s5⟩ := B3.new (o := .tup (row.map nV)) hp
        obtain ⟨ds, hds⟩ := sx_all (H := upd G p (.tup (row.map nV))) hsx
        exact q _ _ _ s5 B5 ⟨fun F => ⟨_, .tup upd_same⟩, _, shw_tup upd_same hds (by rw [hlm]; omega)⟩
      refine ifF ((hd 5).trans (decide_eq_false c5)) ⟨_, rfl, rfl, _, rfl, ?_⟩
      by_cases c6 : way = 6
      · exact ifT ((hd 6).trans (decide_eq_true c6)) (q G H3 _ (Same.refl G) B3 ⟨fun F => ⟨_, .non⟩, _, Sc.non.shw⟩)
      refine ifF ((hd 6).trans (decide_eq_false c6)) ⟨_, rfl, rfl, _, rfl, ?_⟩
      by_cases c7 : way = 7
      · exact ifT ((hd 7).trans (decide_eq_true c7)) (mid .non (tC .non) (at_ + 1) _ (fun H Q h => h H (Same.refl H)) add1 ⟨_, fun H => .non, fun H => ⟨_, .non⟩⟩)
      refine ifF ((hd 7).trans (decide_eq_false c7)) ⟨_, rfl, rfl, _, rfl, ?_⟩
      by_cases c8 : way = 8
      · refine ifT ((hd 8).trans (decide_eq_true c8)) ⟨_, rfl, ra, _, rfl, .inl (SqL.of hra3), fun p1 hp1 => ⟨h1', fun p2 hp2 => ?_⟩⟩
        obtain ⟨B4, k4⟩ := B3.new (o := .lst (row.map nV)) hp1
        have e4 : upd G p1 (.lst (row.map nV)) p1 = some (.lst (row.map nV)) := upd_same
        generalize upd H3 p1 (.lst (row.map nV)) = H4 at B4 hp2
        generalize upd G p1 (.lst (row.map nV)) = G4 at B4 k4 e4
        obtain ⟨B5, k5⟩ := B4.new (o := .lst [.ref p1]) hp2
        obtain ⟨ds, hds⟩ := sx_all (H := upd G4 p2 (.lst [.ref p1])) hsx
        have hw := shw_list (k5 _ _ e4) hds (by rw [hlm]; omega)
        refine q _ _ _ (k4.trans k5) B5 ⟨fun F => ⟨_, .lst upd_same fun y hy => ⟨false, by rw [List.mem_singleton.mp hy]; exact .lst (k5 _ _ e4)⟩⟩, _, shw_one upd_same hw ?_ ?_⟩
        · obtain ⟨_, _, _, i4, i5⟩ := hds.sh
          have := listText_up (PyData.shownAll ds) i4
          rw [i5, hds.len, hlm] at this
          show (listText (PyData.shownAll ds)).length ≤ _
          omega
        · obtain ⟨_, _, i3, _, _⟩ := hds.sh
          show PyData.depth (.list ds) ≤ 8
          simp only [PyData.depth]
          omega
      refine ifF ((hd 8).trans (decide_eq_false c8)) ⟨_, rfl, rfl, _, rfl, ?_⟩
      by_cases c9 : way = 9
      · have tl : (Str.ofString (toString ((slot : Nat) : Int))).length ≤ 1000 := by
          have := int_text_length_le (a := (slot : Int)) (k := 60) (by decide) (by rw [Int.natAbs_natCast]; exact log_small (Nat.lt_of_le_of_lt (show slot ≤ 64 by omega) (by decide)) (by decide))
          rw [PySem.ofString_length]
          omega
        have hlog : ((slot : Nat) : Int).natAbs.log2 < 1920 := by rw [Int.natAbs_natCast]; exact Nat.lt_trans (log_small (Nat.lt_of_le_of_lt (show slot ≤ 64 by omega) (show 64 < 2 ^ 60 by decide)) (by decide)) (by decide)
        have hsc : ∃ d, ∀ H, Sc K H (.str (Str.ofString (toString ((slot : Nat) : Int)))) d := by
          obtain ⟨d, h⟩ := sc_text (K := K) (H := H) (s := toString ((slot : Nat) : Int)) tl
          exact ⟨d, fun H => h.same⟩
        obtain ⟨d, hdd⟩ := hsc
        exact ifT ((hd 9).trans (decide_eq_true c9)) (mid (.str (Str.ofString (toString ((slot : Nat) : Int)))) _ (at_ + 1) _ (fun H Q h => ⟨_, rfl, _, rfl, hlog, h H (Same.refl H)⟩) add1 ⟨d, hdd, fun H => ⟨_, .str _⟩⟩)
      refine ifF ((hd 9).trans (decide_eq_false c9)) ⟨_, rfl, rfl, _, rfl, ?_⟩
      by_cases c10 : way = 10
      · refine ifT ((hd 10).trans (decide_eq_true c10)) ⟨_, rfl, ?_⟩
        obtain ⟨d, h1, _⟩ := hslx
        exact q G H3 _ (Same.refl G) B3 ⟨fun F => ⟨_, .int _⟩, d, (h1 G).shw⟩
      refine ifF ((hd 10).trans (decide_eq_false c10)) ?_
      refine ⟨_, rfl, ra, rfl, ⟨_, SqL.of hra3⟩, fun D hD => ?_⟩
      obtain ⟨B4, k4⟩ := B3.new (o := .lst []) hD
      have hGD : G D = none := B3.same.free hD
      refine lc_pre (wf_list (K := K) (a := ra) row nV) (fun pre H' => ∃ (G' : Hp) (xs : List V), Same G G' ∧ Bx G' H' b ∧ G' D = some (.lst xs) ∧ xs.length = pre.length ∧ ∀ y ∈ xs, Sx K y) ⟨_, [], k4, B4, upd_same, rfl, fun y hy => by cases hy⟩ ?_ ?_ ?_
      · rintro pre H' ⟨G', xs, sG, B', _⟩
        exact SqL.of (B'.same _ _ (sG _ _ hra))
      · rintro pre x post H' e ⟨G', xs, sG, B', hD', hxl, hxs⟩
        have hx : x < 64 := hrow x (by rw [e]; simp)
        have hpl : pre.length ≤ 100 := by
          have := congrArg List.length e
          rw [List.length_append, List.length_cons] at this
          omega
        have fin : ∀ y, Sx K y → ∃ acc, H' D = some (.lst acc) ∧ acc.length < sizeLine ∧ ∃ (G2 : Hp) (xs : List V), Same G G2 ∧ Bx G2 (upd H' D (.lst (acc ++ [y]))) b ∧ G2 D = some (.lst xs) ∧ xs.length = (pre ++ [x]).length ∧ ∀ y ∈ xs, Sx K y := fun y hy =>
          ⟨xs, B'.same _ _ hD', small100 (by omega), upd G' D (.lst (xs ++ [y])), xs ++ [y], sG.put hGD, B'.set hD', upd_same, by rw [List.length_append, List.length_append, hxl]; rfl, fun z hz => by
            rcases List.mem_append.mp hz with hz | hz
            · exact hxs z hz
            · rw [List.mem_singleton.mp hz]; exact hy⟩
        refine ⟨rfl, ?_⟩
        refine ⟨_, rfl, (x : Int), 2, rfl, rfl, _, rfl, ?_⟩
        by_cases c : x < 2
        · exact ifT (decide_eq_true (by omega)) ⟨_, rfl, rfl, fin _ ⟨_, fun H => .bl _, fun H => ⟨_, .bl _⟩⟩⟩
        · exact ifF (decide_eq_false (by omega)) ⟨_, rfl, fin _ (sx_int (Nat.lt_trans hx (by decide)))⟩
      · rintro H' ⟨G', xs, sG, B', hD', hxl, hxs⟩
        exact q G' H' _ sG B' (bnt_list hD' hxs (by omega))
end
end K22
set_option Elab.async false
set_option linter.all false
set_option maxRecDepth 100000
set_option maxHeartbeats 4000000
/-! Defs that show data by repr: repr asks the stack for a repr under way, so the promise needs to know that there is none. -/
namespace K22
open PySem PySem.Spec PyProof.Rows L2
/-- the promise of a def that is called while no repr is under way -/
structure FnG (P : Program) (w : World) (K : PySem.W.Frag) (mg : Str → Option Value) (base : Heap) (k : Nat) (f : Addr) (fd : FuncData) (ps : List Str) (sp : Sp) : Prop where
  len : ∀ vs H Q E, sp vs H Q E → vs.length = ps.length
  run : ∀ (A : Around) (outer : List Env) (s : Shared) (H : Hp) (args : Args) (us : List Value) (vs : List V) (Q : VK) (E : XK), A.guards = some [] → Room k A → Env0 P w K mg base A outer s H → BindsTo s fd args (ps.zip us) → Vals vs us → sp vs H Q E →
    codeAny (model P w) A (.call (.ref f) args) (CR (L2.CX P w) outer P w H s Q E) s
section
variable {P : Program} {w : World} {K : PySem.W.Frag} {mg : Str → Option Value} {base : Heap}
theorem fnG_mk {x qual : Str} {params : Arguments} {body : List Stmt} {scope : Scope} {f : Addr} {fd : FuncData} {N ps : List Str} {k : Nat} {sp : Sp} (F : FunD K x qual params body scope [] [] f fd) (S : FnScope N ps scope) (len : ∀ vs H Q E, sp vs H Q E → vs.length = ps.length)
    (hbody : ∀ (cdv : Value) (A : Around) (outer : List Env) (s : Shared) (H : Hp) (vs : List V) (Q : VK) (E : XK), A.guards = some [] → Room k (A.deeper (envOfC qual scope s.heap.objs.size f cdv)) → sp vs H Q E →
      ∃ t, PSs (cxOf (L2.CX P w) P w K mg base N qual scope f cdv A outer s H E) body t ∧ t { nx := fun _ H' => Q .non H', rt := Q } (start N vs) H) : FnG P w K mg base (k + 1) f fd ps sp := by
  obtain ⟨oc, od, dV, kV, doc, pm, an, cdv, ct, osl, rfl, lk, hcd, _, _⟩ := F.ex
  constructor
  · exact len
  intro A outer s H args us vs Q E hg hr e0 hb r hsp
  have hold : ∀ b o, base.get? b = some o → s.heap.get? b = some o := fun b o e => (e0.bs b o e).1
  have KX : K.In s.heap := e0.mod.kin.keeps hold
  have lim : s.heap.NoLimit := e0.mod.nolimit.keeps hold
  refine codeAny_call_function hr.depth (KX _ _ lk) rfl S.co S.gen rfl (PySem.W.codeRec_of KX hcd) (hb _ _ _ _ ?_)
  refine wpAny_newFunctionEnv_cells S.kind (fun y hy => ?_) fun env he s1 x => ?_
  · have hm : y.1 ∈ ps := (List.of_mem_zip (a := y.1) (b := y.2) hy).1
    exact (S.par _ hm).imp_right fun z => ⟨z, PySem.W.cellsFrom_some _ _ _ (.inl z)⟩
  subst he
  refine ⟨lim.keeps x.toInCall.keep, codeAny_func ?_⟩
  obtain ⟨t, ht, hq⟩ := hbody cdv A outer s H vs Q E hg (hr.deeper _) hsp
  have I := inv_start (CX := L2.CX P w) (K := K) (mg := mg) (base := base) (E := E) S hr.hd e0 (len _ _ _ _ hsp) r x
  have out : ∀ {σ' : L2.St} {H' : Hp} {s' : Shared} {v : V} {u : Value}, L2.Inv (cxOf (L2.CX P w) P w K mg base N qual scope f cdv A outer s H E) [] σ' H' s' → RelV v u → Q v H' → CE outer P w H s Q u s' :=
    fun J rv q => ⟨_, _, J.os, J.bare, J.base, J.hok, rv, q⟩
  refine wpAny_mono (ht.run [] s1 (start N vs) H _ I hq) (fun fl s' hs => ?_) fun _ _ z => z
  match fl, hs with
  | .ret u, hs => obtain ⟨_, _, _, J, rv, q⟩ := hs; exact out J rv q
  | .next, hs => obtain ⟨_, _, J, q⟩ := hs; exact out (v := V.non) (u := Value.none) J rfl q
  | .brk, hs => obtain ⟨_, _, _, q⟩ := hs; exact q.elim
  | .cont, hs => obtain ⟨_, _, _, q⟩ := hs; exact q.elim
structure ClG (P : Program) (w : World) (K : PySem.W.Frag) (mg : Str → Option Value) (base : Heap) (k : Nat) (x : Str) (sp : Sp) : Prop where
  ex : ∃ (f : Addr) (fd : FuncData) (ps : List Str), FnG P w K mg base k f fd ps sp ∧ mg x = some (.ref f) ∧ PySem.W.keepIn K (.ref f) = true ∧ Binds K fd ps []
theorem clG_mk {x : Str} {st : Stmt} {N ps : List Str} {k : Nat} {sp : Sp} (F : Df K mg x st) (S : FnScope N ps (defScope st)) (len : ∀ vs H Q E, sp vs H Q E → vs.length = ps.length)
    (b : ∀ (kV doc pm : Value) (an : Option Addr) (cdv ct : Value) (us : List Value), us.length = ps.length → bindArgs (PySem.W.fnOf x x (defArgs st) (defBody st) (defScope st) .none kV doc pm an cdv ct) ⟨us, []⟩ = pure (ps.zip us))
    (hbody : ∀ (f : Addr) (cdv : Value) (A : Around) (outer : List Env) (s : Shared) (H : Hp) (vs : List V) (Q : VK) (E : XK), A.guards = some [] → Room k (A.deeper (envOfC x (defScope st) s.heap.objs.size f cdv)) → sp vs H Q E →
      ∃ t, PSs (cxOf (L2.CX P w) P w K mg base N x (defScope st) f cdv A outer s H E) (defBody st) t ∧ t { nx := fun _ H' => Q .non H', rt := Q } (start N vs) H) : ClG P w K mg base (k + 1) x sp := by
  obtain ⟨f, fd, F, hm⟩ := F.ex
  exact ⟨f, fd, ps, fnG_mk F S len fun cdv A outer s H vs Q E hg hr h => hbody f cdv A outer s H vs Q E hg hr h, hm, F.kp, F.bindsN b⟩
end
/-- a call of such a def -/
theorem pe_clG {X : Cx} {k j : Nat} {x : Str} {sp : Sp} {p pos : Pos} {e : Expr} {es : List Expr} {t : TA} (c : ClG X.prog X.w X.K X.mg X.base k x sp) (hg : X.A.guards = some []) (hr : Room j X.A) (hk : k ≤ j) (hgl : Gl X x) (ha : PA X (e :: es) t)
    (hdb : (x == ("__debug__" : Str)) = false := by decide) (he : starEach (e :: es) X.env = (false, eval e X.env) :: starEach es X.env := by rfl) (hpl : (backTo pos (starEach es X.env)).any (·.1) = false := by rfl) :
    PE X (.Call (.Name x p) (e :: es) [] pos) (tCall sp [] E0 t) := by
  obtain ⟨f, fd, ps, F, hm, kp, b⟩ := c.ex
  constructor
  intro pins s σ H Q I h
  refine wpAny_Call_Name_kw (ld_glob I hgl hm ?_ hdb)
  refine PySem.W.callWith_K (h₀ := X.base) I.ok.mod.kin kp (thn (ha.run pos pins s σ H _ I h) fun us s1 ⟨vs, H1, I1, r, q⟩ => ⟨I1.kIn, wpAny_call ?_⟩) he hpl
  have q : sp (vs ++ []) H1 Q E0 := q
  rw [List.append_nil] at q
  have bb := b s1 us I1.kIn (by rw [List.append_nil, ← r.length]; exact F.len _ _ _ _ q)
  rw [List.append_nil] at bb
  refine codeAny_mono (F.run X.A X.stack s1 H1 ⟨us, []⟩ us vs Q E0 hg (hr.mono hk) I1.env0 bb r q) fun rr s' hq => ?_
  match rr, hq with
  | .error _, hq => exact (passL pins σ H1 s1 _ s' I1 hq)
  | .ok (.ret _), hq => exact I1.after hq
  | .ok .next, hq => exact hq.elim
  | .ok .brk, hq => exact hq.elim
  | .ok .cont, hq => exact hq.elim
/-! ### repr -/
def rRepr (K : PySem.W.Frag) : List V → Hp → VK → Prop := fun vs H Q => ∃ (x : V) (d : PyData), vs = [x] ∧ Shw K H x d ∧ Q (.str d.shown) H
theorem call_repr {X : Cx} (hg : X.A.guards = some []) (hu : X.A.units + 64 < cLine) : CallR X (.builtin "repr") (rRepr X.K) := by
  intro pins s σ H vs us Q I r h
  obtain ⟨x, d, rfl, hS, q⟩ := h
  obtain ⟨u, rfl, ru⟩ := vals1 r
  have hsz : d.shown.length ≤ sizeLine := Nat.le_trans hS.ln (by rw [sizeLine_eq]; decide)
  obtain ⟨as, rd⟩ := Dp.reads I d x u hS.dp ru
  have dep := hS.dep
  have nodict : d.hasDict = true → sysModules ∉ as := fun z => by rw [hS.nd] at z; cases z
  have sh := hS.sh
  have fin : ∀ h' t tk, (∀ b o, s.heap.get? b = some o → h'.get? b = some o) → EP X pins σ Q (.str d.shown t) { s with heap := h', toks := tk } := fun h' t tk kp =>
    ⟨.str d.shown, H, I.kept (t' := tk) kp, ⟨_, rfl⟩, q⟩
  cases hS.dp with
  | non => cases ru; exact PySem.P.repr_of_none (fin s.heap _ _ fun _ _ e => e)
  | bl b => cases ru; exact PySem.P.repr_of_bool (fin s.heap _ _ fun _ _ e => e)
  | int i => obtain ⟨t, rfl⟩ := ru; exact PySem.P.repr_of_int (of_decide_eq_true sh) (fin s.heap _ _ fun _ _ e => e)
  | str z => obtain ⟨t, rfl⟩ := ru; exact PySem.P.repr_of_str (fin s.heap _ _ fun _ _ e => e) hsz
  | lst _ _ => cases ru; exact repr_of_reads' rd sh nodict hg (by omega) (fun _ _ e => e) fin hsz
  | tup _ _ => cases ru; exact repr_of_reads' rd sh nodict hg (by omega) (fun _ _ e => e) fin hsz
end K22
set_option Elab.async false
set_option linter.all false
set_option maxRecDepth 100000
set_option maxHeartbeats 4000000
namespace K22
open PySem PySem.Spec PyProof.Rows L2
/-- a tree, a start and an end that fit -/
structure Sit (CT : Addr) (H : Hp) (T : Tr) (S E : List Nat) (tv : V) : Prop where
  tree : TreeAt CT H tv T
  slen : S.length = T.m - 1
  scod : ∀ c ∈ S, c ∈ [76, 82, 63]
  elen : E.length = T.m - 1
  ecod : LRs E
theorem Sit.same {CT : Addr} {H H' : Hp} {T : Tr} {S E : List Nat} {tv : V} (s : Same H H') (h : Sit CT H T S E tv) : Sit CT H' T S E tv := ⟨h.tree.same s, h.slen, h.scod, h.elen, h.ecod⟩
theorem okF_mk {ss : List Nat} {n : Nat} {l : List Nat} (h : l.length = n) (hc : ∀ c ∈ l, c ∈ ss) : okF ss n (some l) = true := by
  unfold okF isM
  exact Bool.and_eq_true_iff.mpr ⟨List.all_eq_true.mpr fun c h => decide_eq_true (hc c h), decide_eq_true h⟩
theorem Sit.asked {K : PySem.W.Frag} {CT CF : Addr} {H : Hp} {T : Tr} {S E : List Nat} {tv : V} (h : Sit CT H T S E tv) {Er : XK} {good : Fo → Prop} (q : good (Tr.fo T (eF E) (Tr.fn S))) : Asked K CT CF H tv (sV S) (sV E) Er good := by
  have m64 := h.tree.m64
  have e1 := okF_mk h.slen h.scod
  have e2 := okF_mk (ss := [76, 82]) h.elen fun c hc => by simpa using h.ecod c hc
  refine ⟨T, some S, some E, h.tree, .str S (by have := h.slen; omega), .str E (by have := h.elen; omega), fun b => ?_, fun _ b => ?_, fun S' Z' a1 a2 _ _ => ?_⟩
  · rw [e1] at b; cases b
  · rw [e2] at b; cases b
  · cases a1; cases a2; exact q
theorem fo_len {T : Tr} {e : Nat → Nat} {f : Nat → Nat} (m64 : T.m ≤ 64) : (Tr.fo T e f).ns.length < 64 := by
  have nl := Tr.need_lt (e := e) (S := f) T
  show (Tr.need T e f).length < 64
  omega
theorem dp_nVs {K : PySem.W.Frag} {H : Hp} : ∀ l : List Nat, DpAll K H (l.map nV) (l.map fun c : Nat => PyData.int (c : Int))
  | [] => .nil
  | c :: l => .cons (.int _) (dp_nVs l)
theorem lay_nVs : ∀ l : List Nat, PyData.canLayAll0 (l.map fun c : Nat => PyData.int (c : Int)) = true
  | [] => rfl
  | c :: l => by
    show (PyData.canLay0 (.int (c : Int)) && PyData.canLayAll0 (l.map fun c : Nat => PyData.int (c : Int))) = true
    rw [lay_nVs l]; rfl
theorem dep_nVs : ∀ l : List Nat, PyData.depthAll (l.map fun c : Nat => PyData.int (c : Int)) = 0
  | [] => rfl
  | c :: l => by
    show max (PyData.depth (.int (c : Int))) (PyData.depthAll (l.map fun c : Nat => PyData.int (c : Int))) = 0
    rw [dep_nVs l]; rfl
/-- two lists of the same numbers are equal -/
theorem eqD_row {K : PySem.W.Frag} {H : Hp} {Q : VK} {a b : Addr} {row : List Nat} (ha : H a = some (.lst (row.map nV))) (hb : H b = some (.lst (row.map nV))) (q : Q (.bl true) H) : rEqD K (.ref a) (.ref b) H Q := by
  have lay : PyData.canLay0 (.list (row.map fun c : Nat => PyData.int (c : Int))) = true := lay_nVs row
  have sh : SeqAt.shaped (.list (row.map fun c : Nat => PyData.int (c : Int))) = true := Bool.and_eq_true_iff.mpr ⟨lay, decide_eq_true (by simp only [PyData.depth]; rw [dep_nVs]; omega)⟩
  refine ⟨_, _, .lst (SqL.of ha) (dp_nVs row), .lst (SqL.of hb) (dp_nVs row), sh, sh, ?_⟩
  rw [PySem.SeqAt.eqv_refl _ lay]
  exact q
section
variable {P : Program} {w : World} {K : PySem.W.Frag} {mg : Str → Option Value} {base : Heap}
theorem ord_row {H : Hp} {F : Fo} {a : Addr} {row : List Nat} (ha : H a = some (.lst (row.map nV))) (ok : Ok F F.ns row) : OrdA K H F (.ref a) true := by
  have := OrdA.lst (K := K) (F := F) ha fun y hy => by
    obtain ⟨n, _, rfl⟩ := List.mem_map.mp hy
    exact ⟨_, .int _⟩
  rw [isOrd_ok ok] at this
  exact this
def spRd (CT : Addr) : Sp := fun vs H Q _ => ∃ (T : Tr) (S E : List Nat) (tv : V) (a : Addr) (row : List Nat), vs = [tv, sV S, sV E, .ref a, nV (rankF (Tr.fo T (eF E) (Tr.fn S)) (Tr.fo T (eF E) (Tr.fn S)).ns row)] ∧ Sit CT H T S E tv ∧
  H a = some (.lst (row.map nV)) ∧ Ok (Tr.fo T (eF E) (Tr.fn S)) (Tr.fo T (eF E) (Tr.fn S)).ns row ∧ ∀ H' : Hp, Same H H' → Q (.bl true) H'
theorem ok_law_read {CT CF CS : Addr} (T : Tb mg) (F : Df K mg "_law_read" s__law_read) (c_hit_plan_rank : Cl P w K mg base 6 "hit_plan_rank" (spHR K CT CF CS)) (c_is_hit_plan : Cl P w K mg base 6 "is_hit_plan" (spHI K CT CF))
    (c__law_is_integer : Cl P w K mg base 1 "_law_is_integer" (spII K)) : Cl P w K mg base 7 "_law_read" (spRd CT) := by
  refine cl_mk F sc__law_read (fun vs H Q E h => ?_) (fun _ _ _ _ _ _ us hl => match us, hl with | [_, _, _, _, _], _ => rfl) (fun f cdv A outer s H vs Q E hr h => ?_)
  · obtain ⟨_, _, _, _, _, _, rfl, _⟩ := h; rfl
  · have hu := hu_of hr
    obtain ⟨Tt, S, Z, tv, a, row, rfl, hs, ha, hok, q⟩ := h
    refine ⟨_, PSs.nox (pss_cons (ps_set (i := 5) sc__law_read.nd rfl (Or.inl rfl) (pe_callTy call_list_of (by rfl) T.n_list (by decide +kernel) (pa_cons (pv 3) pa_nil)))
    (pss_cons (ps_set (i := 6) sc__law_read.nd rfl (Or.inl rfl) (pe_cl c_hit_plan_rank hr (by decide) rfl (pa_cons (pv 0) (pa_cons (pv 1) (pa_cons (pv 2) (pa_cons (pv 5) pa_nil))))))
    (pss_cons (ps_if (PW.pt (pw_or (pt_not (pt_val (pe_cl c__law_is_integer hr (by decide) rfl (pa_cons (pv 6) pa_nil)))) (pw_or1 (pt_cmpR op_ne (pv 6) (pv 4) (nomark _)))))
      (pss_one (ps_ret pe_bl))
      pss_nil)
    (pss_one (ps_ret (pe_and (pe_cmpR op_is_bl (pe_cl c_is_hit_plan hr (by decide) rfl (pa_cons (pv 0) (pa_cons (pv 1) (pa_cons (pv 2) (pa_cons (pv 5) pa_nil))))) pe_bl (nomark _)) (pe_one (pe_cmpR (op_eqD hr.units) (pv 5) (pv 3) (nomark _))))))))), ?_⟩
    have h64 := fo_len (e := eF Z) (f := Tr.fn S) hs.tree.m64
    have hrl : row.length ≤ 1000 := by have := hok.perm.length_eq; omega
    refine ⟨_, rfl, a, _, rfl, .inl (SqL.of ha), fun p hp => ?_⟩
    have s1 := (Same.refl H).new (o := .lst (row.map nV)) hp
    have hp1 : upd H p (.lst (row.map nV)) p = some (.lst (row.map nV)) := upd_same
    generalize upd H p (.lst (row.map nV)) = H1 at s1 hp1
    refine ⟨_, rfl, _, rfl, _, rfl, _, rfl, tv, _, _, _, rfl, (hs.same s1).asked ⟨true, ord_row hp1 hok, fun a' row' ea h1 _ H2 s2 => ?_, fun b => by cases b⟩⟩
    obtain rfl := V.ref.inj ea
    have e' := map_nV_inj (HO.lst.inj (Option.some.inj (h1.symm.trans hp1)))
    subst e'
    refine ⟨_, rfl, _, true, rfl, .int _, ?_⟩
    refine ⟨_, rfl, _, rfl, _, rfl, rfl, _, rfl, ifF (by simp) ?_⟩
    refine ⟨_, rfl, _, rfl, _, rfl, _, rfl, tv, _, _, _, rfl, ((hs.same s1).same s2).asked ⟨true, ord_row (s2 _ _ hp1) hok, fun H3 s3 => ?_⟩⟩
    refine ⟨_, _, rfl, rfl, _, rfl, ifT (by simp) ?_⟩
    exact ⟨_, rfl, _, rfl, eqD_row (s3 _ _ (s2 _ _ hp1)) (s3 _ _ (s2 _ _ (s1 _ _ ha))) (q _ ((s1.trans s2).trans s3))⟩
end
end K22
set_option Elab.async false
set_option linter.all false
set_option maxRecDepth 100000
set_option maxHeartbeats 4000000
namespace K22
open PySem PySem.Spec PyProof.Rows L2
theorem ok_at {F : Fo} {r : Nat} {row : List Nat} (h : (ords F F.ns)[r]? = some row) : Ok F F.ns row ∧ rankF F F.ns row = r :=
  ⟨(ok_iff _ rfl F.upNs).mp (List.mem_of_getElem? h), rank_of _ rfl F.upNs h⟩
theorem runs_to {T : Tr} {S E row : List Nat} (hS : S.length = T.m - 1) (hE : E.length = T.m - 1) (hLR : LRs E) (ok : Ok (Tr.fo T (eF E) (Tr.fn S)) (Tr.fo T (eF E) (Tr.fn S)).ns row) : Tr.runL T S row = E := by
  have he := eF_LR hLR
  have hfe : ∀ f, f + 1 < T.m → eF E f = Tr.fn E f := fun f hf => by
    have h1 := eF_at (E := E) (f := f) (by omega)
    unfold Tr.fn
    rw [List.getD_eq_getElem?_getD, h1]; rfl
  exact (Tr.runL_iff (T := T) (E := E) (st := S) (row := row) hE hS (fun f hf => by rw [← hfe f hf]; exact he f) (eF E) hfe he (fun u hu => Tr.fo_lt u (ok.mem u hu)) ok.perm.length_eq).mpr (ok_okR ok)
theorem notbad {r n : Nat} (h : r < n) : ¬(okN (nV r) = false ∨ ∃ k, nV r = nV k ∧ n ≤ k) := by
  rintro (h1 | ⟨k, e, hk⟩)
  · have : okN (nV r) = true := decide_eq_true (Int.natCast_nonneg r)
    rw [this] at h1; cases h1
  · have := nV_inj.mp e
    omega
section
variable {P : Program} {w : World} {K : PySem.W.Frag} {mg : Str → Option Value} {base : Heap}
abbrev spJd (K : PySem.W.Frag) : Sp := fun vs H Q _ => ∃ (F : Fo) (pa : Addr) (x : V) (b : Bool), vs = [x, .ref pa] ∧ H pa = some (ParD F) ∧ F.ns.length < 64 ∧ OrdA K H F x b ∧ ∀ H' : Hp, Same H H' → Q (.bl b) H'
def spAt (CT : Addr) : Sp := fun vs H Q _ => ∃ (T : Tr) (S E : List Nat) (tv wv : V) (hd : Addr) (r : Nat), vs = [tv, sV S, sV E, wv, .ref hd, nV r] ∧ Sit CT H T S E tv ∧ Lw H T E wv ∧
  H hd = some (ParD (Tr.fo T (eF E) (Tr.fn S))) ∧ r < oc (Tr.fo T (eF E) (Tr.fn S)) (Tr.fo T (eF E) (Tr.fn S)).ns ∧ ∀ H' : Hp, Same H H' → Q (.bl true) H'
theorem ok_law_at {CT CF CN : Addr} (T : Tb mg) (F : Df K mg "_law_at" s__law_at) (c_hit_plan_at : Cl P w K mg base 6 "hit_plan_at" (spHA K CT CF CN)) (c__law_judged : Cl P w K mg base 2 "_law_judged" (spJd K))
    (c__law_rank : Cl P w K mg base 3 "_law_rank" spLr) (c__law_same : Cl P w K mg base 2 "_law_same" spSame) (c__law_hit : Cl P w K mg base 1 "_law_hit" spHit) (c__law_read : Cl P w K mg base 7 "_law_read" (spRd CT)) : Cl P w K mg base 8 "_law_at" (spAt CT) := by
  refine cl_mk F sc__law_at (fun vs H Q E h => ?_) (fun _ _ _ _ _ _ us hl => match us, hl with | [_, _, _, _, _, _], _ => rfl) (fun f cdv A outer s H vs Q E hr h => ?_)
  · obtain ⟨_, _, _, _, _, _, _, rfl, _⟩ := h; rfl
  · have hu := hu_of hr
    obtain ⟨Tt, S, Z, tv, wv, hd, r, rfl, hs, hLw, hhd, hrlt, q⟩ := h
    refine ⟨_, PSs.nox (pss_cons (ps_set (i := 6) sc__law_at.nd rfl (Or.inl rfl) (pe_cl c_hit_plan_at hr (by decide) rfl (pa_cons (pv 0) (pa_cons (pv 1) (pa_cons (pv 2) (pa_cons (pv 5) pa_nil))))))
    (pss_cons (ps_if (PW.pt (pw_or (pt_not (pt_val (pe_cl c__law_judged hr (by decide) rfl (pa_cons (pv 6) (pa_cons (pv 4) pa_nil))))) (pw_or1 (pt_cmpR op_ne (pe_cl c__law_rank hr (by decide) rfl (pa_cons (pv 6) (pa_cons (pv 4) pa_nil))) (pv 5) (nomark _)))))
      (pss_one (ps_ret pe_bl))
      pss_nil)
    (pss_cons (ps_set (i := 7) sc__law_at.nd rfl (Or.inl rfl) (pe_callTy call_list_of (by rfl) T.n_list (by decide +kernel) (pa_cons (pv 6) pa_nil)))
    (pss_cons (ps_expr (pe_bm0 PySem.F.plainAttrs_list PySem.F.slot_list_reverse PySem.F.type_list_reverse mt_reverse (pv 6)))
    (pss_cons (ps_expr (pe_bm PySem.F.plainAttrs_list PySem.F.slot_list_append PySem.F.type_list_append mt_append (pv 6) (pa_cons (pe_un un_neg pe_int) pa_nil)))
    (pss_cons (ps_if (pt_not (pt_val (pe_cl c__law_same hr (by decide) rfl (pa_cons (pe_cl c_hit_plan_at hr (by decide) rfl (pa_cons (pv 0) (pa_cons (pv 1) (pa_cons (pv 2) (pa_cons (pv 5) pa_nil))))) (pa_cons (pv 7) pa_nil)))))
      (pss_one (ps_ret pe_bl))
      pss_nil)
    (pss_cons (ps_set (i := 8) sc__law_at.nd rfl (Or.inl rfl) (pv 1))
    (pss_cons (ps_for PassesOwn.never rfl (pi_list (pv 7)) (pg_name (i := 9) sc__law_at.nd rfl (Or.inl rfl))
      (pss_one (ps_set (i := 8) sc__law_at.nd rfl (Or.inl rfl) (pe_cl c__law_hit hr (by decide) rfl (pa_cons (pv 8) (pa_cons (pe_ix ix_list (pv 3) (pv 9) (fun _ _ => rfl)) pa_nil))))))
    (pss_one (ps_ret (pe_and (pe_cmpR op_eq (pv 8) (pv 2) (nomark _)) (pe_one (pe_cl c__law_read hr (by decide) rfl (pa_cons (pv 0) (pa_cons (pv 1) (pa_cons (pv 2) (pa_cons (pv 7) (pa_cons (pv 5) pa_nil)))))))))))))))))), ?_⟩
    have h64 := fo_len (e := eF Z) (f := Tr.fn S) hs.tree.m64
    obtain ⟨row, hrow⟩ : ∃ row, (ords (Tr.fo Tt (eF Z) (Tr.fn S)) (Tr.fo Tt (eF Z) (Tr.fn S)).ns)[r]? = some row := ⟨_, List.getElem?_eq_getElem hrlt⟩
    obtain ⟨hok, hrk⟩ := ok_at hrow
    have hrl : row.length < 64 := by have := hok.perm.length_eq; omega
    have hrun := runs_to hs.slen hs.elen hs.ecod hok
    have hin : ∀ u ∈ row, u < Tt.m := fun u hu => Tr.fo_lt u (hok.mem u hu)
    generalize hF : Tr.fo Tt (eF Z) (Tr.fn S) = F at *
    refine ⟨_, rfl, _, rfl, _, rfl, _, rfl, tv, _, _, nV r, true, rfl, .int _, hs.asked ?_⟩
    rw [hF]
    refine ⟨fun r' row' er erow H1 a s1 ha0 ha1 => ?_, fun bad => ?_⟩
    rotate_left
    · exact absurd bad (notbad hrlt)
    cases nV_inj.mp er
    rw [hrow] at erow
    cases erow
    have hd1 := s1 _ _ hhd
    refine ⟨_, rfl, _, rfl, _, hd, .ref a, true, rfl, hd1, h64, ord_row ha1 hok, fun H2 s2 => ?_⟩
    refine ⟨_, rfl, ?_⟩
    refine ⟨_, rfl, _, rfl, _, a, hd, row, rfl, s2 _ _ ha1, s2 _ _ hd1, h64, hok, fun H3 s3 => ?_⟩
    have ha3 := s3 _ _ (s2 _ _ ha1)
    have hd3 := s3 _ _ (s2 _ _ hd1)
    have s13 := (s1.trans s2).trans s3
    rw [hrk]
    refine ⟨_, rfl, rfl, _, rfl, ifF (by simp) ?_⟩
    refine ⟨_, rfl, a, _, rfl, .inl (SqL.of ha3), fun p hp => ?_⟩
    have nap : a ≠ p := ne_of_none ha3 hp
    have k4 := s13.new (o := .lst (row.map nV)) hp
    have hp4 : upd H3 p (.lst (row.map nV)) p = some (.lst (row.map nV)) := upd_same
    have ha4 : upd H3 p (.lst (row.map nV)) a = some (.lst (row.map nV)) := by rw [upd_ne nap]; exact ha3
    generalize upd H3 p (.lst (row.map nV)) = H4 at k4 hp4 ha4
    refine ⟨_, rfl, .inl ⟨rfl, _, SqL.of ha4⟩, a, _, rfl, rfl, ha4, ?_⟩
    have k5 := k4.put (o := .lst (row.map nV).reverse) ha0
    have hp5 : upd H4 a (.lst (row.map nV).reverse) p = some (.lst (row.map nV)) := by rw [upd_ne nap.symm]; exact hp4
    have ha5 : upd H4 a (.lst (row.map nV).reverse) a = some (.lst (row.map nV).reverse) := upd_same
    generalize upd H4 a (.lst (row.map nV).reverse) = H5 at k5 hp5 ha5
    refine ⟨_, rfl, .inl ⟨rfl, _, SqL.of ha5⟩, 1, rfl, a, _, _, rfl, rfl, ha5, by rw [List.length_reverse, List.length_map]; exact small100 (by omega), ?_⟩
    have k6 := k5.put (o := .lst ((row.map nV).reverse ++ [.int (-1)])) ha0
    have hp6 : upd H5 a (.lst ((row.map nV).reverse ++ [.int (-1)])) p = some (.lst (row.map nV)) := by rw [upd_ne nap.symm]; exact hp5
    generalize upd H5 a (.lst ((row.map nV).reverse ++ [.int (-1)])) = H6 at k6 hp6
    refine ⟨_, rfl, _, rfl, _, rfl, _, rfl, tv, _, _, nV r, true, rfl, .int _, (hs.same k6).asked ?_⟩
    rw [hF]
    refine ⟨fun r' row' er erow H7 c s7 hc0 hc7 => ?_, fun bad => absurd bad (notbad hrlt)⟩
    cases nV_inj.mp er
    rw [hrow] at erow
    cases erow
    have hp7 := s7 _ _ hp6
    have k7 := k6.trans s7
    refine ⟨_, rfl, c, p, row, row, rfl, hc7, hp7, by omega, ?_⟩
    refine ⟨_, rfl, ifF (by simp) ?_⟩
    refine ⟨_, rfl, ?_⟩
    obtain ⟨⟨wa, ws, rfl, hwa, hws⟩, hE, hLR, m64⟩ := id hLw
    have hwa7 := k7 _ _ hwa
    refine ⟨_, rfl, p, rfl, ⟨_, SqL.of hp7⟩, ?_⟩
    refine for_pre (wf_list (K := K) (a := p) row nV) (fun pre σ H' => ∃ v9, σ = [some tv, some (sV S), some (sV Z), some (.ref wa), some (.ref hd), some (nV r), some (.ref a), some (.ref p), some (sV (Tr.runL Tt S pre)), v9] ∧ H' = H7) ?_ ?_ ?_ ?_
    · exact ⟨none, rfl, rfl⟩
    · rintro pre σ H' ⟨v9, rfl, rfl⟩
      exact SqL.of hp7
    · rintro pre u post σ H' e ⟨v9, rfl, rfl⟩
      have hu1 := hin u (by rw [e]; simp)
      obtain ⟨wv, hwv, hway⟩ := hws.at_ (waysOf_at hu1)
      have hrl2 := Tr.runL_len Tt pre S
      refine ⟨_, rfl, _, rfl, _, rfl, wa, ws, ((u : Nat) : Int), wv, rfl, rfl, SqL.of hwa7, atI_nat hwv, Tr.runL Tt S pre, wv, Tr.way 0 Tt u, rfl, hway.same k7, fun x hx => ?_, by rw [hrl2, hs.slen]; omega, ?_⟩
      · have := Tr.way_in Tt 0 u (Nat.zero_le _) (by omega) x hx
        rw [hrl2, hs.slen]; omega
      · rw [← runL_snoc]
        exact ⟨_, rfl, rfl⟩
    · rintro σ H' ⟨v9, rfl, rfl⟩
      rw [hrun]
      refine ⟨_, rfl, _, rfl, rfl, _, rfl, ifT (by simp) ?_⟩
      subst hF
      exact ⟨_, rfl, _, rfl, _, rfl, _, rfl, _, rfl, Tt, S, Z, tv, p, row, by rw [hrk]; rfl, hs.same k7, hp7, hok, fun H' s' => q H' (k7.trans s')⟩
end
end K22
set_option Elab.async false
set_option linter.all false
set_option maxRecDepth 100000
set_option maxHeartbeats 4000000
namespace K22
open PySem PySem.Spec PyProof.Rows L2
theorem m5_pow {m n : Nat} (hm : m ≤ 5) (hn : n ≤ 4) : m ^ n ≤ 625 := Nat.le_trans (Nat.pow_le_pow_left hm n) (Nat.le_trans (Nat.pow_le_pow_right (by decide) hn) (by decide))
theorem oc_le (F : Fo) : oc F F.ns ≤ Fo.fac F.ns.length := by
  have hk := Fo.hook F.ns.length F.ns F.upNs rfl
  have h1 : 1 ≤ Fo.hooks F F.ns := Fo.P_pos fun v hv => Fo.sz_pos F.upNs hv
  rw [← hk]
  exact Nat.le_mul_of_pos_right _ h1
theorem fac_mono {a : Nat} : ∀ {b : Nat}, a ≤ b → Fo.fac a ≤ Fo.fac b
  | 0, h => by rw [show a = 0 by omega]; exact Nat.le_refl _
  | b + 1, h => by
    by_cases c : a = b + 1
    · rw [c]; exact Nat.le_refl _
    · have := fac_mono (a := a) (b := b) (by omega)
      show _ ≤ (b + 1) * Fo.fac b
      exact Nat.le_trans this (Nat.le_mul_of_pos_left _ (by omega))
section
variable {P : Program} {w : World} {K : PySem.W.Frag} {mg : Str → Option Value} {base : Heap}
def spLi (CT : Addr) : Sp := fun vs H Q _ => ∃ (T : Tr) (S E : List Nat) (tv wv : V) (hd : Addr), vs = [tv, sV S, sV E, wv, .ref hd] ∧ Sit CT H T S E tv ∧ Lw H T E wv ∧ T.m ≤ 5 ∧
  H hd = some (ParD (Tr.fo T (eF E) (Tr.fn S))) ∧ ∀ H' : Hp, Same H H' → Q (.bl true) H'
theorem ok_law_listed {CT CF CN : Addr} (T : Tb mg) (F : Df K mg "_law_listed" s__law_listed) (c_hit_plan_at : Cl P w K mg base 6 "hit_plan_at" (spHA K CT CF CN)) (c_hit_plan_count : Cl P w K mg base 6 "hit_plan_count" (spHC K CT CF))
    (c__law_rows : Cl P w K mg base 2 "_law_rows" spRw) (c__law_same : Cl P w K mg base 2 "_law_same" spSame) (c__law_read : Cl P w K mg base 7 "_law_read" (spRd CT)) : Cl P w K mg base 8 "_law_listed" (spLi CT) := by
  refine cl_mk F sc__law_listed (fun vs H Q E h => ?_) (fun _ _ _ _ _ _ us hl => match us, hl with | [_, _, _, _, _], _ => rfl) (fun f cdv A outer s H vs Q E hr h => ?_)
  · obtain ⟨_, _, _, _, _, _, rfl, _⟩ := h; rfl
  · have hu := hu_of hr
    obtain ⟨Tt, S, Z, tv, wv, hd, rfl, hs, hLw, m5, hhd, q⟩ := h
    refine ⟨_, PSs.nox (pss_cons (ps_set (i := 5) sc__law_listed.nd rfl (Or.inl rfl) (pe_cl c__law_rows hr (by decide) rfl (pa_cons (pv 1) (pa_cons (pv 2) (pa_cons (pv 3) (pa_cons (pe_callB call_lenD (by rfl) T.n_len (by decide +kernel) (pa_cons (pv 4) pa_nil)) pa_nil))))))
    (pss_cons (ps_if (pt_cmpR op_ne (pe_cl c_hit_plan_count hr (by decide) rfl (pa_cons (pv 0) (pa_cons (pv 1) (pa_cons (pv 2) pa_nil)))) (pe_callB call_len_seq (by rfl) T.n_len (by decide +kernel) (pa_cons (pv 5) pa_nil)) (nomark _))
      (pss_one (ps_ret pe_bl))
      pss_nil)
    (pss_cons (ps_for PassesOwn.never rfl (pi_range1 (by rfl) T.n_range (pa_cons (pe_callB call_len_seq (by rfl) T.n_len (by decide +kernel) (pa_cons (pv 5) pa_nil)) pa_nil)) (pg_name (i := 6) sc__law_listed.nd rfl (Or.inl rfl))
      (pss_cons (ps_if (pt_not (pt_val (pe_cl c__law_same hr (by decide) rfl (pa_cons (pe_cl c_hit_plan_at hr (by decide) rfl (pa_cons (pv 0) (pa_cons (pv 1) (pa_cons (pv 2) (pa_cons (pv 6) pa_nil))))) (pa_cons (pe_ix ix_list (pv 5) (pv 6) (fun _ _ => rfl)) pa_nil)))))
        (pss_one (ps_ret pe_bl))
        pss_nil)
      (pss_one (ps_if (pt_not (pt_val (pe_cl c__law_read hr (by decide) rfl (pa_cons (pv 0) (pa_cons (pv 1) (pa_cons (pv 2) (pa_cons (pe_ix ix_list (pv 5) (pv 6) (fun _ _ => rfl)) (pa_cons (pv 6) pa_nil))))))))
        (pss_one (ps_ret pe_bl))
        pss_nil))))
    (pss_one (ps_ret pe_bl))))), ?_⟩
    have h64 := fo_len (e := eF Z) (f := Tr.fn S) hs.tree.m64
    have hnl := Tr.need_lt (e := eF Z) (S := Tr.fn S) Tt
    have hns : (Tr.fo Tt (eF Z) (Tr.fn S)).ns.length ≤ 4 := by
      show (Tr.need Tt (eF Z) (Tr.fn S)).length ≤ 4
      omega
    refine ⟨_, rfl, _, rfl, _, rfl, _, rfl, hd, _, rfl, hhd, Tt, S, Z, wv, by rw [dmap_len]; rfl, hs.slen, hLw, m5, fun H1 ra rs s1 ra0 hra hall => ?_⟩
    have hol : rs.length = oc (Tr.fo Tt (eF Z) (Tr.fn S)) (Tr.fo Tt (eF Z) (Tr.fn S)).ns := hall.len
    refine ⟨_, rfl, _, rfl, _, rfl, tv, _, _, rfl, (hs.same s1).asked fun H2 s2 => ?_⟩
    have hra2 := s2 _ _ hra
    refine ⟨_, rfl, ra, rs, rfl, .inl (SqL.of hra2), ?_⟩
    refine ⟨rfl, _, rfl, ifF (by rw [hol]; show (!decide (nV _ = nV _)) = false; simp) ?_⟩
    have hbd : rs.length ≤ 1000 := by rw [hol]; exact Nat.le_trans (oc_le _) (Nat.le_trans (fac_mono hns) (by decide))
    refine ⟨_, rfl, ra, rs, rfl, .inl (SqL.of hra2), (rs.length : Int), rfl, by omega, by omega, ?_⟩
    rw [Int.toNat_natCast]
    have s02 := s1.trans s2
    refine for_pre (wf_range rs.length) (fun pre σ H' => ∃ v6, σ = [some tv, some (sV S), some (sV Z), some wv, some (.ref hd), some (.ref ra), v6] ∧ Same H2 H') ?_ ?_ ?_ ?_
    · exact ⟨none, rfl, Same.refl _⟩
    · intro _ _ _ _; trivial
    · rintro pre r post σ H3 e ⟨v6, rfl, s3⟩
      obtain ⟨ep, hn⟩ := range_split e
      obtain ⟨row, hrow⟩ : ∃ row, (ords (Tr.fo Tt (eF Z) (Tr.fn S)) (Tr.fo Tt (eF Z) (Tr.fn S)).ns)[r]? = some row := ⟨_, List.getElem?_eq_getElem (by rw [hol] at hn; exact hn)⟩
      have hrlt : r < oc (Tr.fo Tt (eF Z) (Tr.fn S)) (Tr.fo Tt (eF Z) (Tr.fn S)).ns := by rw [← hol]; exact hn
      obtain ⟨hok, hrk⟩ := ok_at hrow
      have hrl : row.length < 64 := by have := hok.perm.length_eq; omega
      obtain ⟨v, hv, b, rfl, hb⟩ := hall.at_ hrow
      have s03 := s02.trans s3
      refine ⟨_, rfl, _, rfl, _, rfl, _, rfl, tv, _, _, nV r, true, rfl, .int _, (hs.same s03).asked ⟨fun r' row' er erow H4 c s4 hc0 hc4 => ?_, fun bad => absurd bad (notbad hrlt)⟩⟩
      cases nV_inj.mp er
      rw [hrow] at erow
      cases erow
      have hra4 := s4 _ _ (s3 _ _ hra2)
      have hb4 := s4 _ _ (s3 _ _ (s2 _ _ hb))
      refine ⟨_, rfl, _, rfl, ra, rs, ((r : Nat) : Int), .ref b, rfl, rfl, SqL.of hra4, atI_nat hv, c, b, row, row, rfl, hc4, hb4, by omega, ?_⟩
      refine ⟨_, rfl, ifF (by simp) ?_⟩
      refine ⟨_, rfl, _, rfl, _, rfl, _, rfl, _, rfl, ra, rs, ((r : Nat) : Int), .ref b, rfl, rfl, SqL.of hra4, atI_nat hv, _, rfl, Tt, S, Z, tv, b, row, by rw [hrk]; rfl, hs.same (s03.trans s4), hb4, hok, fun H5 s5 => ?_⟩
      exact ⟨_, rfl, ifF (by simp) ⟨_, rfl, (s3.trans s4).trans s5⟩⟩
    · rintro σ H3 ⟨v6, rfl, s3⟩
      exact q H3 (s02.trans s3)
end
end K22
set_option Elab.async false
set_option linter.all false
set_option maxRecDepth 100000
set_option maxHeartbeats 4000000
namespace K22
open PySem PySem.Spec PyProof.Rows L2
section
variable {P : Program} {w : World} {K : PySem.W.Frag} {mg : Str → Option Value} {base : Heap}
def spCo (CT : Addr) : Sp := fun vs H Q _ => ∃ (T : Tr) (S E : List Nat) (tv wv : V), vs = [tv, sV S, sV E, wv] ∧ Sit CT H T S E tv ∧ Lw H T E wv ∧ ∀ H' : Hp, Same H H' → Q (.bl true) H'
theorem ok_law_counts {CT CF CN : Addr} (T : Tb mg) (F : Df K mg "_law_counts" s__law_counts) (c_hit_plan_at : Cl P w K mg base 6 "hit_plan_at" (spHA K CT CF CN)) (c_hit_plan_count : Cl P w K mg base 6 "hit_plan_count" (spHC K CT CF))
    (c__law_hung : Cl P w K mg base 4 "_law_hung" spHu) (c__law_count : Cl P w K mg base 2 "_law_count" spLc) (c__law_rank : Cl P w K mg base 3 "_law_rank" spLr) (c__law_judged : Cl P w K mg base 2 "_law_judged" (spJd K)) (c__law_is_integer : Cl P w K mg base 1 "_law_is_integer" (spII K)) : Cl P w K mg base 7 "_law_counts" (spCo CT) := by
  refine cl_mk F sc__law_counts (fun vs H Q E h => ?_) (fun _ _ _ _ _ _ us hl => match us, hl with | [_, _, _, _], _ => rfl) (fun f cdv A outer s H vs Q E hr h => ?_)
  · obtain ⟨_, _, _, _, _, rfl, _⟩ := h; rfl
  · have hu := hu_of hr
    obtain ⟨Tt, S, Z, tv, wv, rfl, hs, hLw, q⟩ := h
    refine ⟨_, PSs.nox (pss_cons (ps_for PassesOwn.never rfl (pi_list (pe_lst (pa_cons (pv 1) (pa_cons (pe_op op_rep_str pe_str (pe_callB call_len_str (by rfl) T.n_len (by decide +kernel) (pa_cons (pv 2) pa_nil))) (pa_cons (pv 1) pa_nil))))) (pg_name (i := 4) sc__law_counts.nd rfl (Or.inl rfl))
      (pss_cons (ps_set (i := 5) sc__law_counts.nd rfl (Or.inl rfl) (pe_cl c__law_hung hr (by decide) rfl (pa_cons (pv 4) (pa_cons (pv 2) (pa_cons (pv 3) pa_nil)))))
      (pss_cons (ps_set (i := 6) sc__law_counts.nd rfl (Or.inl rfl) (pe_cl c_hit_plan_count hr (by decide) rfl (pa_cons (pv 0) (pa_cons (pv 4) (pa_cons (pv 2) pa_nil)))))
      (pss_cons (ps_if (PW.pt (pw_or (pt_not (pt_val (pe_cl c__law_is_integer hr (by decide) rfl (pa_cons (pv 6) pa_nil)))) (pw_or1 (pt_cmpR op_ne (pv 6) (pe_cl c__law_count hr (by decide) rfl (pa_cons (pv 5) pa_nil)) (nomark _)))))
        (pss_one (ps_ret pe_bl))
        pss_nil)
      (pss_one (ps_if (pt_cmpR op_lt (pe_callB call_len_seq (by rfl) T.n_len (by decide +kernel) (pa_cons (pv 3) pa_nil)) pe_int (nomark _))
        (pss_cons (ps_set (i := 7) sc__law_counts.nd rfl (Or.inl rfl) (pe_cl c_hit_plan_at hr (by decide) rfl (pa_cons (pv 0) (pa_cons (pv 4) (pa_cons (pv 2) (pa_cons (pe_op op_sub (pv 6) pe_int) pa_nil))))))
        (pss_one (ps_if (PW.pt (pw_or (pt_not (pt_val (pe_cl c__law_judged hr (by decide) rfl (pa_cons (pv 7) (pa_cons (pv 5) pa_nil))))) (pw_or1 (pt_cmpR op_ne (pe_cl c__law_rank hr (by decide) rfl (pa_cons (pv 7) (pa_cons (pv 5) pa_nil))) (pe_op op_sub (pv 6) pe_int) (nomark _)))))
          (pss_one (ps_ret pe_bl))
          pss_nil)))
        pss_nil))))))
    (pss_one (ps_ret pe_bl))), ?_⟩
    have m64 := hLw.m64
    have hZl := hs.elen
    have hSl := hs.slen
    have hZL : (sL Z).length ≤ sizeLine := by rw [sL_len]; exact Nat.le_of_lt (small100 (by omega))
    refine ⟨_, rfl, _, rfl, sL Z, rfl, hZL, 63, Z.length, by decide +kernel, by rw [sL_len]; rfl, by omega, _, rfl, (show 3 ≤ sizeLine by decide), fun p hp => ?_⟩
    have s1 := (Same.refl H).new (o := .lst ([S, List.replicate Z.length 63, S].map sV)) hp
    have hp1 : upd H p (.lst ([S, List.replicate Z.length 63, S].map sV)) p = some (.lst ([S, List.replicate Z.length 63, S].map sV)) := upd_same
    refine ⟨p, rfl, ⟨_, SqL.of upd_same⟩, ?_⟩
    refine for_pre (wf_list (K := K) (a := p) [S, List.replicate Z.length 63, S] sV) (fun pre σ H' => ∃ v4 v5 v6 v7 : Option V, σ = [some tv, some (sV S), some (sV Z), some wv, v4, v5, v6, v7] ∧ Same (upd H p (.lst ([S, List.replicate Z.length 63, S].map sV))) H') ?_ ?_ ?_ ?_
    · exact ⟨none, none, none, none, rfl, Same.refl _⟩
    · rintro pre σ H' ⟨_, _, _, _, rfl, s2⟩
      exact SqL.of (s2 _ _ hp1)
    · rintro pre X post σ H2 e ⟨_, _, _, _, rfl, s2⟩
      generalize upd H p (.lst ([S, List.replicate Z.length 63, S].map sV)) = H1 at s1 hp1 s2
      have s12 := s1.trans s2
      have hX : X.length = Tt.m - 1 ∧ ∀ c ∈ X, c ∈ [76, 82, 63] := by
        have hm : X ∈ [S, List.replicate Z.length 63, S] := by rw [e]; simp
        rcases List.mem_cons.mp hm with rfl | hm
        · exact ⟨hSl, hs.scod⟩
        rcases List.mem_cons.mp hm with rfl | hm
        · refine ⟨by rw [List.length_replicate]; exact hZl, fun c hc => ?_⟩
          rw [(List.mem_replicate.mp hc).2]; simp
        · rw [List.mem_singleton.mp hm]
          exact ⟨hSl, hs.scod⟩
      have hsX : Sit CT H2 Tt X Z tv := ⟨(hs.same s12).tree, hX.1, hX.2, hZl, hs.ecod⟩
      have h64 := fo_len (e := eF Z) (f := Tr.fn X) hs.tree.m64
      refine ⟨_, rfl, _, rfl, _, rfl, Tt, X, Z, wv, rfl, hX.1, hLw.same s12, fun H3 d s3 hd0 hd3 => ?_⟩
      refine ⟨_, rfl, _, rfl, _, rfl, tv, _, _, rfl, (hsX.same s3).asked fun H4 s4 => ?_⟩
      refine ⟨_, rfl, _, true, rfl, .int _, ?_⟩
      refine ⟨_, rfl, _, rfl, _, rfl, Tr.fo Tt (eF Z) (Tr.fn X), d, rfl, s4 _ _ hd3, h64, fun H5 s5 => ?_⟩
      have hd5 := s5 _ _ (s4 _ _ hd3)
      have s35 := (s3.trans s4).trans s5
      refine ⟨rfl, _, rfl, ifF (by simp) ?_⟩
      obtain ⟨⟨wa, ws, rfl, hwa, hws⟩, _, _, _⟩ := id hLw
      have hwl : ws.length = Tt.m := by rw [hws.len, waysOf_len]
      have hwa5 := s35 _ _ (s12 _ _ hwa)
      refine ⟨_, rfl, wa, ws, rfl, .inl (SqL.of hwa5), (ws.length : Int), 25, rfl, rfl, _, rfl, ?_⟩
      by_cases c : ws.length < 25
      · refine ifT (decide_eq_true (by omega)) ?_
        have hpos := oc_pos _ (F := Tr.fo Tt (eF Z) (Tr.fn X)) rfl (Fo.upNs _)
        have hsub : V.int (((oc (Tr.fo Tt (eF Z) (Tr.fn X)) (Tr.fo Tt (eF Z) (Tr.fn X)).ns : Nat) : Int) - 1) = nV (oc (Tr.fo Tt (eF Z) (Tr.fn X)) (Tr.fo Tt (eF Z) (Tr.fn X)).ns - 1) := by
          show V.int _ = V.int _
          congr 1; omega
        have hlt : oc (Tr.fo Tt (eF Z) (Tr.fn X)) (Tr.fo Tt (eF Z) (Tr.fn X)).ns - 1 < oc (Tr.fo Tt (eF Z) (Tr.fn X)) (Tr.fo Tt (eF Z) (Tr.fn X)).ns := by omega
        obtain ⟨row, hrow⟩ : ∃ row, (ords (Tr.fo Tt (eF Z) (Tr.fn X)) (Tr.fo Tt (eF Z) (Tr.fn X)).ns)[oc (Tr.fo Tt (eF Z) (Tr.fn X)) (Tr.fo Tt (eF Z) (Tr.fn X)).ns - 1]? = some row := ⟨_, List.getElem?_eq_getElem hlt⟩
        obtain ⟨hok, hrk⟩ := ok_at hrow
        refine ⟨_, rfl, _, rfl, _, rfl, _, rfl, _, 1, rfl, rfl, tv, _, _, _, true, rfl, .int _, (hsX.same s35).asked ⟨fun r' row' er erow H6 a s6 ha0 ha6 => ?_, fun bad => absurd bad (by
          have nb := notbad hlt
          rw [← hsub] at nb
          exact nb)⟩⟩
        rw [← nV_inj.mp (hsub.symm.trans er), hrow] at erow
        cases erow
        have hd6 := s6 _ _ hd5
        refine ⟨_, rfl, _, rfl, _, d, .ref a, true, rfl, hd6, h64, ord_row ha6 hok, fun H7 s7 => ?_⟩
        refine ⟨_, rfl, ?_⟩
        refine ⟨_, rfl, _, rfl, _, a, d, row, rfl, s7 _ _ ha6, s7 _ _ hd6, h64, hok, fun H8 s8 => ?_⟩
        rw [hrk]
        refine ⟨_, rfl, _, 1, rfl, rfl, rfl, _, rfl, ifF (by
          show (!decide (nV _ = V.int (((oc (Tr.fo Tt (eF Z) (Tr.fn X)) (Tr.fo Tt (eF Z) (Tr.fn X)).ns : Nat) : Int) - 1))) = false
          rw [hsub]; simp) ?_⟩
        exact ⟨_, _, _, _, rfl, ((s2.trans s35).trans s6).trans (s7.trans s8)⟩
      · refine ifF (decide_eq_false (by omega)) ?_
        exact ⟨_, _, _, _, rfl, s2.trans s35⟩
    · rintro σ H2 ⟨_, _, _, _, rfl, s2⟩
      exact q H2 (s1.trans s2)
end
end K22
set_option Elab.async false
set_option linter.all false
set_option maxRecDepth 100000
set_option maxHeartbeats 4000000
namespace K22
open PySem PySem.Spec PyProof.Rows L2
/-- a call whose exceptions go to the clauses of a try -/
theorem pe_clS {X : Cx} {k j : Nat} {x : Str} {sp : Sp} {dvs : List V} {p pos : Pos} {e : Expr} {es : List Expr} {t : TA} {W : WX} (c : Cl X.prog X.w X.K X.mg X.base k x sp dvs) (hr : Room j X.A) (hk : k ≤ j) (hg : Gl X x) (tk : Takes X W) (ha : PA X (e :: es) t)
    (hdb : (x == ("__debug__" : Str)) = false := by decide) (he : starEach (e :: es) X.env = (false, eval e X.env) :: starEach es X.env := by rfl) (hpl : (backTo pos (starEach es X.env)).any (·.1) = false := by rfl) :
    PE X (.Call (.Name x p) (e :: es) [] pos) (tCallSD sp dvs (fun σ cls d H => W cls d σ H) t) := by
  obtain ⟨f, fd, ps, ds, F, hm, kp, b, d⟩ := c.ex
  exact pe_callSD F (hr.mono hk) hg hm kp b d (fun σ pins H s e s' I c => tk e s' (XE.of_call I (fun cls d H' h => h) c)) ha hdb he hpl
/-- what the top leaves of the three errors, one with another -/
structure Ef (K : PySem.W.Frag) (mg : Str → Option Value) (CF CS CN CE : Addr) : Prop where
  gF : mg "InvalidFlags" = some (.ref CF)
  gS : mg "InvalidSlot" = some (.ref CS)
  gN : mg "InvalidNumber" = some (.ref CN)
  gC : mg "CacheError" = some (.ref CE)
  kF : ExK K CF
  kS : ExK K CS
  kN : ExK K CN
  xF : XfC K CF
  xS : XfC K CS
  xN : XfC K CN
  oF : PySem.W.findIn K (.ref CF) "flags" = some none
  oS : PySem.W.findIn K (.ref CS) "slot" = some none
  oN : PySem.W.findIn K (.ref CN) "number" = some none
  mFF : PySem.W.exmOne K (.ref CF) (.ref CF) = some true
  mSF : PySem.W.exmOne K (.ref CS) (.ref CF) = some false
  mSS : PySem.W.exmOne K (.ref CS) (.ref CS) = some true
  mNF : PySem.W.exmOne K (.ref CN) (.ref CF) = some false
  mNS : PySem.W.exmOne K (.ref CN) (.ref CS) = some false
  mNN : PySem.W.exmOne K (.ref CN) (.ref CN) = some true
  iFS : PySem.W.kitOne K (.ref CF) (.ref CS) = some false
  iFN : PySem.W.kitOne K (.ref CF) (.ref CN) = some false
  iFC : PySem.W.kitOne K (.ref CF) (.ref CE) = some true
  iFV : PySem.W.kitOne K (.ref CF) (.type "ValueError") = some true
  iSN : PySem.W.kitOne K (.ref CS) (.ref CN) = some false
  iSC : PySem.W.kitOne K (.ref CS) (.ref CE) = some true
  iSV : PySem.W.kitOne K (.ref CS) (.type "ValueError") = some true
  iNC : PySem.W.kitOne K (.ref CN) (.ref CE) = some true
  iNV : PySem.W.kitOne K (.ref CN) (.type "ValueError") = some true
/-- which error, by its class, its field and its name -/
inductive Kd (CF CS CN : Addr) : Addr → Str → Str → Prop
  | flags : Kd CF CS CN CF "flags" "InvalidFlags"
  | slot : Kd CF CS CN CS "slot" "InvalidSlot"
  | number : Kd CF CS CN CN "number" "InvalidNumber"
def spFa (K : PySem.W.Frag) (CT CF CS CN : Addr) : Sp := fun vs H Q _ => ∃ (k : Nat) (tv x y z : V) (C : Addr) (f nm : Str) (v : V) (d : PyData), vs = [nV k, tv, x, y, z] ∧ Kd CF CS CN C f nm ∧ Shw K H v d ∧
  ((k = 0 ∧ ∀ Q E, Err C f v H E → spHC K CT CF [tv, x, y] H Q E) ∨ (k = 1 ∧ ∀ Q E, Err C f v H E → spHA K CT CF CN [tv, x, y, z] H Q E) ∨ (k = 2 ∧ ∀ Q E, Err C f v H E → spHR K CT CF CS [tv, x, y, z] H Q E) ∨ (k = 3 ∧ ∀ Q E, Err C f v H E → spHI K CT CF [tv, x, y, z] H Q E)) ∧
  ∀ (H' : Hp) (a : Addr), Same H H' → H a = none → H' a = some (.tup [.str nm, .str d.shown]) → Q (.ref a) H'
section
variable {P : Program} {w : World} {K : PySem.W.Frag} {mg : Str → Option Value} {base : Heap}
theorem ok_law_fault {CT CF CS CN CE : Addr} (T : Tb mg) (G : Ef K mg CF CS CN CE) (F : Df K mg "_law_fault" s__law_fault) (c_hit_plan_count : Cl P w K mg base 6 "hit_plan_count" (spHC K CT CF)) (c_hit_plan_at : Cl P w K mg base 6 "hit_plan_at" (spHA K CT CF CN))
    (c_hit_plan_rank : Cl P w K mg base 6 "hit_plan_rank" (spHR K CT CF CS)) (c_is_hit_plan : Cl P w K mg base 6 "is_hit_plan" (spHI K CT CF)) : ClG P w K mg base 7 "_law_fault" (spFa K CT CF CS CN) := by
  refine clG_mk F sc__law_fault (fun vs H Q E h => ?_) (fun _ _ _ _ _ _ us hl => match us, hl with | [_, _, _, _, _], _ => rfl) (fun f cdv A outer s H vs Q E hgd hr h => ?_)
  · obtain ⟨_, _, _, _, _, _, _, _, _, _, rfl, _⟩ := h; rfl
  · have hu := hu_of hr
    obtain ⟨k, tv, x, y, z, C, fn, nm, v, d, rfl, hk, hsh, hdoor, q⟩ := h
    refine ⟨_, PSs.nox (pss_cons
      (ps_try_manyAs (Wout := fun _ _ _ _ => False) (i := 5) rfl rfl sc__law_fault.nd rfl rfl (fun u s' ⟨_, _, _, _, _, _, _, _, _, _, _, _, _, _, _, _, z⟩ => z.elim)
        (fun W pn xe tk _ => pss_one (ps_if (pt_cmpR op_eq (pv 0) pe_int (nomark _))
          (pss_one (ps_expr (pe_clS c_hit_plan_count hr (by decide) rfl tk (pa_cons (pv 1) (pa_cons (pv 2) (pa_cons (pv 3) pa_nil))))))
          (pss_one (ps_if (pt_cmpR op_eq (pv 0) pe_int (nomark _))
            (pss_one (ps_expr (pe_clS c_hit_plan_at hr (by decide) rfl tk (pa_cons (pv 1) (pa_cons (pv 2) (pa_cons (pv 3) (pa_cons (pv 4) pa_nil)))))))
            (pss_one (ps_if (pt_cmpR op_eq (pv 0) pe_int (nomark _))
              (pss_one (ps_expr (pe_clS c_hit_plan_rank hr (by decide) rfl tk (pa_cons (pv 1) (pa_cons (pv 2) (pa_cons (pv 3) (pa_cons (pv 4) pa_nil)))))))
              (pss_one (ps_expr (pe_clS c_is_hit_plan hr (by decide) rfl tk (pa_cons (pv 1) (pa_cons (pv 2) (pa_cons (pv 3) (pa_cons (pv 4) pa_nil)))))))))))))
        (.cons ⟨by rfl, by decide, .inl G.gF⟩ (fun a oe cls dd pn hz hf =>
          (pss_cons (ps_if (PW.pt (pw_or (pt_val (pe_callB (call_isX hz hf) (by rfl) T.n_isinstance (by decide +kernel) (pa_cons (pv 5) (pa_cons (pe_glob (v := .ref CS) (by rfl) G.gS rfl) pa_nil)))) (pw_or1 (pt_val (pe_callB (call_isX hz hf) (by rfl) T.n_isinstance (by decide +kernel) (pa_cons (pv 5) (pa_cons (pe_glob (v := .ref CN) (by rfl) G.gN rfl) pa_nil))))))) (pss_one (ps_ret (pe_tup (pa_cons pe_str (pa_cons pe_str pa_nil))))) pss_nil)
          (pss_cons (ps_if (PW.pt (pw_or (pt_not (pt_val (pe_callB (call_isX hz hf) (by rfl) T.n_isinstance (by decide +kernel) (pa_cons (pv 5) (pa_cons (pe_glob (v := .ref CE) (by rfl) G.gC rfl) pa_nil))))) (pw_or1 (pt_not (pt_val (pe_callB (call_isX hz hf) (by rfl) T.n_isinstance (by decide +kernel) (pa_cons (pv 5) (pa_cons (pe_bltn (v := .ty "ValueError") (u := .type "ValueError") (by rfl) T.n_ValueError (by decide +kernel) rfl) pa_nil)))))))) (pss_one (ps_ret (pe_tup (pa_cons pe_str (pa_cons pe_str pa_nil))))) pss_nil)
          (pss_one (ps_ret (pe_tup (pa_cons pe_str (pa_cons (pe_callB (id := "repr") (r := rRepr K) (call_repr hgd hr.units) (by rfl) T.n_repr (by decide +kernel) (pa_cons (pe_xf G.xF G.oF hz hf (pv 5)) pa_nil)) pa_nil))))))))
        (.cons ⟨by rfl, by decide, .inl G.gS⟩ (fun a oe cls dd pn hz hf =>
          (pss_cons (ps_if (PW.pt (pw_or (pt_val (pe_callB (call_isX hz hf) (by rfl) T.n_isinstance (by decide +kernel) (pa_cons (pv 5) (pa_cons (pe_glob (v := .ref CN) (by rfl) G.gN rfl) pa_nil)))) (pw_or (pt_not (pt_val (pe_callB (call_isX hz hf) (by rfl) T.n_isinstance (by decide +kernel) (pa_cons (pv 5) (pa_cons (pe_glob (v := .ref CE) (by rfl) G.gC rfl) pa_nil))))) (pw_or1 (pt_not (pt_val (pe_callB (call_isX hz hf) (by rfl) T.n_isinstance (by decide +kernel) (pa_cons (pv 5) (pa_cons (pe_bltn (v := .ty "ValueError") (u := .type "ValueError") (by rfl) T.n_ValueError (by decide +kernel) rfl) pa_nil))))))))) (pss_one (ps_ret (pe_tup (pa_cons pe_str (pa_cons pe_str pa_nil))))) pss_nil)
          (pss_one (ps_ret (pe_tup (pa_cons pe_str (pa_cons (pe_callB (id := "repr") (r := rRepr K) (call_repr hgd hr.units) (by rfl) T.n_repr (by decide +kernel) (pa_cons (pe_xf G.xS G.oS hz hf (pv 5)) pa_nil)) pa_nil)))))))
        (.cons ⟨by rfl, by decide, .inl G.gN⟩ (fun a oe cls dd pn hz hf =>
          (pss_cons (ps_if (PW.pt (pw_or (pt_not (pt_val (pe_callB (call_isX hz hf) (by rfl) T.n_isinstance (by decide +kernel) (pa_cons (pv 5) (pa_cons (pe_glob (v := .ref CE) (by rfl) G.gC rfl) pa_nil))))) (pw_or1 (pt_not (pt_val (pe_callB (call_isX hz hf) (by rfl) T.n_isinstance (by decide +kernel) (pa_cons (pv 5) (pa_cons (pe_bltn (v := .ty "ValueError") (u := .type "ValueError") (by rfl) T.n_ValueError (by decide +kernel) rfl) pa_nil)))))))) (pss_one (ps_ret (pe_tup (pa_cons pe_str (pa_cons pe_str pa_nil))))) pss_nil)
          (pss_one (ps_ret (pe_tup (pa_cons pe_str (pa_cons (pe_callB (id := "repr") (r := rRepr K) (call_repr hgd hr.units) (by rfl) T.n_repr (by decide +kernel) (pa_cons (pe_xf G.xN G.oN hz hf (pv 5)) pa_nil)) pa_nil)))))))
        .nil))))
      (pss_one (ps_ret (pe_tup (pa_cons pe_str (pa_cons pe_str pa_nil)))))), ?_⟩
    have tst : ∀ (i : Nat) (b : Bool), decide (k = i) = b → decide (nV k = V.int i) = b := fun i b h => (nV_dec (a := k) (b := i)).trans h
    rcases hdoor with ⟨rfl, hd⟩ | ⟨rfl, hd⟩ | ⟨rfl, hd⟩ | ⟨rfl, hd⟩
    · refine ⟨_, rfl, rfl, _, rfl, ifT rfl ⟨_, rfl, _, rfl, _, rfl, ?_⟩⟩
      unfold tNil; dsimp only
      refine hd _ _ ?_
      refine fun H1 d1 s1 hd1 h1 => ?_
      cases hk with
      | flags =>
        refine ⟨true, G.mFF, fun _ a ha => ?_, fun b => by cases b⟩
        refine ⟨_, rfl, CF, d1, _, .ref CS, .ref CS, false, rfl, rfl, G.kF, rfl, h1, fun _ r => r, G.iFS, _, rfl, ?_⟩
        refine ⟨_, rfl, CF, d1, _, .ref CN, .ref CN, false, rfl, rfl, G.kF, rfl, h1, fun _ r => r, G.iFN, _, rfl, ifF rfl ?_⟩
        refine ⟨_, rfl, CF, d1, _, .ref CE, .ref CE, true, rfl, rfl, G.kF, rfl, h1, fun _ r => r, G.iFC, _, rfl, ?_⟩
        refine ⟨_, rfl, CF, d1, _, .ty "ValueError", .type "ValueError", true, rfl, rfl, G.kF, rfl, h1, fun _ r => r, G.iFV, _, rfl, ifF rfl ?_⟩
        exact ⟨_, rfl, rfl, rfl, d1, _, v, rfl, h1, rfl, v, d, rfl, hsh.same s1, (show 2 ≤ sizeLine by decide), fun p hp => q _ p (s1.new hp) (s1.free hp) upd_same⟩
      | slot =>
        refine ⟨false, G.mSF, fun b => (by cases b), fun _ => ⟨true, G.mSS, fun _ a ha => ?_, fun b => by cases b⟩⟩
        refine ⟨_, rfl, CS, d1, _, .ref CN, .ref CN, false, rfl, rfl, G.kS, rfl, h1, fun _ r => r, G.iSN, _, rfl, ?_⟩
        refine ⟨_, rfl, CS, d1, _, .ref CE, .ref CE, true, rfl, rfl, G.kS, rfl, h1, fun _ r => r, G.iSC, _, rfl, ?_⟩
        refine ⟨_, rfl, CS, d1, _, .ty "ValueError", .type "ValueError", true, rfl, rfl, G.kS, rfl, h1, fun _ r => r, G.iSV, _, rfl, ifF rfl ?_⟩
        exact ⟨_, rfl, rfl, rfl, d1, _, v, rfl, h1, rfl, v, d, rfl, hsh.same s1, (show 2 ≤ sizeLine by decide), fun p hp => q _ p (s1.new hp) (s1.free hp) upd_same⟩
      | number =>
        refine ⟨false, G.mNF, fun b => (by cases b), fun _ => ⟨false, G.mNS, fun b => (by cases b), fun _ => ⟨true, G.mNN, fun _ a ha => ?_, fun b => by cases b⟩⟩⟩
        refine ⟨_, rfl, CN, d1, _, .ref CE, .ref CE, true, rfl, rfl, G.kN, rfl, h1, fun _ r => r, G.iNC, _, rfl, ?_⟩
        refine ⟨_, rfl, CN, d1, _, .ty "ValueError", .type "ValueError", true, rfl, rfl, G.kN, rfl, h1, fun _ r => r, G.iNV, _, rfl, ifF rfl ?_⟩
        exact ⟨_, rfl, rfl, rfl, d1, _, v, rfl, h1, rfl, v, d, rfl, hsh.same s1, (show 2 ≤ sizeLine by decide), fun p hp => q _ p (s1.new hp) (s1.free hp) upd_same⟩
    · refine ⟨_, rfl, rfl, _, rfl, ifF rfl ⟨_, rfl, rfl, _, rfl, ifT rfl ⟨_, rfl, _, rfl, _, rfl, _, rfl, ?_⟩⟩⟩
      unfold tNil; dsimp only
      refine hd _ _ ?_
      refine fun H1 d1 s1 hd1 h1 => ?_
      cases hk with
      | flags =>
        refine ⟨true, G.mFF, fun _ a ha => ?_, fun b => by cases b⟩
        refine ⟨_, rfl, CF, d1, _, .ref CS, .ref CS, false, rfl, rfl, G.kF, rfl, h1, fun _ r => r, G.iFS, _, rfl, ?_⟩
        refine ⟨_, rfl, CF, d1, _, .ref CN, .ref CN, false, rfl, rfl, G.kF, rfl, h1, fun _ r => r, G.iFN, _, rfl, ifF rfl ?_⟩
        refine ⟨_, rfl, CF, d1, _, .ref CE, .ref CE, true, rfl, rfl, G.kF, rfl, h1, fun _ r => r, G.iFC, _, rfl, ?_⟩
        refine ⟨_, rfl, CF, d1, _, .ty "ValueError", .type "ValueError", true, rfl, rfl, G.kF, rfl, h1, fun _ r => r, G.iFV, _, rfl, ifF rfl ?_⟩
        exact ⟨_, rfl, rfl, rfl, d1, _, v, rfl, h1, rfl, v, d, rfl, hsh.same s1, (show 2 ≤ sizeLine by decide), fun p hp => q _ p (s1.new hp) (s1.free hp) upd_same⟩
      | slot =>
        refine ⟨false, G.mSF, fun b => (by cases b), fun _ => ⟨true, G.mSS, fun _ a ha => ?_, fun b => by cases b⟩⟩
        refine ⟨_, rfl, CS, d1, _, .ref CN, .ref CN, false, rfl, rfl, G.kS, rfl, h1, fun _ r => r, G.iSN, _, rfl, ?_⟩
        refine ⟨_, rfl, CS, d1, _, .ref CE, .ref CE, true, rfl, rfl, G.kS, rfl, h1, fun _ r => r, G.iSC, _, rfl, ?_⟩
        refine ⟨_, rfl, CS, d1, _, .ty "ValueError", .type "ValueError", true, rfl, rfl, G.kS, rfl, h1, fun _ r => r, G.iSV, _, rfl, ifF rfl ?_⟩
        exact ⟨_, rfl, rfl, rfl, d1, _, v, rfl, h1, rfl, v, d, rfl, hsh.same s1, (show 2 ≤ sizeLine by decide), fun p hp => q _ p (s1.new hp) (s1.free hp) upd_same⟩
      | number =>
        refine ⟨false, G.mNF, fun b => (by cases b), fun _ => ⟨false, G.mNS, fun b => (by cases b), fun _ => ⟨true, G.mNN, fun _ a ha => ?_, fun b => by cases b⟩⟩⟩
        refine ⟨_, rfl, CN, d1, _, .ref CE, .ref CE, true, rfl, rfl, G.kN, rfl, h1, fun _ r => r, G.iNC, _, rfl, ?_⟩
        refine ⟨_, rfl, CN, d1, _, .ty "ValueError", .type "ValueError", true, rfl, rfl, G.kN, rfl, h1, fun _ r => r, G.iNV, _, rfl, ifF rfl ?_⟩
        exact ⟨_, rfl, rfl, rfl, d1, _, v, rfl, h1, rfl, v, d, rfl, hsh.same s1, (show 2 ≤ sizeLine by decide), fun p hp => q _ p (s1.new hp) (s1.free hp) upd_same⟩
    · refine ⟨_, rfl, rfl, _, rfl, ifF rfl ⟨_, rfl, rfl, _, rfl, ifF rfl ⟨_, rfl, rfl, _, rfl, ifT rfl ⟨_, rfl, _, rfl, _, rfl, _, rfl, ?_⟩⟩⟩⟩
      unfold tNil; dsimp only
      refine hd _ _ ?_
      refine fun H1 d1 s1 hd1 h1 => ?_
      cases hk with
      | flags =>
        refine ⟨true, G.mFF, fun _ a ha => ?_, fun b => by cases b⟩
        refine ⟨_, rfl, CF, d1, _, .ref CS, .ref CS, false, rfl, rfl, G.kF, rfl, h1, fun _ r => r, G.iFS, _, rfl, ?_⟩
        refine ⟨_, rfl, CF, d1, _, .ref CN, .ref CN, false, rfl, rfl, G.kF, rfl, h1, fun _ r => r, G.iFN, _, rfl, ifF rfl ?_⟩
        refine ⟨_, rfl, CF, d1, _, .ref CE, .ref CE, true, rfl, rfl, G.kF, rfl, h1, fun _ r => r, G.iFC, _, rfl, ?_⟩
        refine ⟨_, rfl, CF, d1, _, .ty "ValueError", .type "ValueError", true, rfl, rfl, G.kF, rfl, h1, fun _ r => r, G.iFV, _, rfl, ifF rfl ?_⟩
        exact ⟨_, rfl, rfl, rfl, d1, _, v, rfl, h1, rfl, v, d, rfl, hsh.same s1, (show 2 ≤ sizeLine by decide), fun p hp => q _ p (s1.new hp) (s1.free hp) upd_same⟩
      | slot =>
        refine ⟨false, G.mSF, fun b => (by cases b), fun _ => ⟨true, G.mSS, fun _ a ha => ?_, fun b => by cases b⟩⟩
        refine ⟨_, rfl, CS, d1, _, .ref CN, .ref CN, false, rfl, rfl, G.kS, rfl, h1, fun _ r => r, G.iSN, _, rfl, ?_⟩
        refine ⟨_, rfl, CS, d1, _, .ref CE, .ref CE, true, rfl, rfl, G.kS, rfl, h1, fun _ r => r, G.iSC, _, rfl, ?_⟩
        refine ⟨_, rfl, CS, d1, _, .ty "ValueError", .type "ValueError", true, rfl, rfl, G.kS, rfl, h1, fun _ r => r, G.iSV, _, rfl, ifF rfl ?_⟩
        exact ⟨_, rfl, rfl, rfl, d1, _, v, rfl, h1, rfl, v, d, rfl, hsh.same s1, (show 2 ≤ sizeLine by decide), fun p hp => q _ p (s1.new hp) (s1.free hp) upd_same⟩
      | number =>
        refine ⟨false, G.mNF, fun b => (by cases b), fun _ => ⟨false, G.mNS, fun b => (by cases b), fun _ => ⟨true, G.mNN, fun _ a ha => ?_, fun b => by cases b⟩⟩⟩
        refine ⟨_, rfl, CN, d1, _, .ref CE, .ref CE, true, rfl, rfl, G.kN, rfl, h1, fun _ r => r, G.iNC, _, rfl, ?_⟩
        refine ⟨_, rfl, CN, d1, _, .ty "ValueError", .type "ValueError", true, rfl, rfl, G.kN, rfl, h1, fun _ r => r, G.iNV, _, rfl, ifF rfl ?_⟩
        exact ⟨_, rfl, rfl, rfl, d1, _, v, rfl, h1, rfl, v, d, rfl, hsh.same s1, (show 2 ≤ sizeLine by decide), fun p hp => q _ p (s1.new hp) (s1.free hp) upd_same⟩
    · refine ⟨_, rfl, rfl, _, rfl, ifF rfl ⟨_, rfl, rfl, _, rfl, ifF rfl ⟨_, rfl, rfl, _, rfl, ifF rfl ⟨_, rfl, _, rfl, _, rfl, _, rfl, ?_⟩⟩⟩⟩
      unfold tNil; dsimp only
      refine hd _ _ ?_
      refine fun H1 d1 s1 hd1 h1 => ?_
      cases hk with
      | flags =>
        refine ⟨true, G.mFF, fun _ a ha => ?_, fun b => by cases b⟩
        refine ⟨_, rfl, CF, d1, _, .ref CS, .ref CS, false, rfl, rfl, G.kF, rfl, h1, fun _ r => r, G.iFS, _, rfl, ?_⟩
        refine ⟨_, rfl, CF, d1, _, .ref CN, .ref CN, false, rfl, rfl, G.kF, rfl, h1, fun _ r => r, G.iFN, _, rfl, ifF rfl ?_⟩
        refine ⟨_, rfl, CF, d1, _, .ref CE, .ref CE, true, rfl, rfl, G.kF, rfl, h1, fun _ r => r, G.iFC, _, rfl, ?_⟩
        refine ⟨_, rfl, CF, d1, _, .ty "ValueError", .type "ValueError", true, rfl, rfl, G.kF, rfl, h1, fun _ r => r, G.iFV, _, rfl, ifF rfl ?_⟩
        exact ⟨_, rfl, rfl, rfl, d1, _, v, rfl, h1, rfl, v, d, rfl, hsh.same s1, (show 2 ≤ sizeLine by decide), fun p hp => q _ p (s1.new hp) (s1.free hp) upd_same⟩
      | slot =>
        refine ⟨false, G.mSF, fun b => (by cases b), fun _ => ⟨true, G.mSS, fun _ a ha => ?_, fun b => by cases b⟩⟩
        refine ⟨_, rfl, CS, d1, _, .ref CN, .ref CN, false, rfl, rfl, G.kS, rfl, h1, fun _ r => r, G.iSN, _, rfl, ?_⟩
        refine ⟨_, rfl, CS, d1, _, .ref CE, .ref CE, true, rfl, rfl, G.kS, rfl, h1, fun _ r => r, G.iSC, _, rfl, ?_⟩
        refine ⟨_, rfl, CS, d1, _, .ty "ValueError", .type "ValueError", true, rfl, rfl, G.kS, rfl, h1, fun _ r => r, G.iSV, _, rfl, ifF rfl ?_⟩
        exact ⟨_, rfl, rfl, rfl, d1, _, v, rfl, h1, rfl, v, d, rfl, hsh.same s1, (show 2 ≤ sizeLine by decide), fun p hp => q _ p (s1.new hp) (s1.free hp) upd_same⟩
      | number =>
        refine ⟨false, G.mNF, fun b => (by cases b), fun _ => ⟨false, G.mNS, fun b => (by cases b), fun _ => ⟨true, G.mNN, fun _ a ha => ?_, fun b => by cases b⟩⟩⟩
        refine ⟨_, rfl, CN, d1, _, .ref CE, .ref CE, true, rfl, rfl, G.kN, rfl, h1, fun _ r => r, G.iNC, _, rfl, ?_⟩
        refine ⟨_, rfl, CN, d1, _, .ty "ValueError", .type "ValueError", true, rfl, rfl, G.kN, rfl, h1, fun _ r => r, G.iNV, _, rfl, ifF rfl ?_⟩
        exact ⟨_, rfl, rfl, rfl, d1, _, v, rfl, h1, rfl, v, d, rfl, hsh.same s1, (show 2 ≤ sizeLine by decide), fun p hp => q _ p (s1.new hp) (s1.free hp) upd_same⟩
end
end K22
set_option Elab.async false
set_option linter.all false
set_option maxRecDepth 100000
set_option maxHeartbeats 4000000
namespace K22
open PySem PySem.Spec PyProof.Rows L2
/-! two tuples of the same plain items: == and != -/
theorem items_same {A : Around} {s : Shared} : ∀ {xs : List V} {us ws : List Value}, Vals xs us → Vals xs ws → (∀ v ∈ xs, flatB v = true) → ∀ j (h1 : j < us.length) (h2 : j < ws.length), SeqAt.EqAt A s us[j] ws[j] true
  | [], _, _, r1, _, _, j, h1, _ => by
    cases r1
    exact absurd h1 (Nat.not_lt_zero j)
  | x :: xs, us, ws, r1, r2, hf, j, h1, h2 => by
    cases r1 with
    | cons a1 b1 =>
      cases r2 with
      | cons a2 b2 =>
        cases j with
        | zero => exact eqAt_same a1 a2 (hf x (by simp))
        | succ j => exact items_same b1 b2 (fun v hv => hf v (by simp [hv])) j (Nat.lt_of_succ_lt_succ h1) (Nat.lt_of_succ_lt_succ h2)
def rSameT (K : PySem.W.Frag) (b : Bool) : R2 := fun x y H Q => ∃ p q xs, x = .ref p ∧ y = .ref q ∧ SqT K H p xs ∧ SqT K H q xs ∧ (∀ v ∈ xs, flatB v = true) ∧ Q (.bl b) H
section
variable {X : Cx}
theorem op_eqT (hu : X.A.units + 64 < cLine) : OpR X (compareOp .Eq) (rSameT X.K true) := by
  intro pins s σ H x y v u Q I rx ry h
  obtain ⟨p, q, xs, rfl, rfl, hp, hq, hf, k⟩ := h
  cases (show v = Value.ref p from rx)
  cases (show u = Value.ref q from ry)
  obtain ⟨us, r1, p1, _⟩ := I.tuple hp
  obtain ⟨ws, r2, p2, _⟩ := I.tuple hq
  have hl : us.length = ws.length := by rw [← r1.length, ← r2.length]
  refine SeqAt.eq_tupleAt (e := fun _ => true) p1 p2 (by omega) (fun j h1 h2 => ?_) ?_
  · have k := items_same (A := X.A.in1) (s := s) r1 r2 hf j (by simpa using h1) (by simpa using h2)
    simpa using k
  · have e : ((List.range (min us.toArray.size ws.toArray.size)).all (fun _ => true) && us.toArray.size == ws.toArray.size) = true := by simp [hl]
    rw [e]
    exact ⟨.bl true, H, I, rfl, k⟩
theorem op_neT (hu : X.A.units + 64 < cLine) : OpR X (compareOp .NotEq) (rSameT X.K false) := by
  intro pins s σ H x y v u Q I rx ry h
  obtain ⟨p, q, xs, rfl, rfl, hp, hq, hf, k⟩ := h
  cases (show v = Value.ref p from rx)
  cases (show u = Value.ref q from ry)
  obtain ⟨us, r1, p1, _⟩ := I.tuple hp
  obtain ⟨ws, r2, p2, _⟩ := I.tuple hq
  have hl : us.length = ws.length := by rw [← r1.length, ← r2.length]
  refine SeqAt.RcNeAt.tuples (A := X.A) (s := s) (e := fun _ => true) p1 p2 (by omega) (fun j h1 h2 => ?_) X.prog X.w _ _ ?_
  · have k := items_same (A := X.A.in1) (s := s) r1 r2 hf j (by simpa using h1) (by simpa using h2)
    simpa using k
  · have e : (!((List.range (min us.toArray.size ws.toArray.size)).all (fun _ => true) && us.toArray.size == ws.toArray.size)) = false := by simp [hl]
    rw [e]
    exact ⟨.bl false, H, I, rfl, k⟩
end
/-! what a door answers to a bad start, a bad end -/
section
variable {K : PySem.W.Frag} {CT CF CS CN : Addr} {H : Hp} {T : Tr} {S E : List Nat} {tv x y z : V}
theorem asked_start (hT : TreeAt CT H tv T) {o oy : Option (List Nat)} (hx : StrA K H x o) (hy : StrA K H y oy) (bad : okF [76, 82, 63] (T.m - 1) o = false) {Er : XK} (err : Err CF "flags" x H Er) {good : Fo → Prop} : Asked K CT CF H tv x y Er good :=
  ⟨T, o, oy, hT, hx, hy, fun _ => err, fun h => (by rw [bad] at h; cases h), fun S Z e1 e2 h => (by rw [bad] at h; cases h)⟩
theorem asked_end (hT : TreeAt CT H tv T) {o oy : Option (List Nat)} (hx : StrA K H x o) (hy : StrA K H y oy) (ok : okF [76, 82, 63] (T.m - 1) o = true) (bad : okF [76, 82] (T.m - 1) oy = false) {Er : XK} (err : Err CF "flags" y H Er) {good : Fo → Prop} : Asked K CT CF H tv x y Er good :=
  ⟨T, o, oy, hT, hx, hy, fun h => (by rw [ok] at h; cases h), fun _ _ => err, fun S Z e1 e2 _ h => (by rw [bad] at h; cases h)⟩
theorem doors {k : Nat} (hk : k < 4) (hz : ∃ b, IsI K H z b) {C : Addr} {f : Str} {v : V} (h : ∀ (E : XK), Err C f v H E → ∀ good, Asked K CT CF H tv x y E good) :
    (k = 0 ∧ ∀ Q E, Err C f v H E → spHC K CT CF [tv, x, y] H Q E) ∨ (k = 1 ∧ ∀ Q E, Err C f v H E → spHA K CT CF CN [tv, x, y, z] H Q E) ∨ (k = 2 ∧ ∀ Q E, Err C f v H E → spHR K CT CF CS [tv, x, y, z] H Q E) ∨ (k = 3 ∧ ∀ Q E, Err C f v H E → spHI K CT CF [tv, x, y, z] H Q E) := by
  obtain ⟨b, hb⟩ := hz
  have : k = 0 ∨ k = 1 ∨ k = 2 ∨ k = 3 := by omega
  rcases this with rfl | rfl | rfl | rfl
  · exact .inl ⟨rfl, fun Q E e => ⟨tv, x, y, rfl, h E e _⟩⟩
  · exact .inr (.inl ⟨rfl, fun Q E e => ⟨tv, x, y, z, b, rfl, hb, h E e _⟩⟩)
  · exact .inr (.inr (.inl ⟨rfl, fun Q E e => ⟨tv, x, y, z, rfl, h E e _⟩⟩))
  · exact .inr (.inr (.inr ⟨rfl, fun Q E e => ⟨tv, x, y, z, rfl, h E e _⟩⟩))
end
end K22
set_option Elab.async false
set_option linter.all false
set_option maxRecDepth 100000
set_option maxHeartbeats 4000000
namespace K22
open PySem PySem.Spec PyProof.Rows L2
theorem oc_wide {F : Fo} (h : F.ns.length < 64) : 1 ≤ oc F F.ns ∧ oc F F.ns < 2 ^ 900 := by
  refine ⟨oc_pos _ rfl F.upNs, ?_⟩
  have h1 := oc_le F
  have h2 := fac_le F.ns.length (by omega)
  have h3 : 64 ^ F.ns.length ≤ 64 ^ 64 := Nat.pow_le_pow_right (by decide) (by omega)
  have h4 : 64 ^ 64 < 2 ^ 900 := by decide +kernel
  omega
section
variable {P : Program} {w : World} {K : PySem.W.Frag} {mg : Str → Option Value} {base : Heap}
theorem cod_s : V.str ("!.lx" : Str) = sV [33, 46, 108, 120] := by decide +kernel
theorem cod_e : V.str ("?.lx" : Str) = sV [63, 46, 108, 120] := by decide +kernel
def spRe (CT : Addr) : Sp := fun vs H Q _ => ∃ (G : Hp) (b : Addr) (T : Tr) (S E : List Nat) (tv : V) (hd : Addr), vs = [.ref b, tv, sV S, sV E, .ref hd] ∧ Bx G H b ∧ Sit CT G T S E tv ∧
  G hd = some (ParD (Tr.fo T (eF E) (Tr.fn S))) ∧ ∀ H' : Hp, Q (.bl true) H'
theorem ok_law_refusals {CT CF CS CN : Addr} (T : Tb mg) (F : Df K mg "_law_refusals" s__law_refusals) (c__law_count : Cl P w K mg base 2 "_law_count" spLc) (c_bentS : Cl P w K mg base 2 "_law_bent" (spBt K [76, 82, 63])) (c_bentE : Cl P w K mg base 2 "_law_bent" (spBt K [76, 82]))
    (c__law_bent_rank : Cl P w K mg base 3 "_law_bent_rank" (spBr K)) (c_hit_plan_at : Cl P w K mg base 6 "hit_plan_at" (spHA K CT CF CN)) (c__law_fault : ClG P w K mg base 7 "_law_fault" (spFa K CT CF CS CN)) : ClG P w K mg base 8 "_law_refusals" (spRe CT) := by
  refine clG_mk F sc__law_refusals (fun vs H Q E h => ?_) (fun _ _ _ _ _ _ us hl => match us, hl with | [_, _, _, _, _], _ => rfl) (fun f cdv A outer s H vs Q E hgd hr h => ?_)
  · obtain ⟨_, _, _, _, _, _, _, rfl, _⟩ := h; rfl
  · have hu := hu_of hr
    obtain ⟨G, b, Tt, S, Z, tv, hd, rfl, B, hs, hhd, q⟩ := h
    refine ⟨_, PSs.nox (pss_cons (ps_set (i := 5) sc__law_refusals.nd rfl (Or.inl rfl) (pe_cl c__law_count hr (by decide) rfl (pa_cons (pv 4) pa_nil)))
    (pss_cons (ps_set (i := 6) sc__law_refusals.nd rfl (Or.inl rfl) (pe_cl c_bentS hr (by decide) rfl (pa_cons (pv 0) (pa_cons (pv 2) (pa_cons pe_str pa_nil)))))
    (pss_cons (ps_set (i := 7) sc__law_refusals.nd rfl (Or.inl rfl) (pe_cl c_bentE hr (by decide) rfl (pa_cons (pv 0) (pa_cons (pv 3) (pa_cons pe_str pa_nil)))))
    (pss_cons (ps_set (i := 8) sc__law_refusals.nd rfl (Or.inl rfl) (pe_cl c__law_bent_rank hr (by decide) rfl (pa_cons (pv 0) (pa_cons (pv 5) pa_nil))))
    (pss_cons (ps_set (i := 9) sc__law_refusals.nd rfl (Or.inl rfl) (pe_cl c_hit_plan_at hr (by decide) rfl (pa_cons (pv 1) (pa_cons (pv 2) (pa_cons (pv 3) (pa_cons pe_int pa_nil))))))
    (pss_cons (ps_for PassesOwn.never rfl (pi_range1 (by rfl) T.n_range (pa_cons pe_int pa_nil)) (pg_name (i := 10) sc__law_refusals.nd rfl (Or.inl rfl))
      (pss_one (ps_for PassesOwn.never rfl (pi_list (pe_lst (pa_cons pe_non (pa_cons (pv 8) (pa_cons (pe_ix ix_list (pe_lst (pa_cons pe_int (pa_cons pe_int (pa_cons (pv 9) (pa_cons (pv 9) pa_nil))))) (pv 10) (fun _ _ => rfl)) pa_nil))))) (pg_name (i := 11) sc__law_refusals.nd rfl (Or.inl rfl))
        (pss_cons (ps_if (pt_cmpR (op_neT hr.units) (pe_clG c__law_fault hgd hr (by decide) rfl (pa_cons (pv 10) (pa_cons (pv 1) (pa_cons (pv 6) (pa_cons (pv 3) (pa_cons (pv 11) pa_nil)))))) (pe_tup (pa_cons pe_str (pa_cons (pe_callB (id := "repr") (r := rRepr K) (call_repr hgd hr.units) (by rfl) T.n_repr (by decide +kernel) (pa_cons (pv 6) pa_nil)) pa_nil))) (nomark _))
          (pss_one (ps_ret pe_bl))
          pss_nil)
        (pss_cons (ps_if (pt_cmpR (op_neT hr.units) (pe_clG c__law_fault hgd hr (by decide) rfl (pa_cons (pv 10) (pa_cons (pv 1) (pa_cons (pv 2) (pa_cons (pv 7) (pa_cons (pv 11) pa_nil)))))) (pe_tup (pa_cons pe_str (pa_cons (pe_callB (id := "repr") (r := rRepr K) (call_repr hgd hr.units) (by rfl) T.n_repr (by decide +kernel) (pa_cons (pv 7) pa_nil)) pa_nil))) (nomark _))
          (pss_one (ps_ret pe_bl))
          pss_nil)
        (pss_one (ps_if (pt_cmpR (op_neT hr.units) (pe_clG c__law_fault hgd hr (by decide) rfl (pa_cons (pv 10) (pa_cons (pv 1) (pa_cons (pv 6) (pa_cons (pv 7) (pa_cons (pv 11) pa_nil)))))) (pe_tup (pa_cons pe_str (pa_cons (pe_callB (id := "repr") (r := rRepr K) (call_repr hgd hr.units) (by rfl) T.n_repr (by decide +kernel) (pa_cons (pv 6) pa_nil)) pa_nil))) (nomark _))
          (pss_one (ps_ret pe_bl))
          pss_nil)))))))
    (pss_one (ps_ret (pe_cmpR (op_eqT hr.units) (pe_clG c__law_fault hgd hr (by decide) rfl (pa_cons pe_int (pa_cons (pv 1) (pa_cons (pv 2) (pa_cons (pv 3) (pa_cons (pv 8) pa_nil)))))) (pe_tup (pa_cons pe_str (pa_cons (pe_callB (id := "repr") (r := rRepr K) (call_repr hgd hr.units) (by rfl) T.n_repr (by decide +kernel) (pa_cons (pv 8) pa_nil)) pa_nil))) (nomark _)))))))))), ?_⟩
    have h64 := fo_len (e := eF Z) (f := Tr.fn S) hs.tree.m64
    have m64 := hs.tree.m64
    have hSl := hs.slen
    have hZl := hs.elen
    obtain ⟨w1, w2⟩ := oc_wide h64
    refine ⟨_, rfl, _, hd, rfl, B.same _ _ hhd, h64, fun H1 s1 => ?_⟩
    have B1 := B.ext s1
    refine ⟨_, rfl, _, rfl, G, b, S, [33, 46, 108, 120], by rw [← cod_s]; rfl, by omega, rfl, by decide, fun c hc => by have := hs.scod c hc; simp at this; omega, by decide, B1, fun G2 H2 bs g2 B2 bad1 => ?_⟩
    refine ⟨_, rfl, _, rfl, G2, b, Z, [63, 46, 108, 120], by rw [← cod_e]; rfl, by omega, rfl, by decide, fun c hc => by have := hs.ecod c hc; omega, by decide, B2, fun G3 H3 be g3 B3 bad2 => ?_⟩
    refine ⟨_, rfl, _, rfl, G3, b, _, rfl, w1, w2, B3, fun H4 od B4 bad3 => ?_⟩
    have hs4 := (hs.same (g2.trans g3)).same B4.same
    have b1 := (bad1.same g3).same B4.same
    have b2 := bad2.same B4.same
    obtain ⟨row0, hrow0⟩ : ∃ row, (ords (Tr.fo Tt (eF Z) (Tr.fn S)) (Tr.fo Tt (eF Z) (Tr.fn S)).ns)[0]? = some row := ⟨_, List.getElem?_eq_getElem w1⟩
    refine ⟨_, rfl, _, rfl, _, rfl, tv, _, _, nV 0, true, rfl, .int _, hs4.asked ⟨fun r' row er erow H5 ra s5 ra0 hra => ?_, fun bad => absurd bad (notbad w1)⟩⟩
    have hs5 := hs4.same s5
    have b1 := b1.same s5
    have b2 := b2.same s5
    rw [hSl] at b1
    rw [hZl] at b2
    obtain ⟨o1, d1, x1, k1, w1'⟩ := b1.ex
    obtain ⟨o2, d2, x2, k2, w2'⟩ := b2.ex
    obtain ⟨d3, r1, r2, r3⟩ := bad3.ex
    have okS := okF_mk hs.slen hs.scod
    have xS : StrA K H5 (sV S) (some S) := .str S (by omega)
    have xE : StrA K H5 (sV Z) (some Z) := .str Z (by omega)
    refine ⟨4, rfl, by decide, by decide, ?_⟩
    refine for_pre (wf_range 4) (fun pre σ H' => ∃ v10 v11 : Option V, σ = [some (.ref b), some tv, some (sV S), some (sV Z), some (.ref hd), some (nV (oc (Tr.fo Tt (eF Z) (Tr.fn S)) (Tr.fo Tt (eF Z) (Tr.fn S)).ns)), some bs, some be, some od, some (.ref ra), v10, v11] ∧ Same H5 H') ?_ ?_ ?_ ?_
    · exact ⟨none, none, rfl, Same.refl _⟩
    · intro _ _ _ _; trivial
    · rintro pre k post σ H6 e ⟨v10, v11, rfl, s6⟩
      obtain ⟨ep, hn⟩ := range_split e
      obtain ⟨zv, hzv, hzi⟩ : ∃ zv, ([.int 0, .int 0, .ref ra, .ref ra] : List V)[k]? = some zv ∧ ∀ H', Same H5 H' → ∃ b, IsI K H' zv b := by
        have : k = 0 ∨ k = 1 ∨ k = 2 ∨ k = 3 := by omega
        rcases this with rfl | rfl | rfl | rfl
        · exact ⟨_, rfl, fun H' _ => ⟨_, .int _⟩⟩
        · exact ⟨_, rfl, fun H' _ => ⟨_, .int _⟩⟩
        · exact ⟨_, rfl, fun H' s => ⟨_, .lst (s _ _ hra)⟩⟩
        · exact ⟨_, rfl, fun H' s => ⟨_, .lst (s _ _ hra)⟩⟩
      refine ⟨_, rfl, _, rfl, _, rfl, (show 4 ≤ sizeLine by decide), fun p hp => ⟨_, rfl, p, _, ((k : Nat) : Int), zv, rfl, rfl, SqL.of upd_same, atI_nat hzv, (show 3 ≤ sizeLine by decide), fun p2 hp2 => ?_⟩⟩
      have s8 := (s6.new (o := .lst [.int 0, .int 0, .ref ra, .ref ra]) hp).new (o := .lst [.non, od, zv]) hp2
      have hp8 : upd (upd H6 p (.lst [.int 0, .int 0, .ref ra, .ref ra])) p2 (.lst [.non, od, zv]) p2 = some (.lst ([.non, od, zv].map fun v => v)) := upd_same
      generalize upd (upd H6 p (.lst [.int 0, .int 0, .ref ra, .ref ra])) p2 (.lst [.non, od, zv]) = H8 at s8 hp8
      refine ⟨p2, rfl, ⟨_, SqL.of hp8⟩, ?_⟩
      refine for_pre (wf_list (K := K) (a := p2) [.non, od, zv] fun v => v) (fun pre σ H' => ∃ v11 : Option V, σ = [some (.ref b), some tv, some (sV S), some (sV Z), some (.ref hd), some (nV (oc (Tr.fo Tt (eF Z) (Tr.fn S)) (Tr.fo Tt (eF Z) (Tr.fn S)).ns)), some bs, some be, some od, some (.ref ra), some (nV k), v11] ∧ Same H8 H') ?_ ?_ ?_ ?_
      · exact ⟨_, rfl, Same.refl _⟩
      · rintro pre σ H' ⟨v11, rfl, s9⟩
        exact SqL.of (s9 _ _ hp8)
      · rintro pre z post σ H9 e2 ⟨v11', rfl, s9⟩
        have hz : ∀ H', Same H5 H' → ∃ b, IsI K H' z b := fun H' s' => by
          have hm : z ∈ [V.non, od, zv] := by rw [e2]; simp
          rcases List.mem_cons.mp hm with rfl | hm
          · exact ⟨_, .non⟩
          rcases List.mem_cons.mp hm with rfl | hm
          · exact r2 H'
          · rw [List.mem_singleton.mp hm]; exact hzi H' s'
        have s59 := s8.trans s9
        have ts : ∀ (x : Str), ∀ v ∈ ([V.str "InvalidFlags", V.str x] : List V), flatB v = true := fun x v hv => by
          rcases List.mem_cons.mp hv with rfl | hv
          · rfl
          · rw [List.mem_singleton.mp hv]; rfl
        refine ⟨_, rfl, _, rfl, _, rfl, _, rfl, _, rfl, k, tv, bs, sV Z, z, CF, "flags", "InvalidFlags", bs, d1, rfl, .flags, w1'.same s59, doors hn (hz _ s59) (fun E err good => asked_start (hs5.same s59).tree (x1.same s59) (xE.same s59) k1 err), fun HA a sA a0 hA => ?_⟩
        have s5A := s59.trans sA
        refine ⟨_, rfl, bs, d1, rfl, w1'.same s5A, (show 2 ≤ sizeLine by decide), fun p hp => ?_⟩
        have tA := (Same.refl HA).new (o := .tup [.str "InvalidFlags", .str d1.shown]) hp
        refine ⟨a, p, [.str "InvalidFlags", .str d1.shown], rfl, rfl, SqT.of (tA _ _ hA), SqT.of upd_same, ts _, _, rfl, ifF rfl ?_⟩
        have s5B := s5A.trans tA
        have sAB := (s9.trans sA).trans tA
        generalize upd HA p (.tup [.str "InvalidFlags", .str d1.shown]) = HB at tA s5B sAB
        refine ⟨_, rfl, _, rfl, _, rfl, _, rfl, _, rfl, k, tv, sV S, be, z, CF, "flags", "InvalidFlags", be, d2, rfl, .flags, w2'.same s5B, doors hn (hz _ s5B) (fun E err good => asked_end (hs5.same s5B).tree (xS.same s5B) (x2.same s5B) okS k2 err), fun HC c sC c0 hC => ?_⟩
        have s5C := s5B.trans sC
        refine ⟨_, rfl, be, d2, rfl, w2'.same s5C, (show 2 ≤ sizeLine by decide), fun p' hp' => ?_⟩
        have tC' := (Same.refl HC).new (o := .tup [.str "InvalidFlags", .str d2.shown]) hp'
        refine ⟨c, p', [.str "InvalidFlags", .str d2.shown], rfl, rfl, SqT.of (tC' _ _ hC), SqT.of upd_same, ts _, _, rfl, ifF rfl ?_⟩
        have s5D := s5C.trans tC'
        have sBD := sC.trans tC'
        generalize upd HC p' (.tup [.str "InvalidFlags", .str d2.shown]) = HD at tC' s5D sBD
        refine ⟨_, rfl, _, rfl, _, rfl, _, rfl, _, rfl, k, tv, bs, be, z, CF, "flags", "InvalidFlags", bs, d1, rfl, .flags, w1'.same s5D, doors hn (hz _ s5D) (fun E err good => asked_start (hs5.same s5D).tree (x1.same s5D) (x2.same s5D) k1 err), fun HE g sE g0 hE => ?_⟩
        have s5E := s5D.trans sE
        refine ⟨_, rfl, bs, d1, rfl, w1'.same s5E, (show 2 ≤ sizeLine by decide), fun p'' hp'' => ?_⟩
        have tE := (Same.refl HE).new (o := .tup [.str "InvalidFlags", .str d1.shown]) hp''
        refine ⟨g, p'', [.str "InvalidFlags", .str d1.shown], rfl, rfl, SqT.of (tE _ _ hE), SqT.of upd_same, ts _, _, rfl, ifF rfl ?_⟩
        exact ⟨_, rfl, ((sAB.trans sBD).trans sE).trans tE⟩
      · rintro σ H9 ⟨v11', rfl, s9⟩
        exact ⟨_, _, rfl, s8.trans s9⟩
    · rintro σ H6 ⟨v10, v11, rfl, s6⟩
      have ts : ∀ (x : Str), ∀ v ∈ ([V.str "InvalidNumber", V.str x] : List V), flatB v = true := fun x v hv => by
        rcases List.mem_cons.mp hv with rfl | hv
        · rfl
        · rw [List.mem_singleton.mp hv]; rfl
      obtain ⟨b3, hb3⟩ := r2 H6
      refine ⟨_, rfl, _, rfl, _, rfl, _, rfl, 1, tv, sV S, sV Z, od, CN, "number", "InvalidNumber", od, d3, rfl, .number, (r1 H6).shw, .inr (.inl ⟨rfl, fun Q' E' err => ⟨tv, _, _, od, b3, rfl, hb3, (hs5.same s6).asked ⟨fun r row er erow => ?_, fun _ => err⟩⟩⟩), fun HA a sA a0 hA => ?_⟩
      · exfalso
        have hr : r < oc (Tr.fo Tt (eF Z) (Tr.fn S)) (Tr.fo Tt (eF Z) (Tr.fn S)).ns := (List.getElem?_eq_some_iff.mp erow).1
        rw [er] at r3
        exact notbad hr r3
      · refine ⟨_, rfl, od, d3, rfl, (r1 HA).shw, (show 2 ≤ sizeLine by decide), fun p hp => ?_⟩
        have tA := (Same.refl HA).new (o := .tup [.str "InvalidNumber", .str d3.shown]) hp
        exact ⟨a, p, [.str "InvalidNumber", .str d3.shown], rfl, rfl, SqT.of (tA _ _ hA), SqT.of upd_same, ts _, q _⟩
end
end K22
set_option Elab.async false
set_option linter.all false
set_option maxRecDepth 100000
set_option maxHeartbeats 4000000
namespace K22
open PySem PySem.Spec PyProof.Rows L2
theorem OrdA.one {K : PySem.W.Frag} {H : Hp} {F : Fo} {x : V} {b b' : Bool} (h : OrdA K H F x b) (h' : OrdA K H F x b') : b = b' := by
  cases h with
  | non => cases h'; rfl
  | int i => cases h'; rfl
  | tup h =>
    cases h' with
    | tup _ => rfl
    | lst h2 _ => rw [h] at h2; cases h2
  | lst h hi =>
    cases h' with
    | tup h2 => rw [h] at h2; cases h2
    | lst h2 _ => rw [h] at h2; cases h2; rfl
/-- a row that is an order, read from its list -/
theorem OrdA.row {K : PySem.W.Frag} {H : Hp} {F : Fo} {x : V} (h : OrdA K H F x true) : ∃ (a : Addr) (row : List Nat), x = .ref a ∧ H a = some (.lst (row.map nV)) ∧ Ok F F.ns row := by
  generalize hb : true = b at h
  cases h with
  | non => cases hb
  | int i => cases hb
  | tup h => cases hb
  | @lst a xs h hi =>
    obtain ⟨row, rfl, ok⟩ := isOrd_row hb.symm
    exact ⟨a, row, rfl, h, ok⟩
theorem upd_comm {H : Hp} {a c : Addr} {o o' : HO} (h : a ≠ c) : upd (upd H a o) c o' = upd (upd H c o') a o := by
  funext d
  by_cases h1 : d = a
  · subst h1; rw [upd_ne h, upd_same, upd_same]
  · by_cases h2 : d = c
    · subst h2; rw [upd_same, upd_ne h1, upd_same]
    · rw [upd_ne h2, upd_ne h1, upd_ne h1, upd_ne h2]
theorem upd_twice {H : Hp} {a : Addr} {o o' : HO} : upd (upd H a o) a o' = upd H a o' := by
  funext d
  by_cases h1 : d = a
  · subst h1; rw [upd_same, upd_same]
  · rw [upd_ne h1, upd_ne h1, upd_ne h1]
section
variable {P : Program} {w : World} {K : PySem.W.Frag} {mg : Str → Option Value} {base : Heap}
def spBe (CT : Addr) : Sp := fun vs H Q _ => ∃ (G : Hp) (b : Addr) (T : Tr) (S E : List Nat) (tv : V) (hd : Addr), vs = [.ref b, tv, sV S, sV E, .ref hd, nV T.m] ∧ Bx G H b ∧ Sit CT G T S E tv ∧
  G hd = some (ParD (Tr.fo T (eF E) (Tr.fn S))) ∧ ∀ G' H' : Hp, Same G G' → Bx G' H' b → Q (.bl true) H'
theorem ok_law_bends {CT CF CS CN : Addr} (T : Tb mg) (F : Df K mg "_law_bends" s__law_bends) (c__law_count : Cl P w K mg base 2 "_law_count" spLc) (c__law_wide : Cl P w K mg base 2 "_law_wide" spWd) (c__law_take : Cl P w K mg base 1 "_law_take" spTk) (c__law_bend : Cl P w K mg base 2 "_law_bend" (spBd K))
    (c__law_truth : Cl P w K mg base 1 "_law_truth" spTr) (c__law_judged : Cl P w K mg base 2 "_law_judged" (spJd K)) (c__law_rank : Cl P w K mg base 3 "_law_rank" spLr) (c__law_read : Cl P w K mg base 7 "_law_read" (spRd CT))
    (c_hit_plan_at : Cl P w K mg base 6 "hit_plan_at" (spHA K CT CF CN)) (c_is_hit_plan : Cl P w K mg base 6 "is_hit_plan" (spHI K CT CF)) (c__law_fault : ClG P w K mg base 7 "_law_fault" (spFa K CT CF CS CN)) : ClG P w K mg base 8 "_law_bends" (spBe CT) := by
  refine clG_mk F sc__law_bends (fun vs H Q E h => ?_) (fun _ _ _ _ _ _ us hl => match us, hl with | [_, _, _, _, _, _], _ => rfl) (fun f cdv A outer s H vs Q E hgd hr h => ?_)
  · obtain ⟨_, _, _, _, _, _, _, rfl, _⟩ := h; rfl
  · have hu := hu_of hr
    obtain ⟨G, b, Tt, S, Z, tv, hd, rfl, B, hs, hhd, q⟩ := h
    refine ⟨_, PSs.nox (pss_cons (ps_set (i := 6) sc__law_bends.nd rfl (Or.inl rfl) (pe_cl c_hit_plan_at hr (by decide) rfl (pa_cons (pv 1) (pa_cons (pv 2) (pa_cons (pv 3) (pa_cons (pe_cl c__law_wide hr (by decide) rfl (pa_cons (pv 0) (pa_cons (pe_cl c__law_count hr (by decide) rfl (pa_cons (pv 4) pa_nil)) pa_nil))) pa_nil))))))
    (pss_cons (ps_if (pt_not (pt_val (pe_cl c__law_judged hr (by decide) rfl (pa_cons (pv 6) (pa_cons (pv 4) pa_nil)))))
      (pss_one (ps_ret pe_bl))
      pss_nil)
    (pss_cons (ps_set (i := 7) sc__law_bends.nd rfl (Or.inl rfl) (pe_callB call_len_seq (by rfl) T.n_len (by decide +kernel) (pa_cons (pv 6) pa_nil)))
    (pss_cons (ps_set (i := 8) sc__law_bends.nd rfl (Or.inl rfl) (pe_cl c__law_take hr (by decide) rfl (pa_cons (pv 0) (pa_cons pe_int pa_nil))))
    (pss_cons (ps_set (i := 9) sc__law_bends.nd rfl (Or.inl rfl) (pe_lst (pa_cons (pe_cl c__law_bend hr (by decide) rfl (pa_cons (pv 0) (pa_cons (pv 6) (pa_cons (pv 5) (pa_cons (pv 8) pa_nil))))) pa_nil)))
    (pss_cons (ps_for PassesOwn.never rfl (pi_range1 (by rfl) T.n_range (pa_cons pe_int pa_nil)) (pg_name (i := 10) sc__law_bends.nd rfl (Or.inl rfl))
      (pss_one (ps_expr (pe_bm PySem.F.plainAttrs_list PySem.F.slot_list_append PySem.F.type_list_append mt_append (pv 9) (pa_cons (pe_lc (own := [("_law_place", 14)]) (by rfl) sc__law_bends.nd (pi_range1 (by rfl) T.n_range (pa_cons (pv 7) pa_nil)) (blkOk_by (own := [("_law_place", 14)]) (N := n__law_bends) (sc := defScope s__law_bends) (by decide +kernel)) (fun _ _ _ _ _ => (pg_name (i := 14) sc__law_bends.nd rfl (Or.inl rfl))) (fun _ _ _ _ _ => pts_nil) (fun _ _ _ _ _ => (pe_cl c__law_take hr (by decide) rfl (pa_cons (pv 0) (pa_cons (pv 5) pa_nil))))) pa_nil)))))
    (pss_cons (ps_for PassesOwn.never rfl (pi_range1 (by rfl) T.n_range (pa_cons pe_int pa_nil)) (pg_name (i := 10) sc__law_bends.nd rfl (Or.inl rfl))
      (pss_cons (ps_set (i := 11) sc__law_bends.nd rfl (Or.inl rfl) (pe_ix ix_list (pv 9) (pv 10) (fun _ _ => rfl)))
      (pss_cons (ps_set (i := 12) sc__law_bends.nd rfl (Or.inl rfl) (pe_callB (id := "repr") (r := rRepr K) (call_repr hgd hr.units) (by rfl) T.n_repr (by decide +kernel) (pa_cons (pv 11) pa_nil)))
      (pss_cons (ps_set (i := 13) sc__law_bends.nd rfl (Or.inl rfl) (pe_cl c__law_judged hr (by decide) rfl (pa_cons (pv 11) (pa_cons (pv 4) pa_nil))))
      (pss_cons (ps_if (PW.pt (pw_or (pt_not (pt_val (pe_cl c__law_truth hr (by decide) rfl (pa_cons (pe_cl c_is_hit_plan hr (by decide) rfl (pa_cons (pv 1) (pa_cons (pv 2) (pa_cons (pv 3) (pa_cons (pv 11) pa_nil))))) (pa_cons (pv 13) pa_nil))))) (pw_or1 (pt_cmpR op_ne (pe_callB (id := "repr") (r := rRepr K) (call_repr hgd hr.units) (by rfl) T.n_repr (by decide +kernel) (pa_cons (pv 11) pa_nil)) (pv 12) (nomark _)))))
        (pss_one (ps_ret pe_bl))
        pss_nil)
      (pss_cons (ps_if (PW.pt (pw_and (pt_val (pv 13)) (pw_and1 (pt_not (pt_val (pe_cl c__law_read hr (by decide) rfl (pa_cons (pv 1) (pa_cons (pv 2) (pa_cons (pv 3) (pa_cons (pv 11) (pa_cons (pe_cl c__law_rank hr (by decide) rfl (pa_cons (pv 11) (pa_cons (pv 4) pa_nil))) pa_nil)))))))))))
        (pss_one (ps_ret pe_bl))
        pss_nil)
      (pss_one (ps_if (PW.pt (pw_and (pt_not (pt_val (pv 13))) (pw_and1 (PW.pt (pw_or (pt_cmpR op_gt (pv 10) pe_int (nomark _)) (pw_or1 (pt_cmpR op_lt (pv 8) pe_int (nomark _))))))))
        (pss_one (ps_if (PW.pt (pw_or (pt_cmpR (op_neT hr.units) (pe_clG c__law_fault hgd hr (by decide) rfl (pa_cons pe_int (pa_cons (pv 1) (pa_cons (pv 2) (pa_cons (pv 3) (pa_cons (pv 11) pa_nil)))))) (pe_tup (pa_cons pe_str (pa_cons (pv 12) pa_nil))) (nomark _)) (pw_or1 (pt_cmpR op_ne (pe_callB (id := "repr") (r := rRepr K) (call_repr hgd hr.units) (by rfl) T.n_repr (by decide +kernel) (pa_cons (pv 11) pa_nil)) (pv 12) (nomark _)))))
          (pss_one (ps_ret pe_bl))
          pss_nil))
        pss_nil))))))))
    (pss_one (ps_ret pe_bl))))))))), ?_⟩
    have h64 := fo_len (e := eF Z) (f := Tr.fn S) hs.tree.m64
    have m64 := hs.tree.m64
    obtain ⟨w1, w2⟩ := oc_wide h64
    refine ⟨_, rfl, _, rfl, _, rfl, _, rfl, _, rfl, _, hd, rfl, B.same _ _ hhd, h64, fun H1 s1 => ?_⟩
    refine ⟨G, b, _, rfl, w1, B.ext s1, fun H2 r hr2 B2 => ?_⟩
    obtain ⟨row, hrow⟩ : ∃ row, (ords (Tr.fo Tt (eF Z) (Tr.fn S)) (Tr.fo Tt (eF Z) (Tr.fn S)).ns)[r]? = some row := ⟨_, List.getElem?_eq_getElem hr2⟩
    obtain ⟨hok, hrk⟩ := ok_at hrow
    have hrl : row.length < 64 := by have := hok.perm.length_eq; omega
    have hin : ∀ u ∈ row, u < 64 := fun u hu => Nat.lt_of_lt_of_le (Tr.fo_lt u (hok.mem u hu)) m64
    refine ⟨tv, _, _, nV r, true, rfl, .int _, (hs.same B2.same).asked ⟨fun r' row' er erow H3 ra s3 ra0 hra => ?_, fun bad => absurd bad (notbad hr2)⟩⟩
    rw [← nV_inj.mp er, hrow] at erow
    cases erow
    obtain ⟨G3, g3, B3, tr3⟩ := B2.call s3
    have hraG := tr3 _ _ hra (.inl ra0)
    refine ⟨_, rfl, _, rfl, _, hd, .ref ra, true, rfl, B3.same _ _ (g3 _ _ hhd), h64, ord_row hra hok, fun H4 s4 => ?_⟩
    have B4 := B3.ext s4
    refine ⟨_, rfl, ifF (by simp) ?_⟩
    refine ⟨_, rfl, ra, _, rfl, .inl (SqL.of (s4 _ _ hra)), ?_⟩
    refine ⟨_, rfl, G3, b, 12, rfl, by decide, B4, fun H5 way hw B5 => ?_⟩
    refine ⟨_, rfl, _, rfl, _, rfl, _, rfl, G3, b, ra, row, Tt.m, way, rfl, m64, hin, by omega, hraG, B5, fun G6 H6 x g6 B6 bx => ?_⟩
    refine ⟨(show 1 ≤ sizeLine by decide), fun L hL => ?_⟩
    have hGL : G6 L = none := B6.same.free hL
    obtain ⟨B7, _⟩ := B6.new (o := .lst [x]) hL
    have hlm : (row.map nV).length = row.length := List.length_map _
    show tSeq _ _ _ _ (upd H6 L (.lst [x]))
    generalize upd H6 L (.lst [x]) = H7 at B7
    refine ⟨2, rfl, by decide, by decide, ?_⟩
    refine for_pre (wf_range 2) (fun pre σ H' => ∃ (Gm : Hp) (xs : List V) (v10 v14 : Option V), σ = [some (.ref b), some tv, some (sV S), some (sV Z), some (.ref hd), some (nV Tt.m), some (.ref ra), some (.int ((row.map nV).length : Int)), some (nV way), some (.ref L), v10, none, none, none, v14] ∧
      Same G6 Gm ∧ Gm L = none ∧ Bx (upd Gm L (.lst xs)) H' b ∧ xs.length = pre.length + 1 ∧ ∀ y ∈ xs, Bnt K Gm y) ?_ ?_ ?_ ?_
    · exact ⟨G6, [x], none, none, rfl, Same.refl _, hGL, B7, rfl, fun y hy => by rw [List.mem_singleton.mp hy]; exact bx⟩
    · intro _ _ _ _; trivial
    · rintro pre k post σ H8 e ⟨Gm, xs, v10, v14, rfl, gm, hmL, B8, hxl, hxs⟩
      obtain ⟨ep, hn⟩ := range_split e
      have hpl : pre.length ≤ 2 := by
        have := congrArg List.length e
        rw [List.length_range, List.length_append, List.length_cons] at this
        omega
      have hL8 : H8 L = some (.lst xs) := B8.same _ _ upd_same
      refine ⟨_, rfl, .inl ⟨rfl, _, SqL.of hL8⟩, _, rfl, ((row.map nV).length : Int), rfl, by omega, by omega, fun D hD => ?_⟩
      have nDL : L ≠ D := ne_of_none hL8 hD
      have hmD : Gm D = none := by
        have := B8.same.free hD
        rw [upd_ne nDL.symm] at this
        exact this
      rw [Int.toNat_natCast, hlm]
      refine lc_pre (wf_range row.length) (fun pre2 H' => ∃ (Gd : Hp) (ys : List Nat), Same Gm Gd ∧ Gd L = none ∧ Gd D = some (.lst (ys.map nV)) ∧ Bx (upd Gd L (.lst xs)) H' b ∧ ys.length = pre2.length ∧ ∀ y ∈ ys, y < 64) ?_ ?_ ?_ ?_
      · refine ⟨upd Gm D (.lst []), [], (Same.refl Gm).new hmD, by rw [upd_ne nDL]; exact hmL, upd_same, ?_, rfl, fun y hy => by cases hy⟩
        have := (B8.new (o := .lst []) hD).1
        rw [upd_comm nDL] at this
        exact this
      · intro _ _ _; trivial
      · rintro pre2 j post2 H9 e2 ⟨Gd, ys, gd, hdL, hdD, B9, hyl, hys⟩
        have hyl2 : ys.length ≤ 100 := by
          have := congrArg List.length e2
          rw [List.length_range, List.length_append, List.length_cons] at this
          omega
        refine ⟨rfl, ?_⟩
        refine ⟨_, rfl, _, rfl, upd Gd L (.lst xs), b, Tt.m, rfl, by omega, B9, fun H10 r10 hr10 B10 => ?_⟩
        have hD10 : (upd Gd L (.lst xs)) D = some (.lst (ys.map nV)) := by rw [upd_ne nDL.symm]; exact hdD
        refine ⟨_, B10.same _ _ hD10, by rw [List.length_map]; exact small100 (by omega), upd Gd D (.lst ((ys ++ [r10]).map nV)), ys ++ [r10], gd.put hmD, by rw [upd_ne nDL]; exact hdL, upd_same, ?_, by rw [List.length_append, List.length_append, hyl]; rfl, fun y hy => ?_⟩
        · have := B10.set (o := .lst ((ys ++ [r10]).map nV)) hD10
          rw [upd_comm nDL, List.map_append] at this
          rw [List.map_append]
          exact this
        · have mpos := Tr.m_pos Tt
          rcases List.mem_append.mp hy with hy | hy
          · exact hys y hy
          · rw [List.mem_singleton.mp hy]; rcases hr10 with h | h <;> omega
      · rintro H9 ⟨Gd, ys, gd, hdL, hdD, B9, hyl, hys⟩
        have hL9 : (upd Gd L (.lst xs)) L = some (.lst xs) := upd_same
        refine ⟨L, xs, .ref D, rfl, rfl, B9.same _ _ hL9, small100 (by omega), ?_⟩
        refine ⟨Gd, xs ++ [.ref D], _, _, rfl, gm.trans gd, hdL, ?_, by rw [List.length_append, List.length_append, hxl]; rfl, fun y hy => ?_⟩
        · have := B9.set (o := .lst (xs ++ [.ref D])) hL9
          rw [upd_twice] at this
          exact this
        · rcases List.mem_append.mp hy with hy | hy
          · exact (hxs y hy).same gd
          · rw [List.mem_singleton.mp hy]
            exact bnt_row hdD hys (by rw [hyl, List.length_range]; omega)
    · rintro σ H8 ⟨Gm, xs, v10, v14, rfl, gm, hmL, B8, hxl, hxs⟩
      have hxl : xs.length = 3 := by rw [hxl, List.length_range]
      have gL : Same Gm (upd Gm L (.lst xs)) := (Same.refl Gm).new hmL
      have gAll : Same G (upd Gm L (.lst xs)) := ((g3.trans g6).trans gm).trans gL
      have hL8 : H8 L = some (.lst xs) := B8.same _ _ upd_same
      have hx8 : ∀ y ∈ xs, Bnt K H8 y := fun y hy => ((hxs y hy).same gL).same B8.same
      have hs8 : Sit CT H8 Tt S Z tv := (hs.same gAll).same B8.same
      have hd8 := B8.same _ _ (gAll _ _ hhd)
      generalize upd Gm L (.lst xs) = G8 at B8 gAll
      refine ⟨3, rfl, by decide, by decide, ?_⟩
      refine for_pre (wf_range 3) (fun pre σ H' => ∃ v10 v11 v12 v13 v14 : Option V, σ = [some (.ref b), some tv, some (sV S), some (sV Z), some (.ref hd), some (nV Tt.m), some (.ref ra), some (.int ((row.map nV).length : Int)), some (nV way), some (.ref L), v10, v11, v12, v13, v14] ∧ Same H8 H') ?_ ?_ ?_ ?_
      · exact ⟨_, _, _, _, _, rfl, Same.refl _⟩
      · intro _ _ _ _; trivial
      · rintro pre k post σ H9 e ⟨v10', v11', v12', v13', v14', rfl, s9⟩
        obtain ⟨ep, hn⟩ := range_split e
        obtain ⟨y, hy⟩ : ∃ y, xs[k]? = some y := ⟨_, List.getElem?_eq_getElem (by omega)⟩
        have hb := hx8 y (List.mem_of_getElem? hy)
        obtain ⟨jb, hjb⟩ := hb.ord (Tr.fo Tt (eF Z) (Tr.fn S))
        obtain ⟨d, hd'⟩ := hb.shw
        refine ⟨_, rfl, _, rfl, L, xs, ((k : Nat) : Int), y, rfl, rfl, SqL.of (s9 _ _ hL8), atI_nat hy, ?_⟩
        refine ⟨_, rfl, y, d, rfl, hd'.same s9, ?_⟩
        refine ⟨_, rfl, _, rfl, _, hd, y, jb, rfl, s9 _ _ hd8, h64, hjb.same s9, fun H10 s10 => ?_⟩
        have t10 := s9.trans s10
        refine ⟨_, rfl, _, rfl, _, rfl, _, rfl, tv, _, _, y, rfl, (hs8.same t10).asked ⟨jb, hjb.same t10, fun H11 s11 => ?_⟩⟩
        have t11 := t10.trans s11
        refine ⟨_, rfl, jb, jb, rfl, ?_⟩
        rw [decide_eq_true rfl]
        refine ⟨_, rfl, _, rfl, y, d, rfl, hd'.same t11, _, rfl, rfl, _, rfl, ifF (by simp) ?_⟩
        cases jb with
        | true =>
          obtain ⟨a, row', rfl, ha, ok'⟩ := hjb.row
          refine ⟨_, rfl, _, rfl, ?_⟩
          refine ⟨_, rfl, _, rfl, _, rfl, _, rfl, _, rfl, _, rfl, _, a, hd, row', rfl, t11 _ _ ha, t11 _ _ hd8, h64, ok', fun H12 s12 => ?_⟩
          have t12 := t11.trans s12
          refine ⟨Tt, S, Z, tv, a, row', rfl, hs8.same t12, t12 _ _ ha, ok', fun H13 s13 => ?_⟩
          refine ⟨_, rfl, ifF (by simp) ?_⟩
          refine ⟨_, rfl, _, rfl, ?_⟩
          exact ⟨_, _, _, _, _, rfl, t12.trans s13⟩
        | false =>
          have ts : ∀ (x : Str), ∀ v ∈ ([V.str "InvalidSlot", V.str x] : List V), flatB v = true := fun x v hv => by
            rcases List.mem_cons.mp hv with rfl | hv
            · rfl
            · rw [List.mem_singleton.mp hv]; rfl
          have dr : (2 = 0 ∧ ∀ Q E, Err CS "slot" y H11 E → spHC K CT CF [tv, sV S, sV Z] H11 Q E) ∨ (2 = 1 ∧ ∀ Q E, Err CS "slot" y H11 E → spHA K CT CF CN [tv, sV S, sV Z, y] H11 Q E) ∨ (2 = 2 ∧ ∀ Q E, Err CS "slot" y H11 E → spHR K CT CF CS [tv, sV S, sV Z, y] H11 Q E) ∨ (2 = 3 ∧ ∀ Q E, Err CS "slot" y H11 E → spHI K CT CF [tv, sV S, sV Z, y] H11 Q E) :=
            .inr (.inr (.inl ⟨rfl, fun Q' E' err => ⟨tv, _, _, y, rfl, (hs8.same t11).asked ⟨false, hjb.same t11, fun a row' ea ha ok' => (by
              have h1 := ord_row (K := K) ha ok'
              rw [← ea] at h1
              have := OrdA.one h1 (hjb.same t11)
              cases this), fun _ => err⟩⟩⟩))
          refine ⟨_, rfl, _, rfl, ifF rfl ?_⟩
          refine ⟨_, rfl, _, rfl, ?_⟩
          refine ⟨_, rfl, ((k : Nat) : Int), 0, rfl, rfl, ?_⟩
          by_cases c : 0 < k
          · refine ⟨_, rfl, ifT (decide_eq_true (by omega)) ?_⟩
            refine ⟨_, rfl, _, rfl, _, rfl, _, rfl, 2, tv, sV S, sV Z, y, CS, "slot", "InvalidSlot", y, d, rfl, .slot, hd'.same t11, dr, fun HA a sA a0 hA => ?_⟩
            have tA := t11.trans sA
            refine ⟨_, rfl, (show 2 ≤ sizeLine by decide), fun p hp => ?_⟩
            have uA := (Same.refl HA).new (o := .tup [.str "InvalidSlot", .str d.shown]) hp
            refine ⟨a, p, [.str "InvalidSlot", .str d.shown], rfl, rfl, SqT.of (uA _ _ hA), SqT.of upd_same, ts _, _, rfl, ?_⟩
            refine ⟨_, rfl, y, d, rfl, hd'.same (tA.trans uA), _, rfl, rfl, _, rfl, ifF (by simp) ?_⟩
            exact ⟨_, _, _, _, _, rfl, tA.trans uA⟩
          · refine ⟨_, rfl, ifF (decide_eq_false (by omega)) ?_⟩
            refine ⟨_, rfl, ((way : Nat) : Int), 11, rfl, rfl, _, rfl, ?_⟩
            by_cases c2 : way < 11
            · refine ifT (decide_eq_true (by omega)) ?_
              refine ⟨_, rfl, _, rfl, _, rfl, _, rfl, 2, tv, sV S, sV Z, y, CS, "slot", "InvalidSlot", y, d, rfl, .slot, hd'.same t11, dr, fun HA a sA a0 hA => ?_⟩
              have tA := t11.trans sA
              refine ⟨_, rfl, (show 2 ≤ sizeLine by decide), fun p hp => ?_⟩
              have uA := (Same.refl HA).new (o := .tup [.str "InvalidSlot", .str d.shown]) hp
              refine ⟨a, p, [.str "InvalidSlot", .str d.shown], rfl, rfl, SqT.of (uA _ _ hA), SqT.of upd_same, ts _, _, rfl, ?_⟩
              refine ⟨_, rfl, y, d, rfl, hd'.same (tA.trans uA), _, rfl, rfl, _, rfl, ifF (by simp) ?_⟩
              exact ⟨_, _, _, _, _, rfl, tA.trans uA⟩
            · refine ifF (decide_eq_false (by omega)) ?_
              exact ⟨_, _, _, _, _, rfl, t11⟩
      · rintro σ H9 ⟨v10', v11', v12', v13', v14', rfl, s9⟩
        exact q _ _ gAll (B8.ext s9)
end
end K22
set_option Elab.async false
set_option linter.all false
set_option maxRecDepth 100000
set_option maxHeartbeats 4000000
namespace K22
open PySem PySem.Spec PyProof.Rows L2
/-- Tree(text) -/
structure ClT (P : Program) (w : World) (K : PySem.W.Frag) (mg : Str → Option Value) (base : Heap) (C : Addr) : Prop where
  ex : ∃ (g : Addr) (fd : FuncData) (ps : List Str), L2.Mk K C g ∧ FnOk P w K mg base (L2.CX P w) 3 g fd ps (spTI C) ∧ Binds K fd ps [] ∧ mg "Tree" = some (.ref C)
theorem pe_mkT {X : Cx} {j : Nat} {C : Addr} {p pos : Pos} {e : Expr} {es : List Expr} {t : TA} (c : ClT X.prog X.w X.K X.mg X.base C) (hr : Room j X.A) (hk : 4 ≤ j) (hg : Gl X "Tree") (ha : PA X (e :: es) t)
    (he : starEach (e :: es) X.env = (false, eval e X.env) :: starEach es X.env := by rfl) (hpl : (backTo pos (starEach es X.env)).any (·.1) = false := by rfl) :
    PE X (.Call (.Name "Tree" p) (e :: es) [] pos) (tMake C (spTI C) [] E0 t) := by
  obtain ⟨g, fd, ps, M, F, b, hm⟩ := c.ex
  exact pe_make M F (hr.mono hk) hg hm b .nil passL ha (by decide) he hpl
theorem StepAt.tupM {H H' : Hp} (e : TupK H H') {v : V} {x : Nat × Nat} (h : StepAt H v x) : StepAt H' v x := by obtain ⟨a, h1, h2⟩ := h; exact ⟨a, h1, e _ _ h2⟩
theorem WayAt.tupM {H H' : Hp} (e : TupK H H') {v : V} {x : List (Nat × Nat)} (h : WayAt H v x) : WayAt H' v x := by obtain ⟨a, vs, h1, h2, h3⟩ := h; exact ⟨a, vs, h1, e _ _ h2, h3.mono fun _ _ h => StepAt.tupM e h⟩
theorem PairAt.tupM {H H' : Hp} (e : TupK H H') {v : V} {x : Nat × Nat} (h : PairAt H v x) : PairAt H' v x := by obtain ⟨a, h1, h2⟩ := h; exact ⟨a, h1, e _ _ h2⟩
theorem TreeAt.tupM {C : Addr} {H H' : Hp} {v : V} {T : Tr} (e : TupK H H') (ei : ∀ a C dx fs, H a = some (.ins C dx fs) → H' a = some (.ins C dx fs)) (h : TreeAt C H v T) : TreeAt C H' v T := by
  obtain ⟨t, dx, fs, wv, sv, h1, h2, h3, ⟨a, vs, h4, h5, h6⟩, h7, ⟨a', vs', h8, h9, h10⟩⟩ := h.ex
  exact ⟨⟨t, dx, fs, wv, sv, h1, ei _ _ _ _ h2, h3, ⟨a, vs, h4, e _ _ h5, h6.mono fun _ _ h => WayAt.tupM e h⟩, h7, ⟨a', vs', h8, e _ _ h9, h10.mono fun _ _ h => PairAt.tupM e h⟩⟩, h.m64⟩
section
variable {P : Program} {w : World} {K : PySem.W.Frag} {mg : Str → Option Value} {base : Heap}
def spLaw (K : PySem.W.Frag) : Sp := fun vs H Q _ => ∃ (a : Addr) (ns : List Int), vs = [.ref a] ∧ SqL K H a (ns.map V.int) ∧ ns.length ≤ 63 ∧ ∀ H' : Hp, Q (.bl true) H'
theorem ok_law {CT CF CS CN : Addr} (T : Tb mg) (F : Df K mg "law" s_law) (c_Tree : ClT P w K mg base CT) (c__law_box : Cl P w K mg base 1 "_law_box" (spBox K)) (c__law_slots : Cl P w K mg base 2 "_law_slots" spSl) (c__law_tree : Cl P w K mg base 3 "_law_tree" spTe) (c__law_flags : Cl P w K mg base 2 "_law_flags" spFl)
    (c__law_start : Cl P w K mg base 2 "_law_start" spSt) (c__law_hung : Cl P w K mg base 4 "_law_hung" spHu) (c__law_counts : Cl P w K mg base 7 "_law_counts" (spCo CT)) (c__law_count : Cl P w K mg base 2 "_law_count" spLc) (c__law_wide : Cl P w K mg base 2 "_law_wide" spWd) (c__law_at : Cl P w K mg base 8 "_law_at" (spAt CT))
    (c__law_listed : Cl P w K mg base 8 "_law_listed" (spLi CT)) (c__law_bends : ClG P w K mg base 8 "_law_bends" (spBe CT)) (c__law_refusals : ClG P w K mg base 8 "_law_refusals" (spRe CT)) : ClG P w K mg base 9 "law" (spLaw K) := by
  refine clG_mk F sc_law (fun vs H Q E h => ?_) (fun _ _ _ _ _ _ us hl => match us, hl with | [_], _ => rfl) (fun f cdv A outer s H vs Q E hgd hr h => ?_)
  · obtain ⟨_, _, rfl, _⟩ := h; rfl
  · have hu := hu_of hr
    obtain ⟨sa, ns, rfl, hsa, hns, q⟩ := h
    refine ⟨_, PSs.nox (pss_cons (ps_set (i := 1) sc_law.nd rfl (Or.inl rfl) (pe_cl c__law_box hr (by decide) rfl (pa_cons (pv 0) pa_nil)))
    (pss_cons (ps_set (i := 2) sc_law.nd rfl (Or.inl rfl) (pe_cl c__law_slots hr (by decide) rfl (pa_cons (pv 1) pa_nil)))
    (pss_cons (ps_asg (pe_cl c__law_tree hr (by decide) rfl (pa_cons (pv 1) (pa_cons (pv 2) pa_nil))) (pg_tup (by rfl) (pgs_cons (pg_name (i := 3) sc_law.nd rfl (Or.inl rfl)) (pgs_cons (pg_name (i := 4) sc_law.nd rfl (Or.inl rfl)) pgs_nil))))
    (pss_cons (ps_set (i := 5) sc_law.nd rfl (Or.inl rfl) (pe_cl c__law_flags hr (by decide) rfl (pa_cons (pv 1) (pa_cons (pe_op op_sub (pv 2) pe_int) pa_nil))))
    (pss_cons (ps_set (i := 6) sc_law.nd rfl (Or.inl rfl) (pe_cl c__law_start hr (by decide) rfl (pa_cons (pv 1) (pa_cons (pv 5) (pa_cons pe_str pa_nil)))))
    (pss_cons (ps_set (i := 7) sc_law.nd rfl (Or.inl rfl) (pe_mkT c_Tree hr (by decide) rfl (pa_cons (pv 3) pa_nil)))
    (pss_cons (ps_set (i := 8) sc_law.nd rfl (Or.inl rfl) (pe_cl c__law_hung hr (by decide) rfl (pa_cons (pv 6) (pa_cons (pv 5) (pa_cons (pv 4) pa_nil)))))
    (pss_cons (ps_if (pt_not (pt_val (pe_cl c__law_counts hr (by decide) rfl (pa_cons (pv 7) (pa_cons (pv 6) (pa_cons (pv 5) (pa_cons (pv 4) pa_nil)))))))
      (pss_one (ps_ret pe_bl))
      pss_nil)
    (pss_cons (ps_set (i := 9) sc_law.nd rfl (Or.inl rfl) (pe_cl c__law_count hr (by decide) rfl (pa_cons (pv 8) pa_nil)))
    (pss_cons (ps_set (i := 10) sc_law.nd rfl (Or.inl rfl) (pe_cl c__law_wide hr (by decide) rfl (pa_cons (pv 1) (pa_cons (pv 9) pa_nil))))
    (pss_cons (ps_set (i := 11) sc_law.nd rfl (Or.inl rfl) (pe_ifExp (pt_cmpR op_gt (pv 2) pe_int (nomark _)) (pe_lst (pa_cons (pv 10) pa_nil)) (pe_lst (pa_cons pe_int (pa_cons (pe_op op_sub (pv 9) pe_int) (pa_cons (pv 10) pa_nil))))))
    (pss_cons (ps_for PassesOwn.never rfl (pi_list (pv 11)) (pg_name (i := 12) sc_law.nd rfl (Or.inl rfl))
      (pss_one (ps_if (pt_not (pt_val (pe_cl c__law_at hr (by decide) rfl (pa_cons (pv 7) (pa_cons (pv 6) (pa_cons (pv 5) (pa_cons (pv 4) (pa_cons (pv 8) (pa_cons (pv 12) pa_nil)))))))))
        (pss_one (ps_ret pe_bl))
        pss_nil)))
    (pss_cons (ps_if (PW.pt (pw_and (pt_cmpR op_lt (pv 2) pe_int (nomark _)) (pw_and1 (pt_not (pt_val (pe_cl c__law_listed hr (by decide) rfl (pa_cons (pv 7) (pa_cons (pv 6) (pa_cons (pv 5) (pa_cons (pv 4) (pa_cons (pv 8) pa_nil)))))))))))
      (pss_one (ps_ret pe_bl))
      pss_nil)
    (pss_one (ps_ret (pe_and (pe_clG c__law_bends hgd hr (by decide) rfl (pa_cons (pv 1) (pa_cons (pv 7) (pa_cons (pv 6) (pa_cons (pv 5) (pa_cons (pv 8) (pa_cons (pv 2) pa_nil))))))) (pe_one (pe_clG c__law_refusals hgd hr (by decide) rfl (pa_cons (pv 1) (pa_cons (pv 7) (pa_cons (pv 6) (pa_cons (pv 5) (pa_cons (pv 8) pa_nil))))))))))))))))))))))), ?_⟩
    refine ⟨_, rfl, sa, ns, rfl, hsa, hns, fun G0 H0 b g0 B0 => ?_⟩
    refine ⟨_, rfl, G0, b, rfl, B0, fun H1 m m1 m2 B1 => ?_⟩
    refine ⟨_, rfl, _, rfl, G0, b, m, rfl, m1, m2, B1, fun G2 H2 p wv Tt g2 B2 hm hp hwv => ?_⟩
    subst hm
    have mpos := Tr.m_pos Tt
    have hp2 := B2.same _ _ hp
    refine ⟨p, _, rfl, SqT.of hp2, rfl, ?_⟩
    have hsub : V.int (((Tt.m : Nat) : Int) - 1) = nV (Tt.m - 1) := by
      show V.int _ = V.int _
      congr 1; omega
    refine ⟨_, _, rfl, _, _, rfl, rfl, ?_⟩
    refine ⟨_, rfl, _, rfl, _, 1, rfl, rfl, G2, b, Tt.m - 1, congrArg (fun z => [V.ref b, z]) hsub, by omega, B2, fun G3 H3 Z g3 B3 hZl hZ => ?_⟩
    refine ⟨_, rfl, _, rfl, G3, b, Z, (congrArg (fun z => [V.ref b, sV Z, z]) (show V.str ("?" : Str) = sV [63] by decide +kernel)), hZ, by omega, B3, fun H4 S B4 hSl hS => ?_⟩
    refine ⟨_, rfl, fun x dx hx hdx ne => ⟨x, dx, Tt, rfl, upd_same, m2, fun H5 sb hT => ⟨rfl, ?_⟩⟩⟩
    have s5 : Same H4 H5 := fun a o h => sb a o (ne_of_none h hx) (by rw [upd_ne (ne_of_none h hx), upd_ne (ne_of_none h hdx)]; exact h)
    obtain ⟨G5, g5, B5, tr5⟩ := B4.call s5
    have hT5 : TreeAt CT G5 (.ref x) Tt := hT.tupM (fun a xs h => tr5 _ _ h (.inr fun ys h => by cases h)) (fun a C dx fs h => tr5 _ _ h (.inr fun ys h => by cases h))
    have hs5 : Sit CT G5 Tt S Z (.ref x) := ⟨hT5, hSl.trans hZl, hS, hZl, hZ⟩
    have hLw5 : Lw G5 Tt Z wv := ⟨hwv.same ((g3).trans g5), hZl, hZ, m2⟩
    refine ⟨_, rfl, _, rfl, _, rfl, Tt, S, Z, wv, rfl, hs5.slen, hLw5.same B5.same, fun H6 hd s6 hd0 hdv => ?_⟩
    obtain ⟨G6, g6, B6, tr6⟩ := B5.call s6
    have hd6 : G6 hd = some (ParD (Tr.fo Tt (eF Z) (Tr.fn S))) := tr6 _ _ hdv (.inl hd0)
    have hs6 := hs5.same g6
    have hLw6 := hLw5.same g6
    have h64 := fo_len (e := eF Z) (f := Tr.fn S) m2
    obtain ⟨w1, w2⟩ := oc_wide h64
    refine ⟨_, rfl, _, rfl, _, rfl, _, rfl, Tt, S, Z, .ref x, wv, rfl, hs6.same B6.same, hLw6.same B6.same, fun H7 s7 => ?_⟩
    have B7 := B6.ext s7
    refine ⟨_, rfl, ifF (by simp) ?_⟩
    refine ⟨_, rfl, _, hd, rfl, B7.same _ _ hd6, h64, fun H8 s8 => ?_⟩
    have B8 := B7.ext s8
    refine ⟨_, rfl, _, rfl, G6, b, _, rfl, w1, B8, fun H9 r hr9 B9 => ?_⟩
    have hsub1 : V.int (((oc (Tr.fo Tt (eF Z) (Tr.fn S)) (Tr.fo Tt (eF Z) (Tr.fn S)).ns : Nat) : Int) - 1) = nV (oc (Tr.fo Tt (eF Z) (Tr.fn S)) (Tr.fo Tt (eF Z) (Tr.fn S)).ns - 1) := by
      show V.int _ = V.int _
      congr 1; omega
    refine ⟨_, rfl, ((Tt.m : Nat) : Int), 24, rfl, rfl, _, rfl, ?_⟩
    by_cases c : 24 < Tt.m
    · refine ifT (decide_eq_true (by omega)) ?_
      refine ⟨_, rfl, (show 1 ≤ sizeLine by decide), fun R hR => ?_⟩
      have hl : ∀ x ∈ [r], x < oc (Tr.fo Tt (eF Z) (Tr.fn S)) (Tr.fo Tt (eF Z) (Tr.fn S)).ns := by simpa using hr9
      have el : [nV r] = [r].map nV := rfl
      rw [el]
      generalize [r] = rl at hl
      refine ⟨_, rfl, R, rfl, ⟨_, SqL.of upd_same⟩, ?_⟩
      obtain ⟨B10, k10⟩ := B9.new (o := .lst (rl.map nV)) hR
      have g10 := (g6.trans k10)
      have hs10 := hs6.same k10
      have hLw10 := hLw6.same k10
      have hd10 := k10 _ _ hd6
      have hR10 : upd H9 R (.lst (rl.map nV)) R = some (.lst (rl.map nV)) := upd_same
      generalize upd H9 R (.lst (rl.map nV)) = H10 at B10 hR10
      generalize upd G6 R (.lst (rl.map nV)) = G10 at B10 k10 g10 hs10 hLw10 hd10
      refine for_pre (wf_list (K := K) (a := R) rl nV) (fun pre σ H' => ∃ v : Option V, σ = [some (.ref sa), some (.ref b), some (nV Tt.m), some (sV Tt.txt), some wv, some (sV Z), some (sV S), some (.ref x), some (.ref hd), some (nV (oc (Tr.fo Tt (eF Z) (Tr.fn S)) (Tr.fo Tt (eF Z) (Tr.fn S)).ns)), some (nV r), some (.ref R), v] ∧ Same H10 H') ?_ ?_ ?_ ?_
      · exact ⟨none, rfl, Same.refl _⟩
      · rintro pre σ H' ⟨_, rfl, s2⟩
        exact SqL.of (s2 _ _ hR10)
      · rintro pre X post σ H2 e ⟨_, rfl, s2⟩
        have hX : X < oc (Tr.fo Tt (eF Z) (Tr.fn S)) (Tr.fo Tt (eF Z) (Tr.fn S)).ns := hl X (by rw [e]; simp)
        have t2 := B10.same.trans s2
        refine ⟨_, rfl, _, rfl, _, rfl, _, rfl, _, rfl, _, rfl, Tt, S, Z, .ref x, wv, hd, X, rfl, hs10.same t2, hLw10.same t2, t2 _ _ hd10, hX, fun H3 s3 => ?_⟩
        refine ⟨_, rfl, ifF (by simp) ?_⟩
        exact ⟨_, rfl, s2.trans s3⟩
      · rintro σ H2 ⟨_, rfl, s2⟩
        have B11 := B10.ext s2
        refine ⟨_, rfl, _, 6, rfl, rfl, _, rfl, ?_⟩
        by_cases c6 : Tt.m < 6
        · refine ifT (decide_eq_true (by omega)) ?_
          refine ⟨_, rfl, _, rfl, _, rfl, _, rfl, _, rfl, Tt, S, Z, .ref x, wv, hd, rfl, hs10.same B11.same, hLw10.same B11.same, by omega, B11.same _ _ hd10, fun H3 s3 => ?_⟩
          refine ⟨_, rfl, ifF (by simp) ?_⟩
          have B12 := B11.ext s3
          refine ⟨_, rfl, _, rfl, _, rfl, _, rfl, _, rfl, _, rfl, G10, b, Tt, S, Z, .ref x, hd, rfl, B12, hs10, hd10, fun G13 H13 g13 B13 => ?_⟩
          refine ⟨_, rfl, ?_⟩
          exact ⟨_, rfl, _, rfl, _, rfl, _, rfl, _, rfl, G13, b, Tt, S, Z, .ref x, hd, rfl, B13, hs10.same g13, g13 _ _ hd10, fun H' => q H'⟩
        · refine ifF (decide_eq_false (by omega)) ?_
          have B12 := B11
          refine ⟨_, rfl, _, rfl, _, rfl, _, rfl, _, rfl, _, rfl, G10, b, Tt, S, Z, .ref x, hd, rfl, B12, hs10, hd10, fun G13 H13 g13 B13 => ?_⟩
          refine ⟨_, rfl, ?_⟩
          exact ⟨_, rfl, _, rfl, _, rfl, _, rfl, _, rfl, G13, b, Tt, S, Z, .ref x, hd, rfl, B13, hs10.same g13, g13 _ _ hd10, fun H' => q H'⟩
    · refine ifF (decide_eq_false (by omega)) ?_
      refine ⟨_, rfl, _, 1, rfl, rfl, _, rfl, (show 3 ≤ sizeLine by decide), fun R hR => ?_⟩
      have hl : ∀ x ∈ [0, oc (Tr.fo Tt (eF Z) (Tr.fn S)) (Tr.fo Tt (eF Z) (Tr.fn S)).ns - 1, r], x < oc (Tr.fo Tt (eF Z) (Tr.fn S)) (Tr.fo Tt (eF Z) (Tr.fn S)).ns := by
        intro y hy
        rcases List.mem_cons.mp hy with rfl | hy
        · omega
        rcases List.mem_cons.mp hy with rfl | hy
        · omega
        · rw [List.mem_singleton.mp hy]; exact hr9
      have el : [V.int 0, V.int (((oc (Tr.fo Tt (eF Z) (Tr.fn S)) (Tr.fo Tt (eF Z) (Tr.fn S)).ns : Nat) : Int) - 1), nV r] = [0, oc (Tr.fo Tt (eF Z) (Tr.fn S)) (Tr.fo Tt (eF Z) (Tr.fn S)).ns - 1, r].map nV := by rw [hsub1]; rfl
      rw [el]
      generalize [0, oc (Tr.fo Tt (eF Z) (Tr.fn S)) (Tr.fo Tt (eF Z) (Tr.fn S)).ns - 1, r] = rl at hl
      refine ⟨_, rfl, R, rfl, ⟨_, SqL.of upd_same⟩, ?_⟩
      obtain ⟨B10, k10⟩ := B9.new (o := .lst (rl.map nV)) hR
      have g10 := (g6.trans k10)
      have hs10 := hs6.same k10
      have hLw10 := hLw6.same k10
      have hd10 := k10 _ _ hd6
      have hR10 : upd H9 R (.lst (rl.map nV)) R = some (.lst (rl.map nV)) := upd_same
      generalize upd H9 R (.lst (rl.map nV)) = H10 at B10 hR10
      generalize upd G6 R (.lst (rl.map nV)) = G10 at B10 k10 g10 hs10 hLw10 hd10
      refine for_pre (wf_list (K := K) (a := R) rl nV) (fun pre σ H' => ∃ v : Option V, σ = [some (.ref sa), some (.ref b), some (nV Tt.m), some (sV Tt.txt), some wv, some (sV Z), some (sV S), some (.ref x), some (.ref hd), some (nV (oc (Tr.fo Tt (eF Z) (Tr.fn S)) (Tr.fo Tt (eF Z) (Tr.fn S)).ns)), some (nV r), some (.ref R), v] ∧ Same H10 H') ?_ ?_ ?_ ?_
      · exact ⟨none, rfl, Same.refl _⟩
      · rintro pre σ H' ⟨_, rfl, s2⟩
        exact SqL.of (s2 _ _ hR10)
      · rintro pre X post σ H2 e ⟨_, rfl, s2⟩
        have hX : X < oc (Tr.fo Tt (eF Z) (Tr.fn S)) (Tr.fo Tt (eF Z) (Tr.fn S)).ns := hl X (by rw [e]; simp)
        have t2 := B10.same.trans s2
        refine ⟨_, rfl, _, rfl, _, rfl, _, rfl, _, rfl, _, rfl, Tt, S, Z, .ref x, wv, hd, X, rfl, hs10.same t2, hLw10.same t2, t2 _ _ hd10, hX, fun H3 s3 => ?_⟩
        refine ⟨_, rfl, ifF (by simp) ?_⟩
        exact ⟨_, rfl, s2.trans s3⟩
      · rintro σ H2 ⟨_, rfl, s2⟩
        have B11 := B10.ext s2
        refine ⟨_, rfl, _, 6, rfl, rfl, _, rfl, ?_⟩
        by_cases c6 : Tt.m < 6
        · refine ifT (decide_eq_true (by omega)) ?_
          refine ⟨_, rfl, _, rfl, _, rfl, _, rfl, _, rfl, Tt, S, Z, .ref x, wv, hd, rfl, hs10.same B11.same, hLw10.same B11.same, by omega, B11.same _ _ hd10, fun H3 s3 => ?_⟩
          refine ⟨_, rfl, ifF (by simp) ?_⟩
          have B12 := B11.ext s3
          refine ⟨_, rfl, _, rfl, _, rfl, _, rfl, _, rfl, _, rfl, G10, b, Tt, S, Z, .ref x, hd, rfl, B12, hs10, hd10, fun G13 H13 g13 B13 => ?_⟩
          refine ⟨_, rfl, ?_⟩
          exact ⟨_, rfl, _, rfl, _, rfl, _, rfl, _, rfl, G13, b, Tt, S, Z, .ref x, hd, rfl, B13, hs10.same g13, g13 _ _ hd10, fun H' => q H'⟩
        · refine ifF (decide_eq_false (by omega)) ?_
          have B12 := B11
          refine ⟨_, rfl, _, rfl, _, rfl, _, rfl, _, rfl, _, rfl, G10, b, Tt, S, Z, .ref x, hd, rfl, B12, hs10, hd10, fun G13 H13 g13 B13 => ?_⟩
          refine ⟨_, rfl, ?_⟩
          exact ⟨_, rfl, _, rfl, _, rfl, _, rfl, _, rfl, G13, b, Tt, S, Z, .ref x, hd, rfl, B13, hs10.same g13, g13 _ _ hd10, fun H' => q H'⟩
end
end K22
set_option Elab.async false
set_option linter.all false
set_option maxRecDepth 100000
set_option maxHeartbeats 4000000
/-! The end of a law whose def's promise is an FnG (the call comes from outside: no repr is under way there). -/
namespace K22
open PySem PySem.Spec PyProof.Rows L2
theorem goes_end {P : Program} {w : World} {K : PySem.W.Frag} {mg mb : Str → Option Value} {k : Nat} {fa a : Addr} {x : Str} {sp : Sp} {s : Shared} {vs : List Value} {ns : List Int}
    (kin : K.In s.heap) (nsM : s.heap.Ns mainGlobals mg) (nsB : s.heap.Ns builtinsNs mb) (same : ∀ y : Str, y ≠ "__name__" → mb y = bootBuiltins y) (lim : s.heap.NoLimit) (gens : s.gens = #[])
    (obj : s.heap.get? a = some { cls := .type "list", data := .seq vs.toArray }) (hints : IntsAre vs ns) (small : ns.length ≤ sizeLine) (room : Room k callerA)
    (named : mg x = some (.ref fa)) (F : ∀ base : Heap, ClG P w K mg base k x sp)
    (promise : ∀ H : Hp, SqL K H a (ns.map V.int) → sp [.ref a] H (fun v _ => v = .bl true) fun _ _ _ => False) :
    codeAny (model P w) callerA (.call (.ref fa) ⟨[.ref a], []⟩) (fun r t => r = .ok (.ret (.bool true)) ∧ OldK s.heap t.heap ∧ t.os = s.os ∧ AllBare t.gens) s := by
  have vals := vals_ints hints
  -- the run over a picture H of the heap in which the script alone may stand
  have go : ∀ H : Hp, SqL K H a (ns.map V.int) → HOk P w H s.heap → (∀ c u, H c = some u → c = a ∧ K.lookup a = none ∧ ∃ ob xs, u = .frz ob (.lst xs)) →
      codeAny (model P w) callerA (.call (.ref fa) ⟨[.ref a], []⟩) (fun r t => r = .ok (.ret (.bool true)) ∧ OldK s.heap t.heap ∧ t.os = s.os ∧ AllBare t.gens) s := by
    intro H sq hok own
    have noNs : ∀ c m, s.heap.Ns c m → H c = none := fun c m hn => by
      obtain ⟨o, es, ep, e, d, _⟩ := hn
      rcases hc : H c with _ | u
      · rfl
      · obtain ⟨rfl, _⟩ := own c u hc
        rw [obj] at e
        injection e with e
        rw [← e] at d
        cases d
    have lift : ∀ {c m}, s.heap.Ns c m → (hidT s.heap H).Ns c m := fun {c m} hn => by
      have free := noNs c m hn
      obtain ⟨o, es, ep, e, d, r⟩ := hn
      exact ⟨o, es, ep, hidT_get e free, d, r⟩
    have kin' : K.In (hidT s.heap H) := fun c o e => by
      rcases hc : H c with _ | u
      · exact hidT_get (kin c o e) hc
      · obtain ⟨rfl, nk, _⟩ := own c u hc
        rw [nk] at e
        cases e
    have lim' : (hidT s.heap H).NoLimit := by
      obtain ⟨mc, l1, l2⟩ := lim
      exact ⟨mc, lift l1, l2⟩
    have env : Env0 P w K mg (hidT s.heap H) callerA [] s H :=
      { frames := rfl, mod := ⟨kin', lift nsM, ⟨mb, lift nsB, same⟩, lim'⟩, bs := fun c o e => of_hidT e, bsz := Nat.le_of_eq (hidT_size _ _), funs := trivial, frf := fun c hc => absurd hc (List.not_mem_nil), hok := hok, bare := .of_eq gens }
    obtain ⟨f, fd, ps, G, nm, _, b⟩ := (F (hidT s.heap H)).ex
    rw [named] at nm
    cases nm
    have bind := b s [.ref a] kin (G.len _ _ _ _ (promise H sq))
    have call := G.run callerA [] s H ⟨[.ref a], []⟩ [.ref a] [.ref a] (fun v _ => v = .bl true) (fun _ _ _ => False) rfl room env bind (.cons rfl .nil) (promise H sq)
    refine codeAny_mono call fun r t hr => ?_
    match r, hr with
    | .error _, hr =>
      obtain ⟨_, _, _, _, _, _, _, _, _, _, _, _, z⟩ := hr
      exact z.elim
    | .ok .next, hr => exact hr.elim
    | .ok .brk, hr => exact hr.elim
    | .ok .cont, hr => exact hr.elim
    | .ok (.ret u), hr =>
      obtain ⟨v, H2, eos, eb, un, hok2, rel, rfl⟩ := hr
      cases rel
      refine ⟨rfl, OldK.of_keep fun c o e => ?_, eos, eb⟩
      rcases hc : H c with _ | z
      · exact un.keep c o e hc (fun m => (List.not_mem_nil m).elim) (fun m => (List.not_mem_nil m).elim)
      · obtain ⟨_, _, ob, xs, rfl⟩ := own c z hc
        have h1 := (hok c _ hc).1
        have h2 := (hok2 c _ (un.frzs c ob _ hc)).1
        rw [h1] at e
        cases e
        exact h2
  rcases hk : K.lookup a with _ | o
  · have at_ : (fun c => if c = a then some (HO.frz { cls := .type "list", data := .seq vs.toArray } (.lst (ns.map V.int))) else none : Hp) a = some (HO.frz { cls := .type "list", data := .seq vs.toArray } (.lst (ns.map V.int))) := if_pos rfl
    refine go (fun c => if c = a then some (.frz { cls := .type "list", data := .seq vs.toArray } (.lst (ns.map V.int))) else none) (.inl (.inr ⟨_, at_⟩)) (fun c u hc => ?_) fun c u hc => ?_
    · by_cases e : c = a
      · subst e
        cases at_.symm.trans hc
        exact ⟨obj, by rw [List.length_map]; exact small, vs, _, vals, obj⟩
      · have hc2 := (if_neg e).symm.trans hc
        cases hc2
    · by_cases e : c = a
      · subst e
        cases at_.symm.trans hc
        exact ⟨rfl, hk, _, _, rfl⟩
      · have hc2 := (if_neg e).symm.trans hc
        cases hc2
  · have e := kin a o hk
    rw [obj] at e
    cases e
    exact go (fun _ => none) (.inr ⟨_, vs.toArray, _, hk, rfl, rfl, rfl, by rw [List.size_toArray, hints.length]; exact small, by simpa using vals⟩) (fun c u hc => by cases hc) fun c u hc => by cases hc
end K22
set_option Elab.async false
set_option linter.all false
set_option maxRecDepth 100000
set_option maxHeartbeats 0
/-! What the top leaves, looked at by a Hook of my own (the kit's facts, some more, the getter of a property), and the top's run. -/
namespace K22
open PySem PySem.Spec PyProof.Rows L2

def hdDefs0 : List He.DefD := [⟨("is_integer", none), "is_integer", "is_integer", defArgs s_is_integer, defBody s_is_integer, defScope s_is_integer, [], []⟩, ⟨("is_made_of", none), "is_made_of", "is_made_of", defArgs s_is_made_of, defBody s_is_made_of, defScope s_is_made_of, [], []⟩, ⟨("checked_flags", none), "checked_flags", "checked_flags", defArgs s_checked_flags, defBody s_checked_flags, defScope s_checked_flags, [], []⟩, ⟨("checked_pattern", none), "checked_pattern", "checked_pattern", defArgs s_checked_pattern, defBody s_checked_pattern, defScope s_checked_pattern, [], []⟩, ⟨("checked_number", none), "checked_number", "checked_number", defArgs s_checked_number, defBody s_checked_number, defScope s_checked_number, [.non], []⟩, ⟨("branch_sizes", none), "branch_sizes", "branch_sizes", defArgs s_branch_sizes, defBody s_branch_sizes, defScope s_branch_sizes, [], []⟩, ⟨("sizes_without", none), "sizes_without", "sizes_without", defArgs s_sizes_without, defBody s_sizes_without, defScope s_sizes_without, [], []⟩, ⟨("order_count", none), "order_count", "order_count", defArgs s_order_count, defBody s_order_count, defScope s_order_count, [], []⟩, ⟨("count_begun", none), "count_begun", "count_begun", defArgs s_count_begun, defBody s_count_begun, defScope s_count_begun, [], []⟩, ⟨("begun_at", none), "begun_at", "begun_at", defArgs s_begun_at, defBody s_begun_at, defScope s_begun_at, [], []⟩, ⟨("order_at", none), "order_at", "order_at", defArgs s_order_at, defBody s_order_at, defScope s_order_at, [], []⟩, ⟨("is_order", none), "is_order", "is_order", defArgs s_is_order, defBody s_is_order, defScope s_is_order, [], []⟩, ⟨("order_rank", none), "order_rank", "order_rank", defArgs s_order_rank, defBody s_order_rank, defScope s_order_rank, [], []⟩, ⟨("trail_rows", none), "trail_rows", "trail_rows", defArgs s_trail_rows, defBody s_trail_rows, defScope s_trail_rows, [], []⟩, ⟨("trail_parents", none), "trail_parents", "trail_parents", defArgs s_trail_parents, defBody s_trail_parents, defScope s_trail_parents, [], []⟩, ⟨("forks_below", none), "forks_below", "forks_below", defArgs s_forks_below, defBody s_forks_below, defScope s_forks_below, [], []⟩, ⟨("needed_slots", none), "needed_slots", "needed_slots", defArgs s_needed_slots, defBody s_needed_slots, defScope s_needed_slots, [], []⟩, ⟨("needed_parents", none), "needed_parents", "needed_parents", defArgs s_needed_parents, defBody s_needed_parents, defScope s_needed_parents, [], []⟩, ⟨("hit_plan_count", none), "hit_plan_count", "hit_plan_count", defArgs s_hit_plan_count, defBody s_hit_plan_count, defScope s_hit_plan_count, [], []⟩, ⟨("hit_plan_at", none), "hit_plan_at", "hit_plan_at", defArgs s_hit_plan_at, defBody s_hit_plan_at, defScope s_hit_plan_at, [], []⟩]
def hdDefs1 : List He.DefD := [⟨("hit_plan_rank", none), "hit_plan_rank", "hit_plan_rank", defArgs s_hit_plan_rank, defBody s_hit_plan_rank, defScope s_hit_plan_rank, [], []⟩, ⟨("is_hit_plan", none), "is_hit_plan", "is_hit_plan", defArgs s_is_hit_plan, defBody s_is_hit_plan, defScope s_is_hit_plan, [], []⟩, ⟨("ends_fork", none), "ends_fork", "ends_fork", defArgs s_ends_fork, defBody s_ends_fork, defScope s_ends_fork, [], []⟩, ⟨("read_forks", none), "read_forks", "read_forks", defArgs s_read_forks, defBody s_read_forks, defScope s_read_forks, [], []⟩, ⟨("lay_ways", none), "lay_ways", "lay_ways", defArgs s_lay_ways, defBody s_lay_ways, defScope s_lay_ways, [], []⟩, ⟨("_law_is_integer", none), "_law_is_integer", "_law_is_integer", defArgs s__law_is_integer, defBody s__law_is_integer, defScope s__law_is_integer, [], []⟩, ⟨("_law_truth", none), "_law_truth", "_law_truth", defArgs s__law_truth, defBody s__law_truth, defScope s__law_truth, [], []⟩, ⟨("_law_same", none), "_law_same", "_law_same", defArgs s__law_same, defBody s__law_same, defScope s__law_same, [], []⟩, ⟨("_law_box", none), "_law_box", "_law_box", defArgs s__law_box, defBody s__law_box, defScope s__law_box, [], []⟩, ⟨("_law_take", none), "_law_take", "_law_take", defArgs s__law_take, defBody s__law_take, defScope s__law_take, [], []⟩, ⟨("_law_join", none), "_law_join", "_law_join", defArgs s__law_join, defBody s__law_join, defScope s__law_join, [], []⟩, ⟨("_law_tree", none), "_law_tree", "_law_tree", defArgs s__law_tree, defBody s__law_tree, defScope s__law_tree, [], []⟩, ⟨("_law_flags", none), "_law_flags", "_law_flags", defArgs s__law_flags, defBody s__law_flags, defScope s__law_flags, [], []⟩, ⟨("_law_slots", none), "_law_slots", "_law_slots", defArgs s__law_slots, defBody s__law_slots, defScope s__law_slots, [], []⟩, ⟨("_law_start", none), "_law_start", "_law_start", defArgs s__law_start, defBody s__law_start, defScope s__law_start, [], []⟩, ⟨("_law_bent", none), "_law_bent", "_law_bent", defArgs s__law_bent, defBody s__law_bent, defScope s__law_bent, [], []⟩, ⟨("_law_hit", none), "_law_hit", "_law_hit", defArgs s__law_hit, defBody s__law_hit, defScope s__law_hit, [], []⟩, ⟨("_law_holders", none), "_law_holders", "_law_holders", defArgs s__law_holders, defBody s__law_holders, defScope s__law_holders, [], []⟩, ⟨("_law_above", none), "_law_above", "_law_above", defArgs s__law_above, defBody s__law_above, defScope s__law_above, [], []⟩, ⟨("_law_due", none), "_law_due", "_law_due", defArgs s__law_due, defBody s__law_due, defScope s__law_due, [], []⟩]
def hdDefs2 : List He.DefD := [⟨("_law_sizes", none), "_law_sizes", "_law_sizes", defArgs s__law_sizes, defBody s__law_sizes, defScope s__law_sizes, [], []⟩, ⟨("_law_count", none), "_law_count", "_law_count", defArgs s__law_count, defBody s__law_count, defScope s__law_count, [], []⟩, ⟨("_law_share", none), "_law_share", "_law_share", defArgs s__law_share, defBody s__law_share, defScope s__law_share, [], []⟩, ⟨("_law_rank", none), "_law_rank", "_law_rank", defArgs s__law_rank, defBody s__law_rank, defScope s__law_rank, [], []⟩, ⟨("_law_judged", none), "_law_judged", "_law_judged", defArgs s__law_judged, defBody s__law_judged, defScope s__law_judged, [], []⟩, ⟨("_law_wide", none), "_law_wide", "_law_wide", defArgs s__law_wide, defBody s__law_wide, defScope s__law_wide, [], []⟩, ⟨("_law_bent_rank", none), "_law_bent_rank", "_law_bent_rank", defArgs s__law_bent_rank, defBody s__law_bent_rank, defScope s__law_bent_rank, [], []⟩, ⟨("_law_rows", none), "_law_rows", "_law_rows", defArgs s__law_rows, defBody s__law_rows, defScope s__law_rows, [], []⟩, ⟨("_law_bend", none), "_law_bend", "_law_bend", defArgs s__law_bend, defBody s__law_bend, defScope s__law_bend, [], []⟩, ⟨("_law_fault", none), "_law_fault", "_law_fault", defArgs s__law_fault, defBody s__law_fault, defScope s__law_fault, [], []⟩, ⟨("_law_read", none), "_law_read", "_law_read", defArgs s__law_read, defBody s__law_read, defScope s__law_read, [], []⟩, ⟨("_law_at", none), "_law_at", "_law_at", defArgs s__law_at, defBody s__law_at, defScope s__law_at, [], []⟩, ⟨("_law_listed", none), "_law_listed", "_law_listed", defArgs s__law_listed, defBody s__law_listed, defScope s__law_listed, [], []⟩, ⟨("_law_hung", none), "_law_hung", "_law_hung", defArgs s__law_hung, defBody s__law_hung, defScope s__law_hung, [], []⟩, ⟨("_law_counts", none), "_law_counts", "_law_counts", defArgs s__law_counts, defBody s__law_counts, defScope s__law_counts, [], []⟩, ⟨("_law_bends", none), "_law_bends", "_law_bends", defArgs s__law_bends, defBody s__law_bends, defScope s__law_bends, [], []⟩, ⟨("_law_refusals", none), "_law_refusals", "_law_refusals", defArgs s__law_refusals, defBody s__law_refusals, defScope s__law_refusals, [], []⟩, ⟨("law", none), "law", "law", defArgs s_law, defBody s_law, defScope s_law, [], []⟩, ⟨("InvalidFlags", some "__init__"), "__init__", "InvalidFlags.__init__", defArgs s_InvalidFlags___init__, defBody s_InvalidFlags___init__, defScope s_InvalidFlags___init__, [], []⟩, ⟨("InvalidSlot", some "__init__"), "__init__", "InvalidSlot.__init__", defArgs s_InvalidSlot___init__, defBody s_InvalidSlot___init__, defScope s_InvalidSlot___init__, [], []⟩]
def hdDefs3 : List He.DefD := [⟨("InvalidNumber", some "__init__"), "__init__", "InvalidNumber.__init__", defArgs s_InvalidNumber___init__, defBody s_InvalidNumber___init__, defScope s_InvalidNumber___init__, [], []⟩, ⟨("Tree", some "__init__"), "__init__", "Tree.__init__", defArgs s_Tree___init__, defBody s_Tree___init__, defScope s_Tree___init__, [], []⟩, ⟨("Tree", some "__len__"), "__len__", "Tree.__len__", defArgs s_Tree___len__, defBody s_Tree___len__, defScope s_Tree___len__, [], []⟩]
def hdDefs : List He.DefD := hdDefs0 ++ hdDefs1 ++ hdDefs2 ++ hdDefs3

def hdFacts0 : List He.Fa := [.glo "is_integer", .glo "is_made_of", .glo "checked_flags", .glo "checked_pattern", .glo "checked_number", .glo "branch_sizes", .glo "sizes_without", .glo "order_count", .glo "count_begun", .glo "begun_at", .glo "order_at", .glo "is_order", .glo "order_rank", .glo "trail_rows", .glo "trail_parents", .glo "forks_below", .glo "needed_slots", .glo "needed_parents", .glo "hit_plan_count", .glo "hit_plan_at"]
def hdFacts1 : List He.Fa := [.glo "hit_plan_rank", .glo "is_hit_plan", .glo "ends_fork", .glo "read_forks", .glo "lay_ways", .glo "_law_is_integer", .glo "_law_truth", .glo "_law_same", .glo "_law_box", .glo "_law_take", .glo "_law_join", .glo "_law_tree", .glo "_law_flags", .glo "_law_slots", .glo "_law_start", .glo "_law_bent", .glo "_law_hit", .glo "_law_holders", .glo "_law_above", .glo "_law_due"]
def hdFacts2 : List He.Fa := [.glo "_law_sizes", .glo "_law_count", .glo "_law_share", .glo "_law_rank", .glo "_law_judged", .glo "_law_wide", .glo "_law_bent_rank", .glo "_law_rows", .glo "_law_bend", .glo "_law_fault", .glo "_law_read", .glo "_law_at", .glo "_law_listed", .glo "_law_hung", .glo "_law_counts", .glo "_law_bends", .glo "_law_refusals", .glo "law", .glo "CacheError", .glo "InvalidFlags"]
def hdFacts3 : List He.Fa := [.glo "InvalidSlot", .glo "InvalidNumber", .glo "Tree", .free "len", .free "isinstance", .free "all", .free "sorted", .free "tuple", .free "list", .free "int", .free "str", .free "bool", .free "range", .free "enumerate", .free "reversed", .free "repr", .free "ValueError", .cls "Tree", .mkr "Tree", .meth "Tree" "__len__"]
def hdFacts4 : List He.Fa := [.noat "Tree" "text", .noat "Tree" "lefts", .noat "Tree" "rights", .noat "Tree" "spans", .noat "Tree" "bounds", .noat "Tree" "postorder", .noat "Tree" "root", .noat "Tree" "preorder", .noat "Tree" "ways", .noat "InvalidFlags" "flags", .noat "InvalidSlot" "slot", .noat "InvalidNumber" "number", .exm "InvalidFlags" "InvalidFlags" true, .exm "InvalidSlot" "InvalidFlags" false, .exm "InvalidSlot" "InvalidSlot" true, .exm "InvalidNumber" "InvalidFlags" false, .exm "InvalidNumber" "InvalidSlot" false, .exm "InvalidNumber" "InvalidNumber" true]
def hdFacts : List He.Fa := hdFacts0 ++ hdFacts1 ++ hdFacts2 ++ hdFacts3 ++ hdFacts4

/-- an error class over ValueError -/
def oexB (K : PySem.W.Frag) (C : Addr) : Bool :=
  (match K.lookup C with
    | some ⟨.type t, _, .cls cd, sl⟩ => t == "type" && !cd.hasDel && cd.hasDict && (match cd.mro with
      | .ref D :: bm => D == C && PySem.HandSPX.refsVE bm
      | _ => false) && (match sl.toList with
      | [_, _, _, _, some (.builtin n), _] => n == "ValueError.__new__"
      | _ => false)
    | _ => false) && (He.eqO (PySem.W.findIn K (.ref C) "__setattr__") (some (some (.builtin "object.__setattr__"))) && (decide (PySem.W.subIn K (.ref C) (.type "BaseException") = some true) && (decide (PySem.W.typeIn K (.ref C) = some (.type "type")) && PySem.W.keepIn K (.ref C))))
/-- what isinstance asks of the class of a caught error -/
def exkB (K : PySem.W.Frag) (C : Addr) : Bool :=
  (PySem.W.clsIn K C).isSome && (He.eqO (PySem.W.findIn K (.ref C) "__class__") (some (some (.builtin "object.__class__"))) && (He.eqO (PySem.W.specialIn K (.builtin "object.__class__") "__get__") (some (some (.builtin "getset_descriptor.__get__"))) &&
    (decide (PySem.W.takesIn K (.builtin "object.__class__") = some true) && (decide (PySem.W.mroIn K C (.type "object") = some true) && xfB K C))))
/-- its __init__ -/
def iniB (K : PySem.W.Frag) (C : Addr) : Bool := He.eqO (PySem.W.findIn K (.ref C) "__init__") (some (some (.ref (He.ma K C "__init__")))) && decide (PySem.W.typeIn K (.ref (He.ma K C "__init__")) = some (.type "function"))
/-- the property and its getter -/
def gAd (K : PySem.W.Frag) : Addr := match PySem.W.recIn K (He.ma K (He.ga K "Tree") "forks") "property" with
  | some (.ref g :: _) => g
  | _ => 0
def proB (K : PySem.W.Frag) : Bool :=
  He.eqO (PySem.W.findIn K (.ref (He.ga K "Tree")) "forks") (some (some (.ref (He.ma K (He.ga K "Tree") "forks")))) && (He.eqO (PySem.W.specialIn K (.ref (He.ma K (He.ga K "Tree") "forks")) "__get__") (some (some (.builtin "property.__get__"))) &&
    (decide (PySem.W.takesIn K (.ref (He.ma K (He.ga K "Tree") "forks")) = some true) && (match PySem.W.recIn K (He.ma K (He.ga K "Tree") "forks") "property" with
      | some (.ref _ :: _) => true
      | _ => false)))
def getB (K : PySem.W.Frag) (a : Addr) (q : Str) : Bool := PySem.W.keepIn K (.ref a) && (match K.lookup a with
  | some ⟨_, _, .func fd, _⟩ => PySem.W.codeIn K fd.code q && (He.dflB K fd.defaults [] && He.kwdB K fd.kwdefaults [])
  | _ => false)
def kitB (K : PySem.W.Frag) (x : Str) (v : Value) (b : Bool) : Bool := decide (PySem.W.kitOne K (.ref (He.ga K x)) v = some b)
def moreB (K : PySem.W.Frag) : Bool :=
  He.eqO (PySem.W.nsIn K mainGlobals "factorial") (some (some (.builtin "math.factorial"))) && He.conB K "Tree" "MOST" (.int 64) && proB K && getB K (gAd K) "Tree.forks" &&
  (["InvalidFlags", "InvalidSlot", "InvalidNumber"] : List Str).all (fun x => oexB K (He.ga K x) && exkB K (He.ga K x) && iniB K (He.ga K x) && kitB K x (.ref (He.ga K "CacheError")) true && kitB K x (.type "ValueError") true) &&
  kitB K "InvalidFlags" (.ref (He.ga K "InvalidSlot")) false && kitB K "InvalidFlags" (.ref (He.ga K "InvalidNumber")) false && kitB K "InvalidSlot" (.ref (He.ga K "InvalidNumber")) false
/-- the text of the def at a -/
def textAt (K : PySem.W.Frag) (a : Addr) : He.FnW := match K.lookup a with
  | some o => (match o.data with
    | .func fd => some (fd.name, fd.qualname, fd.params, fd.body, fd.scope, fd.globals, fd.closure, fd.builtins)
    | _ => none)
  | none => none
abbrev HdV : Type := He.AlD × Bool × He.FnW
def hdLook (K : PySem.W.Frag) : HdV := (He.obsD hdFacts hdDefs K, moreB K, textAt K (gAd K))
def hdWant : HdV := (He.valD hdDefs, true, some ("forks", "Tree.forks", defArgs s_Tree_forks, .stmts (defBody s_Tree_forks), defScope s_Tree_forks, mainGlobals, [], builtinsNs))
/-- where these objects stand once the top has run -/
def hdAt : List Addr := [mainGlobals] ++ [59, 58, 98, 97, 95, 94, 117, 116, 114, 113, 155, 154, 152, 151, 538, 537, 375, 374, 389, 388, 411, 410, 409, 183, 182, 195, 194, 202, 201, 209] ++
  [208, 231, 230, 224, 238, 237, 245, 244, 252, 251, 259, 258, 264, 263, 271, 270, 278, 277, 285, 284, 290, 289, 297, 296, 304, 303, 311, 310, 316, 315] ++
  [323, 322, 330, 329, 337, 336, 344, 343, 349, 348, 356, 355, 363, 362, 549, 548, 556, 555, 563, 562, 568, 567, 575, 574, 582, 581, 587, 586, 592, 591] ++
  [599, 598, 606, 605, 611, 610, 618, 617, 623, 622, 630, 629, 635, 634, 642, 641, 649, 648, 656, 655, 663, 662, 670, 669, 677, 676, 684, 683, 689, 688] ++
  [694, 693, 701, 700, 708, 707, 715, 714, 722, 721, 729, 728, 736, 735, 741, 740, 748, 747, 755, 754]
def hdPart (g : Addr → Option Obj) : PySem.W.Frag := He.frG g hdAt
def hdHook : PySem.W.Hook where
  α := HdV
  obs := fun s => hdLook (hdPart s.heap.get?)
  val := fun _ => hdWant
  says := fun _ h => ∃ K : PySem.W.Frag, K.In h ∧ hdLook K = hdWant
  of := fun _ _ e => ⟨_, He.frG_in, e⟩
  keeps := fun _ _ _ ⟨K, hK, c⟩ k => ⟨K, PySem.W.Frag.In.keeps hK k, c⟩
abbrev hdRow : PySem.W.OpenRow := PySem.W.OpenLaw.row PySem.Challenge.rw_lastside_k22_whole_hit_plans
def hdLoose : List Str := (["_wall", "CacheError", "InvalidTree", "InvalidFlags", "InvalidSlot", "InvalidFork", "InvalidNumber", "TooMany", "is_integer", "is_place", "is_made_of", "checked_flags", "checked_pattern", "checked_slot", "checked_fork", "checked_number", "branch_sizes", "sizes_without", "order_count", "count_begun", "begun_at", "order_at", "is_order", "order_rank", "trail_rows", "trail_parents", "forks_below", "needed_slots", "needed_parents", "hit_plan_count"] : List Str) ++ (["hit_plan_at", "hit_plan_rank", "is_hit_plan", "ends_fork", "read_forks", "lay_ways", "Tree", "_law_is_integer", "_law_truth", "_law_same", "_law_box", "_law_take", "_law_join", "_law_tree", "_law_flags", "_law_slots", "_law_start", "_law_bent", "_law_hit", "_law_holders", "_law_above", "_law_due", "_law_sizes", "_law_count", "_law_share", "_law_rank", "_law_judged", "_law_wide", "_law_bent_rank", "_law_rows"] : List Str) ++ (["_law_bend", "_law_fault", "_law_read", "_law_at", "_law_listed", "_law_hung", "_law_counts", "_law_bends", "_law_refusals"] : List Str)
abbrev hdView : Program := PySem.W.view hdRow.prog [0, 77]
def hdOb (s : PySem.W.SharedT) : HdV := hdLook (hdPart (HandSHeadRun.getT s))
theorem hdOb_eq (s : PySem.W.SharedT) : hdOb s = hdHook.obs s.abs := by
  have e : HandSHeadRun.getT s = s.abs.heap.get? := funext (HandSHeadRun.getT_eq s)
  show hdLook (hdPart (HandSHeadRun.getT s)) = hdLook (hdPart s.abs.heap.get?)
  rw [e]
theorem hdRun (w : World) : HandSHeadRun.RunEqI hdRow hdView hdHook hdOb 8000 hdLoose w := by
  unfold HandSHeadRun.RunEqI
  kernel_rfl
end K22
set_option Elab.async false
set_option linter.all false
set_option maxRecDepth 100000
set_option maxHeartbeats 4000000
namespace K22
open PySem PySem.Spec PyProof.Rows L2
/-! ### the looks, as facts -/
theorem oexB_ok {K : PySem.W.Frag} {C : Addr} (h : oexB K C = true) : OexC K C := by
  obtain ⟨hc, h⟩ := He.ba h
  obtain ⟨h2, h⟩ := He.ba h
  obtain ⟨h3, h⟩ := He.ba h
  obtain ⟨h4, h5⟩ := He.ba h
  refine ⟨?_, He.eqO_ok h2, of_decide_eq_true h3, of_decide_eq_true h4, h5⟩
  rcases ek : K.lookup C with _ | ⟨oc, dd, dt, sl⟩
  · rw [ek] at hc; cases hc
  · rw [ek] at hc
    cases oc with
    | type t =>
      cases dt with
      | cls cd =>
        obtain ⟨nm, bs, mro, N, qn, hd, sn, sub, ab, col, del⟩ := cd
        obtain ⟨hc, hs⟩ := He.ba hc
        obtain ⟨hc, hm⟩ := He.ba hc
        obtain ⟨hc, h1⟩ := He.ba hc
        obtain ⟨ht, hn⟩ := He.ba hc
        have e1 : hd = true := h1
        have e2 : del = false := by
          cases del with
          | false => rfl
          | true => cases hn
        have e3 : t = "type" := beq_iff_eq.mp ht
        subst e1 e2 e3
        split at hm
        · rename_i D bm em
          obtain ⟨hD, hbm⟩ := He.ba hm
          have e4 : mro = .ref D :: bm := em
          have e5 : D = C := beq_iff_eq.mp hD
          subst e4 e5
          split at hs
          · rename_i k0 k1 k2 k3 n k5 es
            have e6 : n = "ValueError.__new__" := beq_iff_eq.mp hs
            subst e6
            obtain ⟨l⟩ := sl
            have e7 : l = [k0, k1, k2, k3, some (.builtin "ValueError.__new__"), k5] := es
            subst e7
            exact ⟨nm, qn, N, bs, bm, sn, sub, ab, col, dd, k0, k1, k2, k3, k5, rfl, hbm⟩
          · cases hs
        · cases hm
      | _ => cases hc
    | _ => cases dt <;> cases hc
theorem exkB_ok {K : PySem.W.Frag} {C : Addr} (h : exkB K C = true) : ExK K C ∧ XfC K C := by
  obtain ⟨h1, h⟩ := He.ba h
  obtain ⟨h2, h⟩ := He.ba h
  obtain ⟨h3, h⟩ := He.ba h
  obtain ⟨h4, h⟩ := He.ba h
  obtain ⟨h5, h6⟩ := He.ba h
  have x := xfB_ok h6
  exact ⟨⟨h1, x.ga, x.gg, x.exC, He.eqO_ok h2, He.eqO_ok h3, of_decide_eq_true h4, of_decide_eq_true h5⟩, x⟩
theorem proB_ok {K : PySem.W.Frag} (h : proB K = true) : PropOf K (He.ga K "Tree") "forks" (He.ma K (He.ga K "Tree") "forks") (gAd K) := by
  obtain ⟨h1, h⟩ := He.ba h
  obtain ⟨h2, h⟩ := He.ba h
  obtain ⟨h3, h4⟩ := He.ba h
  refine ⟨He.eqO_ok h1, He.eqO_ok h2, of_decide_eq_true h3, ?_⟩
  unfold gAd
  rcases e : PySem.W.recIn K (He.ma K (He.ga K "Tree") "forks") "property" with _ | l
  · rw [e] at h4; cases h4
  · rw [e] at h4
    cases l with
    | nil => cases h4
    | cons u r =>
      cases u with
      | ref g => exact ⟨r, rfl⟩
      | _ => cases h4
/-- the def at an address -/
theorem funAt {K : PySem.W.Frag} {a : Addr} {nm qual : Str} {params : Arguments} {body : List Stmt} {scope : Scope} (e : textAt K a = some (nm, qual, params, .stmts body, scope, mainGlobals, [], builtinsNs)) (c : getB K a qual = true) : ∃ fd, FunD K nm qual params body scope [] [] a fd := by
  obtain ⟨kp, c⟩ := He.ba c
  unfold textAt at e
  rcases q : K.lookup a with _ | ⟨oc, od, dt, osl⟩
  · rw [q] at e; cases e
  · rw [q] at e c
    cases dt with
    | func fd =>
      obtain ⟨n1, n2, n3, n4, n5, n6, n7, n8, n9, n10, n11, n12, n13, n14, n15⟩ := fd
      obtain ⟨k1, c⟩ := He.ba c
      obtain ⟨k2, k3⟩ := He.ba c
      have e := Option.some.inj e
      injection e with a1 e
      injection e with a2 e
      injection e with a3 e
      injection e with a4 e
      injection e with a5 e
      injection e with a6 e
      injection e with a7 a8
      have b1 : n1 = nm := a1
      have b2 : n2 = qual := a2
      have b3 : n3 = params := a3
      have b4 : n4 = .stmts body := a4
      have b5 : n5 = scope := a5
      have b6 : n6 = mainGlobals := a6
      have b7 : n7 = [] := a7
      have b8 : n15 = builtinsNs := a8
      subst b1 b2 b3 b4 b5 b6 b7 b8
      exact ⟨_, ⟨oc, od, n8, n9, n10, n11, n12, n13, n14, osl, rfl, q, k1, He.dflB_ok k2, He.kwdB_ok k3⟩, kp⟩
    | _ => cases e
section
variable {P : Program} {w : World} {K : PySem.W.Frag} {mg : Str → Option Value} {h base : Heap}
theorem df_of (X : K.In h) (G : h.Ns mainGlobals mg) (cD : He.SaysD hdFacts hdDefs K) {x : Str} {st : Stmt} (i j : Nat) (hi : hdDefs[i]? = some ⟨(x, none), x, x, defArgs st, defBody st, defScope st, [], []⟩) (hj : hdFacts[j]? = some (.glo x)) : Df K mg x st := by
  obtain ⟨fd, F⟩ := cD.def_ i hi
  exact ⟨_, fd, F, He.glo_ok X G (cD.fact j hj)⟩
theorem er_of (X : K.In h) (G : h.Ns mainGlobals mg) (cD : He.SaysD hdFacts hdDefs K) {x f : Str} {fd : FuncData} (j1 j2 : Nat) (h1 : hdFacts[j1]? = some (.glo x)) (h2 : hdFacts[j2]? = some (.noat x f)) (ho : oexB K (He.ga K x) = true) (hi : iniB K (He.ga K x) = true)
    (F : OexC K (He.ga K x) → PySem.W.findIn K (.ref (He.ga K x)) f = some none → FnOk P w K mg base (L2.CX P w) 1 (He.ma K (He.ga K x) "__init__") fd ["self", f] (spEI (He.ga K x) f)) (b : Binds K fd ["self", f] []) : Er P w K mg base x f (He.ga K x) := by
  have O := oexB_ok ho
  have no := He.noat_ok (cD.fact j2 h2)
  obtain ⟨i1, i2⟩ := He.ba hi
  exact ⟨He.glo_ok X G (cD.fact j1 h1), O, no, _, fd, _, He.eqO_ok i1, of_decide_eq_true i2, F O no, b⟩
theorem kitB_ok {x : Str} {v : Value} {b : Bool} (h : kitB K x v b = true) : PySem.W.kitOne K (.ref (He.ga K x)) v = some b := of_decide_eq_true h
/-- all promises, one from another -/
theorem law_kept (X : K.In h) (G : h.Ns mainGlobals mg) (c : hdLook K = hdWant) : ClG P w K mg base 9 "law" (spLaw K) := by
  have cD : He.SaysD hdFacts hdDefs K := congrArg (fun z : HdV => z.1) c
  have cM : moreB K = true := congrArg (fun z : HdV => z.2.1) c
  have cT : textAt K (gAd K) = some (("forks" : Str), ("Tree.forks" : Str), defArgs s_Tree_forks, FuncBody.stmts (defBody s_Tree_forks), defScope s_Tree_forks, mainGlobals, [], builtinsNs) := congrArg (fun z : HdV => z.2.2) c
  obtain ⟨cM, k3⟩ := He.ba cM
  obtain ⟨cM, k2⟩ := He.ba cM
  obtain ⟨cM, k1⟩ := He.ba cM
  obtain ⟨cM, kE⟩ := He.ba cM
  obtain ⟨cM, kG⟩ := He.ba cM
  obtain ⟨cM, kP⟩ := He.ba cM
  obtain ⟨kF, kM⟩ := He.ba cM
  have kE1 : ∀ x : Str, x ∈ (["InvalidFlags", "InvalidSlot", "InvalidNumber"] : List Str) → oexB K (He.ga K x) = true ∧ exkB K (He.ga K x) = true ∧ iniB K (He.ga K x) = true ∧ kitB K x (.ref (He.ga K "CacheError")) true = true ∧ kitB K x (.type "ValueError") true = true := fun x hx => by
    have z := List.all_eq_true.mp kE x hx
    obtain ⟨z, z5⟩ := He.ba z
    obtain ⟨z, z4⟩ := He.ba z
    obtain ⟨z, z3⟩ := He.ba z
    obtain ⟨z1, z2⟩ := He.ba z
    exact ⟨z1, z2, z3, z4, z5⟩
  obtain ⟨f1, f2, f3, f4, f5⟩ := kE1 "InvalidFlags" (by simp)
  obtain ⟨s1, s2, s3, s4, s5⟩ := kE1 "InvalidSlot" (by simp)
  obtain ⟨n1, n2, n3, n4, n5⟩ := kE1 "InvalidNumber" (by simp)
  have gF : mg "factorial" = some (.builtin "math.factorial") := PySem.W.mg_of X G (He.eqO_ok kF)
  have T : Tb mg := ⟨(He.free_ok X G (cD.fact 63 (f := .free "len") rfl)), (He.free_ok X G (cD.fact 64 (f := .free "isinstance") rfl)), (He.free_ok X G (cD.fact 65 (f := .free "all") rfl)), (He.free_ok X G (cD.fact 66 (f := .free "sorted") rfl)), (He.free_ok X G (cD.fact 67 (f := .free "tuple") rfl)), (He.free_ok X G (cD.fact 68 (f := .free "list") rfl)), (He.free_ok X G (cD.fact 69 (f := .free "int") rfl)), (He.free_ok X G (cD.fact 70 (f := .free "str") rfl)), (He.free_ok X G (cD.fact 71 (f := .free "bool") rfl)), (He.free_ok X G (cD.fact 72 (f := .free "range") rfl)), (He.free_ok X G (cD.fact 73 (f := .free "enumerate") rfl)), (He.free_ok X G (cD.fact 74 (f := .free "reversed") rfl)), (He.free_ok X G (cD.fact 75 (f := .free "repr") rfl)), (He.free_ok X G (cD.fact 76 (f := .free "ValueError") rfl)), gF⟩
  have tc : Tc K (He.ga K "Tree") := ⟨He.cls_ok (cD.fact 77 (f := .cls "Tree") rfl), fun f hf => by
    simp only [List.mem_cons, List.not_mem_nil, or_false] at hf
    rcases hf with rfl | rfl | rfl | rfl | rfl | rfl | rfl | rfl | rfl
    · exact He.noat_ok (cD.fact 80 (f := .noat "Tree" "text") rfl)
    · exact He.noat_ok (cD.fact 81 (f := .noat "Tree" "lefts") rfl)
    · exact He.noat_ok (cD.fact 82 (f := .noat "Tree" "rights") rfl)
    · exact He.noat_ok (cD.fact 83 (f := .noat "Tree" "spans") rfl)
    · exact He.noat_ok (cD.fact 84 (f := .noat "Tree" "bounds") rfl)
    · exact He.noat_ok (cD.fact 85 (f := .noat "Tree" "postorder") rfl)
    · exact He.noat_ok (cD.fact 86 (f := .noat "Tree" "root") rfl)
    · exact He.noat_ok (cD.fact 87 (f := .noat "Tree" "preorder") rfl)
    · exact He.noat_ok (cD.fact 88 (f := .noat "Tree" "ways") rfl)⟩
  obtain ⟨uM, cM⟩ := He.conB_ok kM
  have tlen := He.meth_ok (cD.fact 79 (f := .meth "Tree" "__len__") rfl)
  obtain ⟨fdl, Fl⟩ := cD.def_ 62 rfl
  have LO : LenOf P w K mg base (He.ga K "Tree") 1 (spLen (He.ga K "Tree")) := ⟨_, fdl, ["self"], tlen.at_, tlen.fn, ok_len T Fl tc, FunD.bindsN Fl fun _ _ _ _ _ _ us hl => match us, hl with | [_], _ => rfl⟩
  obtain ⟨fdg, Fg⟩ := funAt cT kG
  have PF : ForksOf P w K mg base (He.ga K "Tree") := ⟨tc.cl, _, _, fdg, ["self"], proB_ok kP, ok_forks T Fg tc, FunD.bindsN Fg fun _ _ _ _ _ _ us hl => match us, hl with | [_], _ => rfl⟩
  obtain ⟨fdf, Ff⟩ := cD.def_ 58 rfl
  have x_InvalidFlags : Er P w K mg base "InvalidFlags" "flags" (He.ga K "InvalidFlags") := er_of X G cD 59 89 rfl rfl f1 f3 (fun O no => ok_ei_flags Ff O no) (binds_flags Ff)
  obtain ⟨fds, Fs⟩ := cD.def_ 59 rfl
  have x_InvalidSlot : Er P w K mg base "InvalidSlot" "slot" (He.ga K "InvalidSlot") := er_of X G cD 60 90 rfl rfl s1 s3 (fun O no => ok_ei_slot Fs O no) (binds_slot Fs)
  obtain ⟨fdn, Fn⟩ := cD.def_ 60 rfl
  have x_InvalidNumber : Er P w K mg base "InvalidNumber" "number" (He.ga K "InvalidNumber") := er_of X G cD 61 91 rfl rfl n1 n3 (fun O no => ok_ei_number Fn O no) (binds_number Fn)
  have EF : Ef K mg (He.ga K "InvalidFlags") (He.ga K "InvalidSlot") (He.ga K "InvalidNumber") (He.ga K "CacheError") := ⟨(He.glo_ok X G (cD.fact 59 (f := .glo "InvalidFlags") rfl)), (He.glo_ok X G (cD.fact 60 (f := .glo "InvalidSlot") rfl)), (He.glo_ok X G (cD.fact 61 (f := .glo "InvalidNumber") rfl)), (He.glo_ok X G (cD.fact 58 (f := .glo "CacheError") rfl)), (exkB_ok f2).1, (exkB_ok s2).1, (exkB_ok n2).1, (exkB_ok f2).2, (exkB_ok s2).2, (exkB_ok n2).2, x_InvalidFlags.no, x_InvalidSlot.no, x_InvalidNumber.no, (He.exm_ok (cD.fact 92 (f := .exm "InvalidFlags" "InvalidFlags" true) rfl)), (He.exm_ok (cD.fact 93 (f := .exm "InvalidSlot" "InvalidFlags" false) rfl)), (He.exm_ok (cD.fact 94 (f := .exm "InvalidSlot" "InvalidSlot" true) rfl)), (He.exm_ok (cD.fact 95 (f := .exm "InvalidNumber" "InvalidFlags" false) rfl)), (He.exm_ok (cD.fact 96 (f := .exm "InvalidNumber" "InvalidSlot" false) rfl)), (He.exm_ok (cD.fact 97 (f := .exm "InvalidNumber" "InvalidNumber" true) rfl)), kitB_ok k1, kitB_ok k2, kitB_ok f4, kitB_ok f5, kitB_ok k3, kitB_ok s4, kitB_ok s5, kitB_ok n4, kitB_ok n5⟩
  have c_count_begun := ok_count_begun (P := P) (w := w) (base := base)  T (df_of X G cD 8 8 rfl rfl : Df K mg "count_begun" s_count_begun)
  have c_branch_sizes := ok_branch_sizes (P := P) (w := w) (base := base)  T (df_of X G cD 5 5 rfl rfl : Df K mg "branch_sizes" s_branch_sizes)
  have c_sizes_without := ok_sizes_without (P := P) (w := w) (base := base)  T (df_of X G cD 6 6 rfl rfl : Df K mg "sizes_without" s_sizes_without)
  have c_order_count := ok_order_count (P := P) (w := w) (base := base)  T gF (df_of X G cD 7 7 rfl rfl : Df K mg "order_count" s_order_count) c_branch_sizes
  have c_begun_at := ok_begun_at (P := P) (w := w) (base := base)  T (df_of X G cD 9 9 rfl rfl : Df K mg "begun_at" s_begun_at) c_count_begun
  have c_order_at := ok_order_at (P := P) (w := w) (base := base) (CN := He.ga K "InvalidNumber") T (df_of X G cD 10 10 rfl rfl : Df K mg "order_at" s_order_at) x_InvalidNumber c_order_count c_branch_sizes c_begun_at c_sizes_without
  have c_is_integer := ok_is_integer (P := P) (w := w) (base := base)  T (df_of X G cD 0 0 rfl rfl : Df K mg "is_integer" s_is_integer)
  have c_is_order := ok_is_order (P := P) (w := w) (base := base)  T (df_of X G cD 11 11 rfl rfl : Df K mg "is_order" s_is_order) c_is_integer
  have c_order_rank := ok_order_rank (P := P) (w := w) (base := base)  T (df_of X G cD 12 12 rfl rfl : Df K mg "order_rank" s_order_rank) c_is_order c_order_count c_branch_sizes c_count_begun c_sizes_without
  have c_is_made_of := ok_is_made_of (P := P) (w := w) (base := base)  T (df_of X G cD 1 1 rfl rfl : Df K mg "is_made_of" s_is_made_of)
  have c_checked_flags := ok_checked_flags (P := P) (w := w) (base := base) (CT := He.ga K "Tree") (CF := He.ga K "InvalidFlags") T (df_of X G cD 2 2 rfl rfl : Df K mg "checked_flags" s_checked_flags) x_InvalidFlags PF c_is_made_of
  have c_checked_pattern := ok_checked_pattern (P := P) (w := w) (base := base) (CT := He.ga K "Tree") (CF := He.ga K "InvalidFlags") T (df_of X G cD 3 3 rfl rfl : Df K mg "checked_pattern" s_checked_pattern) x_InvalidFlags PF c_is_made_of
  obtain ⟨fdc, Fc⟩ := cD.def_ 4 rfl
  have c_checked_number := ok_checked_number (P := P) (w := w) (base := base) T Fc (He.glo_ok X G (cD.fact 4 (f := .glo "checked_number") rfl)) x_InvalidNumber c_is_integer
  have c_trail_rows := ok_trail_rows (P := P) (w := w) (base := base) (C := He.ga K "Tree") T (df_of X G cD 13 13 rfl rfl : Df K mg "trail_rows" s_trail_rows) tc LO
  have c_trail_parents := ok_trail_parents (P := P) (w := w) (base := base) (C := He.ga K "Tree") T (df_of X G cD 14 14 rfl rfl : Df K mg "trail_parents" s_trail_parents) c_trail_rows
  have c_forks_below := ok_forks_below (P := P) (w := w) (base := base) (C := He.ga K "Tree") T (df_of X G cD 15 15 rfl rfl : Df K mg "forks_below" s_forks_below) tc PF
  have c_needed_slots := ok_needed_slots (P := P) (w := w) (base := base) (C := He.ga K "Tree") T (df_of X G cD 16 16 rfl rfl : Df K mg "needed_slots" s_needed_slots) c_trail_rows c_forks_below
  have c_needed_parents := ok_needed_parents (P := P) (w := w) (base := base) (CT := He.ga K "Tree") (CF := He.ga K "InvalidFlags") T (df_of X G cD 17 17 rfl rfl : Df K mg "needed_parents" s_needed_parents) c_checked_pattern c_checked_flags c_trail_parents c_needed_slots
  have c_hit_plan_count := ok_hit_plan_count (P := P) (w := w) (base := base) (CT := He.ga K "Tree") (CF := He.ga K "InvalidFlags") T (df_of X G cD 18 18 rfl rfl : Df K mg "hit_plan_count" s_hit_plan_count) c_needed_parents c_order_count
  have c_hit_plan_at := ok_hit_plan_at (P := P) (w := w) (base := base) (CT := He.ga K "Tree") (CF := He.ga K "InvalidFlags") (CN := He.ga K "InvalidNumber") T (df_of X G cD 19 19 rfl rfl : Df K mg "hit_plan_at" s_hit_plan_at) c_needed_parents c_checked_number c_order_at
  have c_hit_plan_rank := ok_hit_plan_rank (P := P) (w := w) (base := base) (CT := He.ga K "Tree") (CF := He.ga K "InvalidFlags") (CS := He.ga K "InvalidSlot") T (df_of X G cD 20 20 rfl rfl : Df K mg "hit_plan_rank" s_hit_plan_rank) x_InvalidSlot c_needed_parents c_order_rank
  have c_is_hit_plan := ok_is_hit_plan (P := P) (w := w) (base := base) (CT := He.ga K "Tree") (CF := He.ga K "InvalidFlags") T (df_of X G cD 21 21 rfl rfl : Df K mg "is_hit_plan" s_is_hit_plan) c_needed_parents c_is_order
  have c_ends_fork := ok_ends_fork (P := P) (w := w) (base := base)  T (df_of X G cD 22 22 rfl rfl : Df K mg "ends_fork" s_ends_fork)
  have c_read_forks := ok_read_forks (P := P) (w := w) (base := base)  T (df_of X G cD 23 23 rfl rfl : Df K mg "read_forks" s_read_forks) c_ends_fork
  have c_lay_ways := ok_lay_ways (P := P) (w := w) (base := base)  T (df_of X G cD 24 24 rfl rfl : Df K mg "lay_ways" s_lay_ways)
  obtain ⟨fdt, Ft⟩ := cD.def_ 61 rfl
  have c_Tree : ClT P w K mg base (He.ga K "Tree") := ⟨_, fdt, ["self", "text"], He.mkr_ok (cD.fact 78 (f := .mkr "Tree") rfl), ok_tree_init T Ft tc cM c_read_forks c_lay_ways, FunD.bindsN Ft fun _ _ _ _ _ _ us hl => match us, hl with | [_, _], _ => rfl, (He.glo_ok X G (cD.fact 62 (f := .glo "Tree") rfl))⟩
  have c__law_take := ok_take (P := P) (w := w) (base := base)  T (df_of X G cD 29 29 rfl rfl : Df K mg "_law_take" s__law_take)
  have c__law_is_integer := ok_law_is_integer (P := P) (w := w) (base := base)  T (df_of X G cD 25 25 rfl rfl : Df K mg "_law_is_integer" s__law_is_integer)
  have c__law_truth := ok_law_truth (P := P) (w := w) (base := base)  T (df_of X G cD 26 26 rfl rfl : Df K mg "_law_truth" s__law_truth)
  have c__law_same := ok_law_same (P := P) (w := w) (base := base)  T (df_of X G cD 27 27 rfl rfl : Df K mg "_law_same" s__law_same) c__law_is_integer
  have c__law_box := ok_law_box (P := P) (w := w) (base := base)  T (df_of X G cD 28 28 rfl rfl : Df K mg "_law_box" s__law_box)
  have c__law_wide := ok_law_wide (P := P) (w := w) (base := base)  T (df_of X G cD 45 45 rfl rfl : Df K mg "_law_wide" s__law_wide) c__law_take
  have c__law_slots := ok_law_slots (P := P) (w := w) (base := base)  T (df_of X G cD 33 33 rfl rfl : Df K mg "_law_slots" s__law_slots) c__law_take
  have c__law_join := ok_law_join (P := P) (w := w) (base := base)  T (df_of X G cD 30 30 rfl rfl : Df K mg "_law_join" s__law_join) c__law_take
  have c__law_flags := ok_law_flags (P := P) (w := w) (base := base)  T (df_of X G cD 32 32 rfl rfl : Df K mg "_law_flags" s__law_flags) c__law_take
  have c__law_start := ok_law_start (P := P) (w := w) (base := base)  T (df_of X G cD 34 34 rfl rfl : Df K mg "_law_start" s__law_start) c__law_take
  have c_bentS := ok_law_bent (P := P) (w := w) (base := base) (ss := [76, 82, 63]) T (df_of X G cD 35 35 rfl rfl : Df K mg "_law_bent" s__law_bent) c__law_take
  have c_bentE := ok_law_bent (P := P) (w := w) (base := base) (ss := [76, 82]) T (df_of X G cD 35 35 rfl rfl : Df K mg "_law_bent" s__law_bent) c__law_take
  have c__law_bent_rank := ok_law_bent_rank (P := P) (w := w) (base := base)  T (df_of X G cD 46 46 rfl rfl : Df K mg "_law_bent_rank" s__law_bent_rank) c__law_take c__law_wide
  have c__law_hit := ok_law_hit (P := P) (w := w) (base := base)  T (df_of X G cD 36 36 rfl rfl : Df K mg "_law_hit" s__law_hit)
  have c__law_holders := ok_law_holders (P := P) (w := w) (base := base)  T (df_of X G cD 37 37 rfl rfl : Df K mg "_law_holders" s__law_holders)
  have c__law_above := ok_law_above (P := P) (w := w) (base := base)  T (df_of X G cD 38 38 rfl rfl : Df K mg "_law_above" s__law_above) c__law_holders
  have c__law_due := ok_law_due (P := P) (w := w) (base := base)  T (df_of X G cD 39 39 rfl rfl : Df K mg "_law_due" s__law_due) c__law_holders c__law_above
  have c__law_hung := ok_law_hung (P := P) (w := w) (base := base)  T (df_of X G cD 53 53 rfl rfl : Df K mg "_law_hung" s__law_hung) c__law_above c__law_due
  have c__law_sizes := ok_law_sizes (P := P) (w := w) (base := base)  T (df_of X G cD 40 40 rfl rfl : Df K mg "_law_sizes" s__law_sizes)
  have c__law_count := ok_law_count (P := P) (w := w) (base := base)  T (df_of X G cD 41 41 rfl rfl : Df K mg "_law_count" s__law_count) c__law_sizes
  have c__law_share := ok_law_share (P := P) (w := w) (base := base)  T (df_of X G cD 42 42 rfl rfl : Df K mg "_law_share" s__law_share)
  have c__law_rank := ok_law_rank (P := P) (w := w) (base := base)  T (df_of X G cD 43 43 rfl rfl : Df K mg "_law_rank" s__law_rank) c__law_sizes c__law_count c__law_share
  have c__law_judged := ok_law_judged (P := P) (w := w) (base := base)  T (df_of X G cD 44 44 rfl rfl : Df K mg "_law_judged" s__law_judged) c__law_is_integer
  have c__law_rows := ok_law_rows (P := P) (w := w) (base := base)  T (df_of X G cD 47 47 rfl rfl : Df K mg "_law_rows" s__law_rows) c__law_hit
  have c__law_tree := ok_law_tree (P := P) (w := w) (base := base)  T (df_of X G cD 31 31 rfl rfl : Df K mg "_law_tree" s__law_tree) c__law_take c__law_join
  have c__law_bend := ok_law_bend (P := P) (w := w) (base := base)  T (df_of X G cD 48 48 rfl rfl : Df K mg "_law_bend" s__law_bend) c__law_take
  have c__law_read := ok_law_read (P := P) (w := w) (base := base) (CT := He.ga K "Tree") (CF := He.ga K "InvalidFlags") (CS := He.ga K "InvalidSlot") T (df_of X G cD 50 50 rfl rfl : Df K mg "_law_read" s__law_read) c_hit_plan_rank c_is_hit_plan c__law_is_integer
  have c__law_at := ok_law_at (P := P) (w := w) (base := base) (CT := He.ga K "Tree") (CF := He.ga K "InvalidFlags") (CN := He.ga K "InvalidNumber") T (df_of X G cD 51 51 rfl rfl : Df K mg "_law_at" s__law_at) c_hit_plan_at c__law_judged c__law_rank c__law_same c__law_hit c__law_read
  have c__law_listed := ok_law_listed (P := P) (w := w) (base := base) (CT := He.ga K "Tree") (CF := He.ga K "InvalidFlags") (CN := He.ga K "InvalidNumber") T (df_of X G cD 52 52 rfl rfl : Df K mg "_law_listed" s__law_listed) c_hit_plan_at c_hit_plan_count c__law_rows c__law_same c__law_read
  have c__law_counts := ok_law_counts (P := P) (w := w) (base := base) (CT := He.ga K "Tree") (CF := He.ga K "InvalidFlags") (CN := He.ga K "InvalidNumber") T (df_of X G cD 54 54 rfl rfl : Df K mg "_law_counts" s__law_counts) c_hit_plan_at c_hit_plan_count c__law_hung c__law_count c__law_rank c__law_judged c__law_is_integer
  have c__law_fault := ok_law_fault (P := P) (w := w) (base := base) (CT := He.ga K "Tree") (CF := He.ga K "InvalidFlags") (CS := He.ga K "InvalidSlot") (CN := He.ga K "InvalidNumber") (CE := He.ga K "CacheError") T EF (df_of X G cD 49 49 rfl rfl : Df K mg "_law_fault" s__law_fault) c_hit_plan_count c_hit_plan_at c_hit_plan_rank c_is_hit_plan
  have c__law_refusals := ok_law_refusals (P := P) (w := w) (base := base) (CT := He.ga K "Tree") (CF := He.ga K "InvalidFlags") (CS := He.ga K "InvalidSlot") (CN := He.ga K "InvalidNumber") T (df_of X G cD 56 56 rfl rfl : Df K mg "_law_refusals" s__law_refusals) c__law_count c_bentS c_bentE c__law_bent_rank c_hit_plan_at c__law_fault
  have c__law_bends := ok_law_bends (P := P) (w := w) (base := base) (CT := He.ga K "Tree") (CF := He.ga K "InvalidFlags") (CS := He.ga K "InvalidSlot") (CN := He.ga K "InvalidNumber") T (df_of X G cD 55 55 rfl rfl : Df K mg "_law_bends" s__law_bends) c__law_count c__law_wide c__law_take c__law_bend c__law_truth c__law_judged c__law_rank c__law_read c_hit_plan_at c_is_hit_plan c__law_fault
  exact ok_law (CT := He.ga K "Tree") (CF := He.ga K "InvalidFlags") (CS := He.ga K "InvalidSlot") (CN := He.ga K "InvalidNumber") T (df_of X G cD 57 57 rfl rfl : Df K mg "law" s_law) c_Tree c__law_box c__law_slots c__law_tree c__law_flags c__law_start c__law_hung c__law_counts c__law_count c__law_wide c__law_at c__law_listed c__law_bends c__law_refusals
end
/-! ### the row -/
theorem law_walk : PySem.W.WalkO hdView hdLoose (PySem.W.XL hdView []) hdHook.says hdRow.toRowW (HandSHeadRun.topDef hdRow.prog 77) [] (fun f vs => PySem.call f vs) := by
  refine Att.attach_call (l := PySem.Challenge.rw_lastside_k22_whole_hit_plans) (n := 63) rfl (by kernel_rfl) fun w s₀ s₁ mg mb fa o pm cd doc a vs ns G Y ho hd hcd hmg hobj hints hlen hg => ?_
  obtain ⟨K, KX, c⟩ := Y
  have hname : mg ("law" : Str) = some (.ref fa) := by
    have e : (HandSHeadRun.topDef hdRow.prog 77).name = ("law" : Str) := by kernel_rfl
    rw [← e]
    exact hmg
  exact goes_end (x := "law") KX G.T.g G.T.b G.T.builtins G.T.nolimit hg hobj hints (Nat.le_trans hlen (by decide)) ⟨rfl, by decide, by decide⟩ hname (fun base => law_kept KX G.T.g c) fun H hS => ⟨a, ns, rfl, hS, hlen, fun _ => rfl⟩
end K22
set_option Elab.async false
set_option linter.all false
set_option maxRecDepth 100000
set_option maxHeartbeats 0
open PySem PySem.W PySem.Calls PyProof.Rows
theorem PySem.Challenge.cw_lastside_k22_whole_hit_plans_holds : PySem.Challenge.rw_lastside_k22_whole_hit_plans.Holds := by
  w_on; o_law
  refine HandSHeadRun.head_imp (r := OpenLaw.row PySem.Challenge.rw_lastside_k22_whole_hit_plans) (q := K22.hdView) (H := K22.hdHook) (ob := K22.hdOb) (M := 8000) (loose := K22.hdLoose) (d := HandSHeadRun.topDef K22.hdRow.prog 77) (kwd := []) K22.hdOb_eq K22.hdRun
    (by kernel_rfl) (by kernel_rfl) (by kernel_rfl) (by rfl) (by first | assumption | decide +kernel) (by decide +kernel) ⟨rfl, rfl, rfl, rfl, rfl, by decide +kernel⟩ ?hw ?hc
  case hw => w_witness2
  case hc => exact K22.law_walk

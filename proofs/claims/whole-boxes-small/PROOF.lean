import PyProof.Rows.All
import Wide.All
import OpenK.AllK
import Wide.FinOn
import KE.KStateDown
import Lean
import HandS.ForMost
import HandS.More
import HandS.Defaults
import HandS.Head0
import HandS.Head1
import HandS.Head2
import HandS.HeadEnd
import HandS.HeadHook1
import HandS.HeadHook2
import HandS.Deep
import HandS.Zip
import HandS.Rev
import HandS.TupAny
import HandS.IsInst
import HandS.DictTup
import HandS.Conv
import HandS.Evl
import HandS.Walk
import KE.GoesEnum
import KE.SortData
import KE.KDictKeyed
import PySem.Challenge.RW_owncause_k66_whole_all_boxes_of_small_cl
set_option Elab.async false
set_option linter.all false
set_option maxRecDepth 100000
set_option maxHeartbeats 4000000
namespace OC
open PySem PySem.Spec PyProof.Rows L2
def topS (i : Nat) : Stmt := PySem.Challenge.pw_owncause_k66_whole_all_boxes_of_small_cl.main.body.getD i (.Pass ⟨0, 0, 0, 0⟩)
abbrev s_is_integer : Stmt := topS 8
abbrev N_is_integer : List Str := ["thing"]
theorem sc_is_integer : FnScope N_is_integer ["thing"] (defScope s_is_integer) := ⟨rfl, rfl, rfl, by decide +kernel, rfl, by decide +kernel, by decide +kernel⟩
abbrev s_is_within : Stmt := topS 9
abbrev N_is_within : List Str := ["thing", "least", "most"]
theorem sc_is_within : FnScope N_is_within ["thing", "least", "most"] (defScope s_is_within) := ⟨rfl, rfl, rfl, by decide +kernel, rfl, by decide +kernel, by decide +kernel⟩
abbrev s_is_pair : Stmt := topS 10
abbrev N_is_pair : List Str := ["thing"]
theorem sc_is_pair : FnScope N_is_pair ["thing"] (defScope s_is_pair) := ⟨rfl, rfl, rfl, by decide +kernel, rfl, by decide +kernel, by decide +kernel⟩
abbrev s_is_lot : Stmt := topS 11
abbrev N_is_lot : List Str := ["thing", "many", "last", "item"]
theorem sc_is_lot : FnScope N_is_lot ["thing", "many"] (defScope s_is_lot) := ⟨rfl, rfl, rfl, by decide +kernel, rfl, by decide +kernel, by decide +kernel⟩
abbrev s_is_table : Stmt := topS 12
abbrev N_is_table : List Str := ["thing", "size"]
theorem sc_is_table : FnScope N_is_table ["thing", "size"] (defScope s_is_table) := ⟨rfl, rfl, rfl, by decide +kernel, rfl, by decide +kernel, by decide +kernel⟩
abbrev s_is_many : Stmt := topS 13
abbrev N_is_many : List Str := ["thing"]
theorem sc_is_many : FnScope N_is_many ["thing"] (defScope s_is_many) := ⟨rfl, rfl, rfl, by decide +kernel, rfl, by decide +kernel, by decide +kernel⟩
abbrev s_size_of : Stmt := topS 17
abbrev N_size_of : List Str := ["club", "found", "sorts"]
theorem sc_size_of : FnScope N_size_of ["club"] (defScope s_size_of) := ⟨rfl, rfl, rfl, by decide +kernel, rfl, by decide +kernel, by decide +kernel⟩
abbrev s_is_club : Stmt := topS 18
abbrev N_is_club : List Str := ["thing", "sorts"]
theorem sc_is_club : FnScope N_is_club ["thing"] (defScope s_is_club) := ⟨rfl, rfl, rfl, by decide +kernel, rfl, by decide +kernel, by decide +kernel⟩
abbrev s_check_club : Stmt := topS 19
abbrev N_check_club : List Str := ["club"]
theorem sc_check_club : FnScope N_check_club ["club"] (defScope s_check_club) := ⟨rfl, rfl, rfl, by decide +kernel, rfl, by decide +kernel, by decide +kernel⟩
abbrev s_is_place : Stmt := topS 20
abbrev N_is_place : List Str := ["club", "thing"]
theorem sc_is_place : FnScope N_is_place ["club", "thing"] (defScope s_is_place) := ⟨rfl, rfl, rfl, by decide +kernel, rfl, by decide +kernel, by decide +kernel⟩
abbrev s_place_of : Stmt := topS 21
abbrev N_place_of : List Str := ["club", "row", "found", "slip", "sorts"]
theorem sc_place_of : FnScope N_place_of ["club", "row"] (defScope s_place_of) := ⟨rfl, rfl, rfl, by decide +kernel, rfl, by decide +kernel, by decide +kernel⟩
abbrev s_slips_of : Stmt := topS 22
abbrev N_slips_of : List Str := ["club", "number", "found", "sorts"]
theorem sc_slips_of : FnScope N_slips_of ["club", "number"] (defScope s_slips_of) := ⟨rfl, rfl, rfl, by decide +kernel, rfl, by decide +kernel, by decide +kernel⟩
abbrev s_all_rows : Stmt := topS 23
abbrev N_all_rows : List Str := ["club", "number"]
theorem sc_all_rows : FnScope N_all_rows ["club"] (defScope s_all_rows) := ⟨rfl, rfl, rfl, by decide +kernel, rfl, by decide +kernel, by decide +kernel⟩
abbrev s_unlike_in : Stmt := topS 24
abbrev N_unlike_in : List Str := ["club", "one", "other", "first", "second", "member"]
theorem sc_unlike_in : FnScope N_unlike_in ["club", "one", "other"] (defScope s_unlike_in) := ⟨rfl, rfl, rfl, by decide +kernel, rfl, by decide +kernel, by decide +kernel⟩
abbrev s_line_of : Stmt := topS 25
abbrev N_line_of : List Str := ["club", "lot", "number", "row", "member", "slip"]
theorem sc_line_of : FnScope N_line_of ["club", "lot", "number"] (defScope s_line_of) := ⟨rfl, rfl, rfl, by decide +kernel, rfl, by decide +kernel, by decide +kernel⟩
abbrev s_is_kin : Stmt := topS 26
abbrev N_is_kin : List Str := ["many", "thing", "lot"]
theorem sc_is_kin : FnScope N_is_kin ["many", "thing"] (defScope s_is_kin) := ⟨rfl, rfl, rfl, by decide +kernel, rfl, by decide +kernel, by decide +kernel⟩
abbrev s_check_kin : Stmt := topS 27
abbrev N_check_kin : List Str := ["many", "kin"]
theorem sc_check_kin : FnScope N_check_kin ["many", "kin"] (defScope s_check_kin) := ⟨rfl, rfl, rfl, by decide +kernel, rfl, by decide +kernel, by decide +kernel⟩
abbrev s_check_totals : Stmt := topS 29
abbrev N_check_totals : List Str := ["club", "totals", "total"]
theorem sc_check_totals : FnScope N_check_totals ["club", "totals"] (defScope s_check_totals) := ⟨rfl, rfl, rfl, by decide +kernel, rfl, by decide +kernel, by decide +kernel⟩
abbrev s_check_shared : Stmt := topS 30
abbrev N_check_shared : List Str := ["club", "kin", "totals"]
theorem sc_check_shared : FnScope N_check_shared ["club", "kin", "totals"] (defScope s_check_shared) := ⟨rfl, rfl, rfl, by decide +kernel, rfl, by decide +kernel, by decide +kernel⟩
abbrev s_all_lots : Stmt := topS 31
abbrev N_all_lots : List Str := ["many", "found", "member", "lot"]
theorem sc_all_lots : FnScope N_all_lots ["many"] (defScope s_all_lots) := ⟨rfl, rfl, rfl, by decide +kernel, rfl, by decide +kernel, by decide +kernel⟩
abbrev s_has_some : Stmt := topS 32
abbrev N_has_some : List Str := ["lot", "other", "member"]
theorem sc_has_some : FnScope N_has_some ["lot", "other"] (defScope s_has_some) := ⟨rfl, rfl, rfl, by decide +kernel, rfl, by decide +kernel, by decide +kernel⟩
abbrev s_meets_all : Stmt := topS 33
abbrev N_meets_all : List Str := ["lot", "kin", "other"]
theorem sc_meets_all : FnScope N_meets_all ["lot", "kin"] (defScope s_meets_all) := ⟨rfl, rfl, rfl, by decide +kernel, rfl, by decide +kernel, by decide +kernel⟩
abbrev s_without : Stmt := topS 34
abbrev N_without : List Str := ["lot", "member", "other"]
theorem sc_without : FnScope N_without ["lot", "member"] (defScope s_without) := ⟨rfl, rfl, rfl, by decide +kernel, rfl, by decide +kernel, by decide +kernel⟩
abbrev s_least_of : Stmt := topS 35
abbrev N_least_of : List Str := ["kin", "found", "lot", "member"]
theorem sc_least_of : FnScope N_least_of ["kin"] (defScope s_least_of) := ⟨rfl, rfl, rfl, by decide +kernel, rfl, by decide +kernel, by decide +kernel⟩
abbrev s_corners : Stmt := topS 36
abbrev N_corners : List Str := ["club", "one", "other", "found", "slip", "more", "later", "row", "sign"]
theorem sc_corners : FnScope N_corners ["club", "one", "other"] (defScope s_corners) := ⟨rfl, rfl, rfl, by decide +kernel, rfl, by decide +kernel, by decide +kernel⟩
abbrev s_sum_of_box : Stmt := topS 37
abbrev N_sum_of_box : List Str := ["club", "totals", "one", "other", "number", "sign"]
theorem sc_sum_of_box : FnScope N_sum_of_box ["club", "totals", "one", "other"] (defScope s_sum_of_box) := ⟨rfl, rfl, rfl, by decide +kernel, rfl, by decide +kernel, by decide +kernel⟩
abbrev s_are_places : Stmt := topS 38
abbrev N_are_places : List Str := ["club", "thing"]
theorem sc_are_places : FnScope N_are_places ["club", "thing"] (defScope s_are_places) := ⟨rfl, rfl, rfl, by decide +kernel, rfl, by decide +kernel, by decide +kernel⟩
abbrev s_box_sum : Stmt := topS 39
abbrev N_box_sum : List Str := ["club", "totals", "box"]
theorem sc_box_sum : FnScope N_box_sum ["club", "totals", "box"] (defScope s_box_sum) := ⟨rfl, rfl, rfl, by decide +kernel, rfl, by decide +kernel, by decide +kernel⟩
abbrev s_parts_of : Stmt := topS 40
abbrev N_parts_of : List Str := ["club", "totals", "found", "member", "number", "row"]
theorem sc_parts_of : FnScope N_parts_of ["club", "totals"] (defScope s_parts_of) := ⟨rfl, rfl, rfl, by decide +kernel, rfl, by decide +kernel, by decide +kernel⟩
abbrev s_speakers : Stmt := topS 41
abbrev N_speakers : List Str := ["row", "member", "slip"]
theorem sc_speakers : FnScope N_speakers ["row"] (defScope s_speakers) := ⟨rfl, rfl, rfl, by decide +kernel, rfl, by decide +kernel, by decide +kernel⟩
abbrev s_takers_of : Stmt := topS 42
abbrev N_takers_of : List Str := ["kin", "lot", "member", "other"]
theorem sc_takers_of : FnScope N_takers_of ["kin", "lot"] (defScope s_takers_of) := ⟨rfl, rfl, rfl, by decide +kernel, rfl, by decide +kernel, by decide +kernel⟩
abbrev s_shares_by_parts : Stmt := topS 43
abbrev N_shares_by_parts : List Str := ["club", "kin", "parts", "table", "sorts", "number", "part", "lot", "taker", "others", "member", "above", "row"]
theorem sc_shares_by_parts : FnScope N_shares_by_parts ["club", "kin", "parts"] (defScope s_shares_by_parts) := ⟨rfl, rfl, rfl, by decide +kernel, rfl, by decide +kernel, by decide +kernel⟩
abbrev s_barred_rows : Stmt := topS 44
abbrev N_barred_rows : List Str := ["club", "kin", "parts", "found", "number", "part", "lot"]
theorem sc_barred_rows : FnScope N_barred_rows ["club", "kin", "parts"] (defScope s_barred_rows) := ⟨rfl, rfl, rfl, by decide +kernel, rfl, by decide +kernel, by decide +kernel⟩
abbrev s_box : Stmt := topS 45
abbrev N_box : List Str := ["club", "kin", "totals", "found", "number", "lot", "least", "other", "member"]
theorem sc_box : FnScope N_box ["club", "kin", "totals"] (defScope s_box) := ⟨rfl, rfl, rfl, by decide +kernel, rfl, by decide +kernel, by decide +kernel⟩
abbrev s_is_box : Stmt := topS 46
abbrev N_is_box : List Str := ["club", "kin", "totals", "thing"]
theorem sc_is_box : FnScope N_is_box ["club", "kin", "totals", "thing"] (defScope s_is_box) := ⟨rfl, rfl, rfl, by decide +kernel, rfl, by decide +kernel, by decide +kernel⟩
abbrev s_shares : Stmt := topS 47
abbrev N_shares : List Str := ["club", "kin", "totals", "parts"]
theorem sc_shares : FnScope N_shares ["club", "kin", "totals"] (defScope s_shares) := ⟨rfl, rfl, rfl, by decide +kernel, rfl, by decide +kernel, by decide +kernel⟩
abbrev s_L_pool : Stmt := topS 49
abbrev N_L_pool : List Str := ["_law_script", "_law_great", "_law_cell", "_law_small"]
theorem sc_L_pool : FnScope N_L_pool ["_law_script"] (defScope s_L_pool) := ⟨rfl, rfl, rfl, by decide +kernel, rfl, by decide +kernel, by decide +kernel⟩
abbrev s_L_draw : Stmt := topS 50
abbrev N_L_draw : List Str := ["_law_pool_here", "_law_many", "_law_digit", "_law_cell", "_law_number_here"]
theorem sc_L_draw : FnScope N_L_draw ["_law_pool_here", "_law_many"] (defScope s_L_draw) := ⟨rfl, rfl, rfl, by decide +kernel, rfl, by decide +kernel, by decide +kernel⟩
abbrev s_L_pick : Stmt := topS 51
abbrev N_L_pick : List Str := ["_law_pool_here", "_law_things"]
theorem sc_L_pick : FnScope N_L_pick ["_law_pool_here", "_law_things"] (defScope s_L_pick) := ⟨rfl, rfl, rfl, by decide +kernel, rfl, by decide +kernel, by decide +kernel⟩
abbrev s_L_near : Stmt := topS 52
abbrev N_L_near : List Str := ["_law_pool_here", "_law_size", "_law_number_here", "_law_turn"]
theorem sc_L_near : FnScope N_L_near ["_law_pool_here", "_law_size"] (defScope s_L_near) := ⟨rfl, rfl, rfl, by decide +kernel, rfl, by decide +kernel, by decide +kernel⟩
abbrev s_L_number : Stmt := topS 53
abbrev N_L_number : List Str := ["_law_pool_here"]
theorem sc_L_number : FnScope N_L_number ["_law_pool_here"] (defScope s_L_number) := ⟨rfl, rfl, rfl, by decide +kernel, rfl, by decide +kernel, by decide +kernel⟩
abbrev s_L_club : Stmt := topS 54
abbrev N_L_club : List Str := ["_law_pool_here", "_law_most", "_law_found", "_law_size", "_law_member", "_law_sorts"]
theorem sc_L_club : FnScope N_L_club ["_law_pool_here", "_law_most"] (defScope s_L_club) := ⟨rfl, rfl, rfl, by decide +kernel, rfl, by decide +kernel, by decide +kernel⟩
abbrev s_L_rows : Stmt := topS 55
abbrev N_L_rows : List Str := ["_law_club_here", "_law_found", "_law_sorts", "_law_later", "_law_row", "_law_slip"]
theorem sc_L_rows : FnScope N_L_rows ["_law_club_here"] (defScope s_L_rows) := ⟨rfl, rfl, rfl, by decide +kernel, rfl, by decide +kernel, by decide +kernel⟩
abbrev s_L_kin : Stmt := topS 56
abbrev N_L_kin : List Str := ["_law_pool_here", "_law_many", "_law_style", "_law_found", "_law_member", "_law_lot", "_law_other"]
theorem sc_L_kin : FnScope N_L_kin ["_law_pool_here", "_law_many"] (defScope s_L_kin) := ⟨rfl, rfl, rfl, by decide +kernel, rfl, by decide +kernel, by decide +kernel⟩
abbrev s_L_spot : Stmt := topS 57
abbrev N_L_spot : List Str := ["_law_row", "_law_lot", "_law_member", "_law_slip"]
theorem sc_L_spot : FnScope N_L_spot ["_law_row", "_law_lot"] (defScope s_L_spot) := ⟨rfl, rfl, rfl, by decide +kernel, rfl, by decide +kernel, by decide +kernel⟩
abbrev s_L_drawn_shares : Stmt := topS 58
abbrev N_L_drawn_shares : List Str := ["_law_pool_here", "_law_club_here", "_law_kin_here", "_law_rows_here", "_law_known", "_law_found", "_law_row", "_law_given", "_law_member", "_law_lot", "_law_key"]
theorem sc_L_drawn_shares : FnScope N_L_drawn_shares ["_law_pool_here", "_law_club_here", "_law_kin_here"] (defScope s_L_drawn_shares) := ⟨rfl, rfl, rfl, by decide +kernel, rfl, by decide +kernel, by decide +kernel⟩
abbrev s_L_sums : Stmt := topS 59
abbrev N_L_sums : List Str := ["_law_given", "_law_row"]
theorem sc_L_sums : FnScope N_L_sums ["_law_given"] (defScope s_L_sums) := ⟨rfl, rfl, rfl, by decide +kernel, rfl, by decide +kernel, by decide +kernel⟩
abbrev s_L_raised : Stmt := topS 60
abbrev N_L_raised : List Str := ["_law_pool_here", "_law_totals_here", "_law_found", "_law_turn", "_law_at"]
theorem sc_L_raised : FnScope N_L_raised ["_law_pool_here", "_law_totals_here"] (defScope s_L_raised) := ⟨rfl, rfl, rfl, by decide +kernel, rfl, by decide +kernel, by decide +kernel⟩
abbrev s_L_totals : Stmt := topS 61
abbrev N_L_totals : List Str := ["_law_pool_here", "_law_club_here", "_law_kin_here", "_law_style", "_law_row", "_law_found"]
theorem sc_L_totals : FnScope N_L_totals ["_law_pool_here", "_law_club_here", "_law_kin_here"] (defScope s_L_totals) := ⟨rfl, rfl, rfl, by decide +kernel, rfl, by decide +kernel, by decide +kernel⟩
abbrev s_L_all_lots : Stmt := topS 62
abbrev N_L_all_lots : List Str := ["_law_many", "_law_found", "_law_member", "_law_lot"]
theorem sc_L_all_lots : FnScope N_L_all_lots ["_law_many"] (defScope s_L_all_lots) := ⟨rfl, rfl, rfl, by decide +kernel, rfl, by decide +kernel, by decide +kernel⟩
abbrev s_L_least_lots : Stmt := topS 63
abbrev N_L_least_lots : List Str := ["_law_kin_here", "_law_hits", "_law_lot", "_law_member", "_law_own", "_law_found", "_law_spared", "_law_at", "_law_less"]
theorem sc_L_least_lots : FnScope N_L_least_lots ["_law_kin_here"] (defScope s_L_least_lots) := ⟨rfl, rfl, rfl, by decide +kernel, rfl, by decide +kernel, by decide +kernel⟩
abbrev s_L_place : Stmt := topS 64
abbrev N_L_place : List Str := ["_law_club_here", "_law_row", "_law_found", "_law_slip", "_law_sorts"]
theorem sc_L_place : FnScope N_L_place ["_law_club_here", "_law_row"] (defScope s_L_place) := ⟨rfl, rfl, rfl, by decide +kernel, rfl, by decide +kernel, by decide +kernel⟩
abbrev s_L_box_sum : Stmt := topS 65
abbrev N_L_box_sum : List Str := ["_law_club_here", "_law_totals_here", "_law_one", "_law_other", "_law_corners", "_law_first", "_law_second", "_law_later", "_law_row", "_law_sign"]
theorem sc_L_box_sum : FnScope N_L_box_sum ["_law_club_here", "_law_totals_here", "_law_one", "_law_other"] (defScope s_L_box_sum) := ⟨rfl, rfl, rfl, by decide +kernel, rfl, by decide +kernel, by decide +kernel⟩
abbrev s_L_unlike : Stmt := topS 66
abbrev N_L_unlike : List Str := ["_law_one", "_law_other", "_law_member"]
theorem sc_L_unlike : FnScope N_L_unlike ["_law_one", "_law_other"] (defScope s_L_unlike) := ⟨rfl, rfl, rfl, by decide +kernel, rfl, by decide +kernel, by decide +kernel⟩
abbrev s_law : Stmt := topS 67
abbrev N_law : List Str := ["_law_script", "_law_pool_here", "_law_club_here", "_law_kin_here", "_law_totals_here", "_law_rows_here", "_law_lots", "_law_bars", "_law_one", "_law_other", "_law_due", "_law_flag", "_law_judged", "_law_told"]
theorem sc_law : FnScope N_law ["_law_script"] (defScope s_law) := ⟨rfl, rfl, rfl, by decide +kernel, rfl, by decide +kernel, by decide +kernel⟩
/-! ### the head's data -/
def d_is_integer : He.DefD := ⟨("is_integer", none), "is_integer", "is_integer", defArgs s_is_integer, defBody s_is_integer, defScope s_is_integer, [], []⟩
def d_is_within : He.DefD := ⟨("is_within", none), "is_within", "is_within", defArgs s_is_within, defBody s_is_within, defScope s_is_within, [], []⟩
def d_is_pair : He.DefD := ⟨("is_pair", none), "is_pair", "is_pair", defArgs s_is_pair, defBody s_is_pair, defScope s_is_pair, [], []⟩
def d_is_lot : He.DefD := ⟨("is_lot", none), "is_lot", "is_lot", defArgs s_is_lot, defBody s_is_lot, defScope s_is_lot, [], []⟩
def d_is_table : He.DefD := ⟨("is_table", none), "is_table", "is_table", defArgs s_is_table, defBody s_is_table, defScope s_is_table, [], []⟩
def d_is_many : He.DefD := ⟨("is_many", none), "is_many", "is_many", defArgs s_is_many, defBody s_is_many, defScope s_is_many, [], []⟩
def d_size_of : He.DefD := ⟨("size_of", none), "size_of", "size_of", defArgs s_size_of, defBody s_size_of, defScope s_size_of, [], []⟩
def d_is_club : He.DefD := ⟨("is_club", none), "is_club", "is_club", defArgs s_is_club, defBody s_is_club, defScope s_is_club, [], []⟩
def d_check_club : He.DefD := ⟨("check_club", none), "check_club", "check_club", defArgs s_check_club, defBody s_check_club, defScope s_check_club, [], []⟩
def d_is_place : He.DefD := ⟨("is_place", none), "is_place", "is_place", defArgs s_is_place, defBody s_is_place, defScope s_is_place, [], []⟩
def d_place_of : He.DefD := ⟨("place_of", none), "place_of", "place_of", defArgs s_place_of, defBody s_place_of, defScope s_place_of, [], []⟩
def d_slips_of : He.DefD := ⟨("slips_of", none), "slips_of", "slips_of", defArgs s_slips_of, defBody s_slips_of, defScope s_slips_of, [], []⟩
def d_all_rows : He.DefD := ⟨("all_rows", none), "all_rows", "all_rows", defArgs s_all_rows, defBody s_all_rows, defScope s_all_rows, [], []⟩
def d_unlike_in : He.DefD := ⟨("unlike_in", none), "unlike_in", "unlike_in", defArgs s_unlike_in, defBody s_unlike_in, defScope s_unlike_in, [], []⟩
def d_line_of : He.DefD := ⟨("line_of", none), "line_of", "line_of", defArgs s_line_of, defBody s_line_of, defScope s_line_of, [], []⟩
def d_is_kin : He.DefD := ⟨("is_kin", none), "is_kin", "is_kin", defArgs s_is_kin, defBody s_is_kin, defScope s_is_kin, [], []⟩
def d_check_kin : He.DefD := ⟨("check_kin", none), "check_kin", "check_kin", defArgs s_check_kin, defBody s_check_kin, defScope s_check_kin, [], []⟩
def d_check_totals : He.DefD := ⟨("check_totals", none), "check_totals", "check_totals", defArgs s_check_totals, defBody s_check_totals, defScope s_check_totals, [], []⟩
def d_check_shared : He.DefD := ⟨("check_shared", none), "check_shared", "check_shared", defArgs s_check_shared, defBody s_check_shared, defScope s_check_shared, [], []⟩
def d_all_lots : He.DefD := ⟨("all_lots", none), "all_lots", "all_lots", defArgs s_all_lots, defBody s_all_lots, defScope s_all_lots, [], []⟩
def d_has_some : He.DefD := ⟨("has_some", none), "has_some", "has_some", defArgs s_has_some, defBody s_has_some, defScope s_has_some, [], []⟩
def d_meets_all : He.DefD := ⟨("meets_all", none), "meets_all", "meets_all", defArgs s_meets_all, defBody s_meets_all, defScope s_meets_all, [], []⟩
def d_without : He.DefD := ⟨("without", none), "without", "without", defArgs s_without, defBody s_without, defScope s_without, [], []⟩
def d_least_of : He.DefD := ⟨("least_of", none), "least_of", "least_of", defArgs s_least_of, defBody s_least_of, defScope s_least_of, [], []⟩
def d_corners : He.DefD := ⟨("corners", none), "corners", "corners", defArgs s_corners, defBody s_corners, defScope s_corners, [], []⟩
def d_sum_of_box : He.DefD := ⟨("sum_of_box", none), "sum_of_box", "sum_of_box", defArgs s_sum_of_box, defBody s_sum_of_box, defScope s_sum_of_box, [], []⟩
def d_are_places : He.DefD := ⟨("are_places", none), "are_places", "are_places", defArgs s_are_places, defBody s_are_places, defScope s_are_places, [], []⟩
def d_box_sum : He.DefD := ⟨("box_sum", none), "box_sum", "box_sum", defArgs s_box_sum, defBody s_box_sum, defScope s_box_sum, [], []⟩
def d_parts_of : He.DefD := ⟨("parts_of", none), "parts_of", "parts_of", defArgs s_parts_of, defBody s_parts_of, defScope s_parts_of, [], []⟩
def d_speakers : He.DefD := ⟨("speakers", none), "speakers", "speakers", defArgs s_speakers, defBody s_speakers, defScope s_speakers, [], []⟩
def d_takers_of : He.DefD := ⟨("takers_of", none), "takers_of", "takers_of", defArgs s_takers_of, defBody s_takers_of, defScope s_takers_of, [], []⟩
def d_shares_by_parts : He.DefD := ⟨("shares_by_parts", none), "shares_by_parts", "shares_by_parts", defArgs s_shares_by_parts, defBody s_shares_by_parts, defScope s_shares_by_parts, [], []⟩
def d_barred_rows : He.DefD := ⟨("barred_rows", none), "barred_rows", "barred_rows", defArgs s_barred_rows, defBody s_barred_rows, defScope s_barred_rows, [], []⟩
def d_box : He.DefD := ⟨("box", none), "box", "box", defArgs s_box, defBody s_box, defScope s_box, [], []⟩
def d_is_box : He.DefD := ⟨("is_box", none), "is_box", "is_box", defArgs s_is_box, defBody s_is_box, defScope s_is_box, [], []⟩
def d_shares : He.DefD := ⟨("shares", none), "shares", "shares", defArgs s_shares, defBody s_shares, defScope s_shares, [], []⟩
def d_L_pool : He.DefD := ⟨("_law_pool", none), "_law_pool", "_law_pool", defArgs s_L_pool, defBody s_L_pool, defScope s_L_pool, [], []⟩
def d_L_draw : He.DefD := ⟨("_law_draw", none), "_law_draw", "_law_draw", defArgs s_L_draw, defBody s_L_draw, defScope s_L_draw, [], []⟩
def d_L_pick : He.DefD := ⟨("_law_pick", none), "_law_pick", "_law_pick", defArgs s_L_pick, defBody s_L_pick, defScope s_L_pick, [], []⟩
def d_L_near : He.DefD := ⟨("_law_near", none), "_law_near", "_law_near", defArgs s_L_near, defBody s_L_near, defScope s_L_near, [], []⟩
def d_L_number : He.DefD := ⟨("_law_number", none), "_law_number", "_law_number", defArgs s_L_number, defBody s_L_number, defScope s_L_number, [], []⟩
def d_L_club : He.DefD := ⟨("_law_club", none), "_law_club", "_law_club", defArgs s_L_club, defBody s_L_club, defScope s_L_club, [], []⟩
def d_L_rows : He.DefD := ⟨("_law_rows", none), "_law_rows", "_law_rows", defArgs s_L_rows, defBody s_L_rows, defScope s_L_rows, [], []⟩
def d_L_kin : He.DefD := ⟨("_law_kin", none), "_law_kin", "_law_kin", defArgs s_L_kin, defBody s_L_kin, defScope s_L_kin, [], []⟩
def d_L_spot : He.DefD := ⟨("_law_spot", none), "_law_spot", "_law_spot", defArgs s_L_spot, defBody s_L_spot, defScope s_L_spot, [], []⟩
def d_L_drawn_shares : He.DefD := ⟨("_law_drawn_shares", none), "_law_drawn_shares", "_law_drawn_shares", defArgs s_L_drawn_shares, defBody s_L_drawn_shares, defScope s_L_drawn_shares, [], []⟩
def d_L_sums : He.DefD := ⟨("_law_sums", none), "_law_sums", "_law_sums", defArgs s_L_sums, defBody s_L_sums, defScope s_L_sums, [], []⟩
def d_L_raised : He.DefD := ⟨("_law_raised", none), "_law_raised", "_law_raised", defArgs s_L_raised, defBody s_L_raised, defScope s_L_raised, [], []⟩
def d_L_totals : He.DefD := ⟨("_law_totals", none), "_law_totals", "_law_totals", defArgs s_L_totals, defBody s_L_totals, defScope s_L_totals, [], []⟩
def d_L_all_lots : He.DefD := ⟨("_law_all_lots", none), "_law_all_lots", "_law_all_lots", defArgs s_L_all_lots, defBody s_L_all_lots, defScope s_L_all_lots, [], []⟩
def d_L_least_lots : He.DefD := ⟨("_law_least_lots", none), "_law_least_lots", "_law_least_lots", defArgs s_L_least_lots, defBody s_L_least_lots, defScope s_L_least_lots, [], []⟩
def d_L_place : He.DefD := ⟨("_law_place", none), "_law_place", "_law_place", defArgs s_L_place, defBody s_L_place, defScope s_L_place, [], []⟩
def d_L_box_sum : He.DefD := ⟨("_law_box_sum", none), "_law_box_sum", "_law_box_sum", defArgs s_L_box_sum, defBody s_L_box_sum, defScope s_L_box_sum, [], []⟩
def d_L_unlike : He.DefD := ⟨("_law_unlike", none), "_law_unlike", "_law_unlike", defArgs s_L_unlike, defBody s_L_unlike, defScope s_L_unlike, [], []⟩
def d_law : He.DefD := ⟨("law", none), "law", "law", defArgs s_law, defBody s_law, defScope s_law, [], []⟩
def fn : List He.DefD := [d_is_integer, d_is_within, d_is_pair, d_is_lot, d_is_table, d_is_many, d_size_of, d_is_club, d_check_club, d_is_place, d_place_of, d_slips_of, d_all_rows, d_unlike_in, d_line_of, d_is_kin, d_check_kin, d_check_totals, d_check_shared, d_all_lots, d_has_some, d_meets_all, d_without, d_least_of, d_corners, d_sum_of_box, d_are_places, d_box_sum, d_parts_of, d_speakers, d_takers_of, d_shares_by_parts, d_barred_rows, d_box, d_is_box, d_shares, d_L_pool, d_L_draw, d_L_pick, d_L_near, d_L_number, d_L_club, d_L_rows, d_L_kin, d_L_spot, d_L_drawn_shares, d_L_sums, d_L_raised, d_L_totals, d_L_all_lots, d_L_least_lots, d_L_place, d_L_box_sum, d_L_unlike, d_law]
def fa : List He.Fa := [.glo "is_integer", .glo "is_within", .glo "is_pair", .glo "is_lot", .glo "is_table", .glo "is_many", .glo "size_of", .glo "is_club", .glo "check_club", .glo "is_place", .glo "place_of", .glo "slips_of", .glo "all_rows", .glo "unlike_in", .glo "line_of", .glo "is_kin", .glo "check_kin", .glo "check_totals", .glo "check_shared", .glo "all_lots", .glo "has_some", .glo "meets_all", .glo "without", .glo "least_of", .glo "corners", .glo "sum_of_box", .glo "are_places", .glo "box_sum", .glo "parts_of", .glo "speakers", .glo "takers_of", .glo "shares_by_parts", .glo "barred_rows", .glo "box", .glo "is_box", .glo "shares", .glo "_law_pool", .glo "_law_draw", .glo "_law_pick", .glo "_law_near", .glo "_law_number", .glo "_law_club", .glo "_law_rows", .glo "_law_kin", .glo "_law_spot", .glo "_law_drawn_shares", .glo "_law_sums", .glo "_law_raised", .glo "_law_totals", .glo "_law_all_lots", .glo "_law_least_lots", .glo "_law_place", .glo "_law_box_sum", .glo "_law_unlike", .glo "law", .int "MOST_MEMBERS" 8, .int "MOST_SORTS" 4, .int "MOST_ROWS" 256, .free "isinstance", .free "int", .free "tuple", .free "len", .free "all", .free "range", .free "zip", .free "reversed", .free "enumerate", .free "any", .free "sorted", .free "sum", .free "list", .free "abs", .free "bool"]
def loose0 : List PySem.Str := ["CauseError", "NoClub", "NoKin", "NoTotals", "NoBox", "MOST_MEMBERS", "MOST_SORTS", "MOST_ROWS", "is_integer", "is_within", "is_pair", "is_lot", "is_table", "is_many", "size_of", "is_club", "check_club", "is_place", "place_of", "slips_of", "all_rows", "unlike_in", "line_of", "is_kin", "check_kin", "check_totals", "check_shared", "all_lots", "has_some", "meets_all"]
def loose1 : List PySem.Str := ["without", "least_of", "corners", "sum_of_box", "are_places", "box_sum", "parts_of", "speakers", "takers_of", "shares_by_parts", "barred_rows", "box", "is_box", "shares", "_law_pool", "_law_draw", "_law_pick", "_law_near", "_law_number", "_law_club", "_law_rows", "_law_kin", "_law_spot", "_law_drawn_shares", "_law_sums", "_law_raised", "_law_totals", "_law_all_lots", "_law_least_lots", "_law_place"]
def loose2 : List PySem.Str := ["_law_box_sum", "_law_unlike"]
def loose : List PySem.Str := loose0 ++ loose1 ++ loose2
end OC
set_option Elab.async false
set_option linter.all false
set_option maxRecDepth 100000
set_option maxHeartbeats 0
namespace OC
open PySem PySem.Spec PyProof.Rows L2
abbrev R : PySem.W.OpenRow := PySem.W.OpenLaw.row PySem.Challenge.rw_owncause_k66_whole_all_boxes_of_small_cl
abbrev hk : PySem.W.Hook := He.hookD 4 fa fn
def ob (s : PySem.W.SharedT) : He.AlD := He.obsDG 4 fa fn (HandSHeadRun.getT s)
theorem ob_eq (s : PySem.W.SharedT) : ob s = hk.obs s.abs := He.obsDG_eq (HandSHeadRun.getT_eq s)
theorem run (w : World) : HandSHeadRun.RunEq R (PySem.W.view R.prog [67]) hk ob 4000 loose w := by
  intro os
  kernel_rfl
end OC
set_option Elab.async false
set_option linter.all false
set_option maxRecDepth 100000
set_option maxHeartbeats 4000000
/-! Own kit, part 1: what code reaches (by meaning), data over a frozen part of the heap, the state of a block. -/
namespace OC
open PySem PySem.Spec PyProof.Rows L2

/-! ### readings by meaning -/
def E (X : Cx) (e : Expr) (σ : L2.St) (H : Hp) (Q : VK) : Prop := ∀ pins s, Inv X pins σ H s → wpAny (model X.prog X.w) X.A (eval e X.env) (EP X pins σ Q) X.xe s
def T (X : Cx) (e : Expr) (σ : L2.St) (H : Hp) (Q : Bool → Hp → Prop) : Prop := ∀ pins s, Inv X pins σ H s → wpAny (model X.prog X.w) X.A (isTrue e X.env (eval e X.env)) (TP X pins σ Q) X.xe s
def A (X : Cx) (es : List Expr) (σ : L2.St) (H : Hp) (Q : List V → Hp → Prop) : Prop := ∀ pos pins s, Inv X pins σ H s → wpAny (model X.prog X.w) X.A (spliced (backTo pos (starEach es X.env))) (AP X pins σ Q) X.xe s
def S1 (X : Cx) (st : Stmt) (D : Ends) (σ : L2.St) (H : Hp) : Prop := ∀ pins s, Inv X pins σ H s → wpAny (model X.prog X.w) X.A (exec st X.env) (SP X pins D) X.xe s
def Ss (X : Cx) (b : List Stmt) (D : Ends) (σ : L2.St) (H : Hp) : Prop := ∀ pins s, Inv X pins σ H s → wpAny (model X.prog X.w) X.A (execs b X.env) (SP X pins D) X.xe s
section
variable {X : Cx}
theorem pe_E {e : Expr} : PE X e (E X e) := ⟨fun pins s _ _ _ I h => h pins s I⟩
theorem pt_T {e : Expr} : PT X e (T X e) := ⟨fun pins s _ _ _ I h => h pins s I⟩
theorem pa_A {es : List Expr} : PA X es (A X es) := ⟨fun pos pins s _ _ _ I h => h pos pins s I⟩
theorem ps_S {st : Stmt} : PS X st (S1 X st) := ⟨fun pins s _ _ _ I h => h pins s I⟩
theorem pss_S {b : List Stmt} : PSs X b (Ss X b) := ⟨fun pins s _ _ _ I h => h pins s I⟩
theorem E.of {e : Expr} {t : TE} {σ : L2.St} {H : Hp} {Q : VK} (h : PE X e t) (q : t σ H Q) : E X e σ H Q := fun pins s I => h.run pins s σ H Q I q
theorem T.of {e : Expr} {t : TT} {σ : L2.St} {H : Hp} {Q : Bool → Hp → Prop} (h : PT X e t) (q : t σ H Q) : T X e σ H Q := fun pins s I => h.run pins s σ H Q I q
theorem A.of {es : List Expr} {t : TA} {σ : L2.St} {H : Hp} {Q : List V → Hp → Prop} (h : PA X es t) (q : t σ H Q) : A X es σ H Q := fun pos pins s I => h.run pos pins s σ H Q I q
theorem S1.of {st : Stmt} {t : TS} {σ : L2.St} {H : Hp} {D : Ends} (h : PS X st t) (q : t D σ H) : S1 X st D σ H := fun pins s I => h.run pins s σ H D I q
theorem Ss.of {b : List Stmt} {t : TS} {σ : L2.St} {H : Hp} {D : Ends} (h : PSs X b t) (q : t D σ H) : Ss X b D σ H := fun pins s I => h.run pins s σ H D I q
theorem Ss.cons {st : Stmt} {rest : List Stmt} {σ : L2.St} {H : Hp} {D : Ends} (q : S1 X st { D with nx := Ss X rest D } σ H) : Ss X (st :: rest) D σ H := Ss.of (pss_cons ps_S pss_S) q
end

/-! ### data: tracked lists and tuples, ints, bools, None, nested -/
mutual
inductive Dq (H : Hp) : V → PyData → Prop
  | non : Dq H .non .none
  | bl (b : Bool) : Dq H (.bl b) (.bool b)
  | int (i : Int) : Dq H (.int i) (.int i)
  | lst {a : Addr} {xs : List V} {ds : List PyData} : H a = some (.lst xs) → DqAll H xs ds → Dq H (.ref a) (.list ds)
  | tup {a : Addr} {xs : List V} {ds : List PyData} : H a = some (.tup xs) → DqAll H xs ds → Dq H (.ref a) (.tuple ds)
inductive DqAll (H : Hp) : List V → List PyData → Prop
  | nil : DqAll H [] []
  | cons {v : V} {vs : List V} {d : PyData} {ds : List PyData} : Dq H v d → DqAll H vs ds → DqAll H (v :: vs) (d :: ds)
end
mutual
theorem dq_mono {H H' : Hp} (e : Same H H') : ∀ (d : PyData) (v : V), Dq H v d → Dq H' v d
  | .none, _, h => by cases h; exact .non
  | .bool b, _, h => by cases h; exact .bl b
  | .int i, _, h => by cases h; exact .int i
  | .str x, _, h => by cases h
  | .list ds, _, h => by
    cases h with
    | lst hs ha => exact .lst (e _ _ hs) (dqAll_mono e ds _ ha)
  | .tuple ds, _, h => by
    cases h with
    | tup hs ha => exact .tup (e _ _ hs) (dqAll_mono e ds _ ha)
  | .dict _, _, h => by cases h
theorem dqAll_mono {H H' : Hp} (e : Same H H') : ∀ (ds : List PyData) (vs : List V), DqAll H vs ds → DqAll H' vs ds
  | [], _, h => by cases h; exact .nil
  | d :: ds, _, h => by
    cases h with
    | cons h1 h2 => exact .cons (dq_mono e d _ h1) (dqAll_mono e ds _ h2)
end
mutual
theorem dq_dp {K : PySem.W.Frag} {H : Hp} : ∀ (d : PyData) (v : V), Dq H v d → Dp K H v d
  | .none, _, h => by cases h; exact .non
  | .bool b, _, h => by cases h; exact .bl b
  | .int i, _, h => by cases h; exact .int i
  | .str x, _, h => by cases h
  | .list ds, _, h => by
    cases h with
    | lst hs ha => exact .lst (SqL.of hs) (dqAll_dp ds _ ha)
  | .tuple ds, _, h => by
    cases h with
    | tup hs ha => exact .tup (SqT.of hs) (dqAll_dp ds _ ha)
  | .dict _, _, h => by cases h
theorem dqAll_dp {K : PySem.W.Frag} {H : Hp} : ∀ (ds : List PyData) (vs : List V), DqAll H vs ds → DpAll K H vs ds
  | [], _, h => by cases h; exact .nil
  | d :: ds, _, h => by
    cases h with
    | cons h1 h2 => exact .cons (dq_dp d _ h1) (dqAll_dp ds _ h2)
end
section
variable {H H' : Hp}
theorem DqAll.length : ∀ {vs : List V} {ds : List PyData}, DqAll H vs ds → vs.length = ds.length
  | _, _, .nil => rfl
  | _, _, .cons _ t => by simp [DqAll.length t]
theorem DqAll.get : ∀ {vs : List V} {ds : List PyData} {i : Nat} {d : PyData}, DqAll H vs ds → ds[i]? = some d → ∃ v, vs[i]? = some v ∧ Dq H v d
  | _, _, _, _, .nil, e => by simp at e
  | _, _, 0, _, .cons r _, e => by simp at e; subst e; exact ⟨_, rfl, r⟩
  | _, _, i + 1, d, .cons _ t, e => by
    obtain ⟨u, h1, h2⟩ := DqAll.get (i := i) (d := d) t (by simpa using e)
    exact ⟨u, by simpa using h1, h2⟩
theorem DqAll.get' : ∀ {vs : List V} {ds : List PyData} {i : Nat} {v : V}, DqAll H vs ds → vs[i]? = some v → ∃ d, ds[i]? = some d ∧ Dq H v d
  | _, _, _, _, .nil, e => by simp at e
  | _, _, 0, _, .cons r _, e => by simp at e; subst e; exact ⟨_, rfl, r⟩
  | _, _, i + 1, d, .cons _ t, e => by
    obtain ⟨u, h1, h2⟩ := DqAll.get' (i := i) (v := d) t (by simpa using e)
    exact ⟨u, by simpa using h1, h2⟩
theorem DqAll.append : ∀ {vs ws : List V} {ds es : List PyData}, DqAll H vs ds → DqAll H ws es → DqAll H (vs ++ ws) (ds ++ es)
  | _, _, _, _, .nil, s => s
  | _, _, _, _, .cons r t, s => .cons r (DqAll.append t s)
theorem DqAll.one {v : V} {d : PyData} (h : Dq H v d) : DqAll H [v] [d] := .cons h .nil
theorem DqAll.set : ∀ {vs : List V} {ds : List PyData} {v : V} {d : PyData} (i : Nat), DqAll H vs ds → Dq H v d → DqAll H (vs.set i v) (ds.set i d)
  | _, _, _, _, _, .nil, _ => .nil
  | _, _, _, _, 0, .cons _ t, s => .cons s t
  | _, _, _, _, i + 1, .cons r t, s => .cons r (DqAll.set i t s)
theorem DqAll.take : ∀ {vs : List V} {ds : List PyData} (n : Nat), DqAll H vs ds → DqAll H (vs.take n) (ds.take n)
  | _, _, 0, _ => .nil
  | _, _, _ + 1, .nil => .nil
  | _, _, n + 1, .cons r t => .cons r (DqAll.take n t)
theorem DqAll.drop : ∀ {vs : List V} {ds : List PyData} (n : Nat), DqAll H vs ds → DqAll H (vs.drop n) (ds.drop n)
  | _, _, 0, r => r
  | _, _, _ + 1, .nil => .nil
  | _, _, n + 1, .cons _ t => DqAll.drop n t
theorem DqAll.reverse : ∀ {vs : List V} {ds : List PyData}, DqAll H vs ds → DqAll H vs.reverse ds.reverse
  | _, _, .nil => .nil
  | _, _, .cons r t => by
    rw [List.reverse_cons, List.reverse_cons]
    exact DqAll.append (DqAll.reverse t) (DqAll.one r)
theorem DqAll.ints : ∀ {vs : List V} {ns : List Int}, DqAll H vs (ns.map PyData.int) → vs = ns.map V.int
  | _, [], .nil => rfl
  | _, _ :: _, .cons (.int _) t => by rw [List.map_cons, DqAll.ints t]
theorem DqAll.of_ints : ∀ (ns : List Int), DqAll H (ns.map V.int) (ns.map PyData.int)
  | [] => .nil
  | i :: ns => .cons (.int i) (DqAll.of_ints ns)
theorem DqAll.bools : ∀ {vs : List V} {ns : List Bool}, DqAll H vs (ns.map PyData.bool) → vs = ns.map V.bl
  | _, [], .nil => rfl
  | _, _ :: _, .cons (.bl _) t => by rw [List.map_cons, DqAll.bools t]
end

/-! ### the frozen part Hf of a heap H, from one time to a later one; w: the one object outside it that may be written -/
structure FEx (w : Option Addr) (Hf H Hf' H' : Hp) : Prop where
  ff : Same Hf Hf'
  sub : Same Hf' H'
  keep : ∀ b o, w ≠ some b → H b = some o → H' b = some o
  there : ∀ b, H b ≠ none → H' b ≠ none
  excl : ∀ b, H b ≠ none → Hf b = none → Hf' b = none
section
variable {w : Option Addr} {Hf H Hf1 H1 Hf2 H2 : Hp}
theorem FEx.refl (e : Same Hf H) : FEx w Hf H Hf H := ⟨Same.refl _, e, fun _ _ _ h => h, fun _ h => h, fun _ _ h => h⟩
theorem FEx.trans (a : FEx w Hf H Hf1 H1) (b : FEx w Hf1 H1 Hf2 H2) : FEx w Hf H Hf2 H2 :=
  ⟨a.ff.trans b.ff, b.sub, fun c o n h => b.keep c o n (a.keep c o n h), fun c h => b.there c (a.there c h), fun c h n => b.excl c (a.there c h) (a.excl c h n)⟩
theorem FEx.wk (a : FEx none Hf H Hf1 H1) : FEx w Hf H Hf1 H1 := ⟨a.ff, a.sub, fun c o _ h => a.keep c o (by simp) h, a.there, a.excl⟩
/-- a new object, frozen at once -/
theorem FEx.new {p : Addr} {o : HO} (e : Same Hf H) (hp : H p = none) : FEx w Hf H (upd Hf p o) (upd H p o) := by
  have hf : Hf p = none := e.free hp
  refine ⟨Evl.Ex.new hf, fun b u q => ?_, fun b u _ h => by rw [upd_ne (ne_of_none h hp)]; exact h, fun b h => ?_, fun b h n => ?_⟩
  · by_cases hb : b = p
    · subst hb; rw [upd_same] at q ⊢; exact q
    · rw [upd_ne hb] at q ⊢; exact e b u q
  · cases q : H b with
    | none => exact absurd q h
    | some u => rw [upd_ne (ne_of_none q hp), q]; simp
  · have hb : b ≠ p := fun z => h (z ▸ hp)
    rw [upd_ne hb]; exact n
/-- a new object, not frozen -/
theorem FEx.own {p : Addr} {o : HO} (e : Same Hf H) (hp : H p = none) : FEx w Hf H Hf (upd H p o) := by
  refine ⟨Same.refl _, fun b u q => ?_, fun b u _ h => by rw [upd_ne (ne_of_none h hp)]; exact h, fun b h => ?_, fun b h n => n⟩
  · rw [upd_ne (ne_of_none (e b u q) hp)]; exact e b u q
  · cases q : H b with
    | none => exact absurd q h
    | some u => rw [upd_ne (ne_of_none q hp), q]; simp
/-- an object that is not frozen becomes so -/
theorem FEx.ice {p : Addr} {o : HO} (e : FEx w Hf H Hf1 H1) (h1 : H1 p = some o) (h0 : H p = none) (hf : Hf1 p = none) : FEx w Hf H (upd Hf1 p o) H1 := by
  refine ⟨e.ff.trans (Evl.Ex.new hf), fun b u q => ?_, e.keep, e.there, fun b h n => ?_⟩
  · by_cases hb : b = p
    · subst hb; rw [upd_same] at q; rw [h1]; exact q
    · rw [upd_ne hb] at q; exact e.sub b u q
  · have hb : b ≠ p := fun z => h (z ▸ h0)
    rw [upd_ne hb]; exact e.excl b h n
/-- an object that is not frozen is written -/
theorem FEx.write {p : Addr} {o : HO} (e : FEx w Hf H Hf1 H1) (h0 : H p = none ∨ w = some p) (hf : Hf1 p = none) : FEx w Hf H Hf1 (upd H1 p o) := by
  refine ⟨e.ff, fun b u q => ?_, fun b u n h => ?_, fun b h => ?_, e.excl⟩
  · have hb : b ≠ p := fun z => by rw [z, hf] at q; cases q
    rw [upd_ne hb]; exact e.sub b u q
  · have hb : b ≠ p := fun z => by
      subst z
      rcases h0 with h0 | h0
      · rw [h0] at h; cases h
      · exact n h0
    rw [upd_ne hb]; exact e.keep b u n h
  · by_cases hb : b = p
    · subst hb; rw [upd_same]; simp
    · rw [upd_ne hb]; exact e.there b h
end

/-! ### the state of a block -/
inductive Slot where
  | non | dat (d : PyData) | own (φ : Addr → Hp → HO → Prop) | pool
structure Bs where
  w : Option Addr
  Hf : Hp
  H : Hp
/-- a list that this code owns, of data -/
def Lst (ds : List PyData) : Addr → Hp → HO → Prop := fun _ Hf o => ∃ vs, o = .lst vs ∧ DqAll Hf vs ds
def Mono (φ : Addr → Hp → HO → Prop) : Prop := ∀ p Hf Hf' o, Same Hf Hf' → φ p Hf o → φ p Hf' o
theorem lst_mono {ds : List PyData} : Mono (Lst ds) := fun _ _ _ _ e ⟨vs, h1, h2⟩ => ⟨vs, h1, dqAll_mono e _ _ h2⟩
/-- the pool of drawn numbers -/
def PoolOk (Hf H : Hp) (p : Addr) : Prop := Hf p = none ∧ ∃ (v0 v1 : V) (a b : Int) (gs ss : List Int), H p = some (.lst [v0, v1, .int a, .int b]) ∧ Dq Hf v0 (.list (gs.map PyData.int)) ∧ Dq Hf v1 (.list (ss.map PyData.int))
theorem PoolOk.next {Hf H Hf' H' : Hp} {p : Addr} {w : Option Addr} (h : PoolOk Hf H p) (e : FEx w Hf H Hf' H') (hw : w ≠ some p) : PoolOk Hf' H' p := by
  obtain ⟨hf, v0, v1, a, b, gs, ss, h1, h2, h3⟩ := h
  exact ⟨e.excl p (by rw [h1]; simp) hf, v0, v1, a, b, gs, ss, e.keep p _ hw h1, dq_mono e.ff _ _ h2, dq_mono e.ff _ _ h3⟩
structure SA (B : Bs) (Γ : List Slot) (σ : L2.St) (Hf H : Hp) : Prop where
  fx : FEx B.w B.Hf B.H Hf H
  pl : ∀ p, B.w = some p → PoolOk Hf H p
  len : Γ.length = σ.length
  dat : ∀ (i : Nat) (d : PyData), Γ[i]? = some (.dat d) → ∃ v : V, σ[i]? = some (some v) ∧ Dq Hf v d
  own : ∀ (i : Nat) (φ : Addr → Hp → HO → Prop), Γ[i]? = some (.own φ) → Mono φ ∧ ∃ (p : Addr) (o : HO), σ[i]? = some (some (.ref p)) ∧ H p = some o ∧ Hf p = none ∧ B.H p = none ∧ B.w ≠ some p ∧ φ p Hf o
  dis : ∀ (i j : Nat) (φ ψ : Addr → Hp → HO → Prop) (p : Addr), i ≠ j → Γ[i]? = some (.own φ) → Γ[j]? = some (.own ψ) → σ[i]? = some (some (.ref p)) → σ[j]? = some (some (.ref p)) → False
  pool : ∀ (i : Nat), Γ[i]? = some .pool → ∃ p : Addr, B.w = some p ∧ σ[i]? = some (some (.ref p))
section
variable {B : Bs} {Γ Γ' : List Slot} {σ : L2.St} {Hf H Hf' H' : Hp}
/-- the heap went on; what is owned here stands -/
theorem SA.next (s : SA B Γ σ Hf H) (e : FEx B.w Hf H Hf' H') (pl : ∀ p, B.w = some p → PoolOk Hf' H' p) : SA B Γ σ Hf' H' where
  fx := s.fx.trans e
  pl := pl
  len := s.len
  dat := fun i d h => let ⟨v, h1, h2⟩ := s.dat i d h; ⟨v, h1, dq_mono e.ff _ _ h2⟩
  own := fun i φ h => by
    obtain ⟨m, p, o, h1, h2, h3, h4, h5, h6⟩ := s.own i φ h
    exact ⟨m, p, o, h1, e.keep p o h5 h2, e.excl p (by rw [h2]; simp) h3, h4, h5, m _ _ _ _ e.ff h6⟩
  dis := s.dis
  pool := s.pool
theorem SA.next0 (s : SA B Γ σ Hf H) (e : FEx none Hf H Hf' H') : SA B Γ σ Hf' H' :=
  s.next e.wk fun p hp => (s.pl p hp).next e (by simp)
theorem SA.sub (s : SA B Γ σ Hf H) : Same Hf H := s.fx.sub
/-- some slots are forgotten -/
def le : List Slot → List Slot → Prop
  | [], [] => True
  | x :: xs, y :: ys => (x = .non ∨ x = y) ∧ le xs ys
  | _, _ => False
theorem le_len : ∀ {a b : List Slot}, le a b → a.length = b.length
  | [], [], _ => rfl
  | _ :: _, _ :: _, h => by simp [le_len h.2]
  | [], _ :: _, h => h.elim
  | _ :: _, [], h => h.elim
theorem le_get : ∀ {a b : List Slot} {i : Nat} {x : Slot}, le a b → a[i]? = some x → x ≠ .non → b[i]? = some x
  | [], [], _, _, _, h, _ => by simp at h
  | x :: _, y :: _, 0, z, h, e, n => by
    simp at e; subst e
    rcases h.1 with q | q
    · exact absurd q n
    · simp [q]
  | _ :: xs, _ :: ys, i + 1, z, h, e, n => by
    simp at e ⊢
    exact le_get h.2 e n
  | [], _ :: _, _, _, h, _, _ => h.elim
  | _ :: _, [], _, _, h, _, _ => h.elim
theorem le_refl : ∀ {a : List Slot}, le a a
  | [] => trivial
  | _ :: _ => ⟨.inr rfl, le_refl⟩
theorem le_non : ∀ {a : List Slot}, le (a.map fun _ => .non) a
  | [] => trivial
  | _ :: _ => ⟨.inl rfl, le_non⟩
theorem SA.weak (s : SA B Γ σ Hf H) (l : le Γ' Γ) : SA B Γ' σ Hf H where
  fx := s.fx
  pl := s.pl
  len := (le_len l).trans s.len
  dat := fun i d h => s.dat i d (le_get l h (by simp))
  own := fun i φ h => s.own i φ (le_get l h (by simp))
  dis := fun i j φ ψ p n h1 h2 => s.dis i j φ ψ p n (le_get l h1 (by simp)) (le_get l h2 (by simp))
  pool := fun i h => s.pool i (le_get l h (by simp))
theorem get_set {α : Type} {l : List α} {i j : Nat} {x y : α} (h : (l.set i x)[j]? = some y) : (j = i ∧ y = x ∧ i < l.length) ∨ (j ≠ i ∧ l[j]? = some y) := by
  by_cases e : j = i
  · subst e
    by_cases hl : j < l.length
    · rw [List.getElem?_set_self hl] at h
      exact .inl ⟨rfl, (Option.some.inj h).symm, hl⟩
    · rw [List.getElem?_eq_none (by simpa using hl)] at h; cases h
  · rw [List.getElem?_set_ne (Ne.symm e)] at h
    exact .inr ⟨e, h⟩
/-- a slot takes data -/
theorem SA.put (s : SA B Γ σ Hf H) (i : Nat) {v : V} {d : PyData} (hd : Dq Hf v d) : SA B (Γ.set i (.dat d)) (σ.set i (some v)) Hf H where
  fx := s.fx
  pl := s.pl
  len := by simp [s.len]
  dat := fun j e h => by
    rcases get_set h with ⟨rfl, h1, hl⟩ | ⟨n, h1⟩
    · cases h1
      exact ⟨v, by rw [List.getElem?_set_self (by rw [← s.len]; exact hl)], hd⟩
    · obtain ⟨u, h2, h3⟩ := s.dat j e h1
      exact ⟨u, by rw [List.getElem?_set_ne (Ne.symm n)]; exact h2, h3⟩
  own := fun j φ h => by
    rcases get_set h with ⟨rfl, h1, hl⟩ | ⟨n, h1⟩
    · cases h1
    · rw [List.getElem?_set_ne (Ne.symm n)]; exact s.own j φ h1
  dis := fun a b φ ψ p n h1 h2 h3 h4 => by
    rcases get_set h1 with ⟨_, q, _⟩ | ⟨n1, q1⟩
    · cases q
    rcases get_set h2 with ⟨_, q, _⟩ | ⟨n2, q2⟩
    · cases q
    rw [List.getElem?_set_ne (Ne.symm n1)] at h3
    rw [List.getElem?_set_ne (Ne.symm n2)] at h4
    exact s.dis a b φ ψ p n q1 q2 h3 h4
  pool := fun j h => by
    rcases get_set h with ⟨rfl, h1, hl⟩ | ⟨n, h1⟩
    · cases h1
    · rw [List.getElem?_set_ne (Ne.symm n)]; exact s.pool j h1
/-- a slot takes a new object of our own -/
theorem SA.take (s : SA B Γ σ Hf H) (i : Nat) {p : Addr} {o : HO} {φ : Addr → Hp → HO → Prop} (m : Mono φ) (hp : H p = none) (hφ : φ p Hf o) : SA B (Γ.set i (.own φ)) (σ.set i (some (.ref p))) Hf (upd H p o) := by
  have e : FEx B.w Hf H Hf (upd H p o) := FEx.own s.sub hp
  have hB : B.H p = none := by
    cases q : B.H p with
    | none => rfl
    | some u => exact absurd hp (s.fx.there p (by rw [q]; simp))
  have hw : B.w ≠ some p := fun z => by
    obtain ⟨_, v0, v1, a, b, gs, ss, h1, _⟩ := s.pl p z
    rw [hp] at h1; cases h1
  have s2 := s.next e fun q hq => by
    have hne : q ≠ p := fun z => hw (z ▸ hq)
    obtain ⟨hf, v0, v1, a, b, gs, ss, h1, h2, h3⟩ := s.pl q hq
    exact ⟨hf, v0, v1, a, b, gs, ss, by rw [upd_ne hne]; exact h1, h2, h3⟩
  refine ⟨s2.fx, s2.pl, by simp [s.len], fun j d h => ?_, fun j ψ h => ?_, fun a b φ1 ψ1 q n h1 h2 h3 h4 => ?_, fun j h => ?_⟩
  · rcases get_set h with ⟨rfl, h1, hl⟩ | ⟨n, h1⟩
    · cases h1
    · rw [List.getElem?_set_ne (Ne.symm n)]; exact s2.dat j d h1
  · rcases get_set h with ⟨rfl, h1, hl⟩ | ⟨n, h1⟩
    · cases h1
      refine ⟨m, p, o, by rw [List.getElem?_set_self (by rw [← s.len]; exact hl)], upd_same, s.sub.free hp, hB, hw, hφ⟩
    · rw [List.getElem?_set_ne (Ne.symm n)]; exact s2.own j ψ h1
  · have nw : ∀ (c : Nat) (χ : Addr → Hp → HO → Prop), c ≠ i → Γ[c]? = some (.own χ) → σ[c]? = some (some (.ref p)) → False := fun c χ _ g1 g2 => by
      obtain ⟨_, p', o', e1, e2, _⟩ := s.own c χ g1
      rw [g2] at e1; cases e1
      rw [hp] at e2; cases e2
    rcases get_set h1 with ⟨rfl, q1, l1⟩ | ⟨n1, q1⟩
    · rcases get_set h2 with ⟨rfl, _, _⟩ | ⟨n2, q2⟩
      · exact n rfl
      · rw [List.getElem?_set_self (by rw [← s.len]; exact l1)] at h3
        rw [List.getElem?_set_ne (Ne.symm n2)] at h4
        cases h3
        exact nw b ψ1 n2 q2 h4
    · rw [List.getElem?_set_ne (Ne.symm n1)] at h3
      rcases get_set h2 with ⟨rfl, _, l2⟩ | ⟨n2, q2⟩
      · rw [List.getElem?_set_self (by rw [← s.len]; exact l2)] at h4
        cases h4
        exact nw a φ1 n1 q1 h3
      · rw [List.getElem?_set_ne (Ne.symm n2)] at h4
        exact s.dis a b φ1 ψ1 q n q1 q2 h3 h4
  · rcases get_set h with ⟨rfl, h1, hl⟩ | ⟨n, h1⟩
    · cases h1
    · rw [List.getElem?_set_ne (Ne.symm n)]; exact s2.pool j h1
/-- an object of our own is written -/
theorem SA.write (s : SA B Γ σ Hf H) {i : Nat} {p : Addr} {o : HO} {φ ψ : Addr → Hp → HO → Prop} (m : Mono ψ) (hi : Γ[i]? = some (.own φ)) (hσ : σ[i]? = some (some (.ref p))) (hψ : ψ p Hf o) : SA B (Γ.set i (.own ψ)) σ Hf (upd H p o) := by
  obtain ⟨mφ, p', o', e1, e2, e3, e4, e5, e6⟩ := s.own i φ hi
  rw [hσ] at e1; cases e1
  have hl : i < Γ.length := (List.getElem?_eq_some_iff.mp hi).1
  refine ⟨s.fx.write (.inl e4) e3, fun q hq => ?_, by simp [s.len], fun j d h => ?_, fun j χ h => ?_, fun a b φ1 ψ1 q n h1 h2 h3 h4 => ?_, fun j h => ?_⟩
  · have hne : q ≠ p := fun z => e5 (z ▸ hq)
    obtain ⟨hf, v0, v1, a, b, gs, ss, h1, h2, h3⟩ := s.pl q hq
    exact ⟨hf, v0, v1, a, b, gs, ss, by rw [upd_ne hne]; exact h1, h2, h3⟩
  · rcases get_set h with ⟨rfl, h1, _⟩ | ⟨n, h1⟩
    · cases h1
    · exact s.dat j d h1
  · rcases get_set h with ⟨rfl, h1, _⟩ | ⟨n, h1⟩
    · cases h1
      exact ⟨m, p, o, hσ, upd_same, e3, e4, e5, hψ⟩
    · obtain ⟨m2, q, u, g1, g2, g3⟩ := s.own j χ h1
      have hne : q ≠ p := fun z => by
        subst z
        exact s.dis j i χ φ q n h1 hi g1 hσ
      exact ⟨m2, q, u, g1, by rw [upd_ne hne]; exact g2, g3⟩
  · have back : ∀ (c : Nat) (χ : Addr → Hp → HO → Prop), (Γ.set i (.own ψ))[c]? = some (.own χ) → ∃ χ', Γ[c]? = some (.own χ') := fun c χ h => by
      rcases get_set h with ⟨rfl, _, _⟩ | ⟨_, h1⟩
      · exact ⟨_, hi⟩
      · exact ⟨_, h1⟩
    obtain ⟨χ1, g1⟩ := back a φ1 h1
    obtain ⟨χ2, g2⟩ := back b ψ1 h2
    exact s.dis a b χ1 χ2 q n g1 g2 h3 h4
  · rcases get_set h with ⟨rfl, h1, _⟩ | ⟨n, h1⟩
    · cases h1
    · exact s.pool j h1
/-- a list of our own becomes data -/
theorem SA.freeze (s : SA B Γ σ Hf H) {i : Nat} {ds : List PyData} (hi : Γ[i]? = some (.own (Lst ds))) : ∃ Hf', Same Hf Hf' ∧ SA B (Γ.set i (.dat (.list ds))) σ Hf' H := by
  obtain ⟨mφ, p, o, e1, e2, e3, e4, e5, vs, rfl, e6⟩ := s.own i _ hi
  have ex : Same Hf (upd Hf p (.lst vs)) := Evl.Ex.new e3
  refine ⟨upd Hf p (.lst vs), ex, s.fx.ice e2 e4 e3, fun q hq => ?_, by simp [s.len], fun j d h => ?_, fun j χ h => ?_, fun a b φ1 ψ1 q n h1 h2 h3 h4 => ?_, fun j h => ?_⟩
  · have hne : q ≠ p := fun z => e5 (z ▸ hq)
    obtain ⟨hf, v0, v1, a, b, gs, ss, h1, h2, h3⟩ := s.pl q hq
    exact ⟨by rw [upd_ne hne]; exact hf, v0, v1, a, b, gs, ss, h1, dq_mono ex _ _ h2, dq_mono ex _ _ h3⟩
  · rcases get_set h with ⟨rfl, h1, _⟩ | ⟨n, h1⟩
    · cases h1
      exact ⟨_, e1, .lst upd_same (dqAll_mono ex _ _ e6)⟩
    · obtain ⟨v, g1, g2⟩ := s.dat j d h1
      exact ⟨v, g1, dq_mono ex _ _ g2⟩
  · rcases get_set h with ⟨rfl, h1, _⟩ | ⟨n, h1⟩
    · cases h1
    · obtain ⟨m2, q, u, g1, g2, g3, g4, g5, g6⟩ := s.own j χ h1
      have hne : q ≠ p := fun z => by
        subst z
        exact s.dis j i χ _ q n h1 hi g1 e1
      exact ⟨m2, q, u, g1, g2, by rw [upd_ne hne]; exact g3, g4, g5, m2 _ _ _ _ ex g6⟩
  · rcases get_set h1 with ⟨_, q1, _⟩ | ⟨n1, q1⟩
    · cases q1
    rcases get_set h2 with ⟨_, q2, _⟩ | ⟨n2, q2⟩
    · cases q2
    exact s.dis a b φ1 ψ1 q n q1 q2 h3 h4
  · rcases get_set h with ⟨rfl, h1, _⟩ | ⟨n, h1⟩
    · cases h1
    · exact s.pool j h1
end
end OC
set_option Elab.async false
set_option linter.all false
set_option maxRecDepth 100000
set_option maxHeartbeats 4000000
/-! Own kit, part 2: expressions by the data that they give. -/
namespace OC
open PySem PySem.Spec PyProof.Rows L2

/-- e gives a datum of S; what is frozen grows, what is owned stands -/
def PN (X : Cx) (B : Bs) (Γ : List Slot) (e : Expr) (S : PyData → Prop) : Prop :=
  ∀ (σ : L2.St) (Hf H : Hp), SA B Γ σ Hf H → ∀ Q : VK, (∀ v d Hf' H', S d → FEx B.w Hf H Hf' H' → SA B Γ σ Hf' H' → Dq Hf' v d → Q v H') → E X e σ H Q
/-- .. just this datum -/
abbrev PD (X : Cx) (B : Bs) (Γ : List Slot) (e : Expr) (d : PyData) : Prop := PN X B Γ e (fun z => z = d)
/-- a new list, not frozen -/
def PL (X : Cx) (B : Bs) (Γ : List Slot) (e : Expr) (S : List PyData → Prop) : Prop :=
  ∀ (σ : L2.St) (Hf H : Hp), SA B Γ σ Hf H → ∀ Q : VK, (∀ p vs ds Hf' H', S ds → H p = none → FEx B.w Hf H Hf' H' → SA B Γ σ Hf' H' → H' p = some (.lst vs) → Hf' p = none → DqAll Hf' vs ds → Q (.ref p) H') → E X e σ H Q
abbrev PLD (X : Cx) (B : Bs) (Γ : List Slot) (e : Expr) (ds : List PyData) : Prop := PL X B Γ e (fun z => z = ds)
def PT (X : Cx) (B : Bs) (Γ : List Slot) (e : Expr) (S : Bool → Prop) : Prop :=
  ∀ (σ : L2.St) (Hf H : Hp), SA B Γ σ Hf H → ∀ Q : Bool → Hp → Prop, (∀ b Hf' H', S b → FEx B.w Hf H Hf' H' → SA B Γ σ Hf' H' → Q b H') → T X e σ H Q
abbrev PTD (X : Cx) (B : Bs) (Γ : List Slot) (e : Expr) (b : Bool) : Prop := PT X B Γ e (fun z => z = b)
def PA (X : Cx) (B : Bs) (Γ : List Slot) (es : List Expr) (S : List PyData → Prop) : Prop :=
  ∀ (σ : L2.St) (Hf H : Hp), SA B Γ σ Hf H → ∀ Q : List V → Hp → Prop, (∀ vs ds Hf' H', S ds → FEx B.w Hf H Hf' H' → SA B Γ σ Hf' H' → DqAll Hf' vs ds → Q vs H') → A X es σ H Q
abbrev PAD (X : Cx) (B : Bs) (Γ : List Slot) (es : List Expr) (ds : List PyData) : Prop := PA X B Γ es (fun z => z = ds)

section
variable {X : Cx} {B : Bs} {Γ : List Slot} {e a b c : Expr} {es : List Expr} {pos : Pos} {d da db : PyData} {S Sa Sb : PyData → Prop}

theorem SA.self {Γ : List Slot} {σ : L2.St} {Hf H : Hp} (s : SA B Γ σ Hf H) : FEx B.w Hf H Hf H := FEx.refl s.sub
/-- an object that is new since H and not frozen is frozen -/
theorem SA.ice {Γ : List Slot} {σ : L2.St} {Hf H Hf' H' : Hp} {p : Addr} {o : HO} (s : SA B Γ σ Hf H) (e : FEx B.w Hf H Hf' H') (s' : SA B Γ σ Hf' H') (hp : H p = none) (h1 : H' p = some o) (hf : Hf' p = none) :
    FEx B.w Hf H (upd Hf' p o) H' ∧ SA B Γ σ (upd Hf' p o) H' := by
  have e2 := e.ice h1 hp hf
  refine ⟨e2, s.next e2 fun q hq => ?_⟩
  have hne : q ≠ p := fun z => by
    subst z
    obtain ⟨_, _, _, _, _, _, _, h2, _⟩ := s.pl q hq
    rw [hp] at h2; cases h2
  have ex : Same Hf' (upd Hf' p o) := Evl.Ex.new hf
  obtain ⟨f1, v0, v1, i, j, gs, ss, h2, h3, h4⟩ := s'.pl q hq
  exact ⟨by rw [upd_ne hne]; exact f1, v0, v1, i, j, gs, ss, h2, dq_mono ex _ _ h3, dq_mono ex _ _ h4⟩
/-- a new object, frozen at once -/
theorem SA.neu {Γ : List Slot} {σ : L2.St} {Hf H : Hp} {p : Addr} {o : HO} (s : SA B Γ σ Hf H) (hp : H p = none) : FEx B.w Hf H (upd Hf p o) (upd H p o) ∧ SA B Γ σ (upd Hf p o) (upd H p o) := by
  have e : FEx none Hf H (upd Hf p o) (upd H p o) := FEx.new s.sub hp
  exact ⟨e.wk, s.next0 e⟩
/-- a new object, not frozen -/
theorem SA.neo {Γ : List Slot} {σ : L2.St} {Hf H : Hp} {p : Addr} {o : HO} (s : SA B Γ σ Hf H) (hp : H p = none) : FEx B.w Hf H Hf (upd H p o) ∧ SA B Γ σ Hf (upd H p o) := by
  have e : FEx none Hf H Hf (upd H p o) := FEx.own s.sub hp
  exact ⟨e.wk, s.next0 e⟩
/-- a slot takes an object that is new since H -/
theorem SA.takeN {Γ : List Slot} {σ : L2.St} {Hf H Hf' H' : Hp} (s : SA B Γ σ Hf H) (s' : SA B Γ σ Hf' H') (i : Nat) {p : Addr} {o : HO} {φ : Addr → Hp → HO → Prop} (hp : H p = none) (h1 : H' p = some o) (hf : Hf' p = none) (m : Mono φ) (hφ : φ p Hf' o) : SA B (Γ.set i (.own φ)) (σ.set i (some (.ref p))) Hf' H' := by
  have hB : B.H p = none := by
    cases q : B.H p with
    | none => rfl
    | some u => exact absurd hp (s.fx.there p (by rw [q]; simp))
  have hw : B.w ≠ some p := fun z => by
    obtain ⟨_, v0, v1, a, b, gs, ss, h1, _⟩ := s.pl p z
    rw [hp] at h1; cases h1
  have nw : ∀ (c : Nat) (χ : Addr → Hp → HO → Prop), c ≠ i → Γ[c]? = some (.own χ) → σ[c]? = some (some (.ref p)) → False := fun c χ _ g1 g2 => by
    obtain ⟨_, p', o', e1, e2, _⟩ := s.own c χ g1
    rw [g2] at e1; cases e1
    rw [hp] at e2; cases e2
  refine ⟨s'.fx, s'.pl, by simp [s.len], fun j d h => ?_, fun j ψ h => ?_, fun a b φ1 ψ1 q n h1 h2 h3 h4 => ?_, fun j h => ?_⟩
  · rcases get_set h with ⟨rfl, h1, hl⟩ | ⟨n, h1⟩
    · cases h1
    · rw [List.getElem?_set_ne (Ne.symm n)]; exact s'.dat j d h1
  · rcases get_set h with ⟨rfl, h2, hl⟩ | ⟨n, h2⟩
    · cases h2
      exact ⟨m, p, o, by rw [List.getElem?_set_self (by rw [← s.len]; exact hl)], h1, hf, hB, hw, hφ⟩
    · rw [List.getElem?_set_ne (Ne.symm n)]; exact s'.own j ψ h2
  · rcases get_set h1 with ⟨rfl, q1, l1⟩ | ⟨n1, q1⟩
    · rcases get_set h2 with ⟨rfl, _, _⟩ | ⟨n2, q2⟩
      · exact n rfl
      · rw [List.getElem?_set_self (by rw [← s.len]; exact l1)] at h3
        rw [List.getElem?_set_ne (Ne.symm n2)] at h4
        cases h3
        exact nw b ψ1 n2 q2 h4
    · rw [List.getElem?_set_ne (Ne.symm n1)] at h3
      rcases get_set h2 with ⟨rfl, _, l2⟩ | ⟨n2, q2⟩
      · rw [List.getElem?_set_self (by rw [← s.len]; exact l2)] at h4
        cases h4
        exact nw a φ1 n1 q1 h3
      · rw [List.getElem?_set_ne (Ne.symm n2)] at h4
        exact s'.dis a b φ1 ψ1 q n q1 q2 h3 h4
  · rcases get_set h with ⟨rfl, h1, hl⟩ | ⟨n, h1⟩
    · cases h1
    · rw [List.getElem?_set_ne (Ne.symm n)]; exact s'.pool j h1
theorem PN.mono {S' : PyData → Prop} (h : PN X B Γ e S) (m : ∀ d, S d → S' d) : PN X B Γ e S' := fun σ Hf H s Q q => h σ Hf H s Q fun v d Hf' H' hd => q v d Hf' H' (m d hd)
theorem PD.eq {d' : PyData} (h : PD X B Γ e d) (m : d = d') : PD X B Γ e d' := m ▸ h
theorem PL.mono {S S' : List PyData → Prop} (h : PL X B Γ e S) (m : ∀ d, S d → S' d) : PL X B Γ e S' := fun σ Hf H s Q q => h σ Hf H s Q fun p vs d Hf' H' hd => q p vs d Hf' H' (m d hd)
theorem PL.pn {S : List PyData → Prop} (h : PL X B Γ e S) : PN X B Γ e (fun d => ∃ ds, S ds ∧ d = .list ds) := fun σ Hf H s Q q =>
  h σ Hf H s Q fun p vs ds Hf' H' hs hp e s' h1 hf hd => by
    obtain ⟨e2, s2⟩ := s.ice e s' hp h1 hf
    exact q _ _ _ _ ⟨ds, hs, rfl⟩ e2 s2 (.lst upd_same (dqAll_mono (Evl.Ex.new hf) _ _ hd))
theorem PLD.pd {ds : List PyData} (h : PLD X B Γ e ds) : PD X B Γ e (.list ds) := h.pn.mono fun d ⟨_, h1, h2⟩ => by rw [h2, h1]

/-! ### names, constants -/
theorem pn_var (i : Nat) {x : Str} {d : PyData} (hN : X.N[i]? = some x := by rfl) (hv : Vis X.env.scope x := by first | exact Or.inl rfl | exact Or.inr (Or.inl rfl) | exact Or.inr (Or.inr rfl)) (h : Γ[i]? = some (.dat d) := by rfl)
    (hd : (x == ("__debug__" : Str)) = false := by decide) (hcd : (x == ("__classdict__" : Str)) = false := by decide) : PD X B Γ (.Name x pos) d := fun σ Hf H s Q q => by
  obtain ⟨v, h1, h2⟩ := s.dat i d h
  exact E.of (pe_var hN hv hd hcd) ⟨v, h1, q v d Hf H rfl s.self s h2⟩
theorem pn_int {i : Int} {j} : PD X B Γ (.Constant (.int i) j pos) (.int i) := fun σ Hf H s Q q => E.of pe_int (q _ _ Hf H rfl s.self s (.int i))
theorem pn_bl {i : Bool} {j} : PD X B Γ (.Constant (.bool i) j pos) (.bool i) := fun σ Hf H s Q q => E.of pe_bl (q _ _ Hf H rfl s.self s (.bl i))
theorem pn_non {j} : PD X B Γ (.Constant .none j pos) .none := fun σ Hf H s Q q => E.of pe_non (q _ _ Hf H rfl s.self s .non)
theorem pn_glob {x : Str} {i : Int} (hm : ∃ t, X.mg x = some (.int i t)) (hg : Gl X x := by rfl) (hd : (x == ("__debug__" : Str)) = false := by decide) : PD X B Γ (.Name x pos) (.int i) := fun σ Hf H s Q q => by
  obtain ⟨t, hm⟩ := hm
  exact E.of (pe_glob hg hm (v := .int i) ⟨t, rfl⟩ hd) (q _ _ Hf H rfl s.self s (.int i))

/-! ### two expressions and an operator -/
/-- r, of two data: what it gives -/
def RO (r : R2) (da db : PyData) (S : PyData → Prop) : Prop := ∀ (x y : V) (Hf H : Hp), Same Hf H → Dq Hf x da → Dq Hf y db → ∀ Q : VK, (∀ v d Hf' H', S d → FEx none Hf H Hf' H' → Dq Hf' v d → Q v H') → r x y H Q
theorem pn2 {r : R2} (ha : PN X B Γ a Sa) (hb : PN X B Γ b Sb) (hr : ∀ da db, Sa da → Sb db → RO r da db S) (σ : L2.St) (Hf H : Hp) (s : SA B Γ σ Hf H) (Q : VK)
    (q : ∀ v d Hf' H', S d → FEx B.w Hf H Hf' H' → SA B Γ σ Hf' H' → Dq Hf' v d → Q v H') : tOp r (E X a) (E X b) σ H Q :=
  ha σ Hf H s _ fun x da Hf1 H1 sa e1 s1 d1 => hb σ Hf1 H1 s1 _ fun y db Hf2 H2 sb e2 s2 d2 =>
    hr da db sa sb x y Hf2 H2 s2.sub (dq_mono e2.ff _ _ d1) d2 Q fun v d Hf3 H3 sd e3 d3 => q v d Hf3 H3 sd ((e1.trans e2).trans e3.wk) (s2.next0 e3) d3
theorem pn_op {op : Operator} {r : R2} (ho : OpR X (binaryOp op) r) (ha : PN X B Γ a Sa) (hb : PN X B Γ b Sb) (hr : ∀ da db, Sa da → Sb db → RO r da db S) : PN X B Γ (.BinOp a op b pos) S :=
  fun σ Hf H s Q q => E.of (pe_op ho pe_E pe_E) (pn2 ha hb hr σ Hf H s Q q)
theorem pn_cmp {op : CmpOp} {r : R2} (ho : OpR X (compareOp op) r) (ha : PN X B Γ a Sa) (hb : PN X B Γ b Sb) (hr : ∀ da db, Sa da → Sb db → RO r da db S) (hm : behindInMarks op b = false := by first | exact nomark _ | rfl) : PN X B Γ (.Compare a [op] [b] pos) S :=
  fun σ Hf H s Q q => E.of (pe_cmpR ho pe_E pe_E hm) (pn2 ha hb hr σ Hf H s Q q)
theorem pt_cmp' {op : CmpOp} {r : R2} {S : Bool → Prop} (ho : OpR X (compareOp op) r) (ha : PN X B Γ a Sa) (hb : PN X B Γ b Sb) (hr : ∀ da db, Sa da → Sb db → RO r da db (fun d => ∃ k, S k ∧ d = .bool k)) (hm : behindInMarks op b = false := by first | exact nomark _ | rfl) : PT X B Γ (.Compare a [op] [b] pos) S :=
  fun σ Hf H s Q q => T.of (pt_cmpR ho pe_E pe_E hm) (pn2 ha hb hr σ Hf H s _ fun v d Hf' H' hd e s' dq => by
    obtain ⟨k, hk, rfl⟩ := hd
    cases dq
    exact ⟨k, rfl, q k Hf' H' hk e s'⟩)
theorem pn_ix {r : R2} (ho : IxR X r) (ha : PN X B Γ a Sa) (hb : PN X B Γ b Sb) (hr : ∀ da db, Sa da → Sb db → RO r da db S) (hs : PlainIx b := by exact fun _ _ => rfl) : PN X B Γ (.Subscript a b pos) S :=
  fun σ Hf H s Q q => E.of (pe_ix ho pe_E pe_E hs) (pn2 ha hb hr σ Hf H s Q q)
theorem ro_I0i {g : Int → Int → Int} {i j : Int} : RO (rI0 fun i j => .int (g i j)) (.int i) (.int j) (fun z => z = .int (g i j)) := fun x y Hf H e hx hy Q q => by
  cases hx; cases hy
  exact ⟨i, j, rfl, rfl, q _ _ Hf H rfl (FEx.refl e) (.int _)⟩
theorem ro_I0b {g : Int → Int → Bool} {i j : Int} : RO (rI0 fun i j => .bl (g i j)) (.int i) (.int j) (fun z => z = .bool (g i j)) := fun x y Hf H e hx hy Q q => by
  cases hx; cases hy
  exact ⟨i, j, rfl, rfl, q _ _ Hf H rfl (FEx.refl e) (.bl _)⟩
theorem ro_Ii {C : Int → Int → Prop} {g : Int → Int → Int} {i j : Int} (h : C i j) : RO (rI C fun i j => .int (g i j)) (.int i) (.int j) (fun z => z = .int (g i j)) := fun x y Hf H e hx hy Q q => by
  cases hx; cases hy
  exact ⟨i, j, rfl, rfl, h, q _ _ Hf H rfl (FEx.refl e) (.int _)⟩
theorem ro_cat {xs ys : List PyData} (h : xs.length + ys.length ≤ 100000) {K : PySem.W.Frag} : RO (rCatA K) (.tuple xs) (.tuple ys) (fun z => z = .tuple (xs ++ ys)) := fun x y Hf H e hx hy Q q => by
  cases hx with
  | tup h1 h2 =>
    rename_i a vs
    cases hy with
    | tup h3 h4 =>
      rename_i b ws
      have l1 := h2.length
      have l2 := h4.length
      refine ⟨a, b, vs, ws, rfl, rfl, SqT.of (e _ _ h1), SqT.of (e _ _ h3), Evl.sz_of (by omega), fun z => ?_, fun z1 z => ?_, fun z1 z2 p hp => ?_⟩
      · subst z
        cases h2
        exact q _ _ Hf H rfl (FEx.refl e) (.tup h3 h4)
      · subst z
        cases h4
        refine q _ _ Hf H ?_ (FEx.refl e) (.tup h1 h2)
        rw [List.append_nil]
      · refine q _ _ _ _ rfl (FEx.new e hp) (.tup upd_same ?_)
        exact (dqAll_mono (Evl.Ex.new (e.free hp)) _ _ h2).append (dqAll_mono (Evl.Ex.new (e.free hp)) _ _ h4)
theorem ro_ixT {ds : List PyData} {i : Int} {d : PyData} (h : atI ds i = some d) {K : PySem.W.Frag} : RO (rIxT K) (.tuple ds) (.int i) (fun z => z = d) := fun x y Hf H e hx hy Q q => by
  cases hy
  cases hx with
  | tup h1 h2 =>
    rename_i a vs
    have hl := h2.length
    unfold atI at h
    cases k : ixN ds.length i with
    | none => rw [k] at h; cases h
    | some j =>
      rw [k] at h
      obtain ⟨v, g1, g2⟩ := h2.get (show ds[j]? = some d from h)
      refine ⟨a, vs, i, v, rfl, rfl, SqT.of (e _ _ h1), ?_, q _ _ Hf H rfl (FEx.refl e) g2⟩
      unfold atI
      rw [hl, k]
      exact g1
theorem ro_ixL {ds : List PyData} {i : Int} {d : PyData} (h : atI ds i = some d) {K : PySem.W.Frag} : RO (rIxL K) (.list ds) (.int i) (fun z => z = d) := fun x y Hf H e hx hy Q q => by
  cases hy
  cases hx with
  | lst h1 h2 =>
    rename_i a vs
    have hl := h2.length
    unfold atI at h
    cases k : ixN ds.length i with
    | none => rw [k] at h; cases h
    | some j =>
      rw [k] at h
      obtain ⟨v, g1, g2⟩ := h2.get (show ds[j]? = some d from h)
      refine ⟨a, vs, i, v, rfl, rfl, SqL.of (e _ _ h1), ?_, q _ _ Hf H rfl (FEx.refl e) g2⟩
      unfold atI
      rw [hl, k]
      exact g1
/-- ints and bools alike -/
theorem ro_eqI {i j : Int} : RO rEq (.int i) (.int j) (fun z => z = .bool (decide (i = j))) := fun x y Hf H e hx hy Q q => by
  cases hx; cases hy
  refine ⟨rfl, q _ _ Hf H rfl (FEx.refl e) ?_⟩
  have z : decide (V.int i = V.int j) = decide (i = j) := by
    by_cases h : i = j
    · subst h; simp
    · rw [decide_eq_false h, decide_eq_false fun z => h (V.int.inj z)]
  rw [z]; exact .bl _
theorem ro_neI {i j : Int} : RO rNe (.int i) (.int j) (fun z => z = .bool (!decide (i = j))) := fun x y Hf H e hx hy Q q => by
  cases hx; cases hy
  refine ⟨rfl, q _ _ Hf H rfl (FEx.refl e) ?_⟩
  have z : decide (V.int i = V.int j) = decide (i = j) := by
    by_cases h : i = j
    · subst h; simp
    · rw [decide_eq_false h, decide_eq_false fun z => h (V.int.inj z)]
  rw [z]; exact .bl _
theorem ro_neB {i j : Bool} : RO rNe (.bool i) (.bool j) (fun z => z = .bool (!decide (i = j))) := fun x y Hf H e hx hy Q q => by
  cases hx; cases hy
  refine ⟨rfl, q _ _ Hf H rfl (FEx.refl e) ?_⟩
  have z : decide (V.bl i = V.bl j) = decide (i = j) := by
    by_cases h : i = j
    · subst h; simp
    · rw [decide_eq_false h, decide_eq_false fun z => h (V.bl.inj z)]
  rw [z]; exact .bl _
theorem inV_int {i : Int} : ∀ {ns : List Int}, inV (.int i) (ns.map V.int) = decide (i ∈ ns)
  | [] => rfl
  | n :: ns => by
    have ih := inV_int (i := i) (ns := ns)
    unfold inV at ih ⊢
    rw [List.map_cons, List.any_cons, ih]
    have z : eqV (.int n) (.int i) = decide (i = n) := by
      show (n == i) = decide (i = n)
      by_cases h : i = n
      · subst h; simp
      · rw [decide_eq_false h]; exact beq_eq_false_iff_ne.mpr fun z => h z.symm
    rw [z]
    by_cases h : i = n
    · subst h; simp
    · simp [h]
theorem flat_ints : ∀ ns : List Int, (ns.map V.int).all flatV = true
  | [] => rfl
  | _ :: ns => by rw [List.map_cons, List.all_cons, flat_ints ns]; rfl
theorem ro_inT {i : Int} {ns : List Int} {K : PySem.W.Frag} : RO (rIn K false) (.int i) (.tuple (ns.map .int)) (fun z => z = .bool (decide (i ∈ ns))) := fun x y Hf H e hx hy Q q => by
  cases hx
  cases hy with
  | tup h1 h2 =>
    have := h2.ints
    subst this
    refine ⟨_, _, rfl, .inr (SqT.of (e _ _ h1)), rfl, flat_ints ns, ?_⟩
    rw [if_neg Bool.false_ne_true, inV_int]
    exact q _ _ Hf H rfl (FEx.refl e) (.bl _)
theorem ro_inL {i : Int} {ns : List Int} {K : PySem.W.Frag} : RO (rIn K false) (.int i) (.list (ns.map .int)) (fun z => z = .bool (decide (i ∈ ns))) := fun x y Hf H e hx hy Q q => by
  cases hx
  cases hy with
  | lst h1 h2 =>
    have := h2.ints
    subst this
    refine ⟨_, _, rfl, .inl (SqL.of (e _ _ h1)), rfl, flat_ints ns, ?_⟩
    rw [if_neg Bool.false_ne_true, inV_int]
    exact q _ _ Hf H rfl (FEx.refl e) (.bl _)
theorem ro_niT {i : Int} {ns : List Int} {K : PySem.W.Frag} : RO (rIn K true) (.int i) (.tuple (ns.map .int)) (fun z => z = .bool (!decide (i ∈ ns))) := fun x y Hf H e hx hy Q q => by
  cases hx
  cases hy with
  | tup h1 h2 =>
    have := h2.ints
    subst this
    refine ⟨_, _, rfl, .inr (SqT.of (e _ _ h1)), rfl, flat_ints ns, ?_⟩
    rw [if_pos rfl, inV_int]
    exact q _ _ Hf H rfl (FEx.refl e) (.bl _)
theorem ro_eqD {K : PySem.W.Frag} (s1 : SeqAt.shaped da = true) (s2 : SeqAt.shaped db = true) : RO (rEqD K) da db (fun z => z = .bool (PyData.eqv da db)) := fun x y Hf H e hx hy Q q =>
  ⟨da, db, dq_dp _ _ (dq_mono e _ _ hx), dq_dp _ _ (dq_mono e _ _ hy), s1, s2, q _ _ Hf H rfl (FEx.refl e) (.bl _)⟩
theorem ro_neD {K : PySem.W.Frag} (s1 : SeqAt.shaped da = true) (s2 : SeqAt.shaped db = true) : RO (rNeD K) da db (fun z => z = .bool (!PyData.eqv da db)) := fun x y Hf H e hx hy Q q =>
  ⟨da, db, dq_dp _ _ (dq_mono e _ _ hx), dq_dp _ _ (dq_mono e _ _ hy), s1, s2, q _ _ Hf H rfl (FEx.refl e) (.bl _)⟩
theorem ro_inD {K : PySem.W.Frag} {ds : List PyData} (s1 : SeqAt.shaped da = true) (s2 : SeqAt.shaped (.list ds) = true) : RO (rInD K) da (.list ds) (fun z => z = .bool (ds.any fun z => PyData.eqv z da)) := fun x y Hf H e hx hy Q q =>
  ⟨da, ds, dq_dp _ _ (dq_mono e _ _ hx), dq_dp _ _ (dq_mono e _ _ hy), s1, s2, q _ _ Hf H rfl (FEx.refl e) (.bl _)⟩
theorem ro_niD {K : PySem.W.Frag} {ds : List PyData} (s1 : SeqAt.shaped da = true) (s2 : SeqAt.shaped (.list ds) = true) : RO (rNotInD K) da (.list ds) (fun z => z = .bool (!ds.any fun z => PyData.eqv z da)) := fun x y Hf H e hx hy Q q =>
  ⟨da, ds, dq_dp _ _ (dq_mono e _ _ hx), dq_dp _ _ (dq_mono e _ _ hy), s1, s2, q _ _ Hf H rfl (FEx.refl e) (.bl _)⟩
/-- det forms -/
theorem det {da db : PyData} {r : R2} (h : RO r da db S) : ∀ d e, d = da → e = db → RO r d e S := fun _ _ h1 h2 => by subst h1; subst h2; exact h
theorem RO.bool {r : R2} {k : Bool} (h : RO r da db (fun z => z = .bool k)) : RO r da db (fun d => ∃ k', k' = k ∧ d = .bool k') := fun x y Hf H e hx hy Q q => h x y Hf H e hx hy Q fun v d Hf' H' hd => q v d Hf' H' ⟨k, rfl, hd⟩
variable {i j : Int}
theorem pd_add (ha : PD X B Γ a (.int i)) (hb : PD X B Γ b (.int j)) : PD X B Γ (.BinOp a .Add b pos) (.int (i + j)) := pn_op op_add ha hb (det ro_I0i)
theorem pd_sub (ha : PD X B Γ a (.int i)) (hb : PD X B Γ b (.int j)) : PD X B Γ (.BinOp a .Sub b pos) (.int (i - j)) := pn_op op_sub ha hb (det ro_I0i)
theorem pd_mul (ha : PD X B Γ a (.int i)) (hb : PD X B Γ b (.int j)) (h : CMul i j) : PD X B Γ (.BinOp a .Mult b pos) (.int (i * j)) := pn_op op_mul ha hb (det (ro_Ii h))
theorem pd_fdiv (ha : PD X B Γ a (.int i)) (hb : PD X B Γ b (.int j)) (h : CDiv i j) : PD X B Γ (.BinOp a .FloorDiv b pos) (.int (i / j)) := pn_op op_fdiv ha hb (det (ro_Ii h))
theorem pd_mod (ha : PD X B Γ a (.int i)) (hb : PD X B Γ b (.int j)) (h : 0 < j) : PD X B Γ (.BinOp a .Mod b pos) (.int (i % j)) := pn_op op_mod ha hb (det (ro_Ii (C := fun _ j => 0 < j) h))
theorem pd_pow (ha : PD X B Γ a (.int i)) (hb : PD X B Γ b (.int j)) (h : CPow i j) : PD X B Γ (.BinOp a .Pow b pos) (.int (i ^ j.toNat)) := pn_op op_pow ha hb (det (ro_Ii h))
theorem pd_cat {xs ys : List PyData} (ha : PD X B Γ a (.tuple xs)) (hb : PD X B Γ b (.tuple ys)) (h : xs.length + ys.length ≤ 100000) : PD X B Γ (.BinOp a .Add b pos) (.tuple (xs ++ ys)) := pn_op op_catA ha hb (det (ro_cat h))
theorem pd_neg (ha : PD X B Γ a (.int i)) : PD X B Γ (.UnaryOp .USub a pos) (.int (-i)) := fun σ Hf H s Q q => E.of (pe_un un_neg pe_E) (ha σ Hf H s _ fun v d Hf' H' hd e s' dq => by
  subst hd; cases dq
  exact ⟨i, rfl, q _ _ Hf' H' rfl e s' (.int _)⟩)
theorem pd_ixT {ds : List PyData} (ha : PD X B Γ a (.tuple ds)) (hb : PD X B Γ b (.int i)) (h : atI ds i = some d) (hs : PlainIx b := by exact fun _ _ => rfl) : PD X B Γ (.Subscript a b pos) d := pn_ix ix_tup ha hb (det (ro_ixT h)) hs
theorem pd_ixL {ds : List PyData} (ha : PD X B Γ a (.list ds)) (hb : PD X B Γ b (.int i)) (h : atI ds i = some d) (hs : PlainIx b := by exact fun _ _ => rfl) : PD X B Γ (.Subscript a b pos) d := pn_ix ix_list ha hb (det (ro_ixL h)) hs
theorem pd_lt (ha : PD X B Γ a (.int i)) (hb : PD X B Γ b (.int j)) : PD X B Γ (.Compare a [.Lt] [b] pos) (.bool (decide (i < j))) := pn_cmp op_lt ha hb (det ro_I0b)
theorem pd_le (ha : PD X B Γ a (.int i)) (hb : PD X B Γ b (.int j)) : PD X B Γ (.Compare a [.LtE] [b] pos) (.bool (decide (i ≤ j))) := pn_cmp op_le ha hb (det ro_I0b)
theorem pd_eqI (ha : PD X B Γ a (.int i)) (hb : PD X B Γ b (.int j)) : PD X B Γ (.Compare a [.Eq] [b] pos) (.bool (decide (i = j))) := pn_cmp op_eq ha hb (det ro_eqI)
theorem pd_neI (ha : PD X B Γ a (.int i)) (hb : PD X B Γ b (.int j)) : PD X B Γ (.Compare a [.NotEq] [b] pos) (.bool (!decide (i = j))) := pn_cmp op_ne ha hb (det ro_neI)
theorem pd_inT {ns : List Int} (ha : PD X B Γ a (.int i)) (hb : PD X B Γ b (.tuple (ns.map .int))) (hm : behindInMarks .In b = false := by rfl) : PD X B Γ (.Compare a [.In] [b] pos) (.bool (decide (i ∈ ns))) := pn_cmp op_in_seq ha hb (det ro_inT) hm
theorem pd_niT {ns : List Int} (ha : PD X B Γ a (.int i)) (hb : PD X B Γ b (.tuple (ns.map .int))) (hm : behindInMarks .NotIn b = false := by rfl) : PD X B Γ (.Compare a [.NotIn] [b] pos) (.bool (!decide (i ∈ ns))) := pn_cmp op_notIn_seq ha hb (det ro_niT) hm
theorem pt_lt' (ha : PD X B Γ a (.int i)) (hb : PD X B Γ b (.int j)) : PTD X B Γ (.Compare a [.Lt] [b] pos) (decide (i < j)) := pt_cmp' op_lt ha hb (det ro_I0b.bool)
theorem pt_le' (ha : PD X B Γ a (.int i)) (hb : PD X B Γ b (.int j)) : PTD X B Γ (.Compare a [.LtE] [b] pos) (decide (i ≤ j)) := pt_cmp' op_le ha hb (det ro_I0b.bool)
theorem pt_gt' (ha : PD X B Γ a (.int i)) (hb : PD X B Γ b (.int j)) : PTD X B Γ (.Compare a [.Gt] [b] pos) (decide (j < i)) := pt_cmp' op_gt ha hb (det (ro_I0b (g := fun i j => decide (j < i))).bool)
theorem pt_ge' (ha : PD X B Γ a (.int i)) (hb : PD X B Γ b (.int j)) : PTD X B Γ (.Compare a [.GtE] [b] pos) (decide (j ≤ i)) := pt_cmp' op_ge ha hb (det (ro_I0b (g := fun i j => decide (j ≤ i))).bool)
theorem pt_eqI (ha : PD X B Γ a (.int i)) (hb : PD X B Γ b (.int j)) : PTD X B Γ (.Compare a [.Eq] [b] pos) (decide (i = j)) := pt_cmp' op_eq ha hb (det ro_eqI.bool)
theorem pt_neI (ha : PD X B Γ a (.int i)) (hb : PD X B Γ b (.int j)) : PTD X B Γ (.Compare a [.NotEq] [b] pos) (!decide (i = j)) := pt_cmp' op_ne ha hb (det ro_neI.bool)
theorem pt_neB {i j : Bool} (ha : PD X B Γ a (.bool i)) (hb : PD X B Γ b (.bool j)) : PTD X B Γ (.Compare a [.NotEq] [b] pos) (!decide (i = j)) := pt_cmp' op_ne ha hb (det ro_neB.bool)
theorem pt_inT {ns : List Int} (ha : PD X B Γ a (.int i)) (hb : PD X B Γ b (.tuple (ns.map .int))) (hm : behindInMarks .In b = false := by rfl) : PTD X B Γ (.Compare a [.In] [b] pos) (decide (i ∈ ns)) := pt_cmp' op_in_seq ha hb (det ro_inT.bool) hm
theorem pt_inL {ns : List Int} (ha : PD X B Γ a (.int i)) (hb : PD X B Γ b (.list (ns.map .int))) (hm : behindInMarks .In b = false := by rfl) : PTD X B Γ (.Compare a [.In] [b] pos) (decide (i ∈ ns)) := pt_cmp' op_in_seq ha hb (det ro_inL.bool) hm
theorem pt_niT {ns : List Int} (ha : PD X B Γ a (.int i)) (hb : PD X B Γ b (.tuple (ns.map .int))) (hm : behindInMarks .NotIn b = false := by rfl) : PTD X B Γ (.Compare a [.NotIn] [b] pos) (!decide (i ∈ ns)) := pt_cmp' op_notIn_seq ha hb (det ro_niT.bool) hm
/-- data at any depth -/
theorem units65 {A : Around} {k : Nat} (hr : Room k A) : A.units + 65 < cLine := by have := hr.un; omega
theorem pt_eqD {k : Nat} (hr : Room k X.A) (ha : PD X B Γ a da) (hb : PD X B Γ b db) (s1 : SeqAt.shaped da = true) (s2 : SeqAt.shaped db = true) : PTD X B Γ (.Compare a [.Eq] [b] pos) (PyData.eqv da db) := pt_cmp' (op_eqD hr.units) ha hb (det (ro_eqD s1 s2).bool)
theorem pt_neD {k : Nat} (hr : Room k X.A) (ha : PD X B Γ a da) (hb : PD X B Γ b db) (s1 : SeqAt.shaped da = true) (s2 : SeqAt.shaped db = true) : PTD X B Γ (.Compare a [.NotEq] [b] pos) (!PyData.eqv da db) := pt_cmp' (op_neD hr.units) ha hb (det (ro_neD s1 s2).bool)
theorem pd_inD {k : Nat} {ds : List PyData} (hr : Room k X.A) (ha : PD X B Γ a da) (hb : PD X B Γ b (.list ds)) (s1 : SeqAt.shaped da = true) (s2 : SeqAt.shaped (.list ds) = true) (hm : behindInMarks .In b = false := by rfl) : PD X B Γ (.Compare a [.In] [b] pos) (.bool (ds.any fun z => PyData.eqv z da)) := pn_cmp (op_inD (units65 hr)) ha hb (det (ro_inD s1 s2)) hm
theorem pt_niD {k : Nat} {ds : List PyData} (hr : Room k X.A) (ha : PD X B Γ a da) (hb : PD X B Γ b (.list ds)) (s1 : SeqAt.shaped da = true) (s2 : SeqAt.shaped (.list ds) = true) (hm : behindInMarks .NotIn b = false := by rfl) : PTD X B Γ (.Compare a [.NotIn] [b] pos) (!ds.any fun z => PyData.eqv z da) := pt_cmp' (op_notInD (units65 hr)) ha hb (det (ro_niD s1 s2).bool) hm
/-- is None -/
def isN : PyData → Bool | .none => true | _ => false
theorem dq_isN {H : Hp} {v : V} (h : Dq H v d) : decide (v = .non) = isN d := by
  cases h <;> simp [isN]
theorem pd_isN {j pos'} (ha : PD X B Γ a d) : PD X B Γ (.Compare a [.Is] [.Constant .none j pos'] pos) (.bool (isN d)) := fun σ Hf H s Q q => E.of (pe_cmp (pc_isN pe_E)) (ha σ Hf H s _ fun v d' Hf' H' hd e s' dq => by
  subst hd
  rw [dq_isN dq]
  exact q _ _ Hf' H' rfl e s' (.bl _))
theorem pd_notN {j pos'} (ha : PD X B Γ a d) : PD X B Γ (.Compare a [.IsNot] [.Constant .none j pos'] pos) (.bool (!isN d)) := fun σ Hf H s Q q => E.of (pe_cmp (pc_notN pe_E)) (ha σ Hf H s _ fun v d' Hf' H' hd e s' dq => by
  subst hd
  rw [dq_isN dq]
  exact q _ _ Hf' H' rfl e s' (.bl _))
/-- a <= b <= c, of ints -/
theorem chainI {i j k : Int} (ha : PD X B Γ a (.int i)) (hb : PD X B Γ b (.int j)) (hc : PD X B Γ c (.int k)) (σ : L2.St) (Hf H : Hp) (s : SA B Γ σ Hf H) (Q : VK)
    (q : ∀ v d Hf' H', d = .bool (decide (i ≤ j) && decide (j ≤ k)) → FEx B.w Hf H Hf' H' → SA B Γ σ Hf' H' → Dq Hf' v d → Q v H') : tChain (rI0 fun i j => .bl (decide (i ≤ j))) (rI0 fun i j => .bl (decide (i ≤ j))) (E X a) (E X b) (E X c) σ H Q :=
  ha σ Hf H s _ fun x da Hf1 H1 sa e1 s1 d1 => hb σ Hf1 H1 s1 _ fun y db Hf2 H2 sb e2 s2 d2 => by
    subst sa; subst sb
    cases d1; cases d2
    refine ⟨i, j, rfl, rfl, _, rfl, ?_⟩
    by_cases h : i ≤ j
    · rw [if_pos (decide_eq_true h)]
      refine hc σ Hf2 H2 s2 _ fun z dc Hf3 H3 sc e3 s3 d3 => ?_
      subst sc; cases d3
      refine ⟨j, k, rfl, rfl, q _ _ Hf3 H3 ?_ ((e1.trans e2).trans e3) s3 (.bl _)⟩
      rw [decide_eq_true h, Bool.true_and]
    · rw [if_neg (by simp [h])]
      refine q _ _ Hf2 H2 ?_ (e1.trans e2) s2 (.bl _)
      rw [decide_eq_false h, Bool.false_and]
theorem pd_chain {i j k : Int} (ha : PD X B Γ a (.int i)) (hb : PD X B Γ b (.int j)) (hc : PD X B Γ c (.int k)) (hm : lastMarks [.LtE, .LtE] [b, c] = false := by with_unfolding_all rfl) : PD X B Γ (.Compare a [.LtE, .LtE] [b, c] pos) (.bool (decide (i ≤ j) && decide (j ≤ k))) :=
  fun σ Hf H s Q q => E.of (pe_chain op_le op_le pe_E pe_E pe_E hm) (chainI ha hb hc σ Hf H s Q q)
theorem pt_chain' {i j k : Int} (ha : PD X B Γ a (.int i)) (hb : PD X B Γ b (.int j)) (hc : PD X B Γ c (.int k)) (hm : lastMarks [.LtE, .LtE] [b, c] = false := by with_unfolding_all rfl) : PTD X B Γ (.Compare a [.LtE, .LtE] [b, c] pos) (decide (i ≤ j) && decide (j ≤ k)) :=
  fun σ Hf H s Q q => T.of (pt_chain op_le op_le pe_E pe_E pe_E hm) (chainI ha hb hc σ Hf H s _ fun v d Hf' H' hd e s' dq => by
    subst hd; cases dq
    exact ⟨_, rfl, q _ Hf' H' rfl e s'⟩)

/-! ### and, or, not, if -/
theorem pt_val' {S : Bool → Prop} (h : PN X B Γ e (fun d => ∃ b, S b ∧ d = .bool b)) (he : ∀ whole, isTrue e X.env whole = (do let v ← whole; standAt e.pos; holding [v] (truthy v)) := by intro _; rfl) : PT X B Γ e S :=
  fun σ Hf H s Q q => T.of (pt_val pe_E he) (h σ Hf H s _ fun v d Hf' H' hd e s' dq => by
    obtain ⟨k, hk, rfl⟩ := hd
    cases dq
    exact ⟨k, rfl, q k Hf' H' hk e s'⟩)
theorem pt_vd {k : Bool} (h : PD X B Γ e (.bool k)) (he : ∀ whole, isTrue e X.env whole = (do let v ← whole; standAt e.pos; holding [v] (truthy v)) := by intro _; rfl) : PTD X B Γ e k :=
  pt_val' (h.mono fun d hd => ⟨k, rfl, hd⟩) he
theorem pt_not' {S : Bool → Prop} (h : PT X B Γ a S) : PT X B Γ (.UnaryOp .Not a pos) (fun b => S (!b)) := fun σ Hf H s Q q => T.of (pt_not pt_T) (h σ Hf H s _ fun b Hf' H' hb e s' => q _ Hf' H' (by simpa using hb) e s')
theorem pt_notd {k : Bool} (h : PTD X B Γ a k) : PTD X B Γ (.UnaryOp .Not a pos) (!k) := fun σ Hf H s Q q => (pt_not' h) σ Hf H s Q fun b Hf' H' hb => q b Hf' H' (by simp only at hb; rw [← hb, Bool.not_not])
theorem pd_not {k : Bool} (h : PD X B Γ a (.bool k)) : PD X B Γ (.UnaryOp .Not a pos) (.bool (!k)) := fun σ Hf H s Q q => E.of (pe_not pe_E) (h σ Hf H s _ fun v d Hf' H' hd e s' dq => by
  subst hd; cases dq
  exact ⟨k, rfl, q _ _ Hf' H' rfl e s' (.bl _)⟩)
theorem pd_one {op} {d : PyData} (h : PD X B Γ a d) : PD X B Γ (.BoolOp op [a] pos) d := fun σ Hf H s Q q => E.of (pe_one pe_E) (h σ Hf H s Q q)
theorem pd_and {k l : Bool} {rest : List Expr} (ha : PD X B Γ a (.bool k)) (hb : k = true → PD X B Γ (.BoolOp .And (b :: rest) pos) (.bool l)) : PD X B Γ (.BoolOp .And (a :: b :: rest) pos) (.bool (k && l)) := fun σ Hf H s Q q =>
  E.of (pe_and pe_E pe_E) (ha σ Hf H s _ fun v d Hf1 H1 hd e1 s1 dq => by
    subst hd; cases dq
    refine ⟨k, rfl, ?_⟩
    cases k with
    | true => exact hb rfl σ Hf1 H1 s1 Q fun v d Hf2 H2 hd e2 s2 dq => q v d Hf2 H2 (by rw [hd, Bool.true_and]) (e1.trans e2) s2 dq
    | false => exact q _ _ Hf1 H1 rfl e1 s1 (.bl _))
theorem pd_or {k l : Bool} {rest : List Expr} (ha : PD X B Γ a (.bool k)) (hb : k = false → PD X B Γ (.BoolOp .Or (b :: rest) pos) (.bool l)) : PD X B Γ (.BoolOp .Or (a :: b :: rest) pos) (.bool (k || l)) := fun σ Hf H s Q q =>
  E.of (pe_or pe_E pe_E) (ha σ Hf H s _ fun v d Hf1 H1 hd e1 s1 dq => by
    subst hd; cases dq
    refine ⟨k, rfl, ?_⟩
    cases k with
    | false => exact hb rfl σ Hf1 H1 s1 Q fun v d Hf2 H2 hd e2 s2 dq => q v d Hf2 H2 (by rw [hd, Bool.false_or]) (e1.trans e2) s2 dq
    | true => exact q _ _ Hf1 H1 rfl e1 s1 (.bl _))
/-- tests: the chain of and, or, whatever the whole is -/
def PW (X : Cx) (B : Bs) (Γ : List Slot) (e : Expr) (S : Bool → Prop) : Prop :=
  ∀ (σ : L2.St) (Hf H : Hp), SA B Γ σ Hf H → ∀ Q : Bool → Hp → Prop, (∀ b Hf' H', S b → FEx B.w Hf H Hf' H' → SA B Γ σ Hf' H' → Q b H') → ∀ whole pins s, Inv X pins σ H s → wpAny (model X.prog X.w) X.A (isTrue e X.env whole) (TP X pins σ Q) X.xe s
def tW (X : Cx) (e : Expr) : TT := fun σ H Q => ∀ whole pins s, Inv X pins σ H s → wpAny (model X.prog X.w) X.A (isTrue e X.env whole) (TP X pins σ Q) X.xe s
theorem pw_W {e : Expr} : L2.PW X e (tW X e) := ⟨fun wh pins s _ _ _ I h => h wh pins s I⟩
theorem W.of {e : Expr} {t : TT} {σ : L2.St} {H : Hp} {Q : Bool → Hp → Prop} (h : L2.PW X e t) (q : t σ H Q) : tW X e σ H Q := fun wh pins s I => h.run wh pins s σ H Q I q
theorem PW.pt {S : Bool → Prop} (h : PW X B Γ e S) : PT X B Γ e S := fun σ Hf H s Q q pins st I => h σ Hf H s Q q _ pins st I
abbrev PWD (X : Cx) (B : Bs) (Γ : List Slot) (e : Expr) (b : Bool) : Prop := PW X B Γ e (fun z => z = b)
theorem pw_a1 {k : Bool} (h : PTD X B Γ a k) : PWD X B Γ (.BoolOp .And [a] pos) k := fun σ Hf H s Q q => W.of (pw_and1 pt_T) (h σ Hf H s Q q)
theorem pw_o1 {k : Bool} (h : PTD X B Γ a k) : PWD X B Γ (.BoolOp .Or [a] pos) k := fun σ Hf H s Q q => W.of (pw_or1 pt_T) (h σ Hf H s Q q)
theorem pw_a {k l : Bool} {rest : List Expr} (ha : PTD X B Γ a k) (hb : k = true → PWD X B Γ (.BoolOp .And (b :: rest) pos) l) : PWD X B Γ (.BoolOp .And (a :: b :: rest) pos) (k && l) := fun σ Hf H s Q q =>
  W.of (pw_and pt_T pw_W) (ha σ Hf H s _ fun z Hf1 H1 hz e1 s1 => by
    subst hz
    cases z with
    | true => exact hb rfl σ Hf1 H1 s1 Q fun b Hf2 H2 hd e2 s2 => q b Hf2 H2 (by rw [hd, Bool.true_and]) (e1.trans e2) s2
    | false => exact q _ Hf1 H1 rfl e1 s1)
theorem pw_o {k l : Bool} {rest : List Expr} (ha : PTD X B Γ a k) (hb : k = false → PWD X B Γ (.BoolOp .Or (b :: rest) pos) l) : PWD X B Γ (.BoolOp .Or (a :: b :: rest) pos) (k || l) := fun σ Hf H s Q q =>
  W.of (pw_or pt_T pw_W) (ha σ Hf H s _ fun z Hf1 H1 hz e1 s1 => by
    subst hz
    cases z with
    | false => exact hb rfl σ Hf1 H1 s1 Q fun b Hf2 H2 hd e2 s2 => q b Hf2 H2 (by rw [hd, Bool.false_or]) (e1.trans e2) s2
    | true => exact q _ Hf1 H1 rfl e1 s1)
theorem pn_if {k : Bool} (hc : PTD X B Γ c k) (ha : k = true → PN X B Γ a S) (hb : k = false → PN X B Γ b S) : PN X B Γ (.IfExp c a b pos) S := fun σ Hf H s Q q =>
  E.of (pe_ifExp pt_T pe_E pe_E) (hc σ Hf H s _ fun z Hf1 H1 hz e1 s1 => by
    subst hz
    cases z with
    | true => exact ha rfl σ Hf1 H1 s1 Q fun v d Hf2 H2 hd e2 s2 dq => q v d Hf2 H2 hd (e1.trans e2) s2 dq
    | false => exact hb rfl σ Hf1 H1 s1 Q fun v d Hf2 H2 hd e2 s2 dq => q v d Hf2 H2 hd (e1.trans e2) s2 dq)
/-! ### argument lists, displays -/
theorem pa_n : PAD X B Γ [] [] := fun σ Hf H s Q q => A.of pa_nil (q [] [] Hf H rfl s.self s .nil)
theorem pa_c {S : PyData → Prop} {Sr S' : List PyData → Prop} (he : PN X B Γ e S) (hr : PA X B Γ es Sr) (h : ∀ d ds, S d → Sr ds → S' (d :: ds)) (hs : starEach (e :: es) X.env = (false, eval e X.env) :: starEach es X.env := by rfl) : PA X B Γ (e :: es) S' := fun σ Hf H s Q q =>
  A.of (pa_cons pe_E pa_A hs) (he σ Hf H s _ fun v d Hf1 H1 hd e1 s1 dq => hr σ Hf1 H1 s1 _ fun vs ds Hf2 H2 hds e2 s2 dqs => q _ _ Hf2 H2 (h d ds hd hds) (e1.trans e2) s2 (.cons (dq_mono e2.ff _ _ dq) dqs))
theorem pa_d {ds : List PyData} (he : PD X B Γ e d) (hr : PAD X B Γ es ds) (hs : starEach (e :: es) X.env = (false, eval e X.env) :: starEach es X.env := by rfl) : PAD X B Γ (e :: es) (d :: ds) :=
  pa_c he hr (fun _ _ h1 h2 => by rw [h1, h2]) hs
theorem pd_tup {ds : List PyData} {k : Nat} (h : PAD X B Γ es ds) (hz : ds.length ≤ 100000) : PD X B Γ (.Tuple es k pos) (.tuple ds) := fun σ Hf H s Q q =>
  E.of (pe_tup pa_A) (h σ Hf H s _ fun vs ds' Hf1 H1 hd e1 s1 dq => by
    subst hd
    refine ⟨Evl.sz_of (by rw [dq.length]; exact hz), fun p hp => ?_⟩
    obtain ⟨e2, s2⟩ := s1.neu (o := .tup vs) hp
    exact q _ _ _ _ rfl (e1.trans e2) s2 (.tup upd_same (dqAll_mono e2.ff _ _ dq)))
theorem pl_lst {S : List PyData → Prop} (h : PA X B Γ es S) (hz : ∀ ds, S ds → ds.length ≤ 100000) : PL X B Γ (.List es pos) S := fun σ Hf H s Q q =>
  E.of (pe_lst pa_A) (h σ Hf H s _ fun vs ds Hf1 H1 hd e1 s1 dq => by
    refine ⟨Evl.sz_of (by rw [dq.length]; exact hz ds hd), fun p hp => ?_⟩
    obtain ⟨e2, s2⟩ := s1.neo (o := .lst vs) hp
    have h0 : H p = none := by
      cases g : H p with
      | none => rfl
      | some u => exact absurd hp (e1.there p (by rw [g]; simp))
    exact q p vs ds _ _ hd h0 (e1.trans e2) s2 upd_same (s1.sub.free hp) dq)
end
end OC
set_option Elab.async false
set_option linter.all false
set_option maxRecDepth 100000
set_option maxHeartbeats 4000000
/-! Own kit, part 3: calls, slices, what is walked, comprehensions. -/
namespace OC
open PySem PySem.Spec PyProof.Rows L2
section
variable {X : Cx} {B : Bs} {Γ : List Slot} {e a b c : Expr} {es : List Expr} {p pos : Pos} {d da db : PyData} {S Sa Sb : PyData → Prop}

/-! ### built-ins -/
def RC (r : List V → Hp → VK → Prop) (ds : List PyData) (S : PyData → Prop) : Prop := ∀ (vs : List V) (Hf H : Hp), Same Hf H → DqAll Hf vs ds → ∀ Q : VK, (∀ v d Hf' H', S d → FEx none Hf H Hf' H' → Dq Hf' v d → Q v H') → r vs H Q
theorem pn_CB {r : List V → Hp → VK → Prop} {id : String} {x : Str} {S' : List PyData → Prop} (hc : CallR X (.builtin id) r) (hm : X.mg x = none) (hv : bootBuiltins x = some (.builtin id)) (ha : PA X B Γ (e :: es) S') (hr : ∀ ds, S' ds → RC r ds S)
    (hg : Gl X x := by rfl) (hn : x ≠ "__name__" := by decide) (hdb : (x == ("__debug__" : Str)) = false := by decide)
    (he : starEach (e :: es) X.env = (false, eval e X.env) :: starEach es X.env := by rfl) (hpl : (backTo pos (starEach es X.env)).any (·.1) = false := by rfl) : PN X B Γ (.Call (.Name x p) (e :: es) [] pos) S := fun σ Hf H s Q q =>
  E.of (pe_callB hc hg hm hv pa_A hn hdb he hpl) (ha σ Hf H s _ fun vs ds Hf1 H1 hd e1 s1 dq => hr ds hd vs Hf1 H1 s1.sub dq Q fun v d Hf2 H2 h2 e2 dq2 => q v d Hf2 H2 h2 (e1.trans e2.wk) (s1.next0 e2) dq2)
theorem pn_CT {r : List V → Hp → VK → Prop} {id : String} {x : Str} {S' : List PyData → Prop} (hc : CallR X (.type id) r) (hm : X.mg x = none) (hv : bootBuiltins x = some (.type id)) (ha : PA X B Γ (e :: es) S') (hr : ∀ ds, S' ds → RC r ds S)
    (hg : Gl X x := by rfl) (hn : x ≠ "__name__" := by decide) (hdb : (x == ("__debug__" : Str)) = false := by decide)
    (he : starEach (e :: es) X.env = (false, eval e X.env) :: starEach es X.env := by rfl) (hpl : (backTo pos (starEach es X.env)).any (·.1) = false := by rfl) : PN X B Γ (.Call (.Name x p) (e :: es) [] pos) S := fun σ Hf H s Q q =>
  E.of (pe_callTy hc hg hm hv pa_A hn hdb he hpl) (ha σ Hf H s _ fun vs ds Hf1 H1 hd e1 s1 dq => hr ds hd vs Hf1 H1 s1.sub dq Q fun v d Hf2 H2 h2 e2 dq2 => q v d Hf2 H2 h2 (e1.trans e2.wk) (s1.next0 e2) dq2)
theorem dq_one {H : Hp} {vs : List V} (h : DqAll H vs [d]) : ∃ v, vs = [v] ∧ Dq H v d := by
  cases h with
  | cons h1 h2 => cases h2; exact ⟨_, rfl, h1⟩
theorem dq_list {H : Hp} {v : V} {ds : List PyData} (h : Dq H v (.list ds)) : ∃ a vs, v = .ref a ∧ H a = some (.lst vs) ∧ DqAll H vs ds := by
  cases h with
  | lst h1 h2 => exact ⟨_, _, rfl, h1, h2⟩
theorem dq_tup {H : Hp} {v : V} {ds : List PyData} (h : Dq H v (.tuple ds)) : ∃ a vs, v = .ref a ∧ H a = some (.tup vs) ∧ DqAll H vs ds := by
  cases h with
  | tup h1 h2 => exact ⟨_, _, rfl, h1, h2⟩
theorem dq_int {H : Hp} {v : V} {i : Int} (h : Dq H v (.int i)) : v = .int i := by cases h; rfl
theorem dq_bl {H : Hp} {v : V} {i : Bool} (h : Dq H v (.bool i)) : v = .bl i := by cases h; rfl
theorem one_of {S : PyData → Prop} (h : PN X B Γ e S) (hs : starEach [e] X.env = (false, eval e X.env) :: starEach [] X.env := by rfl) : PA X B Γ [e] (fun ds => ∃ d, S d ∧ ds = [d]) := pa_c h pa_n (fun d ds h1 h2 => ⟨d, h1, by rw [h2]⟩) hs
variable {ds : List PyData} {i : Int}
theorem pd_lenT (hm : X.mg "len" = none) (h : PD X B Γ e (.tuple ds)) (hg : Gl X "len" := by rfl) (he : starEach [e] X.env = (false, eval e X.env) :: starEach [] X.env := by rfl) : PD X B Γ (.Call (.Name "len" p) [e] [] pos) (.int ds.length) :=
  pn_CB (r := fun xs H Q => ∃ p ys, xs = [.ref p] ∧ (SqL X.K H p ys ∨ SqT X.K H p ys) ∧ Q (.int ys.length) H) call_len_seq hm PySem.boot_len (one_of h he) (fun _ ⟨_, h1, h2⟩ vs Hf H e hd Q q => by
    subst h2; subst h1
    obtain ⟨v, rfl, hv⟩ := dq_one hd
    obtain ⟨a, ws, rfl, h1, h2⟩ := dq_tup hv
    refine ⟨a, ws, rfl, .inr (SqT.of (e _ _ h1)), ?_⟩
    rw [h2.length]
    exact q _ _ Hf H rfl (FEx.refl e) (.int _)) hg (by decide) (by decide) he
theorem pd_lenL (hm : X.mg "len" = none) (h : PD X B Γ e (.list ds)) (hg : Gl X "len" := by rfl) (he : starEach [e] X.env = (false, eval e X.env) :: starEach [] X.env := by rfl) : PD X B Γ (.Call (.Name "len" p) [e] [] pos) (.int ds.length) :=
  pn_CB (r := fun xs H Q => ∃ p ys, xs = [.ref p] ∧ (SqL X.K H p ys ∨ SqT X.K H p ys) ∧ Q (.int ys.length) H) call_len_seq hm PySem.boot_len (one_of h he) (fun _ ⟨_, h1, h2⟩ vs Hf H e hd Q q => by
    subst h2; subst h1
    obtain ⟨v, rfl, hv⟩ := dq_one hd
    obtain ⟨a, ws, rfl, h1, h2⟩ := dq_list hv
    refine ⟨a, ws, rfl, .inl (SqL.of (e _ _ h1)), ?_⟩
    rw [h2.length]
    exact q _ _ Hf H rfl (FEx.refl e) (.int _)) hg (by decide) (by decide) he
/-- tuple(a list) -/
theorem pn_tupL {S : List PyData → Prop} (hm : X.mg "tuple" = none) (h : PN X B Γ e (fun d => ∃ ds, S ds ∧ d = .list ds)) (hg : Gl X "tuple" := by rfl) (he : starEach [e] X.env = (false, eval e X.env) :: starEach [] X.env := by rfl) : PN X B Γ (.Call (.Name "tuple" p) [e] [] pos) (fun d => ∃ ds, S ds ∧ d = .tuple ds) :=
  pn_CT (r := fun xs H Q => ∃ p ys, xs = [.ref p] ∧ ((SqL X.K H p ys ∧ ∀ l, H l = none → Q (.ref l) (upd H l (.tup ys))) ∨ (SqT X.K H p ys ∧ Q (.ref p) H))) call_tuple_of hm (by decide +kernel) (one_of h he) (fun _ ⟨_, ⟨ds, hs, h1⟩, h2⟩ vs Hf H e hd Q q => by
    subst h2; subst h1
    obtain ⟨v, rfl, hv⟩ := dq_one hd
    obtain ⟨a, ws, rfl, h1, h2⟩ := dq_list hv
    refine ⟨a, ws, rfl, .inl ⟨SqL.of (e _ _ h1), fun l hl => q _ _ _ _ ⟨ds, hs, rfl⟩ (FEx.new e hl) (.tup upd_same (dqAll_mono (Evl.Ex.new (e.free hl)) _ _ h2))⟩⟩) hg (by decide) (by decide) he
theorem pd_tupL (hm : X.mg "tuple" = none) (h : PLD X B Γ e ds) (hg : Gl X "tuple" := by rfl) (he : starEach [e] X.env = (false, eval e X.env) :: starEach [] X.env := by rfl) : PD X B Γ (.Call (.Name "tuple" p) [e] [] pos) (.tuple ds) :=
  (pn_tupL (S := fun z => z = ds) hm h.pn hg he).mono fun d ⟨_, h1, h2⟩ => by rw [h2, h1]
theorem pd_tupD (hm : X.mg "tuple" = none) (h : PD X B Γ e (.list ds)) (hg : Gl X "tuple" := by rfl) (he : starEach [e] X.env = (false, eval e X.env) :: starEach [] X.env := by rfl) : PD X B Γ (.Call (.Name "tuple" p) [e] [] pos) (.tuple ds) :=
  (pn_tupL (S := fun z => z = ds) hm (h.mono fun d hd => ⟨ds, rfl, hd⟩) hg he).mono fun d ⟨_, h1, h2⟩ => by rw [h2, h1]
/-- list(a tuple) -/
theorem pl_listT (hm : X.mg "list" = none) (h : PD X B Γ e (.tuple ds)) (hg : Gl X "list" := by rfl) (he : starEach [e] X.env = (false, eval e X.env) :: starEach [] X.env := by rfl) (hpl : (backTo pos (starEach [] X.env)).any (·.1) = false := by rfl) : PLD X B Γ (.Call (.Name "list" p) [e] [] pos) ds := fun σ Hf H s Q q =>
  E.of (pe_callTy call_list_of hg hm (by decide +kernel) pa_A (by decide) (by decide) he hpl) ((one_of h he) σ Hf H s _ fun vs dd Hf1 H1 hd e1 s1 dq => by
    obtain ⟨_, h1, h2⟩ := hd
    subst h2; subst h1
    obtain ⟨v, rfl, hv⟩ := dq_one dq
    obtain ⟨a, ws, rfl, h1, h2⟩ := dq_tup hv
    refine ⟨a, ws, rfl, .inr (SqT.of (s1.sub _ _ h1)), fun l hl => ?_⟩
    obtain ⟨e2, s2⟩ := s1.neo (o := .lst ws) hl
    have h0 : H l = none := by
      cases g : H l with
      | none => rfl
      | some u => exact absurd hl (e1.there l (by rw [g]; simp))
    exact q l ws ds _ _ rfl h0 (e1.trans e2) s2 upd_same (s1.sub.free hl) h2)
theorem map_inj_int {ns : List Int} {xs : List PyData} (h : xs = ns.map .int) : xs = ns.map .int := h
theorem pd_all {bs : List Bool} (hm : X.mg "all" = none) (hc : X.calm = true) (h : PD X B Γ e (.list (bs.map .bool))) (hg : Gl X "all" := by rfl) (he : starEach [e] X.env = (false, eval e X.env) :: starEach [] X.env := by rfl) : PD X B Γ (.Call (.Name "all" p) [e] [] pos) (.bool (bs.all id)) :=
  pn_CB (cr_all hc) hm (by decide +kernel) (one_of h he) (fun _ ⟨_, h1, h2⟩ vs Hf H e hd Q q => by
    subst h2; subst h1
    obtain ⟨v, rfl, hv⟩ := dq_one hd
    obtain ⟨a, ws, rfl, h1, h2⟩ := dq_list hv
    have := h2.bools
    subst this
    exact ⟨a, bs, rfl, SqL.of (e _ _ h1), q _ _ Hf H rfl (FEx.refl e) (.bl _)⟩) hg (by decide) (by decide) he
theorem pd_any {bs : List Bool} (hm : X.mg "any" = none) (hc : X.calm = true) (h : PD X B Γ e (.list (bs.map .bool))) (hg : Gl X "any" := by rfl) (he : starEach [e] X.env = (false, eval e X.env) :: starEach [] X.env := by rfl) : PD X B Γ (.Call (.Name "any" p) [e] [] pos) (.bool (bs.any id)) :=
  pn_CB (cr_any hc) hm (by decide +kernel) (one_of h he) (fun _ ⟨_, h1, h2⟩ vs Hf H e hd Q q => by
    subst h2; subst h1
    obtain ⟨v, rfl, hv⟩ := dq_one hd
    obtain ⟨a, ws, rfl, h1, h2⟩ := dq_list hv
    have := h2.bools
    subst this
    exact ⟨a, bs, rfl, SqL.of (e _ _ h1), q _ _ Hf H rfl (FEx.refl e) (.bl _)⟩) hg (by decide) (by decide) he
theorem pd_sum {ns : List Int} (hm : X.mg "sum" = none) (hc : X.calm = true) (h : PD X B Γ e (.list (ns.map .int))) (hg : Gl X "sum" := by rfl) (he : starEach [e] X.env = (false, eval e X.env) :: starEach [] X.env := by rfl) : PD X B Γ (.Call (.Name "sum" p) [e] [] pos) (.int ns.sum) :=
  pn_CB (cr_sum hc) hm (by decide +kernel) (one_of h he) (fun _ ⟨_, h1, h2⟩ vs Hf H e hd Q q => by
    subst h2; subst h1
    obtain ⟨v, rfl, hv⟩ := dq_one hd
    obtain ⟨a, ws, rfl, h1, h2⟩ := dq_list hv
    have := h2.ints
    subst this
    exact ⟨a, ns, rfl, SqL.of (e _ _ h1), q _ _ Hf H rfl (FEx.refl e) (.int _)⟩) hg (by decide) (by decide) he
theorem pn_int1 {S : Int → Prop} (hm : X.mg "int" = none) (h : PN X B Γ e (fun d => ∃ i, S i ∧ d = .int i)) (hg : Gl X "int" := by rfl) (he : starEach [e] X.env = (false, eval e X.env) :: starEach [] X.env := by rfl) : PN X B Γ (.Call (.Name "int" p) [e] [] pos) (fun d => ∃ i, S i ∧ d = .int i) :=
  pn_CT call_int1 hm (by decide +kernel) (one_of h he) (fun _ ⟨_, ⟨i, h0, h1⟩, h2⟩ vs Hf H e hd Q q => by
    subst h2; subst h1
    obtain ⟨v, rfl, hv⟩ := dq_one hd
    cases hv
    exact .inl ⟨i, rfl, q _ _ Hf H ⟨i, h0, rfl⟩ (FEx.refl e) (.int _)⟩) hg (by decide) (by decide) he
theorem pd_int1 (hm : X.mg "int" = none) (h : PD X B Γ e (.int i)) (hg : Gl X "int" := by rfl) (he : starEach [e] X.env = (false, eval e X.env) :: starEach [] X.env := by rfl) : PD X B Γ (.Call (.Name "int" p) [e] [] pos) (.int i) :=
  (pn_int1 (S := fun z => z = i) hm (h.mono fun d hd => ⟨i, rfl, hd⟩) hg he).mono fun d ⟨_, h1, h2⟩ => by rw [h2, h1]
theorem pd_abs (hm : X.mg "abs" = none) (h : PD X B Γ e (.int i)) (hg : Gl X "abs" := by rfl) (he : starEach [e] X.env = (false, eval e X.env) :: starEach [] X.env := by rfl) : PD X B Γ (.Call (.Name "abs" p) [e] [] pos) (.int (if i < 0 then -i else i)) :=
  pn_CB call_abs hm (by decide +kernel) (one_of h he) (fun _ ⟨_, h1, h2⟩ vs Hf H e hd Q q => by
    subst h2; subst h1
    obtain ⟨v, rfl, hv⟩ := dq_one hd
    cases hv
    exact ⟨i, rfl, q _ _ Hf H rfl (FEx.refl e) (.int _)⟩) hg (by decide) (by decide) he
/-- a datum's type -/
def tyN : PyData → String | .none => "NoneType" | .bool _ => "bool" | .int _ => "int" | .str _ => "str" | .list _ => "list" | .tuple _ => "tuple" | .dict _ => "dict"
theorem dq_ty {K : PySem.W.Frag} {H : Hp} {v : V} (h : Dq H v d) : TyX K H v (.type (tyN d)) := by
  cases h with
  | non => exact .base .non
  | bl b => exact .base (.bl b)
  | int i => exact .base (.int i)
  | lst h1 _ => exact .base (.lst h1)
  | tup h1 _ => exact .base (.tup h1)
theorem pd_isi {t : String} {x : Str} {r : Bool} {p2 : Pos} (hm : X.mg "isinstance" = none) (hmx : X.mg x = none) (hx : bootBuiltins x = some (.type t)) (h : PD X B Γ e d) (hk : kitB (tyN d) t = some r) (hg : Gl X "isinstance" := by rfl) (hgx : Gl X x := by rfl)
    (hn : x ≠ "__name__" := by decide) (hdx : (x == ("__debug__" : Str)) = false := by decide)
    (he : starEach [e, .Name x p2] X.env = (false, eval e X.env) :: starEach [.Name x p2] X.env := by rfl) (he2 : starEach [.Name x p2] X.env = (false, eval (.Name x p2) X.env) :: starEach [] X.env := by rfl) (hpl : (backTo pos (starEach [.Name x p2] X.env)).any (·.1) = false := by rfl) :
    PD X B Γ (.Call (.Name "isinstance" p) [e, .Name x p2] [] pos) (.bool r) := fun σ Hf H s Q q =>
  E.of (pe_callB call_isi hg hm (by decide +kernel) (pa_cons pe_E (pa_cons (pe_bltn (v := .ty t) hgx hmx hx rfl hn hdx) pa_nil he2) he) (by decide) (by decide) he hpl) (h σ Hf H s _ fun v d' Hf1 H1 hd e1 s1 dq => by
    subst hd
    exact ⟨v, .ty t, .type (tyN d'), .type t, r, rfl, .ty t, dq_ty (dq_mono s1.sub _ _ dq), kit_ty hk, q _ _ Hf1 H1 rfl e1 s1 (.bl r)⟩)

/-! ### a def of the text -/
structure Cal (P : Program) (w : World) (K : PySem.W.Frag) (mg : Str → Option Value) (base : Heap) (x : Str) (k : Nat) (sp : Sp) : Prop where
  ex : ∃ f fd ps, FnOk P w K mg base CX0 k f fd ps sp ∧ mg x = some (.ref f) ∧ PySem.W.keepIn K (.ref f) = true ∧ Binds K fd ps []
/-- a def that leaves all as it was and gives a datum that R lets -/
def spD (R : List PyData → PyData → Prop) : Sp := fun vs H Q _ => ∃ Hf ds, Same Hf H ∧ DqAll Hf vs ds ∧ (∃ d, R ds d) ∧ ∀ v d Hf' H', R ds d → FEx none Hf H Hf' H' → Dq Hf' v d → Q v H'
/-- a def that draws from the pool, its first argument -/
def spP (Dm : List PyData → Prop) (R : List PyData → PyData → Prop) : Sp := fun vs H Q _ => ∃ Hf p ws ds, vs = .ref p :: ws ∧ Same Hf H ∧ PoolOk Hf H p ∧ DqAll Hf ws ds ∧ Dm ds ∧ ∀ v d Hf' H', R ds d → FEx (some p) Hf H Hf' H' → PoolOk Hf' H' p → Dq Hf' v d → Q v H'
theorem pn_call {x : Str} {k j : Nat} {S' : List PyData → Prop} {R : List PyData → PyData → Prop} (C : Cal X.prog X.w X.K X.mg X.base x k (spD R)) (hr : Room j X.A) (ha : PA X B Γ (e :: es) S') (h1 : ∀ ds, S' ds → ∃ d, R ds d) (h2 : ∀ ds d, S' ds → R ds d → S d) (hk : k ≤ j := by decide)
    (hg : Gl X x := by rfl) (hdb : (x == ("__debug__" : Str)) = false := by decide) (he : starEach (e :: es) X.env = (false, eval e X.env) :: starEach es X.env := by rfl) (hpl : (backTo pos (starEach es X.env)).any (·.1) = false := by rfl) :
    PN X B Γ (.Call (.Name x p) (e :: es) [] pos) S := fun σ Hf H s Q q => by
  obtain ⟨f, fd, ps, F, hm, hkp, hb⟩ := C.ex
  refine E.of (pe_call F (hr.mono hk) hg hm hkp hb .nil pass0 pa_A hdb he hpl) (ha σ Hf H s _ fun vs ds Hf1 H1 hd e1 s1 dq => ?_)
  show spD R (vs ++ []) H1 Q E0
  rw [List.append_nil]
  exact ⟨Hf1, ds, s1.sub, dq, h1 ds hd, fun v d Hf2 H2 hR e2 dq2 => q v d Hf2 H2 (h2 ds d hd hR) (e1.trans e2.wk) (s1.next0 e2) dq2⟩
theorem pd_call {x : Str} {k j : Nat} {R : List PyData → PyData → Prop} (C : Cal X.prog X.w X.K X.mg X.base x k (spD R)) (hr : Room j X.A) (ha : PAD X B Γ (e :: es) ds) (h1 : R ds d) (h2 : ∀ d', R ds d' → d' = d) (hk : k ≤ j := by decide)
    (hg : Gl X x := by rfl) (hdb : (x == ("__debug__" : Str)) = false := by decide) (he : starEach (e :: es) X.env = (false, eval e X.env) :: starEach es X.env := by rfl) (hpl : (backTo pos (starEach es X.env)).any (·.1) = false := by rfl) :
    PD X B Γ (.Call (.Name x p) (e :: es) [] pos) d :=
  pn_call C hr ha (fun ds' h => ⟨d, by rw [h]; exact h1⟩) (fun ds' d' h hR => h2 d' (by rw [← h]; exact hR)) hk hg hdb he hpl
/-- .. of the pool in slot k -/
theorem pn_callP {x y : Str} {k j m : Nat} {py : Pos} {S' : List PyData → Prop} {Dm : List PyData → Prop} {R : List PyData → PyData → Prop} (C : Cal X.prog X.w X.K X.mg X.base x k (spP Dm R)) (hr : Room j X.A) (hp : Γ[m]? = some .pool) (ha : PA X B Γ es S') (h1 : ∀ ds, S' ds → Dm ds) (h2 : ∀ ds d, S' ds → R ds d → S d) (hk : k ≤ j := by decide)
    (hN : X.N[m]? = some y := by rfl) (hv : Vis X.env.scope y := by first | exact Or.inl rfl | exact Or.inr (Or.inl rfl) | exact Or.inr (Or.inr rfl)) (hyd : (y == ("__debug__" : Str)) = false := by decide) (hycd : (y == ("__classdict__" : Str)) = false := by decide)
    (hg : Gl X x := by rfl) (hdb : (x == ("__debug__" : Str)) = false := by decide) (he : starEach (.Name y py :: es) X.env = (false, eval (.Name y py) X.env) :: starEach es X.env := by rfl) (hpl : (backTo pos (starEach es X.env)).any (·.1) = false := by rfl) :
    PN X B Γ (.Call (.Name x p) (.Name y py :: es) [] pos) S := fun σ Hf H s Q q => by
  obtain ⟨f, fd, ps, F, hm, hkp, hb⟩ := C.ex
  obtain ⟨pa, hw, hσ⟩ := s.pool m hp
  refine E.of (pe_call F (hr.mono hk) hg hm hkp hb .nil pass0 (pa_cons (pe_var hN hv hyd hycd) pa_A he) hdb he hpl) ⟨.ref pa, hσ, ha σ Hf H s _ fun vs ds Hf1 H1 hd e1 s1 dq => ?_⟩
  show spP Dm R (.ref pa :: vs ++ []) H1 Q E0
  rw [List.append_nil]
  refine ⟨Hf1, pa, vs, ds, rfl, s1.sub, s1.pl pa hw, dq, h1 ds hd, fun v d Hf2 H2 hR e2 po dq2 => ?_⟩
  have e2' : FEx B.w Hf1 H1 Hf2 H2 := by rw [hw]; exact e2
  exact q v d Hf2 H2 (h2 ds d hd hR) (e1.trans e2') (s1.next e2' fun z hz => by rw [hw] at hz; cases hz; exact po) dq2

/-! ### slices -/
theorem cut_dq {H : Hp} {vs : List V} {ds : List PyData} (h : DqAll H vs ds) (lo hi : Option Int) : DqAll H (cutV vs lo hi) ((ds.drop (HT.sIx ds.length 0 lo)).take (HT.sIx ds.length ds.length hi - HT.sIx ds.length 0 lo)) := by
  unfold cutV
  rw [h.length]
  exact (h.drop _).take _
def cutD (ds : List PyData) (lo hi : Option Int) : List PyData := (ds.drop (HT.sIx ds.length 0 lo)).take (HT.sIx ds.length ds.length hi - HT.sIx ds.length 0 lo)
/-- a bound of a slice -/
inductive PB (X : Cx) (B : Bs) (Γ : List Slot) : Option Expr → Option Int → Prop where
  | no : PB X B Γ none none
  | yes {e : Expr} {i : Int} (h : PD X B Γ e (.int i)) : PB X B Γ (some e) (some i)
def tPB (X : Cx) : Option Expr → TO
  | none => tNoPart
  | some e => tPart (E X e)
theorem po_PB {o : Option Expr} : PO X o (tPB X o) := by
  cases o with
  | none => exact po_none
  | some e => exact po_some pe_E
theorem PB.run {o : Option Expr} {i : Option Int} (h : PB X B Γ o i) (σ : L2.St) (Hf H : Hp) (s : SA B Γ σ Hf H) (Q : Option Int → Hp → Prop) (q : ∀ Hf' H', FEx B.w Hf H Hf' H' → SA B Γ σ Hf' H' → Q i H') : tPB X o σ H Q := by
  cases h with
  | no => exact q Hf H s.self s
  | yes h =>
    exact h σ Hf H s _ fun v d Hf' H' hd e s' dq => by
      subst hd; cases dq
      exact ⟨_, rfl, q Hf' H' e s'⟩
theorem pd_slT {lo hi : Option Expr} {i j : Option Int} {p2 : Pos} (h : PD X B Γ e (.tuple ds)) (hl : PB X B Γ lo i) (hu : PB X B Γ hi j) : PD X B Γ (.Subscript e (.Slice lo hi none p2) pos) (.tuple (cutD ds i j)) := fun σ Hf H s Q q =>
  E.of (pe_slice sl_tupA pe_E po_PB po_PB) (h σ Hf H s _ fun v d Hf1 H1 hd e1 s1 dq => hl.run σ Hf1 H1 s1 _ fun Hf2 H2 e2 s2 => hu.run σ Hf2 H2 s2 _ fun Hf3 H3 e3 s3 => by
    subst hd
    obtain ⟨a, vs, rfl, h1, h2⟩ := dq_tup (dq_mono (e2.ff.trans e3.ff) _ _ dq)
    refine ⟨a, vs, rfl, SqT.of (s3.sub _ _ h1), fun hw => ?_, fun _ p hp => ?_⟩
    · refine q _ _ Hf3 H3 ?_ ((e1.trans e2).trans e3) s3 (.tup h1 h2)
      rw [h2.length] at hw
      unfold cutD
      rw [hw.1, hw.2, List.drop_zero, Nat.sub_zero, List.take_length]
    · obtain ⟨e4, s4⟩ := s3.neu (o := .tup (cutV vs i j)) hp
      exact q _ _ _ _ rfl (((e1.trans e2).trans e3).trans e4) s4 (.tup upd_same (dqAll_mono e4.ff _ _ (cut_dq h2 i j))))
theorem pl_slL {lo hi : Option Expr} {i j : Option Int} {p2 : Pos} (h : PD X B Γ e (.list ds)) (hl : PB X B Γ lo i) (hu : PB X B Γ hi j) : PLD X B Γ (.Subscript e (.Slice lo hi none p2) pos) (cutD ds i j) := fun σ Hf H s Q q =>
  E.of (pe_slice sl_list pe_E po_PB po_PB) (h σ Hf H s _ fun v d Hf1 H1 hd e1 s1 dq => hl.run σ Hf1 H1 s1 _ fun Hf2 H2 e2 s2 => hu.run σ Hf2 H2 s2 _ fun Hf3 H3 e3 s3 => by
    subst hd
    obtain ⟨a, vs, rfl, h1, h2⟩ := dq_list (dq_mono (e2.ff.trans e3.ff) _ _ dq)
    refine ⟨a, vs, rfl, SqL.of (s3.sub _ _ h1), fun p hp => ?_⟩
    obtain ⟨e4, s4⟩ := s3.neo (o := .lst (cutV vs i j)) hp
    have e03 := (e1.trans e2).trans e3
    have h0 : H p = none := by
      cases g : H p with
      | none => rfl
      | some u => exact absurd hp (e03.there p (by rw [g]; simp))
    exact q p _ _ _ _ rfl h0 (e03.trans e4) s4 upd_same (s3.sub.free hp) (cut_dq h2 i j))
/-- list + list: a new one -/
theorem pl_cat {xs ys : List PyData} (ha : PD X B Γ a (.list xs)) (hb : PD X B Γ b (.list ys)) (hz : xs.length + ys.length ≤ 100000) : PLD X B Γ (.BinOp a .Add b pos) (xs ++ ys) := fun σ Hf H s Q q =>
  E.of (pe_op op_cat pe_E pe_E) (ha σ Hf H s _ fun v d Hf1 H1 hd e1 s1 dq => hb σ Hf1 H1 s1 _ fun v2 d2 Hf2 H2 hd2 e2 s2 dq2 => by
    subst hd; subst hd2
    obtain ⟨a1, vs, rfl, h1, h2⟩ := dq_list (dq_mono e2.ff _ _ dq)
    obtain ⟨a2, ws, rfl, h3, h4⟩ := dq_list dq2
    have l1 := h2.length
    have l2 := h4.length
    refine ⟨a1, a2, vs, ws, rfl, rfl, s2.sub _ _ h1, s2.sub _ _ h3, Evl.sz_of (by omega), fun p hp => ?_⟩
    obtain ⟨e4, s4⟩ := s2.neo (o := .lst (vs ++ ws)) hp
    have e03 := e1.trans e2
    have h0 : H p = none := by
      cases g : H p with
      | none => rfl
      | some u => exact absurd hp (e03.there p (by rw [g]; simp))
    exact q p _ _ _ _ rfl h0 (e03.trans e4) s4 upd_same (s2.sub.free hp) (h2.append h4))

/-! ### what is walked -/
/-- the item at turn i: a datum, perhaps newly made -/
def YD (Hf2 : Hp) (ds : List PyData) : Nat → Hp → V → Hp → Prop := fun i H' x H'' => ∀ Hfi, Same Hf2 Hfi → Same Hfi H' → ∃ Hfi' d, FEx none Hfi H' Hfi' H'' ∧ ds[i]? = some d ∧ Dq Hfi' x d
def Src (X : Cx) (B : Bs) (Γ : List Slot) (tg iter : Expr) (S : List PyData → Prop) : Prop :=
  ∃ wi, PI X tg iter wi ∧ ∀ (σ : L2.St) (Hf H : Hp), SA B Γ σ Hf H → ∀ R : It → Hp → Prop, (∀ J ds Hf2 H2, S ds → FEx B.w Hf H Hf2 H2 → SA B Γ σ Hf2 H2 → Walk J ds.length (fun H' => Same Hf2 H') (YD Hf2 ds) → R J H2) → wi σ H R
abbrev SrcD (X : Cx) (B : Bs) (Γ : List Slot) (tg iter : Expr) (ds : List PyData) : Prop := Src X B Γ tg iter (fun z => z = ds)
variable {tg : Expr}
theorem yd_at {Hf2 : Hp} {vs : List V} {ds : List PyData} (h : DqAll Hf2 vs ds) {i : Nat} {H' H'' : Hp} {x : V} (e : H'' = H') (g : vs[i]? = some x) : YD Hf2 ds i H' x H'' := fun Hfi e1 e2 => by
  subst e
  obtain ⟨d, g1, g2⟩ := h.get' g
  exact ⟨Hfi, d, FEx.refl e2, g1, dq_mono e1 _ _ g2⟩
theorem src_list {S : List PyData → Prop} (h : PN X B Γ e (fun d => ∃ ds, S ds ∧ d = .list ds)) : Src X B Γ tg e S :=
  ⟨_, pi_list pe_E, fun σ Hf H s R q => h σ Hf H s _ fun v d Hf1 H1 hd e1 s1 dq => by
    obtain ⟨ds, hs, rfl⟩ := hd
    obtain ⟨a, vs, rfl, h1, h2⟩ := dq_list dq
    refine ⟨a, rfl, ⟨vs, SqL.of (s1.sub _ _ h1)⟩, q _ ds Hf1 H1 hs e1 s1 ?_⟩
    rw [← h2.length]
    exact walk_list.mono (fun H' e => SqL.of (e _ _ h1)) fun i H' x H'' _ _ y => yd_at h2 y.1 y.2⟩
theorem src_L (h : PD X B Γ e (.list ds)) : SrcD X B Γ tg e ds := src_list (S := fun z => z = ds) (h.mono fun d hd => ⟨ds, rfl, hd⟩)
theorem src_T (h : PD X B Γ e (.tuple ds)) : SrcD X B Γ tg e ds :=
  ⟨_, pi_tup pe_E, fun σ Hf H s R q => h σ Hf H s _ fun v d Hf1 H1 hd e1 s1 dq => by
    subst hd
    obtain ⟨a, vs, rfl, h1, h2⟩ := dq_tup dq
    refine ⟨a, rfl, ⟨vs, SqT.of (s1.sub _ _ h1)⟩, q _ ds Hf1 H1 rfl e1 s1 ?_⟩
    rw [← h2.length]
    exact walk_tup.mono (fun H' e => SqT.of (e _ _ h1)) fun i H' x H'' _ _ y => yd_at h2 y.1 y.2⟩
/-- 0, 1, .. -/
def rngD (n : Nat) : List PyData := (List.range n).map fun k => .int (k : Nat)
theorem rngD_len (n : Nat) : (rngD n).length = n := by simp [rngD]
theorem rngD_get {n i : Nat} (h : i < n) : (rngD n)[i]? = some (.int (i : Nat)) := by simp [rngD, h]
theorem src_range {S : Int → Prop} (hm : X.mg "range" = none) (h : PN X B Γ e (fun d => ∃ i, S i ∧ d = .int i)) (hb : ∀ i, S i → i < 100000) (hb0 : ∀ i, S i → 0 ≤ i) (hg : Gl X "range" := by rfl) (he : starEach [e] X.env = (false, eval e X.env) :: starEach [] X.env := by rfl) (hs : starEach [e] X.env = [(false, eval e X.env)] := by rfl) :
    Src X B Γ tg (.Call (.Name "range" p) [e] [] pos) (fun ds => ∃ i : Int, S i ∧ ds = rngD i.toNat) :=
  ⟨_, pi_range1 hg hm pa_A hs, fun σ Hf H s R q => (one_of h he) σ Hf H s _ fun vs dd Hf1 H1 hd e1 s1 dq => by
    obtain ⟨_, ⟨i, hi, h1⟩, h2⟩ := hd
    subst h2; subst h1
    obtain ⟨v, rfl, hv⟩ := dq_one dq
    cases hv
    have b1 := hb i hi
    have b0 := hb0 i hi
    refine ⟨i, rfl, by omega, by omega, q _ _ Hf1 H1 ⟨i, hi, rfl⟩ e1 s1 ?_⟩
    rw [rngD_len]
    refine walk_range.mono (fun _ _ => trivial) fun k H' x H'' hk _ y Hfi e1 e2 => ?_
    obtain ⟨y1, y2⟩ := y
    subst y1; subst y2
    refine ⟨Hfi, _, FEx.refl e2, rngD_get hk, ?_⟩
    show Dq Hfi (V.int (0 + (k : Int))) _
    rw [Int.zero_add]
    exact .int _⟩
theorem src_rng {n : Nat} (hm : X.mg "range" = none) (h : PD X B Γ e (.int n)) (hb : n < 100000) (hg : Gl X "range" := by rfl) (he : starEach [e] X.env = (false, eval e X.env) :: starEach [] X.env := by rfl) (hs : starEach [e] X.env = [(false, eval e X.env)] := by rfl) : SrcD X B Γ tg (.Call (.Name "range" p) [e] [] pos) (rngD n) := by
  obtain ⟨wi, h1, h2⟩ := src_range (S := fun z => z = (n : Int)) (tg := tg) (p := p) (pos := pos) hm (h.mono fun d hd => ⟨n, rfl, hd⟩) (fun i hi => by omega) (fun i hi => by omega) hg he hs
  refine ⟨wi, h1, fun σ Hf H s R q => h2 σ Hf H s R fun J ds Hf2 H2 hd => q J ds Hf2 H2 ?_⟩
  obtain ⟨i, rfl, rfl⟩ := hd
  simp
/-- reversed(a tuple), reversed(a list) -/
theorem src_revT (hm : X.mg "reversed" = none) (h : PD X B Γ e (.tuple ds)) (hg : Gl X "reversed" := by rfl) (hs : starEach [e] X.env = (false, eval e X.env) :: starEach [] X.env := by rfl) : SrcD X B Γ tg (.Call (.Name "reversed" p) [e] [] pos) ds.reverse :=
  ⟨_, RT.pi_revA hg hm pe_E hs, fun σ Hf H s R q => h σ Hf H s _ fun v d Hf1 H1 hd e1 s1 dq => by
    subst hd
    obtain ⟨a, vs, rfl, h1, h2⟩ := dq_tup dq
    refine ⟨a, vs, rfl, .inr ⟨SqT.of (s1.sub _ _ h1), q _ _ Hf1 H1 rfl e1 s1 ?_⟩⟩
    rw [List.length_reverse, ← h2.length]
    refine ⟨fun i H' hi g => ⟨hi, vs, vs[vs.length - 1 - i]'(by omega), SqT.of (g _ _ h1), by simp [show vs.length - 1 - i < vs.length by omega]⟩, fun H' g => Nat.le_refl _, fun i H' x H'' hi g y => yd_at h2.reverse y.1 ?_⟩
    rw [List.getElem?_reverse hi]
    exact y.2 vs (SqT.of (g _ _ h1))⟩
end
end OC
set_option Elab.async false
set_option linter.all false
set_option maxRecDepth 100000
set_option maxHeartbeats 4000000
/-! Own kit: enumerate(a tuple), zip(a list, a tuple), as walked things. -/
namespace OC
open PySem PySem.Spec PyProof.Rows L2
set_option maxHeartbeats 2000000 in
theorem meets_enumT (l : Addr) (items : Array Value) :
    Meets (Builtin.«enumerate.__new__» ⟨[.type "enumerate", .ref l], []⟩) (fun _ R s => s.heap.IsTuple l items ∧
      R (.ok (.ret (.ref (s.heap.push { cls := .type "tuple_iterator", data := .fields #[.ref l, .int 0 0] }).objs.size)))
        { s with heap := (s.heap.push { cls := .type "tuple_iterator", data := .fields #[.ref l, .int 0 0] }).push { cls := .type "enumerate", data := .fields #[.none, .bool false, .ref s.heap.objs.size, rawInt 0, .none, .none] } }) :=
  .of_wp fun prog w A R s h => by
    obtain ⟨hp, g, d, tk, os⟩ := s; obtain ⟨hl, h⟩ := h
    have hsub := sub_enumerate
    have q1 : ∀ {A' : Around} {E : Value → Shared → Prop} {Q : Value → Shared → Prop}, Q (.ref hp.objs.size) ⟨hp.push { cls := .type "tuple_iterator", data := .fields #[.ref l, .int 0 0] }, g, d, tk, os⟩ → wpAny (model prog w) A' (pyIter (.ref l)) Q E ⟨hp, g, d, tk, os⟩ :=
      fun q => wpAny_pyIter_tuple hl q
    wp_walk using q1
    refine wpAny_stack_any fun st => wpAny_pure ?_
    split
    · rename_i c _ _ _ _ _
      cases (c == Value.type "enumerate")
      · wp_walk using q1
        exact ⟨_, rfl, h⟩
      · wp_walk using q1
        exact ⟨_, rfl, h⟩
    · wp_walk using q1
      exact ⟨_, rfl, h⟩
section
variable {prog : Program} {w : World} {A : Around} {E : Value → Shared → Prop} {s : Shared}
theorem call_enumT {l : Addr} {items : Array Value} {Q : Value → Shared → Prop} (hL : s.heap.IsTuple l items)
    (h : ∀ h', IsEnum h' (s.heap.objs.size + 1) s.heap.objs.size 0 .none → h'.IsTupleIter s.heap.objs.size l 0 → h'.objs.size = s.heap.objs.size + 2 →
      (∀ b o, s.heap.get? b = some o → h'.get? b = some o) → Q (.ref (s.heap.objs.size + 1)) { s with heap := h' }) :
    wpAny (model prog w) A (call (.type "enumerate") [.ref l]) Q E s := by
  refine callType_new F.called_enumerate (by decide) (F.typeCall_enumerate_1 _) (F.newCall_enumerate_1 _) (fun obj => F.args_object_init_2 obj _) F.entry_enumerate_new
    (meets_enumT l items) ⟨hL, ?_⟩
  have hz : (s.heap.push { cls := .type "tuple_iterator", data := .fields #[.ref l, .int 0 0] }).objs.size = s.heap.objs.size + 1 := Heap.size_push ..
  show _ ∧ _
  rw [hz]
  have he : IsEnum ((s.heap.push { cls := .type "tuple_iterator", data := .fields #[.ref l, .int 0 0] }).push
      { cls := .type "enumerate", data := .fields #[.none, .bool false, .ref s.heap.objs.size, rawInt 0, .none, .none] }) (s.heap.objs.size + 1) s.heap.objs.size 0 .none := by
    have := Heap.get?_push_size (s.heap.push { cls := .type "tuple_iterator", data := .fields #[.ref l, .int 0 0] })
      (o := { cls := .type "enumerate", data := .fields #[.none, .bool false, .ref s.heap.objs.size, rawInt 0, .none, .none] }) rfl
    rw [hz] at this; exact this
  refine ⟨⟨_, he, rfl⟩, h _ he ⟨_, Heap.get?_push_of_some _ (Heap.get?_push_size _ rfl), rfl, rfl⟩ (by rw [Heap.size_push, hz]) fun b o x => Heap.get?_push_of_some _ (Heap.get?_push_of_some _ x)⟩
end
/-- the tuple at a, each item in a new pair with its place -/
def IteT (K : PySem.W.Frag) (a : Addr) : It :=
  ⟨fun i H => ∃ (xs : List V) (x : V), SqT K H a xs ∧ xs[i]? = some x, fun i H v H' => ∃ T x, v = .ref T ∧ H T = none ∧ H' = upd H T (.tup [.int (i : Nat), x]) ∧ ∀ xs, SqT K H a xs → xs[i]? = some x, fun i H => ∃ xs : List V, SqT K H a xs ∧ xs.length = i⟩
theorem turn_enumT {P : Program} {w : World} {K : PySem.W.Frag} {elts : List Expr} {kk : Nat} {tpos : Pos} (a e it : Addr) (hae : e ≠ a) (hait : a ≠ it) :
    Turn P w K (.Tuple elts kk tpos) (IteT K a) [e, it] e (fun i h => (∃ old, IsEnum h e it ((0 : Int) + ((i : Nat) : Int)) old) ∧ h.IsTupleIter it a i ∧ e ≠ it) where
  mem := by simp
  obj := fun i h st b hb => by
    obtain ⟨⟨old, he⟩, ⟨o, ho, hc, hd⟩, _⟩ := st
    have e' : b = e ∨ b = it := by simpa using hb
    rcases e' with z | z
    · rw [z]; exact ⟨_, he, fun v q => nomatch q⟩
    · rw [z]; exact ⟨o, ho, fun v q => by rw [hd] at q; cases q⟩
  keep := fun i h h' st k => let ⟨⟨old, he⟩, hi, hne⟩ := st; ⟨⟨old, k e (by simp) _ he⟩, hi.at fun o q => k it (by simp) o q, hne⟩
  item := by
    intro X hP hw hK hc i pins s σ H E I hf st hg
    subst hP hw hK
    obtain ⟨⟨old, he⟩, hit, hne⟩ := st
    obtain ⟨xs, x, hq, hx⟩ := hg
    obtain ⟨its, rv, p, hz⟩ := I.tuple hq
    obtain ⟨u, hu, ru⟩ := rv.get hx
    have hel : e < s.heap.objs.size := Heap.lt_size he
    have hil : it < s.heap.objs.size := by obtain ⟨_, q, _⟩ := hit; exact Heap.lt_size q
    have hlt : i < its.toArray.size := by
      have := (List.getElem?_eq_some_iff.mp hu).1
      simpa using this
    have DT : Draws X.prog X.w X.A.in1 it [it, a] its.toArray.size (fun i v => its.toArray[i]? = some v) (fun i h => h.IsTupleIter it a i ∧ h.IsTuple a its.toArray) := Draws.tuple (A := X.A.in1) (I.ok.hd hc) it a hait its.toArray
    refine wpAny_pyNext_enum_itemC DT he ⟨hit, show s.heap.IsTuple a its.toArray from p⟩ hlt hne (by
      intro hm
      have hm' : e = it ∨ e = a := by simpa using hm
      rcases hm' with z | z
      · exact hne z
      · exact hae z) fun x' h' tk hx' ho hit' hT hsz hk => ?_
    have ex : x' = u := by
      have : its.toArray[i]? = some x' := hx'
      have h2 : its.toArray[i]? = some u := by simpa using hu
      rw [h2] at this
      exact (Option.some.inj this).symm
    subst ex
    refine ⟨_, rfl, wpAny_letOwnedTupleGo_enum (s := { s with heap := h', toks := tk + 1 }) ho fun h'' he' sb => ?_⟩
    have hT2 : h''.get? s.heap.objs.size = some { cls := .type "tuple", data := .seq #[.int ((0 : Int) + ((i : Nat) : Int)) tk, x'] } := (sb.2 _ (Nat.ne_of_gt hel)).trans hT
    have new : ObjOk X.prog X.w (upd H s.heap.objs.size (.tup [.int (i : Nat), x])) h'' s.heap.objs.size (.tup [.int (i : Nat), x]) :=
      ⟨by show 2 ≤ sizeLine; decide, [.int ((0 : Int) + ((i : Nat) : Int)) tk, x'], .cons ⟨tk, by rw [Int.zero_add]⟩ (.cons ru .nil), ⟨_, hT2, rfl, _, rfl⟩⟩
    have I1 : Inv X pins σ (upd H s.heap.objs.size (.tup [.int (i : Nat), x])) { s with heap := h'', toks := tk + 1 } :=
      I.turnedNew (ch := [e, it]) (fun b ob hb q => (sb.2 b (fun z => hb (by simp [z]))).trans (hk b ob (fun z => hb (by simp [z])) (fun z => hb (by simp [z])) q)) hf (Nat.le_refl _) new
    refine ⟨.ref s.heap.objs.size, _, I1, rfl, ⟨_, x, rfl, I.hok.fresh (Nat.le_refl _), rfl, fun ys hy => by rw [I.tuple_inj hy hq]; exact hx⟩, ⟨⟨x', ?_⟩, hit'.1.at fun o q => (sb.2 it (Ne.symm hne)).trans q, hne⟩, fun b hb => ?_⟩
    · have e1 : (0 : Int) + ((i + 1 : Nat) : Int) = (0 : Int) + ((i : Nat) : Int) + 1 := by omega
      rw [e1]; exact he'
    · have hb' : b < s.heap.objs.size := by
        have e' : b = e ∨ b = it := by simpa using hb
        rcases e' with z | z
        · rw [z]; exact hel
        · rw [z]; exact hil
      rw [upd_ne (Nat.ne_of_lt hb')]
      exact (hf b hb).1
  done := by
    intro X hP hw hK hc i pins s σ H E I hf st hg
    subst hP hw hK
    obtain ⟨⟨old, he⟩, hit, hne⟩ := st
    obtain ⟨xs, hq, hx⟩ := hg
    obtain ⟨its, rv, p, hz⟩ := I.tuple hq
    obtain ⟨f0, f1, f2, f3, f4, f5⟩ := hf it (by simp)
    have hl := rv.length
    have hi : its.toArray.size = i := by rw [List.size_toArray, ← hl]; exact hx
    have DT : Draws X.prog X.w X.A.in1 it [it, a] its.toArray.size (fun i v => its.toArray[i]? = some v) (fun i h => h.IsTupleIter it a i ∧ h.IsTuple a its.toArray) := Draws.tuple (A := X.A.in1) (I.ok.hd hc) it a hait its.toArray
    subst hi
    exact wpAny_pyNext_enum_endD DT he ⟨hit, show s.heap.IsTuple a its.toArray from p⟩ fun h' eb => ⟨rfl, I.turned (t' := s.toks) (fun b o hb q => eb b o hb q) f0 f1 f3 f4 f5⟩
  self := fun A i s Q E st h => let ⟨⟨_, he⟩, _⟩ := st; wpAny_pyIter_enum he h
theorem ne_cls {h : Heap} {a b : Addr} {o u : Obj} (h1 : h.get? a = some o) (h2 : h.get? b = some u) (d : o.cls ≠ u.cls) : a ≠ b := fun e => by
  subst e
  rw [h1] at h2
  cases h2
  exact d rfl
def iEnumT (K : PySem.W.Frag) (ta : TA) : TI := fun σ H R => ta σ H fun vs H1 => ∃ a xs, vs = [.ref a] ∧ SqT K H1 a xs ∧ R (IteT K a) H1
theorem pi_enumT {X : Cx} {e : Expr} {ta : TA} {p pos tpos : Pos} {elts : List Expr} {kk : Nat} (hg : Gl X "enumerate") (hm : X.mg "enumerate" = none) (ha : L2.PA X [e] ta) (hs : starEach [e] X.env = [(false, eval e X.env)] := by rfl) :
    PI X (.Tuple elts kk tpos) (.Call (.Name "enumerate" p) [e] [] pos) (iEnumT X.K ta) := by
  refine ⟨fun pins s σ H R I h => ?_⟩
  refine Call_ (ld_blt I hg hm boot_enumerate (PyProof.Rows.callWith_type1 (thn (ha.run pos pins s σ H _ I h) fun us s1 ⟨vs, H1, I1, r1, q1⟩ => ?_) hs rfl))
  obtain ⟨a, xs, ex, hq, q⟩ := q1
  subst ex
  cases r1 with
  | cons r rr =>
    cases rr
    cases r
    obtain ⟨its, rv, p', hz⟩ := I1.tuple hq
    have la : a < s1.heap.objs.size := p'.lt
    refine call_enumT (show s1.heap.IsTuple a its.toArray from p') fun h' he hit hsz hk => wpAny_pyIter_enum he ?_
    have I2 : Inv X pins σ H1 { s1 with heap := h' } := I1.kept (t' := s1.toks) hk
    refine ⟨s1.heap.objs.size + 1, [s1.heap.objs.size + 1, s1.heap.objs.size], _, _, H1, rfl, I2, turn_enumT a (s1.heap.objs.size + 1) s1.heap.objs.size (Nat.ne_of_gt (Nat.lt_succ_of_lt la)) (Nat.ne_of_lt la), ⟨⟨.none, by simpa using he⟩, hit, Nat.succ_ne_self _⟩, fun b hb => ?_, q⟩
    have e' : b = s1.heap.objs.size + 1 ∨ b = s1.heap.objs.size := by simpa using hb
    have hle : s1.heap.objs.size ≤ b := by
      rcases e' with z | z
      · rw [z]; exact Nat.le_add_right _ _
      · rw [z]; exact Nat.le_refl _
    exact I1.fpOk hle (I1.hok.fresh hle)
theorem walk_enumT {K : PySem.W.Frag} {a : Addr} {xs : List V} : Walk (IteT K a) xs.length (fun H => SqT K H a xs) (YPair (fun i => some (.int (i : Nat))) (fun i => xs[i]?)) := by
  refine ⟨fun i _ hi q => ⟨xs, xs[i], q, by simp [hi]⟩, fun _ q => ⟨xs, q, rfl⟩, fun i H v H' _ q y => ?_⟩
  obtain ⟨T, x, h1, h2, h3, h4⟩ := y
  exact ⟨T, .int (i : Nat), x, h1, h2, h3, rfl, h4 xs q⟩
/-- the list at a and the tuple at b, the items in new pairs -/
def ItzM (K : PySem.W.Frag) (a b : Addr) : It :=
  ⟨fun i H => ∃ (xs ys : List V) (x y : V), SqL K H a xs ∧ SqT K H b ys ∧ xs[i]? = some x ∧ ys[i]? = some y,
    fun i H v H' => ∃ T x y, v = .ref T ∧ H T = none ∧ H' = upd H T (.tup [x, y]) ∧ (∀ xs, SqL K H a xs → xs[i]? = some x) ∧ ∀ ys, SqT K H b ys → ys[i]? = some y,
    fun i H => ∃ xs ys : List V, SqL K H a xs ∧ SqT K H b ys ∧ xs.length = i ∧ ys.length = i⟩
theorem turn_zipM {P : Program} {w : World} {K : PySem.W.Frag} {elts : List Expr} {kk : Nat} {tpos : Pos} {a b z TI TO i1 i2 : Addr} (D : ZipSep2 z TI TO i1 i2 [i1, a] [i2, b]) (h1a : a ≠ i1) (h2b : b ≠ i2) :
    Turn P w K (.Tuple elts kk tpos) (ItzM K a b) [z, TI, TO, i1, i2] z (fun i h => IsZip h z TI TO .none ∧ IsTupOf2 h TI (.ref i1) (.ref i2) ∧ (∃ x y, IsTupOf2 h TO x y) ∧ h.IsListIter i1 a i ∧ h.IsTupleIter i2 b i) where
  mem := by simp
  obj := fun i h st c hc => by
    obtain ⟨hz, hTI, ⟨x, y, hTO⟩, ⟨o1, e1, _, d1⟩, ⟨o2, e2, _, d2⟩⟩ := st
    have e' : c = z ∨ c = TI ∨ c = TO ∨ c = i1 ∨ c = i2 := by simpa using hc
    rcases e' with q | q | q | q | q
    · rw [q]; exact ⟨_, hz, fun v q => nomatch q⟩
    · rw [q]; exact ⟨_, hTI, fun v q => nomatch q⟩
    · rw [q]; exact ⟨_, hTO, fun v q => nomatch q⟩
    · rw [q]; exact ⟨o1, e1, fun v q => by rw [d1] at q; cases q⟩
    · rw [q]; exact ⟨o2, e2, fun v q => by rw [d2] at q; cases q⟩
  keep := fun i h h' st k => by
    obtain ⟨hz, hTI, ⟨x, y, hTO⟩, h1, h2⟩ := st
    exact ⟨k z (by simp) _ hz, k TI (by simp) _ hTI, ⟨x, y, k TO (by simp) _ hTO⟩, h1.at fun o q => k i1 (by simp) o q, h2.at fun o q => k i2 (by simp) o q⟩
  item := by
    intro X hP hw hK hc i pins s σ H E I hf st hg
    subst hP hw hK
    obtain ⟨hz, hTI, ⟨x0, y0, hTO⟩, h1, h2⟩ := st
    obtain ⟨xs, ys, x, y, hqx, hqy, hx, hy⟩ := hg
    obtain ⟨its, rv, p, _⟩ := I.list hqx
    obtain ⟨its2, rv2, p2, _⟩ := I.tuple hqy
    obtain ⟨u, hu, ru⟩ := rv.get hx
    obtain ⟨u2, hu2, ru2⟩ := rv2.get hy
    have hzl : z < s.heap.objs.size := Heap.lt_size hz
    have l1 : i < its.toArray.size := by have := (List.getElem?_eq_some_iff.mp hu).1; simpa using this
    have l2 : i < its2.toArray.size := by have := (List.getElem?_eq_some_iff.mp hu2).1; simpa using this
    have W := WalksT.zipD2 (prog := X.prog) (w := X.w) (A := X.A) D (Draws.list (A := X.A.in1) (I.ok.hd hc) i1 a h1a its.toArray) (Draws.tuple (A := X.A.in1) (I.ok.hd hc) i2 b h2b its2.toArray)
    refine W.item i s _ _ (by omega) ⟨hz, hTI, ⟨x0, y0, hTO⟩, ⟨h1, p.isList⟩, h2, show s.heap.IsTuple b its2.toArray from p2⟩ fun T vals h' tk hv hT hTt mid hk => ?_
    obtain ⟨x1, x2, q1, q2, rfl⟩ := hv
    have ex1 : x1 = u := by
      have h3 : its.toArray[i]? = some u := by simpa using hu
      have q1' : its.toArray[i]? = some x1 := q1
      rw [h3] at q1'; exact (Option.some.inj q1').symm
    have ex2 : x2 = u2 := by
      have h3 : its2.toArray[i]? = some u2 := by simpa using hu2
      have q2' : its2.toArray[i]? = some x2 := q2
      rw [h3] at q2'; exact (Option.some.inj q2').symm
    subst ex1; subst ex2
    have hap := W.apart i T h' mid
    refine ⟨_, rfl, W.go elts kk tpos i T { s with heap := h', toks := tk } _ _ mid fun h'' st' hk' => ?_⟩
    obtain ⟨oT, hoT, hcT, nT, hdT⟩ := hTt
    have hT2 : h''.get? T = some oT := hk' T oT hap hoT
    have new : ObjOk X.prog X.w (upd H T (.tup [x, y])) h'' T (.tup [x, y]) :=
      ⟨by show 2 ≤ sizeLine; decide, [x1, x2], .cons ru (.cons ru2 .nil), ⟨oT, hT2, hcT, nT, hdT⟩⟩
    have hwr : ∀ c, c ∉ [z, TI, TO, i1, i2] → c ∉ [z, TO, i1, i2] := fun c hc' hm => hc' (by
      have e' : c = z ∨ c = TO ∨ c = i1 ∨ c = i2 := by simpa using hm
      rcases e' with q | q | q | q <;> simp [q])
    have I1 : Inv X pins σ (upd H T (.tup [x, y])) { s with heap := h'', toks := tk } :=
      I.turnedNew (t' := tk) (ch := [z, TI, TO, i1, i2]) (fun c o hb q => hk' c o (hwr c hb) (hk c o (hwr c hb) q)) hf hT new
    have hTn : H T = none := I.hok.fresh hT
    refine ⟨.ref T, _, I1, rfl, ⟨_, x, y, rfl, hTn, rfl, fun l hl => by rw [I.list_inj hl hqx]; exact hx, fun l hl => by rw [I.tuple_inj hl hqy]; exact hy⟩, ?_, fun c hcm => ?_⟩
    · obtain ⟨g1, g2, g3, g4, g5⟩ := st'
      exact ⟨g1, g2, g3, g4.1, g5.1⟩
    · have hlt : c < s.heap.objs.size := by
        have e' : c = z ∨ c = TI ∨ c = TO ∨ c = i1 ∨ c = i2 := by simpa using hcm
        rcases e' with q | q | q | q | q
        · rw [q]; exact hzl
        · rw [q]; exact Heap.lt_size hTI
        · rw [q]; exact Heap.lt_size hTO
        · rw [q]; obtain ⟨_, e1, _⟩ := h1; exact Heap.lt_size e1
        · rw [q]; obtain ⟨_, e2, _⟩ := h2; exact Heap.lt_size e2
      rw [upd_ne (Nat.ne_of_lt (Nat.lt_of_lt_of_le hlt hT))]
      exact (hf c hcm).1
  done := by
    intro X hP hw hK hc i pins s σ H E I hf st hg
    subst hP hw hK
    obtain ⟨hz, hTI, ⟨x0, y0, hTO⟩, h1, h2⟩ := st
    obtain ⟨xs, ys, hqx, hqy, e1, e2⟩ := hg
    obtain ⟨its, rv, p, _⟩ := I.list hqx
    obtain ⟨its2, rv2, p2, _⟩ := I.tuple hqy
    have l1 := rv.length
    have l2 := rv2.length
    have W := WalksT.zipD2 (prog := X.prog) (w := X.w) (A := X.A) D (Draws.list (A := X.A.in1) (I.ok.hd hc) i1 a h1a its.toArray) (Draws.tuple (A := X.A.in1) (I.ok.hd hc) i2 b h2b its2.toArray)
    have en : min its.toArray.size its2.toArray.size = i := by simp; omega
    rw [en] at W
    exact W.done s _ _ ⟨hz, hTI, ⟨x0, y0, hTO⟩, ⟨h1, p.isList⟩, h2, show s.heap.IsTuple b its2.toArray from p2⟩ fun h' tk hk => ⟨rfl, I.turnedL (t' := tk) (ch := [z, TI, TO, i1, i2]) (fun c o hb q => hk c o (fun hm => hb (by
      have e' : c = z ∨ c = TO ∨ c = i1 ∨ c = i2 := by simpa using hm
      rcases e' with q | q | q | q <;> simp [q])) q) hf⟩
  self := fun A i s Q E st h => wpAny_pyIter_zip st.1 h
def iZipM (K : PySem.W.Frag) (ta : TA) : TI := fun σ H R => ta σ H fun vs H1 => ∃ a b xs ys, vs = [.ref a, .ref b] ∧ SqL K H1 a xs ∧ SqT K H1 b ys ∧ R (ItzM K a b) H1
theorem pi_zipM {X : Cx} {e e2 : Expr} {ta : TA} {p pos tpos : Pos} {elts : List Expr} {kk : Nat} (hg : Gl X "zip") (hm : X.mg "zip" = none) (ha : L2.PA X [e, e2] ta)
    (hs : starEach [e, e2] X.env = (false, eval e X.env) :: starEach [e2] X.env := by rfl) (hpl : (backTo pos (starEach [e2] X.env)).any (·.1) = false := by rfl) :
    PI X (.Tuple elts kk tpos) (.Call (.Name "zip" p) [e, e2] [] pos) (iZipM X.K ta) := by
  refine ⟨fun pins s σ H R I h => ?_⟩
  refine Call_ (ld_blt I hg hm PyProof.Rows.boot_zip (PyProof.Rows.callWith_type1 (thn (ha.run pos pins s σ H _ I h) fun us s1 ⟨vs, H1, I1, r1, q1⟩ => ?_) hs hpl))
  obtain ⟨a, b, xs, ys, ex, hqx, hqy, q⟩ := q1
  subst ex
  cases r1 with
  | cons r rr =>
    cases rr with
    | cons r' rr =>
      cases rr
      cases r
      cases r'
      have fresh5 : ∀ c, c ∈ [s1.heap.objs.size + 4, s1.heap.objs.size + 2, s1.heap.objs.size + 3, s1.heap.objs.size, s1.heap.objs.size + 1] → FpOk X pins H1 c := fun c hcm => by
        have e' : c = s1.heap.objs.size + 4 ∨ c = s1.heap.objs.size + 2 ∨ c = s1.heap.objs.size + 3 ∨ c = s1.heap.objs.size ∨ c = s1.heap.objs.size + 1 := by simpa using hcm
        have hle : s1.heap.objs.size ≤ c := by
          rcases e' with z | z | z | z | z
          · rw [z]; exact Nat.le_add_right _ _
          · rw [z]; exact Nat.le_add_right _ _
          · rw [z]; exact Nat.le_add_right _ _
          · rw [z]; exact Nat.le_refl _
          · rw [z]; exact Nat.le_add_right _ _
        exact I1.fpOk hle (I1.hok.fresh hle)
      obtain ⟨its, rv, p1, _⟩ := I1.list hqx
      obtain ⟨its2, rv2, p2, _⟩ := I1.tuple hqy
      have la : a < s1.heap.objs.size := p1.lt
      have lb : b < s1.heap.objs.size := p2.lt
      refine zip_begins2 (begins_list a its.toArray) (begins_tuple b its2.toArray) p1.isList (show s1.heap.IsTuple b its2.toArray from p2) fun h' hz hTI hTO h1 h2 hsz hk => wpAny_pyIter_zip hz ?_
      have I2 : Inv X pins σ H1 { s1 with heap := h' } := I1.kept (t' := s1.toks) hk
      refine ⟨s1.heap.objs.size + 4, [s1.heap.objs.size + 4, s1.heap.objs.size + 2, s1.heap.objs.size + 3, s1.heap.objs.size, s1.heap.objs.size + 1], _, _, H1, rfl, I2,
        turn_zipM (zip_sep2 (fp1 := [a]) (fp2 := [b]) (fun c hc => by rw [List.mem_singleton.mp hc]; exact la) (fun c hc => by rw [List.mem_singleton.mp hc]; exact lb)) (Nat.ne_of_lt la) (Nat.ne_of_lt (Nat.lt_succ_of_lt lb)), ⟨hz, hTI, ⟨_, _, hTO⟩, ⟨_, h1, rfl, rfl⟩, ⟨_, h2, rfl, rfl⟩⟩, fresh5, q⟩
theorem walk_zipM {K : PySem.W.Frag} {a b : Addr} {xs ys : List V} {n : Nat} (h1 : xs.length = n) (h2 : ys.length = n) : Walk (ItzM K a b) n (fun H => SqL K H a xs ∧ SqT K H b ys) (YPair (fun i => xs[i]?) (fun i => ys[i]?)) := by
  refine ⟨fun i _ hi q => ?_, fun _ q => ⟨xs, ys, q.1, q.2, h1, h2⟩, fun i H v H' _ q y => ?_⟩
  · exact ⟨xs, ys, xs[i]'(by omega), ys[i]'(by omega), q.1, q.2, by simp, by simp⟩
  · obtain ⟨T, x, z, g1, g2, g3, g4, g5⟩ := y
    exact ⟨T, x, z, g1, g2, g3, g4 xs q.1, g5 ys q.2⟩
theorem walk_zipT {K : PySem.W.Frag} {a b : Addr} {xs ys : List V} {n : Nat} (h1 : xs.length = n) (h2 : ys.length = n) : Walk (RZ.ItzT K a b) n (fun H => SqT K H a xs ∧ SqT K H b ys) (YPair (fun i => xs[i]?) (fun i => ys[i]?)) := by
  refine ⟨fun i _ hi q => ?_, fun _ q => ⟨xs, ys, q.1, q.2, .inl (by omega)⟩, fun i H v H' _ q y => ?_⟩
  · exact ⟨xs, ys, xs[i]'(by omega), ys[i]'(by omega), q.1, q.2, by simp, by simp⟩
  · obtain ⟨T, x, z, g1, g2, g3, g4, g5⟩ := y
    exact ⟨T, x, z, g1, g2, g3, g4 xs q.1, g5 ys q.2⟩
end OC
set_option Elab.async false
set_option linter.all false
set_option maxRecDepth 100000
set_option maxHeartbeats 4000000
/-! Own kit, part 4: pairs that are walked, sum of a tuple, comprehensions. -/
namespace OC
open PySem PySem.Spec PyProof.Rows L2

theorem Vals.of_int {ns : List Int} {us : List Value} (h : Vals (ns.map V.int) us) {i : Nat} {v : Value} (hv : us[i]? = some v) : ∃ t, v = .int (ns.getD i 0) t := by
  have hl := h.length
  rw [List.length_map] at hl
  have hi := (List.getElem?_eq_some_iff.mp hv).1
  have hn : i < ns.length := by omega
  obtain ⟨u, h1, h2⟩ := h.get (i := i) (x := .int ns[i]) (by simp [hn])
  rw [hv] at h1; cases h1
  obtain ⟨t, rfl⟩ := h2
  exact ⟨t, by simp [List.getD, hn]⟩
theorem call_sumT {X : Cx} (hc : X.calm = true) : CallR X (.builtin "sum") (fun vs H Q => ∃ (a : Addr) (ns : List Int), vs = [V.ref a] ∧ SqT X.K H a (ns.map V.int) ∧ ∀ i, Q (.int i) H) := by
  intro pins s σ H vs us Q I r h
  obtain ⟨a, ns, rfl, hs, q⟩ := h
  obtain ⟨its, rv, ht, _⟩ := I.tuple hs
  rw [Vals.ref1 r]
  have hT : s.heap.IsTuple a its.toArray := ht
  have hlt : a < s.heap.objs.size := ht.lt
  refine call_sum_walkG (wpAny_pyIter_tuple hT ?_)
  refine ⟨_, _, _, _, _, _, fun i => ns.getD i 0, rfl, Walks.tuple (A := X.A.in1) (I.ok.hd hc) s.heap.objs.size a (Nat.ne_of_lt hlt) its.toArray, ⟨⟨_, Heap.get?_push_size _ rfl, rfl, rfl⟩, hT.at fun o e => Heap.get?_push_of_some _ e⟩, fun b hb => ?_, fun i v hv => ?_, fun h' tk t' hk => ?_⟩
  · have e' : b = s.heap.objs.size ∨ b = a := by simpa using hb
    rw [Heap.size_push]
    rcases e' with z | z
    · rw [z]; exact Nat.lt_succ_self _
    · rw [z]; exact Nat.lt_succ_of_lt hlt
  · exact Vals.of_int rv (i := i) (by simpa using hv)
  · refine ⟨.int _, H, I.kept fun b o e => hk b o (fun z => ?_) (Heap.get?_push_of_some _ e), ⟨_, rfl⟩, q _⟩
    have e' : b = s.heap.objs.size := by simpa using z
    exact Nat.lt_irrefl _ (e' ▸ Heap.lt_size e)
section
variable {X : Cx} {B : Bs} {Γ : List Slot} {e a b c : Expr} {es : List Expr} {p pos : Pos} {d da db : PyData} {S Sa Sb : PyData → Prop} {ds : List PyData} {tg : Expr}
theorem pn_sumT {ns : List Int} (hm : X.mg "sum" = none) (hc : X.calm = true) (h : PD X B Γ e (.tuple (ns.map .int))) (hg : Gl X "sum" := by rfl) (he : starEach [e] X.env = (false, eval e X.env) :: starEach [] X.env := by rfl) : PN X B Γ (.Call (.Name "sum" p) [e] [] pos) (fun d => ∃ i, d = .int i) :=
  pn_CB (call_sumT hc) hm (by decide +kernel) (one_of h he) (fun _ ⟨_, h1, h2⟩ vs Hf H e hd Q q => by
    subst h2; subst h1
    obtain ⟨v, rfl, hv⟩ := dq_one hd
    obtain ⟨a, ws, rfl, h1, h2⟩ := dq_tup hv
    have := h2.ints
    subst this
    exact ⟨a, ns, rfl, SqT.of (e _ _ h1), fun i => q _ _ Hf H ⟨i, rfl⟩ (FEx.refl e) (.int _)⟩) hg (by decide) (by decide) he
/-- tuple(reversed(a list)) -/
theorem pd_tupRev {p2 pos2 : Pos} (hc : X.calm = true) (hm : X.mg "tuple" = none) (hm2 : X.mg "reversed" = none) (h : PD X B Γ e (.list ds)) (hg : Gl X "tuple" := by rfl) (hg2 : Gl X "reversed" := by rfl)
    (hs : starEach [e] X.env = (false, eval e X.env) :: starEach [] X.env := by rfl) (hs2 : starEach [.Call (.Name "reversed" p2) [e] [] pos2] X.env = (false, eval (.Call (.Name "reversed" p2) [e] [] pos2) X.env) :: starEach [] X.env := by rfl) :
    PD X B Γ (.Call (.Name "tuple" p) [.Call (.Name "reversed" p2) [e] [] pos2] [] pos) (.tuple ds.reverse) := fun σ Hf H s Q q =>
  E.of (RT.pe_tupRev hc hg hm hg2 hm2 pe_E hs hs2) (h σ Hf H s _ fun v d Hf1 H1 hd e1 s1 dq => by
    subst hd
    obtain ⟨a, vs, rfl, h1, h2⟩ := dq_list dq
    refine ⟨a, vs, rfl, SqL.of (s1.sub _ _ h1), fun l hl => ?_⟩
    obtain ⟨e2, s2⟩ := s1.neu (o := .tup vs.reverse) hl
    exact q _ _ _ _ rfl (e1.trans e2) s2 (.tup upd_same (dqAll_mono e2.ff _ _ h2.reverse)))

/-! ### pairs -/
theorem yd_pair {Hf2 : Hp} {ds : List PyData} {i : Nat} {H' H'' : Hp} {v x y : V} {d1 d2 : PyData} {T : Addr} (ev : v = .ref T) (hT : H' T = none) (eH : H'' = upd H' T (.tup [x, y])) (hx : Dq Hf2 x d1) (hy : Dq Hf2 y d2) (g : ds[i]? = some (.tuple [d1, d2])) : YD Hf2 ds i H' v H'' := fun Hfi e1 e2 => by
  subst ev; subst eH
  have ex : Same Hfi (upd Hfi T (.tup [x, y])) := Evl.Ex.new (e2.free hT)
  exact ⟨_, _, FEx.new e2 hT, g, .tup upd_same (.cons (dq_mono (e1.trans ex) _ _ hx) (.cons (dq_mono (e1.trans ex) _ _ hy) .nil))⟩
/-- the items with their places -/
def enumD (ds : List PyData) : List PyData := ds.mapIdx fun i d => .tuple [.int (i : Nat), d]
theorem enumD_len : (enumD ds).length = ds.length := by simp [enumD]
theorem enumD_get {i : Nat} (h : ds[i]? = some d) : (enumD ds)[i]? = some (.tuple [.int (i : Nat), d]) := by simp [enumD, h]
theorem src_enumT {elts : List Expr} {kk : Nat} {tpos : Pos} (hm : X.mg "enumerate" = none) (h : PD X B Γ e (.tuple ds)) (hg : Gl X "enumerate" := by rfl) (he : starEach [e] X.env = (false, eval e X.env) :: starEach [] X.env := by rfl) (hs : starEach [e] X.env = [(false, eval e X.env)] := by rfl) :
    SrcD X B Γ (.Tuple elts kk tpos) (.Call (.Name "enumerate" p) [e] [] pos) (enumD ds) :=
  ⟨_, pi_enumT hg hm pa_A hs, fun σ Hf H s R q => (one_of h he) σ Hf H s _ fun vs dd Hf1 H1 hd e1 s1 dq => by
    obtain ⟨_, h1, h2⟩ := hd
    subst h2; subst h1
    obtain ⟨v, rfl, hv⟩ := dq_one dq
    obtain ⟨a, ws, rfl, h1, h2⟩ := dq_tup hv
    refine ⟨a, ws, rfl, SqT.of (s1.sub _ _ h1), q _ _ Hf1 H1 rfl e1 s1 ?_⟩
    rw [enumD_len, ← h2.length]
    refine walk_enumT.mono (fun H' e => SqT.of (e _ _ h1)) fun i H' x H'' _ _ y => ?_
    obtain ⟨T, x1, x2, g1, g2, g3, g4, g5⟩ := y
    cases g4
    obtain ⟨d2, k1, k2⟩ := h2.get' g5
    exact yd_pair g1 g2 g3 (.int _) k2 (enumD_get k1)⟩
theorem src_enumL {elts : List Expr} {kk : Nat} {tpos : Pos} (hm : X.mg "enumerate" = none) (h : PD X B Γ e (.list ds)) (hg : Gl X "enumerate" := by rfl) (he : starEach [e] X.env = (false, eval e X.env) :: starEach [] X.env := by rfl) (hs : starEach [e] X.env = [(false, eval e X.env)] := by rfl) :
    SrcD X B Γ (.Tuple elts kk tpos) (.Call (.Name "enumerate" p) [e] [] pos) (enumD ds) :=
  ⟨_, pi_enum hg hm pa_A hs, fun σ Hf H s R q => (one_of h he) σ Hf H s _ fun vs dd Hf1 H1 hd e1 s1 dq => by
    obtain ⟨_, h1, h2⟩ := hd
    subst h2; subst h1
    obtain ⟨v, rfl, hv⟩ := dq_one dq
    obtain ⟨a, ws, rfl, h1, h2⟩ := dq_list hv
    refine ⟨a, ws, rfl, SqL.of (s1.sub _ _ h1), q _ _ Hf1 H1 rfl e1 s1 ?_⟩
    rw [enumD_len, ← h2.length]
    refine walk_enum.mono (fun H' e => SqL.of (e _ _ h1)) fun i H' x H'' _ _ y => ?_
    obtain ⟨T, x1, x2, g1, g2, g3, g4, g5⟩ := y
    cases g4
    obtain ⟨d2, k1, k2⟩ := h2.get' g5
    exact yd_pair g1 g2 g3 (.int _) k2 (enumD_get k1)⟩
def zipD (xs ys : List PyData) : List PyData := List.zipWith (fun a b => .tuple [a, b]) xs ys
variable {xs ys : List PyData}
theorem zipD_len (h : xs.length = ys.length) : (zipD xs ys).length = xs.length := by simp [zipD, h]
theorem zipD_get {i : Nat} {d1 d2 : PyData} (h1 : xs[i]? = some d1) (h2 : ys[i]? = some d2) : (zipD xs ys)[i]? = some (.tuple [d1, d2]) := by simp [zipD, List.getElem?_zipWith, h1, h2]
theorem dq_two {H : Hp} {vs : List V} (h : DqAll H vs [da, db]) : ∃ v u, vs = [v, u] ∧ Dq H v da ∧ Dq H u db := by
  cases h with
  | cons h1 h2 =>
    obtain ⟨u, rfl, h3⟩ := dq_one h2
    exact ⟨_, _, rfl, h1, h3⟩
theorem src_zipT {elts : List Expr} {kk : Nat} {tpos : Pos} (hm : X.mg "zip" = none) (ha : PD X B Γ a (.tuple xs)) (hb : PD X B Γ b (.tuple ys)) (hl : xs.length = ys.length) (hg : Gl X "zip" := by rfl)
    (hs : starEach [a, b] X.env = (false, eval a X.env) :: starEach [b] X.env := by rfl) (hs2 : starEach [b] X.env = (false, eval b X.env) :: starEach [] X.env := by rfl) (hpl : (backTo pos (starEach [b] X.env)).any (·.1) = false := by rfl) :
    SrcD X B Γ (.Tuple elts kk tpos) (.Call (.Name "zip" p) [a, b] [] pos) (zipD xs ys) :=
  ⟨_, RZ.pi_zipA hg hm pa_A hs hpl, fun σ Hf H s R q => (pa_d ha (pa_d hb pa_n hs2) hs) σ Hf H s _ fun vs dd Hf1 H1 hd e1 s1 dq => by
    subst hd
    obtain ⟨v, u, rfl, hv, hu⟩ := dq_two dq
    obtain ⟨a1, ws, rfl, h1, h2⟩ := dq_tup hv
    obtain ⟨a2, us, rfl, h3, h4⟩ := dq_tup hu
    refine ⟨a1, a2, ws, us, rfl, .inr ⟨SqT.of (s1.sub _ _ h1), SqT.of (s1.sub _ _ h3), q _ _ Hf1 H1 rfl e1 s1 ?_⟩⟩
    rw [zipD_len hl]
    refine (walk_zipT (n := xs.length) h2.length (by rw [h4.length, hl])).mono (fun H' e => ⟨SqT.of (e _ _ h1), SqT.of (e _ _ h3)⟩) fun i H' x H'' _ _ y => ?_
    obtain ⟨T, x1, x2, g1, g2, g3, g4, g5⟩ := y
    obtain ⟨d1, j1, j2⟩ := h2.get' g4
    obtain ⟨d2, k1, k2⟩ := h4.get' g5
    exact yd_pair g1 g2 g3 j2 k2 (zipD_get j1 k1)⟩
theorem src_zipM {elts : List Expr} {kk : Nat} {tpos : Pos} (hm : X.mg "zip" = none) (ha : PD X B Γ a (.list xs)) (hb : PD X B Γ b (.tuple ys)) (hl : xs.length = ys.length) (hg : Gl X "zip" := by rfl)
    (hs : starEach [a, b] X.env = (false, eval a X.env) :: starEach [b] X.env := by rfl) (hs2 : starEach [b] X.env = (false, eval b X.env) :: starEach [] X.env := by rfl) (hpl : (backTo pos (starEach [b] X.env)).any (·.1) = false := by rfl) :
    SrcD X B Γ (.Tuple elts kk tpos) (.Call (.Name "zip" p) [a, b] [] pos) (zipD xs ys) :=
  ⟨_, pi_zipM hg hm pa_A hs hpl, fun σ Hf H s R q => (pa_d ha (pa_d hb pa_n hs2) hs) σ Hf H s _ fun vs dd Hf1 H1 hd e1 s1 dq => by
    subst hd
    obtain ⟨v, u, rfl, hv, hu⟩ := dq_two dq
    obtain ⟨a1, ws, rfl, h1, h2⟩ := dq_list hv
    obtain ⟨a2, us, rfl, h3, h4⟩ := dq_tup hu
    refine ⟨a1, a2, ws, us, rfl, SqL.of (s1.sub _ _ h1), SqT.of (s1.sub _ _ h3), q _ _ Hf1 H1 rfl e1 s1 ?_⟩
    rw [zipD_len hl]
    refine (walk_zipM (n := xs.length) h2.length (by rw [h4.length, hl])).mono (fun H' e => ⟨SqL.of (e _ _ h1), SqT.of (e _ _ h3)⟩) fun i H' x H'' _ _ y => ?_
    obtain ⟨T, x1, x2, g1, g2, g3, g4, g5⟩ := y
    obtain ⟨d1, j1, j2⟩ := h2.get' g4
    obtain ⟨d2, k1, k2⟩ := h4.get' g5
    exact yd_pair g1 g2 g3 j2 k2 (zipD_get j1 k1)⟩

/-! ### targets -/
/-- the target g of a datum d: the slots behind -/
def Tg (g : TG) (d : PyData) (Γ Γ' : List Slot) (B : Bs) (vs : List Nat) : Prop := ∀ (σ : L2.St) (Hf H : Hp) (x : V), SA B Γ σ Hf H → Dq Hf x d → ∀ Q : L2.St → Hp → Prop, (∀ σ2, wipe σ2 vs = wipe σ vs → SA B Γ' σ2 Hf H → Q σ2 H) → g x σ H Q
theorem wipe_set {σ : L2.St} {k : Nat} {v : Option V} : ∀ {vs : List Nat}, k ∈ vs → wipe (σ.set k v) vs = wipe σ vs
  | [], h => by simp at h
  | u :: vs, h => by
    by_cases hk : k ∈ vs
    · unfold wipe; rw [wipe_set hk]
    · have e : k = u := by
        rcases List.mem_cons.mp h with z | z
        · exact z
        · exact absurd z hk
      subst e
      have comm : ∀ {ws : List Nat}, k ∉ ws → wipe (σ.set k v) ws = (wipe σ ws).set k v := by
        intro ws
        induction ws with
        | nil => intro _; rfl
        | cons y ys ih =>
          intro hn
          have hy : k ≠ y := fun z => hn (by simp [z])
          show (wipe (σ.set k v) ys).set y none = ((wipe σ ys).set y none).set k v
          rw [ih (fun z => hn (List.mem_cons_of_mem _ z)), List.set_comm _ _ hy]
      show (wipe (σ.set k v) vs).set k none = (wipe σ vs).set k none
      rw [comm hk, List.set_set]
theorem wipe_sub {σ : L2.St} {vs : List Nat} : ∀ {us : List Nat}, (∀ u ∈ us, u ∈ vs) → wipe (wipe σ us) vs = wipe σ vs
  | [], _ => rfl
  | u :: us, h => by
    show wipe ((wipe σ us).set u none) vs = wipe σ vs
    rw [wipe_set (h u (by simp)), wipe_sub fun x hx => h x (by simp [hx])]
theorem tg_name {k : Nat} {vs : List Nat} (hk : k ∈ vs) : Tg (gName k) d Γ (Γ.set k (.dat d)) B vs := fun σ Hf H x s dq Q q => q _ (wipe_set hk) (s.put k dq)
theorem tg_pair {K : PySem.W.Frag} {j k : Nat} {vs : List Nat} {d1 d2 : PyData} (hj : j ∈ vs) (hk : k ∈ vs) : Tg (gTup K 2 (gCons (gName j) (gCons (gName k) gNil))) (.tuple [d1, d2]) Γ ((Γ.set j (.dat d1)).set k (.dat d2)) B vs := fun σ Hf H x s dq Q q => by
  obtain ⟨a, ws, rfl, h1, h2⟩ := dq_tup dq
  obtain ⟨v, u, rfl, hv, hu⟩ := dq_two h2
  exact ⟨a, [v, u], rfl, SqT.of (s.sub _ _ h1), rfl, v, [u], rfl, u, [], rfl, rfl, q _ ((wipe_set hk).trans (wipe_set hj)) ((s.put j hv).put k hu)⟩

/-! ### comprehensions -/
def Tq (X : Cx) (ifs : List Expr) (σ : L2.St) (H : Hp) (Q : Bool → Hp → Prop) : Prop := ∀ pins s, Inv X pins σ H s →
  wpAny (model X.prog X.w) X.A (forIn ifs true fun c r => if r = true then do let ok ← isTrue c X.env (eval c X.env); pure (ForInStep.yield ok) else pure (ForInStep.yield r)) (TP X pins σ Q) X.xe s
theorem Tq.of {ifs : List Expr} {t : TT} {σ : L2.St} {H : Hp} {Q : Bool → Hp → Prop} (h : PTs X ifs t) (q : t σ H Q) : Tq X ifs σ H Q := fun pins s I => h.run pins s σ H Q I q
/-- a clause's tests -/
def PQ (X : Cx) (B : Bs) (Γ : List Slot) (ifs : List Expr) (S : Bool → Prop) : Prop :=
  ∀ (σ : L2.St) (Hf H : Hp), SA B Γ σ Hf H → ∀ Q : Bool → Hp → Prop, (∀ b Hf' H', S b → FEx B.w Hf H Hf' H' → SA B Γ σ Hf' H' → Q b H') → Tq X ifs σ H Q
theorem pq_nil : PQ X B Γ [] (fun z => z = true) := fun σ Hf H s Q q => Tq.of pts_nil (q true Hf H rfl s.self s)
theorem pq_one {S : Bool → Prop} (h : PT X B Γ c S) : PQ X B Γ [c] S := fun σ Hf H s Q q => Tq.of (pts_one pt_T) (h σ Hf H s Q q)
def wipeG (Γ : List Slot) : List Nat → List Slot
  | [] => Γ
  | v :: vs => (wipeG Γ vs).set v .non
theorem SA.drop {σ : L2.St} {Hf H : Hp} (s : SA B Γ σ Hf H) (i : Nat) : SA B (Γ.set i .non) (σ.set i none) Hf H where
  fx := s.fx
  pl := s.pl
  len := by simp [s.len]
  dat := fun j d h => by
    rcases get_set h with ⟨_, h1, _⟩ | ⟨n, h1⟩
    · cases h1
    · rw [List.getElem?_set_ne (Ne.symm n)]; exact s.dat j d h1
  own := fun j φ h => by
    rcases get_set h with ⟨_, h1, _⟩ | ⟨n, h1⟩
    · cases h1
    · rw [List.getElem?_set_ne (Ne.symm n)]; exact s.own j φ h1
  dis := fun a b φ ψ p n h1 h2 h3 h4 => by
    rcases get_set h1 with ⟨_, q, _⟩ | ⟨n1, q1⟩
    · cases q
    rcases get_set h2 with ⟨_, q, _⟩ | ⟨n2, q2⟩
    · cases q
    rw [List.getElem?_set_ne (Ne.symm n1)] at h3
    rw [List.getElem?_set_ne (Ne.symm n2)] at h4
    exact s.dis a b φ ψ p n q1 q2 h3 h4
  pool := fun j h => by
    rcases get_set h with ⟨_, h1, _⟩ | ⟨n, h1⟩
    · cases h1
    · rw [List.getElem?_set_ne (Ne.symm n)]; exact s.pool j h1
theorem SA.wiped {σ : L2.St} {Hf H : Hp} (s : SA B Γ σ Hf H) : ∀ vs : List Nat, SA B (wipeG Γ vs) (wipe σ vs) Hf H
  | [] => s
  | v :: vs => (s.wiped vs).drop v
/-- an object of nobody's is written -/
theorem SA.wr {σ : L2.St} {Hf H : Hp} {p : Addr} {o : HO} (s : SA B Γ σ Hf H) (hf : Hf p = none) (h0 : B.H p = none) (hw : B.w ≠ some p) (hno : ∀ (i : Nat) (φ : Addr → Hp → HO → Prop), Γ[i]? = some (.own φ) → σ[i]? ≠ some (some (.ref p))) : SA B Γ σ Hf (upd H p o) where
  fx := s.fx.write (.inl h0) hf
  pl := fun q hq => by
    have hne : q ≠ p := fun z => hw (z ▸ hq)
    obtain ⟨hf, v0, v1, a, b, gs, ss, h1, h2, h3⟩ := s.pl q hq
    exact ⟨hf, v0, v1, a, b, gs, ss, by rw [upd_ne hne]; exact h1, h2, h3⟩
  len := s.len
  dat := s.dat
  own := fun i φ h => by
    obtain ⟨m, q, o', h1, h2, h3⟩ := s.own i φ h
    have hne : q ≠ p := fun z => hno i φ h (z ▸ h1)
    exact ⟨m, q, o', h1, by rw [upd_ne hne]; exact h2, h3⟩
  dis := s.dis
  pool := s.pool
/-- in every block of this scope -/
def TQB (X : Cx) (scope : Scope) (ifs : List Expr) : TT := fun σ H Q => ∀ (s : Shared) (H0 : Hp) (C : Addr) (cl : List (Str × Addr)) (fp : List Addr), Tq (X.blk s H0 scope (compEnvC scope cl C X.env) fp) ifs σ H Q
def TEB (X : Cx) (scope : Scope) (elt : Expr) : TE := fun σ H Q => ∀ (s : Shared) (H0 : Hp) (C : Addr) (cl : List (Str × Addr)) (fp : List Addr), E (X.blk s H0 scope (compEnvC scope cl C X.env) fp) elt σ H Q
/-- a comprehension that may be read: its result a new list of a kind in SR -/
structure CompOk (X : Cx) (B : Bs) (Γ : List Slot) (elt tg iter : Expr) (ifs : List Expr) (scope : Scope) (SR : List PyData → Prop) : Prop where
  calm : X.calm = true
  nd : X.N.Nodup
  hfs : ∀ x, foldedSetIterable iter X.env x = pure x
  ex : ∃ (wi : TI) (g : TG) (own : List (Str × Nat)), PI X tg iter wi ∧ BlkOk X.N X.env.scope scope own ∧ (∀ (s : Shared) (H : Hp) (C : Addr) (cl : List (Str × Addr)) (fp : List Addr), PG (X.blk s H scope (compEnvC scope cl C X.env) fp) tg g) ∧
    ∀ (σ : L2.St) (Hf H : Hp), SA B Γ σ Hf H → ∀ Q : VK, (∀ p vs ds Hf' H', SR ds → H p = none → FEx B.w Hf H Hf' H' → SA B Γ σ Hf' H' → H' p = some (.lst vs) → Hf' p = none → DqAll Hf' vs ds → Q (.ref p) H') → tLc wi g (TQB X scope ifs) (TEB X scope elt) (own.map (·.2)) σ H Q
theorem CompOk.mono {iter elt : Expr} {ifs : List Expr} {scope : Scope} {SR SR' : List PyData → Prop} (h : CompOk X B Γ elt tg iter ifs scope SR) (m : ∀ ds, SR ds → SR' ds) : CompOk X B Γ elt tg iter ifs scope SR' := by
  obtain ⟨wi, g, own, h1, h2, h3, h4⟩ := h.ex
  exact ⟨h.calm, h.nd, h.hfs, wi, g, own, h1, h2, h3, fun σ Hf H s Q q => h4 σ Hf H s Q fun p vs ds Hf' H' hd => q p vs ds Hf' H' (m ds hd)⟩
theorem CompOk.pl {iter elt : Expr} {ifs : List Expr} {scope : Scope} {SR : List PyData → Prop} (h : CompOk X B Γ elt tg iter ifs scope SR) : PL X B Γ (.ListComp elt [⟨tg, iter, ifs, 0⟩] scope pos) SR := by
  obtain ⟨wi, g, own, hi, ok, hg, hr⟩ := h.ex
  intro σ Hf H s Q q
  exact E.of (pe_lc (tt := TQB X scope ifs) (te := TEB X scope elt) h.calm h.nd hi ok hg (fun s H C cl fp => ⟨fun pins st _ _ _ I h => h s H C cl fp pins st I⟩) (fun s H C cl fp => ⟨fun pins st _ _ _ I h => h s H C cl fp pins st I⟩) h.hfs) (hr σ Hf H s Q q)
theorem comp_ok {iter elt : Expr} {ifs : List Expr} {scope : Scope} {own : List (Str × Nat)} {SL : List PyData → Prop} {g : TG} {Rl : List PyData → Nat → List PyData → Prop} {Γi : List PyData → Nat → PyData → List Slot} {Tb : List PyData → Nat → PyData → Bool → Prop} {Se : List PyData → Nat → PyData → PyData → Prop}
    (hc : X.calm = true) (hN : X.N.Nodup) (src : Src X B Γ tg iter SL) (ok : BlkOk X.N X.env.scope scope own)
    (hg : ∀ (s : Shared) (H : Hp) (C : Addr) (cl : List (Str × Addr)) (fp : List Addr), PG (X.blk s H scope (compEnvC scope cl C X.env) fp) tg g)
    (hz : ∀ ds, SL ds → ds.length ≤ 100000)
    (h0 : ∀ ds, SL ds → Rl ds 0 [])
    (hb : ∀ (ds : List PyData) (i : Nat) (d : PyData), SL ds → ds[i]? = some d → Tg g d (wipeG Γ (own.map (·.2))) (Γi ds i d) B (own.map (·.2)))
    (ht : ∀ (ds : List PyData) (i : Nat) (d : PyData), SL ds → ds[i]? = some d → ∀ (s : Shared) (H : Hp) (C : Addr) (cl : List (Str × Addr)) (fp : List Addr), PQ (X.blk s H scope (compEnvC scope cl C X.env) fp) B (Γi ds i d) ifs (Tb ds i d))
    (he : ∀ (ds : List PyData) (i : Nat) (d : PyData), SL ds → ds[i]? = some d → Tb ds i d true → ∀ (s : Shared) (H : Hp) (C : Addr) (cl : List (Str × Addr)) (fp : List Addr), PN (X.blk s H scope (compEnvC scope cl C X.env) fp) B (Γi ds i d) elt (Se ds i d))
    (hs1 : ∀ (ds : List PyData) (i : Nat) (d : PyData) (acc : List PyData) (r : PyData), SL ds → ds[i]? = some d → Rl ds i acc → Tb ds i d true → Se ds i d r → Rl ds (i + 1) (acc ++ [r]))
    (hs2 : ∀ (ds : List PyData) (i : Nat) (d : PyData) (acc : List PyData), SL ds → ds[i]? = some d → Rl ds i acc → Tb ds i d false → Rl ds (i + 1) acc)
    (hfs : ∀ x, foldedSetIterable iter X.env x = pure x := by intro _; rfl) : CompOk X B Γ elt tg iter ifs scope (fun rs => ∃ ds, SL ds ∧ Rl ds ds.length rs) := by
  obtain ⟨wi, hi, hw⟩ := src
  refine ⟨hc, hN, hfs, wi, g, own, hi, ok, hg, ?_⟩
  intro σ Hf H s Q q
  refine hw σ Hf H s _ fun J ds Hf1 H1 hds e1 s1 W D hD => ?_
  have hDH : H D = none := by
    cases k : H D with
    | none => rfl
    | some u => exact absurd hD (e1.there D (by rw [k]; simp))
  have hDB : B.H D = none := by
    cases k : B.H D with
    | none => rfl
    | some u => exact absurd hD (s1.fx.there D (by rw [k]; simp))
  have hDw : B.w ≠ some D := fun z => by
    obtain ⟨_, v0, v1, a, b, gs, ss, k1, _⟩ := s1.pl D z
    rw [hD] at k1; cases k1
  have own0 : ∀ (i : Nat) (φ : Addr → Hp → HO → Prop), (wipeG Γ (own.map (·.2)))[i]? = some (.own φ) → (wipe σ (own.map (·.2)))[i]? ≠ some (some (.ref D)) := fun i φ h1 h2 => by
    obtain ⟨_, p', o', k1, k2, _⟩ := (s1.wiped (own.map (·.2))).own i φ h1
    rw [h2] at k1; cases k1
    rw [hD] at k2; cases k2
  refine lc_it (g := g) (tt := TQB X scope ifs) (te := TEB X scope elt) (vs := own.map (·.2)) (σ := σ) (H1 := H1) (D := D) (Qd := Q (.ref D)) W (fun i H' => ∃ Hf' acc vs, SA B (wipeG Γ (own.map (·.2))) (wipe σ (own.map (·.2))) Hf' H' ∧ Same Hf1 Hf' ∧ FEx B.w Hf H Hf' H' ∧ H' D = some (.lst vs) ∧ Hf' D = none ∧ DqAll Hf' vs acc ∧ Rl ds i acc ∧ acc.length ≤ i) ?_ ?_ ?_ ?_
  · have e2 : FEx B.w Hf1 H1 Hf1 (upd H1 D (.lst [])) := FEx.own s1.sub hD
    refine ⟨Hf1, [], [], ?_, Same.refl _, e1.trans e2, upd_same, s1.sub.free hD, .nil, h0 ds hds, Nat.zero_le _⟩
    exact (s1.wiped _).wr (s1.sub.free hD) hDB hDw own0
  · intro i H' _ h
    obtain ⟨Hf', acc, vs, g1, g2, g3, g4, g5, g6, g7, g8⟩ := h
    exact g2.trans g1.sub
  · intro i x H' H'' hi h y
    obtain ⟨Hf', acc, vs, g1, g2, g3, g4, g5, g6, g7, g8⟩ := h
    obtain ⟨Hf2, d, e2, hd, dx⟩ := y Hf' g2 g1.sub
    have s2 := g1.next0 e2
    refine hb ds i d hds hd _ Hf2 H'' x s2 dx _ fun σ2 hwp s3 => ⟨hwp.trans (wipe_sub fun _ h => h), fun st H0 C cl fp => ?_⟩
    refine ht ds i d hds hd st H0 C cl fp σ2 Hf2 H'' s3 _ fun b Hf3 H3 hb' e3 s4 => ?_
    have eq : FEx B.w Hf' H' Hf3 H3 := (e2.wk).trans e3
    have hD3 : H3 D = some (.lst vs) := eq.keep D _ hDw g4
    have hf3 : Hf3 D = none := eq.excl D (by rw [g4]; simp) g5
    have back : ∀ {Hf4 H4 : Hp}, FEx B.w Hf' H' Hf4 H4 → SA B (Γi ds i d) σ2 Hf4 H4 → SA B (wipeG Γ (own.map (·.2))) (wipe σ (own.map (·.2))) Hf4 H4 := fun {Hf4 H4} e4 s5 => g1.next e4 s5.pl
    cases b with
    | false =>
      rw [if_neg Bool.false_ne_true]
      exact ⟨Hf3, acc, vs, back eq s4, g2.trans eq.ff, g3.trans eq, hD3, hf3, dqAll_mono eq.ff _ _ g6, hs2 ds i d acc hds hd g7 hb', by omega⟩
    | true =>
      rw [if_pos rfl]
      intro st H0 C cl fp
      refine he ds i d hds hd hb' st H0 C cl fp σ2 Hf3 H3 s4 _ fun v r Hf4 H4 hr e4 s5 dv => ?_
      have eq4 := eq.trans e4
      have hD4 : H4 D = some (.lst vs) := eq4.keep D _ hDw g4
      have hf4 : Hf4 D = none := eq4.excl D (by rw [g4]; simp) g5
      have hlen := g6.length
      have hzz := hz ds hds
      refine ⟨vs, hD4, Evl.sz_lt (by omega), Hf4, acc ++ [r], vs ++ [v], ?_, g2.trans eq4.ff, (g3.trans eq4).write (.inl hDH) hf4, upd_same, hf4, (dqAll_mono eq4.ff _ _ g6).append (.one dv), hs1 ds i d acc r hds hd g7 hb' hr, by simp; omega⟩
      exact (back eq4 s5).wr hf4 hDB hDw own0
  · intro H' h
    obtain ⟨Hf', acc, vs, g1, g2, g3, g4, g5, g6, g7, g8⟩ := h
    exact q D vs acc Hf' H' ⟨ds, hds, g7⟩ hDH g3 (s.next g3 g1.pl) g4 g5 g6

/-! ### .. of one name or of two, each item's own answer -/
theorem comp1g {α : Type} {iter elt : Expr} {ifs : List Expr} {scope : Scope} {x : Str} {k : Nat} {as : List α} {enc : α → PyData} {pr : α → Bool} {f : α → PyData}
    (hc : X.calm = true) (hN : X.N.Nodup) (src : SrcD X B Γ tg iter (as.map enc)) (ok : BlkOk X.N X.env.scope scope [(x, k)])
    (hg : ∀ (s : Shared) (H : Hp) (C : Addr) (cl : List (Str × Addr)) (fp : List Addr), PG (X.blk s H scope (compEnvC scope cl C X.env) fp) tg (gName k))
    (hz : as.length ≤ 100000)
    (ht : ∀ a, a ∈ as → ∀ (s : Shared) (H : Hp) (C : Addr) (cl : List (Str × Addr)) (fp : List Addr), PQ (X.blk s H scope (compEnvC scope cl C X.env) fp) B (Γ.set k (.dat (enc a))) ifs (fun z => z = pr a))
    (he : ∀ a, a ∈ as → pr a = true → ∀ (s : Shared) (H : Hp) (C : Addr) (cl : List (Str × Addr)) (fp : List Addr), PD (X.blk s H scope (compEnvC scope cl C X.env) fp) B (Γ.set k (.dat (enc a))) elt (f a))
    (hfs : ∀ x, foldedSetIterable iter X.env x = pure x := by intro _; rfl) : CompOk X B Γ elt tg iter ifs scope (fun z => z = (as.filter pr).map f) := by
  have at_ : ∀ {i : Nat} {d : PyData}, (as.map enc)[i]? = some d → ∃ a, as[i]? = some a ∧ a ∈ as ∧ d = enc a := fun {i d} h => by
    rw [List.getElem?_map] at h
    cases q : as[i]? with
    | none => rw [q] at h; cases h
    | some a => rw [q] at h; exact ⟨a, rfl, List.mem_of_getElem? q, (Option.some.inj h).symm⟩
  refine (comp_ok (Rl := fun ds i acc => acc = ((as.take i).filter pr).map f) (Γi := fun ds i d => Γ.set k (.dat d)) (Tb := fun ds i d b => ∀ a, as[i]? = some a → b = pr a) (Se := fun ds i d r => ∀ a, as[i]? = some a → r = f a) hc hN src ok hg (fun ds h => by rw [h, List.length_map]; exact hz) (fun ds h => by simp) (fun ds i d h hd => ?_) (fun ds i d h hd => ?_) (fun ds i d h hd hT => ?_) (fun ds i d acc r h hd hR hT hS => ?_) (fun ds i d acc h hd hR hT => ?_) hfs).mono (fun ds h => ?_)
  · have e : wipeG Γ ([(x, k)].map (·.2)) = Γ.set k .non := rfl
    have e2 : (Γ.set k .non).set k (.dat d) = Γ.set k (.dat d) := by rw [List.set_set]
    rw [e, ← e2]
    exact tg_name (by simp)
  · subst h
    obtain ⟨a, h1, h2, rfl⟩ := at_ hd
    intro s H C cl fp σ Hf H' st Q q
    exact ht a h2 s H C cl fp σ Hf H' st Q fun b Hf' H' hb => q b Hf' H' fun a' ha' => by rw [h1] at ha'; cases ha'; exact hb
  · subst h
    obtain ⟨a, h1, h2, rfl⟩ := at_ hd
    intro s H C cl fp
    exact (he a h2 (hT a h1).symm s H C cl fp).mono fun r hr a' ha' => by rw [h1] at ha'; cases ha'; exact hr
  · subst h
    obtain ⟨a, h1, h2, rfl⟩ := at_ hd
    rw [hR, hS a h1, List.take_add_one, h1, Option.toList_some, List.filter_append, List.map_append, List.filter_cons_of_pos (by rw [← hT a h1]), List.filter_nil]
    rfl
  · subst h
    obtain ⟨a, h1, h2, rfl⟩ := at_ hd
    rw [hR, List.take_add_one, h1, Option.toList_some, List.filter_append, List.map_append, List.filter_cons_of_neg (by rw [← hT a h1]; simp), List.filter_nil]
    simp
  · obtain ⟨ds', h1, h2⟩ := h
    subst h1
    rw [h2, List.length_map, List.take_length]
theorem comp2g {α : Type} {iter elt : Expr} {ifs : List Expr} {scope : Scope} {x y : Str} {j k : Nat} {as : List α} {e1 e2 : α → PyData} {pr : α → Bool} {f : α → PyData}
    (hc : X.calm = true) (hN : X.N.Nodup) (src : SrcD X B Γ tg iter (as.map fun a => .tuple [e1 a, e2 a])) (ok : BlkOk X.N X.env.scope scope [(x, j), (y, k)]) (hjk : j ≠ k)
    (hg : ∀ (s : Shared) (H : Hp) (C : Addr) (cl : List (Str × Addr)) (fp : List Addr), PG (X.blk s H scope (compEnvC scope cl C X.env) fp) tg (gTup X.K 2 (gCons (gName j) (gCons (gName k) gNil))))
    (hz : as.length ≤ 100000)
    (ht : ∀ a, a ∈ as → ∀ (s : Shared) (H : Hp) (C : Addr) (cl : List (Str × Addr)) (fp : List Addr), PQ (X.blk s H scope (compEnvC scope cl C X.env) fp) B ((Γ.set j (.dat (e1 a))).set k (.dat (e2 a))) ifs (fun z => z = pr a))
    (he : ∀ a, a ∈ as → pr a = true → ∀ (s : Shared) (H : Hp) (C : Addr) (cl : List (Str × Addr)) (fp : List Addr), PD (X.blk s H scope (compEnvC scope cl C X.env) fp) B ((Γ.set j (.dat (e1 a))).set k (.dat (e2 a))) elt (f a))
    (hfs : ∀ x, foldedSetIterable iter X.env x = pure x := by intro _; rfl) : CompOk X B Γ elt tg iter ifs scope (fun z => z = (as.filter pr).map f) := by
  have at_ : ∀ {i : Nat} {d : PyData}, (as.map fun a => PyData.tuple [e1 a, e2 a])[i]? = some d → ∃ a, as[i]? = some a ∧ a ∈ as ∧ d = .tuple [e1 a, e2 a] := fun {i d} h => by
    rw [List.getElem?_map] at h
    cases q : as[i]? with
    | none => rw [q] at h; cases h
    | some a => rw [q] at h; exact ⟨a, rfl, List.mem_of_getElem? q, (Option.some.inj h).symm⟩
  refine (comp_ok (Rl := fun ds i acc => acc = ((as.take i).filter pr).map f) (Γi := fun ds i d => match as[i]? with | some a => (Γ.set j (.dat (e1 a))).set k (.dat (e2 a)) | none => Γ) (Tb := fun ds i d b => ∀ a, as[i]? = some a → b = pr a) (Se := fun ds i d r => ∀ a, as[i]? = some a → r = f a) hc hN src ok hg (fun ds h => by rw [h, List.length_map]; exact hz) (fun ds h => by simp) (fun ds i d h hd => ?_) (fun ds i d h hd => ?_) (fun ds i d h hd hT => ?_) (fun ds i d acc r h hd hR hT hS => ?_) (fun ds i d acc h hd hR hT => ?_) hfs).mono (fun ds h => ?_)
  · subst h
    obtain ⟨a, h1, h2, rfl⟩ := at_ hd
    have e : wipeG Γ ([(x, j), (y, k)].map (·.2)) = (Γ.set k .non).set j .non := rfl
    have e3 : (((Γ.set k .non).set j .non).set j (.dat (e1 a))).set k (.dat (e2 a)) = (Γ.set j (.dat (e1 a))).set k (.dat (e2 a)) := by
      rw [List.set_set, List.set_comm _ _ hjk, List.set_set, List.set_comm _ _ hjk.symm]
    simp only [h1]
    rw [e, ← e3]
    exact tg_pair (by simp) (by simp)
  · subst h
    obtain ⟨a, h1, h2, rfl⟩ := at_ hd
    intro s H C cl fp σ Hf H' st Q q
    simp only [h1] at st q
    exact ht a h2 s H C cl fp σ Hf H' st Q fun b Hf' H' hb => q b Hf' H' fun a' ha' => by cases ha'; exact hb
  · subst h
    obtain ⟨a, h1, h2, rfl⟩ := at_ hd
    intro s H C cl fp
    simp only [h1]
    exact (he a h2 (hT a h1).symm s H C cl fp).mono fun r hr a' ha' => by cases ha'; exact hr
  · subst h
    obtain ⟨a, h1, h2, rfl⟩ := at_ hd
    rw [hR, hS a h1, List.take_add_one, h1, Option.toList_some, List.filter_append, List.map_append, List.filter_cons_of_pos (by rw [← hT a h1]), List.filter_nil]
    rfl
  · subst h
    obtain ⟨a, h1, h2, rfl⟩ := at_ hd
    rw [hR, List.take_add_one, h1, Option.toList_some, List.filter_append, List.map_append, List.filter_cons_of_neg (by rw [← hT a h1]; simp), List.filter_nil]
    simp
  · obtain ⟨ds', h1, h2⟩ := h
    subst h1
    rw [h2, List.length_map, List.take_length]
theorem filter_yes {α β : Type} (as : List α) (f : α → β) : (as.filter fun _ => true).map f = as.map f := by rw [List.filter_eq_self.mpr (fun _ _ => rfl)]
end
end OC
set_option Elab.async false
set_option linter.all false
set_option maxRecDepth 100000
set_option maxHeartbeats 4000000
/-! Own kit, part 5: statements, defs. -/
namespace OC
open PySem PySem.Spec PyProof.Rows L2
/-- a block: it falls through with slots of N, or gives a datum of S -/
def BD (X : Cx) (B : Bs) (Γ : List Slot) (body : List Stmt) (N : List Slot → Prop) (S : PyData → Prop) : Prop :=
  ∀ (σ : L2.St) (Hf H : Hp), SA B Γ σ Hf H → ∀ D : Ends, (∀ G, N G → ∀ σ' Hf' H', SA B G σ' Hf' H' → Same Hf Hf' → D.nx σ' H') →
    (∀ v d Hf' H', S d → FEx B.w B.Hf B.H Hf' H' → (∀ p, B.w = some p → PoolOk Hf' H' p) → Dq Hf' v d → D.rt v H') → Ss X body D σ H
/-- a statement -/
def B1 (X : Cx) (B : Bs) (Γ : List Slot) (st : Stmt) (N : List Slot → Prop) (S : PyData → Prop) : Prop :=
  ∀ (σ : L2.St) (Hf H : Hp), SA B Γ σ Hf H → ∀ D : Ends, (∀ G, N G → ∀ σ' Hf' H', SA B G σ' Hf' H' → Same Hf Hf' → D.nx σ' H') →
    (∀ v d Hf' H', S d → FEx B.w B.Hf B.H Hf' H' → (∀ p, B.w = some p → PoolOk Hf' H' p) → Dq Hf' v d → D.rt v H') → S1 X st D σ H
section
variable {X : Cx} {B : Bs} {Γ Γ' : List Slot} {e a b c : Expr} {es : List Expr} {p pos : Pos} {d da db : PyData} {S Sa Sb : PyData → Prop} {ds : List PyData} {tg : Expr} {N M : List Slot → Prop} {rest body : List Stmt} {st : Stmt}
theorem nv (i : Nat) {x : Str} {d : PyData} (h : Γ[i]? = some (.dat d)) (hN : X.N[i]? = some x := by rfl) (hv : Vis X.env.scope x := by first | exact Or.inl rfl | exact Or.inr (Or.inl rfl) | exact Or.inr (Or.inr rfl))
    (hd : (x == ("__debug__" : Str)) = false := by decide) (hcd : (x == ("__classdict__" : Str)) = false := by decide) : PD X B Γ (.Name x pos) d := pn_var i hN hv h hd hcd
theorem bd_nil (h : N Γ') (l : le Γ' Γ) : BD X B Γ [] N S := fun σ Hf H s D n r => Ss.of pss_nil (n Γ' h σ Hf H (s.weak l) (Same.refl _))
theorem bd_end (h : N Γ) : BD X B Γ [] N S := bd_nil h le_refl
theorem BD.weak (h : BD X B Γ' body N S) (l : le Γ' Γ) : BD X B Γ body N S := fun σ Hf H s D n r => h σ Hf H (s.weak l) D n r
theorem BD.monoN (h : BD X B Γ body M S) (m : ∀ G, M G → N G) : BD X B Γ body N S := fun σ Hf H s D n r => h σ Hf H s D (fun G g => n G (m G g)) r
theorem BD.monoS {S' : PyData → Prop} (h : BD X B Γ body N S') (m : ∀ d, S' d → S d) : BD X B Γ body N S := fun σ Hf H s D n r => h σ Hf H s D n fun v d Hf' H' hd => r v d Hf' H' (m d hd)
/-- a statement, then the rest: M, what the statement falls through with -/
theorem bd_cons (h1 : B1 X B Γ st M S) (h2 : ∀ G, M G → BD X B G rest N S) : BD X B Γ (st :: rest) N S := fun σ Hf H s D n r =>
  Ss.cons (h1 σ Hf H s { D with nx := Ss X rest D } (fun G g σ' Hf' H' s' e => h2 G g σ' Hf' H' s' D (fun G' g' σ2 Hf2 H2 s2 e2 => n G' g' σ2 Hf2 H2 s2 (e.trans e2)) r) r)
theorem bd_one (h1 : B1 X B Γ st N S) : BD X B Γ [st] N S := bd_cons h1 fun G g => bd_end g
/-- a list of our own becomes data -/
theorem bd_freeze (i : Nat) {ds : List PyData} (hi : Γ[i]? = some (.own (Lst ds))) (h : BD X B (Γ.set i (.dat (.list ds))) body N S) : BD X B Γ body N S := fun σ Hf H s D n r => by
  obtain ⟨Hf', e, s'⟩ := s.freeze hi
  exact h σ Hf' H s' D (fun G g σ' Hf2 H' s2 e2 => n G g σ' Hf2 H' s2 (e.trans e2)) r
/-! ### names -/
theorem b1_set {Se : PyData → Prop} (i : Nat) {x : Str} {pos' : Pos} (hN : X.N.Nodup) (he : PN X B Γ e Se) (hi : X.N[i]? = some x := by rfl) (hx : Loc X.env.scope x := by first | exact Or.inl rfl | exact Or.inr rfl) (hs : swapsWith e (some (.Name x pos')) pos.line X.env = pure false := by rfl)
    (hf : X.fn x = true ∨ X.env.scope.names.lookup x = some .local := by first | exact .inl rfl | exact .inr rfl) : B1 X B Γ (.Assign [.Name x pos'] e pos) (fun G => ∃ d, Se d ∧ G = Γ.set i (.dat d)) S := fun σ Hf H s D n r =>
  S1.of (ps_set hN hi hx pe_E hs hf) (he σ Hf H s _ fun v d Hf' H' hd ex s' dq => n _ ⟨d, hd, rfl⟩ _ Hf' H' (s'.put i dq) ex.ff)
theorem bd_set (i : Nat) {x : Str} {pos' : Pos} (hN : X.N.Nodup) (he : PD X B Γ e d) (h : BD X B (Γ.set i (.dat d)) rest N S) (hi : X.N[i]? = some x := by rfl) (hx : Loc X.env.scope x := by first | exact Or.inl rfl | exact Or.inr rfl) (hs : swapsWith e (some (.Name x pos')) pos.line X.env = pure false := by rfl)
    (hf : X.fn x = true ∨ X.env.scope.names.lookup x = some .local := by first | exact .inl rfl | exact .inr rfl) : BD X B Γ (.Assign [.Name x pos'] e pos :: rest) N S :=
  bd_cons (b1_set i hN he hi hx hs hf) fun G ⟨d', h1, h2⟩ => by rw [h2, h1]; exact h
theorem bd_setN {Se : PyData → Prop} (i : Nat) {x : Str} {pos' : Pos} (hN : X.N.Nodup) (he : PN X B Γ e Se) (h : ∀ d, Se d → BD X B (Γ.set i (.dat d)) rest N S) (hi : X.N[i]? = some x := by rfl) (hx : Loc X.env.scope x := by first | exact Or.inl rfl | exact Or.inr rfl) (hs : swapsWith e (some (.Name x pos')) pos.line X.env = pure false := by rfl)
    (hf : X.fn x = true ∨ X.env.scope.names.lookup x = some .local := by first | exact .inl rfl | exact .inr rfl) : BD X B Γ (.Assign [.Name x pos'] e pos :: rest) N S :=
  bd_cons (b1_set i hN he hi hx hs hf) fun G ⟨d', h1, h2⟩ => by rw [h2]; exact h d' h1
/-- a name takes a new list, of our own -/
theorem b1_setL {SL : List PyData → Prop} (i : Nat) {x : Str} {pos' : Pos} (hN : X.N.Nodup) (he : PL X B Γ e SL) (hi : X.N[i]? = some x := by rfl) (hx : Loc X.env.scope x := by first | exact Or.inl rfl | exact Or.inr rfl) (hs : swapsWith e (some (.Name x pos')) pos.line X.env = pure false := by rfl)
    (hf : X.fn x = true ∨ X.env.scope.names.lookup x = some .local := by first | exact .inl rfl | exact .inr rfl) : B1 X B Γ (.Assign [.Name x pos'] e pos) (fun G => ∃ ds, SL ds ∧ G = Γ.set i (.own (Lst ds))) S := fun σ Hf H s D n r =>
  S1.of (ps_set hN hi hx pe_E hs hf) (he σ Hf H s _ fun p vs ds Hf' H' hd h0 ex s' h1 hf' dq => n _ ⟨ds, hd, rfl⟩ _ Hf' H' (s.takeN s' i h0 h1 hf' lst_mono ⟨vs, rfl, dq⟩) ex.ff)
/-- y = [..] on one line -/
theorem b1_lc {iter elt : Expr} {scope : Scope} {ifs : List Expr} {SR : List PyData → Prop} (i : Nat) {y : Str} {py : Pos} (h : CompOk X B Γ elt tg iter ifs scope SR) (hy : X.N[i]? = some y := by rfl) (hyl : X.env.scope.names.lookup y = some .local := by rfl)
    (hsw : swapsWith (.ListComp elt [⟨tg, iter, ifs, 0⟩] scope p) (some (.Name y py)) pos.line X.env = pure true := by exact sw_true rfl rfl rfl (by decide +kernel)) : B1 X B Γ (.Assign [.Name y py] (.ListComp elt [⟨tg, iter, ifs, 0⟩] scope p) pos) (fun G => ∃ ds, SR ds ∧ G = Γ.set i (.own (Lst ds))) S := by
  obtain ⟨wi, g, own, hi, ok, hg, hr⟩ := h.ex
  intro σ Hf H s D n r
  refine S1.of (ps_setLc (tt := TQB X scope ifs) (te := TEB X scope elt) h.calm h.nd hy hyl hsw hi ok hg (fun s H C cl fp => ⟨fun pins st _ _ _ I h => h s H C cl fp pins st I⟩) (fun s H C cl fp => ⟨fun pins st _ _ _ I h => h s H C cl fp pins st I⟩) h.hfs) ?_
  exact hr σ Hf H s _ fun p vs ds Hf' H' hd h0 ex s' h1 hf' dq => n _ ⟨ds, hd, rfl⟩ _ Hf' H' (s.takeN s' i h0 h1 hf' lst_mono ⟨vs, rfl, dq⟩) ex.ff
/-- name op= e, ints -/
theorem b1_aug {op : Operator} {r : R2} {Se Sz : PyData → Prop} (i : Nat) {x : Str} {pos' : Pos} (hN : X.N.Nodup) (ho : OpR X (inplaceOp op) r) (he : PN X B Γ e Se) (hd0 : Γ[i]? = some (.dat d)) (hr : ∀ db, Se db → RO r d db Sz) (hi : X.N[i]? = some x := by rfl) (hx : Loc X.env.scope x := by first | exact Or.inl rfl | exact Or.inr rfl)
    (hf : X.fn x = true ∨ X.env.scope.names.lookup x = some .local := by first | exact .inl rfl | exact .inr rfl) : B1 X B Γ (.AugAssign (.Name x pos') op e pos) (fun G => ∃ d, Sz d ∧ G = Γ.set i (.dat d)) S := fun σ Hf H s D n rt => by
  obtain ⟨v, h1, h2⟩ := s.dat i d hd0
  refine S1.of (ps_aug hN hi hx pe_E (ti := r) ho hf) ⟨v, h1, he σ Hf H s _ fun v2 d2 Hf1 H1 hd2 e1 s1 dq => ?_⟩
  exact hr d2 hd2 v v2 Hf1 H1 s1.sub (dq_mono e1.ff _ _ h2) dq _ fun v3 d3 Hf2 H2 hd3 e2 dq3 => n _ ⟨d3, hd3, rfl⟩ _ Hf2 H2 ((s1.next0 e2).put i dq3) (e1.ff.trans e2.ff)
theorem bd_aug {op : Operator} {r : R2} {dz : PyData} (i : Nat) {x : Str} {pos' : Pos} (hN : X.N.Nodup) (ho : OpR X (inplaceOp op) r) (he : PD X B Γ e db) (hd0 : Γ[i]? = some (.dat d)) (hr : RO r d db (fun z => z = dz)) (h : BD X B (Γ.set i (.dat dz)) rest N S) (hi : X.N[i]? = some x := by rfl) (hx : Loc X.env.scope x := by first | exact Or.inl rfl | exact Or.inr rfl)
    (hf : X.fn x = true ∨ X.env.scope.names.lookup x = some .local := by first | exact .inl rfl | exact .inr rfl) : BD X B Γ (.AugAssign (.Name x pos') op e pos :: rest) N S :=
  bd_cons (b1_aug (Sz := fun z => z = dz) i hN ho he hd0 (fun db h => by rw [h]; exact hr) hi hx hf) fun G ⟨d', h1, h2⟩ => by rw [h2, h1]; exact h
theorem bd_setL {ds : List PyData} (i : Nat) {x : Str} {pos' : Pos} (hN : X.N.Nodup) (he : PLD X B Γ e ds) (h : BD X B (Γ.set i (.own (Lst ds))) rest N S) (hi : X.N[i]? = some x := by rfl) (hx : Loc X.env.scope x := by first | exact Or.inl rfl | exact Or.inr rfl) (hs : swapsWith e (some (.Name x pos')) pos.line X.env = pure false := by rfl)
    (hf : X.fn x = true ∨ X.env.scope.names.lookup x = some .local := by first | exact .inl rfl | exact .inr rfl) : BD X B Γ (.Assign [.Name x pos'] e pos :: rest) N S :=
  bd_cons (b1_setL i hN he hi hx hs hf) fun G ⟨d', h1, h2⟩ => by rw [h2, h1]; exact h
theorem bd_lc {iter elt : Expr} {scope : Scope} {ifs : List Expr} {ds : List PyData} (i : Nat) {y : Str} {py : Pos} (h : CompOk X B Γ elt tg iter ifs scope (fun z => z = ds)) (h2 : BD X B (Γ.set i (.own (Lst ds))) rest N S) (hy : X.N[i]? = some y := by rfl) (hyl : X.env.scope.names.lookup y = some .local := by rfl)
    (hsw : swapsWith (.ListComp elt [⟨tg, iter, ifs, 0⟩] scope p) (some (.Name y py)) pos.line X.env = pure true := by exact sw_true rfl rfl rfl (by decide +kernel)) : BD X B Γ (.Assign [.Name y py] (.ListComp elt [⟨tg, iter, ifs, 0⟩] scope p) pos :: rest) N S :=
  bd_cons (b1_lc i h hy hyl hsw) fun G ⟨d', h3, h4⟩ => by rw [h4, h3]; exact h2
/-! ### what is dropped, handed back -/
theorem b1_expr {Se : PyData → Prop} (he : PN X B Γ e Se) (hs : swapsWith e none pos.line X.env = pure false := by rfl) : B1 X B Γ (.Expr e pos) (fun G => G = Γ) S := fun σ Hf H s D n r =>
  S1.of (ps_expr pe_E hs) (he σ Hf H s _ fun v d Hf' H' hd ex s' dq => n _ rfl _ Hf' H' s' ex.ff)
theorem b1_ret (he : PN X B Γ e S) : B1 X B Γ (.Return (some e) pos) N S := fun σ Hf H s D n r =>
  S1.of (ps_ret pe_E) (he σ Hf H s _ fun v d Hf' H' hd ex s' dq => r v d Hf' H' hd s'.fx s'.pl dq)
theorem bd_ret (he : PN X B Γ e S) : BD X B Γ (.Return (some e) pos :: rest) N S := bd_cons (M := fun _ => False) (b1_ret he) fun G z => z.elim
theorem bd_retd (he : PD X B Γ e d) (h : S d) : BD X B Γ (.Return (some e) pos :: rest) N S := bd_ret (he.mono fun _ hd => by rw [hd]; exact h)
/-- found.append(e), found in slot i a list of our own -/
theorem b1_app {Se : PyData → Prop} (i : Nat) {x : Str} {px pa : Pos} (hi : Γ[i]? = some (.own (Lst ds))) (he : PN X B Γ e Se) (hz : ds.length < 100000) (hN : X.N[i]? = some x := by rfl) (hv : Vis X.env.scope x := by first | exact Or.inl rfl | exact Or.inr (Or.inl rfl) | exact Or.inr (Or.inr rfl))
    (hd : (x == ("__debug__" : Str)) = false := by decide) (hcd : (x == ("__classdict__" : Str)) = false := by decide) (hst : starEach [e] X.env = (false, eval e X.env) :: starEach [] X.env := by rfl) (hpe : L2.PE X (.Call (.Attribute (.Name x px) "append" pa) [e] [] p) (tBM X.K "list" rAppend (tVar i) (tCons (E X e) tNil)) := by exact pe_bm PySem.F.plainAttrs_list PySem.F.slot_list_append PySem.F.type_list_append mt_append (pv _) (pa_cons pe_E pa_nil))
    (hs : swapsWith (.Call (.Attribute (.Name x px) "append" pa) [e] [] p) none pos.line X.env = pure false := by rfl) : B1 X B Γ (.Expr (.Call (.Attribute (.Name x px) "append" pa) [e] [] p) pos) (fun G => ∃ d, Se d ∧ G = Γ.set i (.own (Lst (ds ++ [d])))) S := fun σ Hf H s D n r => by
  obtain ⟨m, q, o, h1, h2, h3, h4, h5, vs, rfl, h6⟩ := s.own i _ hi
  refine S1.of (ps_expr hpe hs) ⟨.ref q, h1, .inl ⟨rfl, _, .inl (.inl h2)⟩, he σ Hf H s _ fun v d Hf1 H1 hd e1 s1 dq => ?_⟩
  have g2 : H1 q = some (.lst vs) := e1.keep q _ h5 h2
  have hl := h6.length
  refine ⟨q, vs, v, rfl, rfl, g2, Evl.sz_lt (by omega), n _ ⟨d, hd, rfl⟩ σ Hf1 _ (s1.write lst_mono hi h1 ⟨_, rfl, (dqAll_mono e1.ff _ _ h6).append (.one dq)⟩) e1.ff⟩
theorem b1_ext {SL : List PyData → Prop} (i : Nat) {x : Str} {px pa : Pos} (hi : Γ[i]? = some (.own (Lst ds))) (he : PL X B Γ e SL) (hz : ∀ es, SL es → ds.length + es.length ≤ 100000) (hN : X.N[i]? = some x := by rfl) (hv : Vis X.env.scope x := by first | exact Or.inl rfl | exact Or.inr (Or.inl rfl) | exact Or.inr (Or.inr rfl))
    (hd : (x == ("__debug__" : Str)) = false := by decide) (hcd : (x == ("__classdict__" : Str)) = false := by decide) (hst : starEach [e] X.env = (false, eval e X.env) :: starEach [] X.env := by rfl) (hpe : L2.PE X (.Call (.Attribute (.Name x px) "extend" pa) [e] [] p) (tBM X.K "list" rExtend (tVar i) (tCons (E X e) tNil)) := by exact pe_bm PySem.F.plainAttrs_list PySem.F.slot_list_extend PySem.F.type_list_extend mt_extend (pv _) (pa_cons pe_E pa_nil))
    (hs : swapsWith (.Call (.Attribute (.Name x px) "extend" pa) [e] [] p) none pos.line X.env = pure false := by rfl) : B1 X B Γ (.Expr (.Call (.Attribute (.Name x px) "extend" pa) [e] [] p) pos) (fun G => ∃ es, SL es ∧ G = Γ.set i (.own (Lst (ds ++ es)))) S := fun σ Hf H s D n r => by
  obtain ⟨m, q, o, h1, h2, h3, h4, h5, vs, rfl, h6⟩ := s.own i _ hi
  refine S1.of (ps_expr hpe hs) ⟨.ref q, h1, .inl ⟨rfl, _, .inl (.inl h2)⟩, he σ Hf H s _ fun p2 ws es Hf1 H1 hd h0 e1 s1 k1 k2 dq => ?_⟩
  have g2 : H1 q = some (.lst vs) := e1.keep q _ h5 h2
  have hl := h6.length
  have hl2 := dq.length
  have hzz := hz es hd
  refine ⟨q, p2, vs, ws, rfl, rfl, g2, k1, Evl.sz_of (by omega), n _ ⟨es, hd, rfl⟩ σ Hf1 _ (s1.write lst_mono hi h1 ⟨_, rfl, (dqAll_mono e1.ff _ _ h6).append dq⟩) e1.ff⟩
theorem bd_app (i : Nat) {x : Str} {px pa : Pos} (hi : Γ[i]? = some (.own (Lst ds))) (he : PD X B Γ e d) (hz : ds.length < 100000) (h : BD X B (Γ.set i (.own (Lst (ds ++ [d])))) rest N S) (hN : X.N[i]? = some x := by rfl) (hv : Vis X.env.scope x := by first | exact Or.inl rfl | exact Or.inr (Or.inl rfl) | exact Or.inr (Or.inr rfl))
    (hd : (x == ("__debug__" : Str)) = false := by decide) (hcd : (x == ("__classdict__" : Str)) = false := by decide) (hst : starEach [e] X.env = (false, eval e X.env) :: starEach [] X.env := by rfl) (hpe : L2.PE X (.Call (.Attribute (.Name x px) "append" pa) [e] [] p) (tBM X.K "list" rAppend (tVar i) (tCons (E X e) tNil)) := by exact pe_bm PySem.F.plainAttrs_list PySem.F.slot_list_append PySem.F.type_list_append mt_append (pv _) (pa_cons pe_E pa_nil))
    (hs : swapsWith (.Call (.Attribute (.Name x px) "append" pa) [e] [] p) none pos.line X.env = pure false := by rfl) : BD X B Γ (.Expr (.Call (.Attribute (.Name x px) "append" pa) [e] [] p) pos :: rest) N S :=
  bd_cons (b1_app i hi he hz hN hv hd hcd hst hpe hs) fun G ⟨d', h1, h2⟩ => by rw [h2, h1]; exact h
theorem bd_expr {Se : PyData → Prop} (he : PN X B Γ e Se) (h : BD X B Γ rest N S) (hs : swapsWith e none pos.line X.env = pure false := by rfl) : BD X B Γ (.Expr e pos :: rest) N S := bd_cons (b1_expr he hs) fun G g => by rw [g]; exact h
/-- found[j] = e -/
theorem b1_put {Se : PyData → Prop} {j : Int} {m : Nat} (i : Nat) {x : Str} {px ps : Pos} {ix : Expr} (hi : Γ[i]? = some (.own (Lst ds))) (hj : PD X B Γ ix (.int j)) (he : PN X B Γ e Se) (hix : ixN ds.length j = some m) (hN : X.N[i]? = some x := by rfl) (hv : Vis X.env.scope x := by first | exact Or.inl rfl | exact Or.inr (Or.inl rfl) | exact Or.inr (Or.inr rfl))
    (hd : (x == ("__debug__" : Str)) = false := by decide) (hcd : (x == ("__classdict__" : Str)) = false := by decide)
    (ha : ∀ v, assign (.Subscript (.Name x px) ix ps) X.env v = (do
      let ov ← holding [v] (eval (.Name x px) X.env)
      let iv ← holding [v, ov] (eval ix X.env)
      standAt ps
      holding [v, ov, iv] (setItem ov iv v)
      release [v, ov, iv] []) := by intro _; rfl)
    (hs : swapsWithSole [.Subscript (.Name x px) ix ps] e pos.line X.env = pure false := by rfl) (hw : swappedStores [.Subscript (.Name x px) ix ps] e X.env = pure none := by rfl)
    (h1 : (assignEach [.Subscript (.Name x px) ix ps] X.env).map (·.2) = [assign (.Subscript (.Name x px) ix ps) X.env] := by rfl) : B1 X B Γ (.Assign [.Subscript (.Name x px) ix ps] e pos) (fun G => ∃ d, Se d ∧ G = Γ.set i (.own (Lst (ds.set m d)))) S := fun σ Hf H s D n r => by
  obtain ⟨mm, q, o, k1, k2, k3, k4, k5, vs, rfl, k6⟩ := s.own i _ hi
  refine S1.of (ps_asg pe_E (pg_sub (pe_var hN hv hd hcd) pe_E set_list ha) hs hw h1) (he σ Hf H s _ fun v d Hf1 H1 hd e1 s1 dq => ?_)
  refine ⟨.ref q, k1, hj σ Hf1 H1 s1 _ fun v2 d2 Hf2 H2 hd2 e2 s2 dq2 => ?_⟩
  subst hd2; cases dq2
  have e12 := e1.trans e2
  refine ⟨q, vs, j, m, rfl, rfl, e12.keep q _ k5 k2, by rw [k6.length]; exact hix, n _ ⟨d, hd, rfl⟩ σ Hf2 _ (s2.write lst_mono hi k1 ⟨_, rfl, (dqAll_mono e12.ff _ _ k6).set m (dq_mono e2.ff _ _ dq)⟩) e12.ff⟩
/-- found[j], found in slot i a list of our own -/
theorem pd_ixO {j : Int} (i : Nat) {x : Str} {px ps : Pos} (hi : Γ[i]? = some (.own (Lst ds))) (hb : PD X B Γ b (.int j)) (h : atI ds j = some d) (hN : X.N[i]? = some x := by rfl) (hv : Vis X.env.scope x := by first | exact Or.inl rfl | exact Or.inr (Or.inl rfl) | exact Or.inr (Or.inr rfl))
    (hd : (x == ("__debug__" : Str)) = false := by decide) (hcd : (x == ("__classdict__" : Str)) = false := by decide) (hs : PlainIx b := by exact fun _ _ => rfl) : PD X B Γ (.Subscript (.Name x px) b ps) d := fun σ Hf H s Q q => by
  obtain ⟨m, l, o, h1, h2, h3, h4, h5, vs, rfl, h6⟩ := s.own i _ hi
  refine E.of (pe_ix ix_list (pe_var hN hv hd hcd) pe_E hs) ⟨.ref l, h1, hb σ Hf H s _ fun v d2 Hf1 H1 hd2 e1 s1 dq => ?_⟩
  subst hd2; cases dq
  have hl := h6.length
  unfold atI at h
  cases k : ixN ds.length j with
  | none => rw [k] at h; cases h
  | some n =>
    rw [k] at h
    obtain ⟨v, g1, g2⟩ := h6.get (show ds[n]? = some d from h)
    refine ⟨l, vs, j, v, rfl, rfl, SqL.of (e1.keep l _ h5 h2), ?_, q _ _ Hf1 H1 rfl e1 s1 (dq_mono e1.ff _ _ g2)⟩
    unfold atI
    rw [hl, k]
    exact g1
/-- o[i] of a list, by values, i not below nought -/
def rGetL (K : PySem.W.Frag) : R2 := fun x y H Q => ∃ (p : Addr) (xs : List V) (i : Int) (v : V), x = .ref p ∧ y = .int i ∧ SqL K H p xs ∧ 0 ≤ i ∧ atI xs i = some v ∧ Q v H
theorem get_list : PGet X (rGetL X.K) := by
  intro pins s σ H x y v u Q I rx ry h
  obtain ⟨p, xs, i, z, rfl, rfl, hq, h0, he, q⟩ := h
  cases rx
  obtain ⟨t, rfl⟩ := ry
  obtain ⟨its, r, pl, hz⟩ := I.list hq
  obtain ⟨j, h1, h2, h3, h4, h5⟩ := atI_get he
  obtain ⟨w, ew, rw'⟩ := r.get h2
  have hl := r.length
  have hn := line63
  have fin : EP X pins σ Q w s := ⟨z, H, I, rw', q⟩
  have hj : i.toNat = j := by
    rw [seqIndex_of h0 h5] at h1
    exact Option.some.inj h1
  exact wpAny_getItem_list pl.isList h0 (by omega) (by rw [hj]; simpa using ew) fin
/-- found[j] op= e -/
theorem b1_augS {op : Operator} {r : R2} {Se Sz : PyData → Prop} {j : Int} {m : Nat} {d0 : PyData} (i : Nat) {x : Str} {px ps : Pos} {ix : Expr} (hi : Γ[i]? = some (.own (Lst ds))) (hj : PD X B Γ ix (.int j)) (ho : OpR X (inplaceOp op) r) (he : PN X B Γ e Se) (hj0 : 0 ≤ j) (hix : ixN ds.length j = some m) (h0 : ds[m]? = some d0) (hr : ∀ db, Se db → RO r d0 db Sz) (hN : X.N[i]? = some x := by rfl) (hv : Vis X.env.scope x := by first | exact Or.inl rfl | exact Or.inr (Or.inl rfl) | exact Or.inr (Or.inr rfl))
    (hd : (x == ("__debug__" : Str)) = false := by decide) (hcd : (x == ("__classdict__" : Str)) = false := by decide)
    (ha : ∀ ov iv new, augStore ix ov iv new = (do holding [new, ov, iv] (setItem ov iv new); release [new, ov, iv] []; pure .next) := by intros; rfl) : B1 X B Γ (.AugAssign (.Subscript (.Name x px) ix ps) op e pos) (fun G => ∃ d, Sz d ∧ G = Γ.set i (.own (Lst (ds.set m d)))) S := fun σ Hf H s D n rt => by
  obtain ⟨mm, q, o, k1, k2, k3, k4, k5, vs, rfl, k6⟩ := s.own i _ hi
  refine S1.of (ps_augS (pe_var hN hv hd hcd) pe_E (tget := rGetL X.K) get_list pe_E (tip := r) ho set_list ha) ⟨.ref q, k1, hj σ Hf H s _ fun v2 d2 Hf1 H1 hd2 e1 s1 dq2 => ?_⟩
  subst hd2; cases dq2
  have hl := k6.length
  obtain ⟨v0, g1, g2⟩ := k6.get h0
  refine ⟨q, vs, j, v0, rfl, rfl, SqL.of (e1.keep q _ k5 k2), hj0, ?_, he σ Hf1 H1 s1 _ fun v d Hf2 H2 hdd e2 s2 dq => ?_⟩
  · unfold atI
    rw [hl, hix]
    exact g1
  have e12 := e1.trans e2
  refine hr d hdd v0 v Hf2 H2 s2.sub (dq_mono e12.ff _ _ g2) dq _ fun v3 d3 Hf3 H3 hd3 e3 dq3 => ?_
  have e123 := e12.trans e3.wk
  refine ⟨q, vs, j, m, rfl, rfl, e123.keep q _ k5 k2, by rw [hl]; exact hix, n _ ⟨d3, hd3, rfl⟩ σ Hf3 _ ((s2.next0 e3).write lst_mono hi k1 ⟨_, rfl, (dqAll_mono e123.ff _ _ k6).set m dq3⟩) e123.ff⟩
/-! ### if, for -/
theorem b1_if {k : Bool} {A Bb : List Stmt} (hc : PTD X B Γ c k) (ha : k = true → BD X B Γ A N S) (hb : k = false → BD X B Γ Bb N S) : B1 X B Γ (.If c A Bb pos) N S := fun σ Hf H s D n r =>
  S1.of (ps_if pt_T pss_S pss_S) (hc σ Hf H s _ fun z Hf1 H1 hz e1 s1 => by
    subst hz
    cases z with
    | true => exact ha rfl σ Hf1 H1 s1 D (fun G g σ' Hf' H' s' e => n G g σ' Hf' H' s' (e1.ff.trans e)) r
    | false => exact hb rfl σ Hf1 H1 s1 D (fun G g σ' Hf' H' s' e => n G g σ' Hf' H' s' (e1.ff.trans e)) r)
theorem b1_ifN {Sk : Bool → Prop} {A Bb : List Stmt} (hc : PT X B Γ c Sk) (ha : Sk true → BD X B Γ A N S) (hb : Sk false → BD X B Γ Bb N S) : B1 X B Γ (.If c A Bb pos) N S := fun σ Hf H s D n r =>
  S1.of (ps_if pt_T pss_S pss_S) (hc σ Hf H s _ fun z Hf1 H1 hz e1 s1 => by
    cases z with
    | true => exact ha hz σ Hf1 H1 s1 D (fun G g σ' Hf' H' s' e => n G g σ' Hf' H' s' (e1.ff.trans e)) r
    | false => exact hb hz σ Hf1 H1 s1 D (fun G g σ' Hf' H' s' e => n G g σ' Hf' H' s' (e1.ff.trans e)) r)
/-- if c: A, no else, c is False -/
theorem bd_ifF {A : List Stmt} (hc : PTD X B Γ c false) (h : BD X B Γ rest N S) : BD X B Γ (.If c A [] pos :: rest) N S :=
  bd_cons (M := fun G => G = Γ) (b1_if hc (fun z => nomatch z) fun _ => bd_end rfl) fun G g => by rw [g]; exact h
theorem bd_ifT {A Bb : List Stmt} (hc : PTD X B Γ c true) (h : BD X B Γ A M S) (h2 : ∀ G, M G → BD X B G rest N S) : BD X B Γ (.If c A Bb pos :: rest) N S :=
  bd_cons (b1_if hc (fun _ => h) fun z => nomatch z) h2
theorem b1_for {iter : Expr} {SL : List PyData → Prop} {g : TG} {vs : List Nat} {Gs : List PyData → Nat → List Slot → Prop} {Gi : List Slot → PyData → List Slot} (hc : X.calm = true) (hp : PassesOwn (model X.prog X.w) X.A X.env X.xe) (src : Src X B Γ tg iter SL) (hg : PG X tg g)
    (h0 : ∀ ds, SL ds → Gs ds 0 Γ)
    (hb : ∀ (ds : List PyData) (i : Nat) (d : PyData) (G : List Slot), SL ds → ds[i]? = some d → Gs ds i G → Tg g d G (Gi G d) B vs)
    (hs : ∀ (ds : List PyData) (i : Nat) (d : PyData) (G : List Slot), SL ds → ds[i]? = some d → Gs ds i G → BD X B (Gi G d) body (Gs ds (i + 1)) S)
    (hfs : ∀ x, foldedSetIterable iter X.env x = pure x := by intro _; rfl) : B1 X B Γ (.For tg iter body [] pos) (fun G => ∃ ds, SL ds ∧ Gs ds ds.length G) S := fun σ Hf H s D n r => by
  obtain ⟨wi, hi, hw⟩ := src
  refine S1.of (ps_for hp hc hi hg pss_S hfs) (hw σ Hf H s _ fun J ds Hf1 H1 hds e1 s1 W => ?_)
  refine for_it (g := g) (tb := Ss X body) (D := D) W (fun i σ' H' => ∃ G Hf', Gs ds i G ∧ SA B G σ' Hf' H' ∧ Same Hf1 Hf') ⟨Γ, Hf1, h0 ds hds, s1, Same.refl _⟩ (fun i σ' H' _ ⟨G, Hf', g1, g2, g3⟩ => g3.trans g2.sub) (fun i x σ' H' H'' hlt ⟨G, Hf', g1, g2, g3⟩ y => ?_) (fun σ' H' ⟨G, Hf', g1, g2, g3⟩ => n G ⟨ds, hds, g1⟩ σ' Hf' H' g2 (e1.ff.trans g3))
  obtain ⟨Hf2, d, e2, hd, dx⟩ := y Hf' g3 g2.sub
  refine hb ds i d G hds hd g1 σ' Hf2 H'' x (g2.next0 e2) dx _ fun σ2 _ s3 => ?_
  exact hs ds i d G hds hd g1 σ2 Hf2 H'' s3 { D with nx := fun σ' H' => ∃ G Hf', Gs ds (i + 1) G ∧ SA B G σ' Hf' H' ∧ Same Hf1 Hf', ct := fun σ' H' => ∃ G Hf', Gs ds (i + 1) G ∧ SA B G σ' Hf' H' ∧ Same Hf1 Hf', bk := D.nx } (fun G' g' σ3 Hf3 H3 s4 e3 => ⟨G', Hf3, g', s4, g3.trans (e2.ff.trans e3)⟩) r
/-- det: one target name, the slots at each turn told -/
theorem bd_for1 {α : Type} {iter : Expr} {k : Nat} {as : List α} {enc : α → PyData} {G : Nat → List Slot} (hc : X.calm = true) (hp : PassesOwn (model X.prog X.w) X.A X.env X.xe) (src : SrcD X B Γ tg iter (as.map enc)) (hg : PG X tg (gName k))
    (h0 : le (G 0) Γ) (hs : ∀ (i : Nat) (a : α), as[i]? = some a → BD X B ((G i).set k (.dat (enc a))) body (fun Z => le (G (i + 1)) Z) S) (hd : BD X B (G as.length) rest N S)
    (hfs : ∀ x, foldedSetIterable iter X.env x = pure x := by intro _; rfl) : BD X B Γ (.For tg iter body [] pos :: rest) N S := by
  refine bd_cons (b1_for (vs := [k]) (Gs := fun _ i Z => le (G i) Z) (Gi := fun Z d => Z.set k (.dat d)) hc hp src hg (fun ds h => h0) (fun ds i d Z h h1 h2 => tg_name (by simp)) (fun ds i d Z h h1 h2 => ?_) hfs) fun Z ⟨ds, h1, h2⟩ => ?_
  · subst h
    rw [List.getElem?_map] at h1
    cases q : as[i]? with
    | none => rw [q] at h1; cases h1
    | some a =>
      rw [q] at h1
      have e := Option.some.inj h1
      subst e
      exact (hs i a q).weak (le_set h2)
  · subst h1
    rw [List.length_map] at h2
    exact hd.weak h2
where
  le_set : ∀ {a b : List Slot} {k : Nat} {x : Slot}, le a b → le (a.set k x) (b.set k x)
    | [], [], _, _, h => h
    | _ :: _, _ :: _, 0, _, h => ⟨.inr rfl, h.2⟩
    | _ :: _, _ :: _, _ + 1, _, h => ⟨h.1, le_set h.2⟩
    | [], _ :: _, _, _, h => h.elim
    | _ :: _, [], _, _, h => h.elim
/-- .. two target names -/
theorem bd_for2 {α : Type} {iter : Expr} {j k : Nat} {as : List α} {e1 e2 : α → PyData} {G : Nat → List Slot} (hc : X.calm = true) (hp : PassesOwn (model X.prog X.w) X.A X.env X.xe) (src : SrcD X B Γ tg iter (as.map fun a => .tuple [e1 a, e2 a])) (hg : PG X tg (gTup X.K 2 (gCons (gName j) (gCons (gName k) gNil))))
    (h0 : le (G 0) Γ) (hs : ∀ (i : Nat) (a : α), as[i]? = some a → BD X B (((G i).set j (.dat (e1 a))).set k (.dat (e2 a))) body (fun Z => le (G (i + 1)) Z) S) (hd : BD X B (G as.length) rest N S)
    (hfs : ∀ x, foldedSetIterable iter X.env x = pure x := by intro _; rfl) : BD X B Γ (.For tg iter body [] pos :: rest) N S := by
  refine bd_cons (b1_for (vs := [j, k]) (Gs := fun _ i Z => le (G i) Z) (Gi := fun Z d => match d with | .tuple [d1, d2] => (Z.set j (.dat d1)).set k (.dat d2) | _ => Z) hc hp src hg (fun ds h => h0) (fun ds i d Z h h1 h2 => ?_) (fun ds i d Z h h1 h2 => ?_) hfs) fun Z ⟨ds, h1, h2⟩ => ?_
  · subst h
    rw [List.getElem?_map] at h1
    cases q : as[i]? with
    | none => rw [q] at h1; cases h1
    | some a =>
      rw [q] at h1
      have e := Option.some.inj h1
      subst e
      exact tg_pair (by simp) (by simp)
  · subst h
    rw [List.getElem?_map] at h1
    cases q : as[i]? with
    | none => rw [q] at h1; cases h1
    | some a =>
      rw [q] at h1
      have e := Option.some.inj h1
      subst e
      exact (hs i a q).weak (bd_for1.le_set (bd_for1.le_set h2))
  · subst h1
    rw [List.length_map] at h2
    exact hd.weak h2
end

/-! ### comprehensions in use -/
section
variable {X : Cx} {B : Bs} {Γ Γ' : List Slot} {e a b c : Expr} {es : List Expr} {p pos : Pos} {d da db : PyData} {ds : List PyData} {tg : Expr} {iter elt : Expr} {scope : Scope} {ifs : List Expr}
theorem comp1 {α : Type} (x : Str) (k : Nat) {as : List α} {enc : α → PyData} {f : α → PyData}
    (hc : X.calm = true) (hN : X.N.Nodup) (src : SrcD X B Γ tg iter (as.map enc)) (ok : BlkOk X.N X.env.scope scope [(x, k)])
    (hg : ∀ (s : Shared) (H : Hp) (C : Addr) (cl : List (Str × Addr)) (fp : List Addr), PG (X.blk s H scope (compEnvC scope cl C X.env) fp) tg (gName k))
    (hz : as.length ≤ 100000)
    (he : ∀ a, a ∈ as → ∀ (s : Shared) (H : Hp) (C : Addr) (cl : List (Str × Addr)) (fp : List Addr), PD (X.blk s H scope (compEnvC scope cl C X.env) fp) B (Γ.set k (.dat (enc a))) elt (f a))
    (hfs : ∀ x, foldedSetIterable iter X.env x = pure x := by intro _; rfl) : CompOk X B Γ elt tg iter [] scope (fun z => z = as.map f) :=
  (comp1g (pr := fun _ => true) hc hN src ok hg hz (fun a ha s H C cl fp => pq_nil) (fun a ha _ => he a ha) hfs).mono fun ds h => by rw [h, filter_yes]
theorem comp1f {α : Type} (x : Str) (k : Nat) {as : List α} {enc : α → PyData} {f : α → PyData} (pr : α → Bool)
    (hc : X.calm = true) (hN : X.N.Nodup) (src : SrcD X B Γ tg iter (as.map enc)) (ok : BlkOk X.N X.env.scope scope [(x, k)])
    (hg : ∀ (s : Shared) (H : Hp) (C : Addr) (cl : List (Str × Addr)) (fp : List Addr), PG (X.blk s H scope (compEnvC scope cl C X.env) fp) tg (gName k))
    (hz : as.length ≤ 100000)
    (ht : ∀ a, a ∈ as → ∀ (s : Shared) (H : Hp) (C : Addr) (cl : List (Str × Addr)) (fp : List Addr), PTD (X.blk s H scope (compEnvC scope cl C X.env) fp) B (Γ.set k (.dat (enc a))) c (pr a))
    (he : ∀ a, a ∈ as → pr a = true → ∀ (s : Shared) (H : Hp) (C : Addr) (cl : List (Str × Addr)) (fp : List Addr), PD (X.blk s H scope (compEnvC scope cl C X.env) fp) B (Γ.set k (.dat (enc a))) elt (f a))
    (hfs : ∀ x, foldedSetIterable iter X.env x = pure x := by intro _; rfl) : CompOk X B Γ elt tg iter [c] scope (fun z => z = (as.filter pr).map f) :=
  comp1g hc hN src ok hg hz (fun a ha s H C cl fp => pq_one (ht a ha s H C cl fp)) he hfs
theorem comp2 {α : Type} (x y : Str) (j k : Nat) {as : List α} {e1 e2 : α → PyData} {f : α → PyData}
    (hc : X.calm = true) (hN : X.N.Nodup) (src : SrcD X B Γ tg iter (as.map fun a => .tuple [e1 a, e2 a])) (ok : BlkOk X.N X.env.scope scope [(x, j), (y, k)]) (hjk : j ≠ k)
    (hg : ∀ (s : Shared) (H : Hp) (C : Addr) (cl : List (Str × Addr)) (fp : List Addr), PG (X.blk s H scope (compEnvC scope cl C X.env) fp) tg (gTup X.K 2 (gCons (gName j) (gCons (gName k) gNil))))
    (hz : as.length ≤ 100000)
    (he : ∀ a, a ∈ as → ∀ (s : Shared) (H : Hp) (C : Addr) (cl : List (Str × Addr)) (fp : List Addr), PD (X.blk s H scope (compEnvC scope cl C X.env) fp) B ((Γ.set j (.dat (e1 a))).set k (.dat (e2 a))) elt (f a))
    (hfs : ∀ x, foldedSetIterable iter X.env x = pure x := by intro _; rfl) : CompOk X B Γ elt tg iter [] scope (fun z => z = as.map f) :=
  (comp2g (pr := fun _ => true) hc hN src ok hjk hg hz (fun a ha s H C cl fp => pq_nil) (fun a ha _ => he a ha) hfs).mono fun ds h => by rw [h, filter_yes]
theorem comp2f {α : Type} (x y : Str) (j k : Nat) {as : List α} {e1 e2 : α → PyData} {f : α → PyData} (pr : α → Bool)
    (hc : X.calm = true) (hN : X.N.Nodup) (src : SrcD X B Γ tg iter (as.map fun a => .tuple [e1 a, e2 a])) (ok : BlkOk X.N X.env.scope scope [(x, j), (y, k)]) (hjk : j ≠ k)
    (hg : ∀ (s : Shared) (H : Hp) (C : Addr) (cl : List (Str × Addr)) (fp : List Addr), PG (X.blk s H scope (compEnvC scope cl C X.env) fp) tg (gTup X.K 2 (gCons (gName j) (gCons (gName k) gNil))))
    (hz : as.length ≤ 100000)
    (ht : ∀ a, a ∈ as → ∀ (s : Shared) (H : Hp) (C : Addr) (cl : List (Str × Addr)) (fp : List Addr), PTD (X.blk s H scope (compEnvC scope cl C X.env) fp) B ((Γ.set j (.dat (e1 a))).set k (.dat (e2 a))) c (pr a))
    (he : ∀ a, a ∈ as → pr a = true → ∀ (s : Shared) (H : Hp) (C : Addr) (cl : List (Str × Addr)) (fp : List Addr), PD (X.blk s H scope (compEnvC scope cl C X.env) fp) B ((Γ.set j (.dat (e1 a))).set k (.dat (e2 a))) elt (f a))
    (hfs : ∀ x, foldedSetIterable iter X.env x = pure x := by intro _; rfl) : CompOk X B Γ elt tg iter [c] scope (fun z => z = (as.filter pr).map f) :=
  comp2g hc hN src ok hjk hg hz (fun a ha s H C cl fp => pq_one (ht a ha s H C cl fp)) he hfs
theorem CompOk.pd (h : CompOk X B Γ elt tg iter ifs scope (fun z => z = ds)) : PD X B Γ (.ListComp elt [⟨tg, iter, ifs, 0⟩] scope pos) (.list ds) := PLD.pd h.pl
theorem CompOk.to {ds' : List PyData} (h : CompOk X B Γ elt tg iter ifs scope (fun z => z = ds)) (e : ds = ds') : CompOk X B Γ elt tg iter ifs scope (fun z => z = ds') := e ▸ h
theorem pd_allC {α : Type} {as : List α} {g : α → Bool} (hm : X.mg "all" = none) (hc : X.calm = true) (h : CompOk X B Γ elt tg iter ifs scope (fun z => z = as.map fun a => .bool (g a))) (hg : Gl X "all" := by rfl) (he : starEach [.ListComp elt [⟨tg, iter, ifs, 0⟩] scope pos] X.env = (false, eval (.ListComp elt [⟨tg, iter, ifs, 0⟩] scope pos) X.env) :: starEach [] X.env := by rfl) {p2 : Pos} :
    PD X B Γ (.Call (.Name "all" p) [.ListComp elt [⟨tg, iter, ifs, 0⟩] scope pos] [] p2) (.bool (as.all g)) := by
  have h2 : PD X B Γ (.ListComp elt [⟨tg, iter, ifs, 0⟩] scope pos) (.list ((as.map g).map .bool)) := by
    rw [List.map_map]; exact h.pd
  exact (pd_all hm hc h2 hg he).eq (by rw [List.all_map]; rfl)
theorem pd_anyC {α : Type} {as : List α} {g : α → Bool} (hm : X.mg "any" = none) (hc : X.calm = true) (h : CompOk X B Γ elt tg iter ifs scope (fun z => z = as.map fun a => .bool (g a))) (hg : Gl X "any" := by rfl) (he : starEach [.ListComp elt [⟨tg, iter, ifs, 0⟩] scope pos] X.env = (false, eval (.ListComp elt [⟨tg, iter, ifs, 0⟩] scope pos) X.env) :: starEach [] X.env := by rfl) {p2 : Pos} :
    PD X B Γ (.Call (.Name "any" p) [.ListComp elt [⟨tg, iter, ifs, 0⟩] scope pos] [] p2) (.bool (as.any g)) := by
  have h2 : PD X B Γ (.ListComp elt [⟨tg, iter, ifs, 0⟩] scope pos) (.list ((as.map g).map .bool)) := by
    rw [List.map_map]; exact h.pd
  exact (pd_any hm hc h2 hg he).eq (by rw [List.any_map]; rfl)
theorem pd_sumC {α : Type} {as : List α} {g : α → Int} (hm : X.mg "sum" = none) (hc : X.calm = true) (h : CompOk X B Γ elt tg iter ifs scope (fun z => z = as.map fun a => .int (g a))) (hg : Gl X "sum" := by rfl) (he : starEach [.ListComp elt [⟨tg, iter, ifs, 0⟩] scope pos] X.env = (false, eval (.ListComp elt [⟨tg, iter, ifs, 0⟩] scope pos) X.env) :: starEach [] X.env := by rfl) {p2 : Pos} :
    PD X B Γ (.Call (.Name "sum" p) [.ListComp elt [⟨tg, iter, ifs, 0⟩] scope pos] [] p2) (.int (as.map g).sum) := by
  have h2 : PD X B Γ (.ListComp elt [⟨tg, iter, ifs, 0⟩] scope pos) (.list ((as.map g).map .int)) := by
    rw [List.map_map]; exact h.pd
  exact pd_sum hm hc h2 hg he
theorem zipD_map {α β : Type} (xs : List α) (ys : List β) (f : α → PyData) (g : β → PyData) : zipD (xs.map f) (ys.map g) = (xs.zip ys).map fun a => .tuple [f a.1, g a.2] := by
  unfold zipD
  rw [List.zipWith_map, List.zip_eq_zipWith, List.map_zipWith]
theorem enumD_map {α : Type} (xs : List α) (f : α → PyData) : enumD (xs.map f) = (xs.mapIdx fun k x => (((k : Nat) : Int), x)).map fun a => .tuple [.int a.1, f a.2] := by
  unfold enumD
  apply List.ext_getElem?
  intro i
  simp only [List.getElem?_mapIdx, List.getElem?_map]
  cases xs[i]? <;> rfl
theorem src_zipTm {α β : Type} {xs : List α} {ys : List β} {f : α → PyData} {g : β → PyData} {elts : List Expr} {kk : Nat} {tpos : Pos} (hm : X.mg "zip" = none) (ha : PD X B Γ a (.tuple (xs.map f))) (hb : PD X B Γ b (.tuple (ys.map g))) (hl : xs.length = ys.length) (hg : Gl X "zip" := by rfl)
    (hs : starEach [a, b] X.env = (false, eval a X.env) :: starEach [b] X.env := by rfl) (hs2 : starEach [b] X.env = (false, eval b X.env) :: starEach [] X.env := by rfl) (hpl : (backTo pos (starEach [b] X.env)).any (·.1) = false := by rfl) :
    SrcD X B Γ (.Tuple elts kk tpos) (.Call (.Name "zip" p) [a, b] [] pos) ((xs.zip ys).map fun a => .tuple [f a.1, g a.2]) := by
  rw [← zipD_map]
  exact src_zipT hm ha hb (by simp [hl]) hg hs hs2 hpl
theorem src_zipMm {α β : Type} {xs : List α} {ys : List β} {f : α → PyData} {g : β → PyData} {elts : List Expr} {kk : Nat} {tpos : Pos} (hm : X.mg "zip" = none) (ha : PD X B Γ a (.list (xs.map f))) (hb : PD X B Γ b (.tuple (ys.map g))) (hl : xs.length = ys.length) (hg : Gl X "zip" := by rfl)
    (hs : starEach [a, b] X.env = (false, eval a X.env) :: starEach [b] X.env := by rfl) (hs2 : starEach [b] X.env = (false, eval b X.env) :: starEach [] X.env := by rfl) (hpl : (backTo pos (starEach [b] X.env)).any (·.1) = false := by rfl) :
    SrcD X B Γ (.Tuple elts kk tpos) (.Call (.Name "zip" p) [a, b] [] pos) ((xs.zip ys).map fun a => .tuple [f a.1, g a.2]) := by
  rw [← zipD_map]
  exact src_zipM hm ha hb (by simp [hl]) hg hs hs2 hpl
theorem src_enumTm {α : Type} {xs : List α} {f : α → PyData} {elts : List Expr} {kk : Nat} {tpos : Pos} (hm : X.mg "enumerate" = none) (h : PD X B Γ e (.tuple (xs.map f))) (hg : Gl X "enumerate" := by rfl) (he : starEach [e] X.env = (false, eval e X.env) :: starEach [] X.env := by rfl) (hs : starEach [e] X.env = [(false, eval e X.env)] := by rfl) :
    SrcD X B Γ (.Tuple elts kk tpos) (.Call (.Name "enumerate" p) [e] [] pos) ((xs.mapIdx fun k x => (((k : Nat) : Int), x)).map fun a => .tuple [.int a.1, f a.2]) := by
  rw [← enumD_map]
  exact src_enumT hm h hg he hs
theorem src_enumLm {α : Type} {xs : List α} {f : α → PyData} {elts : List Expr} {kk : Nat} {tpos : Pos} (hm : X.mg "enumerate" = none) (h : PD X B Γ e (.list (xs.map f))) (hg : Gl X "enumerate" := by rfl) (he : starEach [e] X.env = (false, eval e X.env) :: starEach [] X.env := by rfl) (hs : starEach [e] X.env = [(false, eval e X.env)] := by rfl) :
    SrcD X B Γ (.Tuple elts kk tpos) (.Call (.Name "enumerate" p) [e] [] pos) ((xs.mapIdx fun k x => (((k : Nat) : Int), x)).map fun a => .tuple [.int a.1, f a.2]) := by
  rw [← enumD_map]
  exact src_enumL hm h hg he hs
theorem src_rngI {i : Int} (hm : X.mg "range" = none) (h : PD X B Γ e (.int i)) (h0 : 0 ≤ i) (hb : i < 100000) (hg : Gl X "range" := by rfl) (he : starEach [e] X.env = (false, eval e X.env) :: starEach [] X.env := by rfl) (hs : starEach [e] X.env = [(false, eval e X.env)] := by rfl) : SrcD X B Γ tg (.Call (.Name "range" p) [e] [] pos) ((List.range i.toNat).map fun k => .int (k : Nat)) := by
  have e2 : i = ((i.toNat : Nat) : Int) := (Int.toNat_of_nonneg h0).symm
  exact src_rng hm (h.eq (by rw [← e2])) (by omega) hg he hs
theorem at_map {α : Type} {xs : List α} {f : α → PyData} {k : Nat} {z : α} (h : k < xs.length) : atI (xs.map f) (k : Int) = some (f (xs.getD k z)) := atI_nat (by simp [List.getD, h])
end
/-! ### defs -/
def dats (ds : List PyData) : List Slot := ds.map Slot.dat
/-- the slots at a def's entry -/
def ent (N : List Str) (ss : List Slot) : List Slot := ss ++ List.replicate (N.length - ss.length) .non
theorem start_get {N : List Str} {vs : List V} {i : Nat} {v : V} (h : vs[i]? = some v) : (L2.start N vs)[i]? = some (some v) := by
  unfold L2.start
  have hi := (List.getElem?_eq_some_iff.mp h).1
  rw [List.getElem?_append_left (by simpa using hi), List.getElem?_map, h]
  rfl
theorem ent_get {N : List Str} {ss : List Slot} {i : Nat} {x : Slot} (h : (ent N ss)[i]? = some x) (n : x ≠ .non) : ss[i]? = some x := by
  unfold ent at h
  by_cases hi : i < ss.length
  · rw [List.getElem?_append_left hi] at h; exact h
  · rw [List.getElem?_append_right (by omega), List.getElem?_replicate] at h
    split at h
    · exact absurd (Option.some.inj h).symm n
    · cases h
theorem sa_start {N : List Str} {Hf H : Hp} {vs : List V} {ds : List PyData} (e : Same Hf H) (h : DqAll Hf vs ds) : SA ⟨none, Hf, H⟩ (ent N (dats ds)) (L2.start N vs) Hf H where
  fx := FEx.refl e
  pl := fun p hp => by cases hp
  len := by simp [ent, dats, L2.start, h.length]
  dat := fun i d hd => by
    have := ent_get hd (by simp)
    unfold dats at this
    rw [List.getElem?_map] at this
    cases q : ds[i]? with
    | none => rw [q] at this; cases this
    | some d' =>
      rw [q] at this
      cases this
      obtain ⟨v, h1, h2⟩ := h.get q
      exact ⟨v, start_get h1, h2⟩
  own := fun i φ hd => by
    have := ent_get hd (by simp)
    unfold dats at this
    rw [List.getElem?_map] at this
    cases q : ds[i]? <;> rw [q] at this <;> cases this
  dis := fun i j φ ψ p _ hd => by
    have := ent_get hd (by simp)
    unfold dats at this
    rw [List.getElem?_map] at this
    cases q : ds[i]? <;> rw [q] at this <;> cases this
  pool := fun i hd => by
    have := ent_get hd (by simp)
    unfold dats at this
    rw [List.getElem?_map] at this
    cases q : ds[i]? <;> rw [q] at this <;> cases this
theorem sa_startP {N : List Str} {Hf H : Hp} {vs : List V} {ds : List PyData} {p : Addr} (e : Same Hf H) (po : PoolOk Hf H p) (h : DqAll Hf vs ds) : SA ⟨some p, Hf, H⟩ (ent N (.pool :: dats ds)) (L2.start N (.ref p :: vs)) Hf H where
  fx := FEx.refl e
  pl := fun q hq => by cases hq; exact po
  len := by simp [ent, dats, L2.start, h.length]
  dat := fun i d hd => by
    have := ent_get hd (by simp)
    cases i with
    | zero => cases this
    | succ i =>
      have g : (dats ds)[i]? = some (.dat d) := this
      unfold dats at g
      rw [List.getElem?_map] at g
      cases q : ds[i]? with
      | none => rw [q] at g; cases g
      | some d' =>
        rw [q] at g
        cases g
        obtain ⟨v, h1, h2⟩ := h.get q
        exact ⟨v, start_get (vs := .ref p :: vs) (i := i + 1) (by simpa using h1), h2⟩
  own := fun i φ hd => by
    have := ent_get hd (by simp)
    cases i with
    | zero => cases this
    | succ i =>
      have g : (dats ds)[i]? = some (.own φ) := this
      unfold dats at g
      rw [List.getElem?_map] at g
      cases q : ds[i]? <;> rw [q] at g <;> cases g
  dis := fun i j φ ψ p _ hd => by
    have := ent_get hd (by simp)
    cases i with
    | zero => cases this
    | succ i =>
      have g : (dats ds)[i]? = some (.own φ) := this
      unfold dats at g
      rw [List.getElem?_map] at g
      cases q : ds[i]? <;> rw [q] at g <;> cases g
  pool := fun i hd => by
    have := ent_get hd (by simp)
    cases i with
    | zero => exact ⟨p, rfl, start_get (vs := .ref p :: vs) (i := 0) rfl⟩
    | succ i =>
      have g : (dats ds)[i]? = some .pool := this
      unfold dats at g
      rw [List.getElem?_map] at g
      cases q : ds[i]? <;> rw [q] at g <;> cases g
section
variable {P : Program} {w : World} {K : PySem.W.Frag} {mg : Str → Option Value} {base : Heap} {x : Str} {params : Arguments} {body : List Stmt} {scope : Scope} {f : Addr} {fd : FuncData} {N ps : List Str} {k : Nat}
theorem okD {R : List PyData → PyData → Prop} (F : FunD K x x params body scope [] [] f fd) (Sc : FnScope N ps scope) (har : ∀ ds d, R ds d → ds.length = ps.length)
    (hb : ∀ (cdv : Value) (A : Around) (outer : List Env) (s : Shared) (H : Hp) (E : XK), Room k (A.deeper (envOfC x scope s.heap.objs.size f cdv)) → ∀ B : Bs, B.w = none → ∀ ds, (∃ d, R ds d) →
      BD (cxOf CX0 P w K mg base N x scope f cdv A outer s H E).nox B (ent N (dats ds)) body (fun _ => R ds .none) (R ds)) : FnOk P w K mg base CX0 (k + 1) f fd ps (spD R) := by
  refine F.ok Sc (fun vs H Q E h => ?_) (fun cdv A outer s H vs Q E hr h => ?_)
  · obtain ⟨Hf, ds, _, h2, ⟨d, h3⟩, _⟩ := h
    rw [h2.length]; exact har ds d h3
  · obtain ⟨Hf, ds, h1, h2, h3, q⟩ := h
    refine ⟨_, PSs.nox pss_S, hb cdv A outer s H E hr ⟨none, Hf, H⟩ rfl ds h3 (L2.start N vs) Hf H (sa_start h1 h2) _ (fun G g σ' Hf' H' s' e => ?_) (fun v d Hf' H' hd e _ dq => q v d Hf' H' hd e dq)⟩
    exact q .non .none Hf' H' g s'.fx .non
theorem okP {Dm : List PyData → Prop} {R : List PyData → PyData → Prop} (F : FunD K x x params body scope [] [] f fd) (Sc : FnScope N ps scope) (har : ∀ ds, Dm ds → ds.length + 1 = ps.length)
    (hb : ∀ (cdv : Value) (A : Around) (outer : List Env) (s : Shared) (H : Hp) (E : XK), Room k (A.deeper (envOfC x scope s.heap.objs.size f cdv)) → ∀ (B : Bs) (p : Addr), B.w = some p → ∀ ds, Dm ds →
      BD (cxOf CX0 P w K mg base N x scope f cdv A outer s H E).nox B (ent N (.pool :: dats ds)) body (fun _ => R ds .none) (R ds)) : FnOk P w K mg base CX0 (k + 1) f fd ps (spP Dm R) := by
  refine F.ok Sc (fun vs H Q E h => ?_) (fun cdv A outer s H vs Q E hr h => ?_)
  · obtain ⟨Hf, p, ws, ds, rfl, _, _, h2, h3, _⟩ := h
    rw [List.length_cons, h2.length]; exact har ds h3
  · obtain ⟨Hf, p, ws, ds, rfl, h1, po, h2, h3, q⟩ := h
    refine ⟨_, PSs.nox pss_S, hb cdv A outer s H E hr ⟨some p, Hf, H⟩ p rfl ds h3 (L2.start N (.ref p :: ws)) Hf H (sa_startP h1 po h2) _ (fun G g σ' Hf' H' s' e => ?_) (fun v d Hf' H' hd e pl dq => q v d Hf' H' hd e (pl p rfl) dq)⟩
    exact q .non .none Hf' H' g s'.fx (s'.pl p rfl) .non
/-- what the top left -/
structure Top (K : PySem.W.Frag) (mg : Str → Option Value) : Prop where
  says : He.SaysD fa fn K
  hp : ∃ h : Heap, K.In h ∧ h.Ns mainGlobals mg
theorem Top.glo (t : Top K mg) (i : Nat) {x : Str} (h : fa[i]? = some (.glo x) := by rfl) : mg x = some (.ref (He.ga K x)) := by
  obtain ⟨hp, h1, h2⟩ := t.hp
  exact He.glo_ok h1 h2 (t.says.fact i h)
theorem Top.free (t : Top K mg) (i : Nat) {x : Str} (h : fa[i]? = some (.free x) := by rfl) : mg x = none := by
  obtain ⟨hp, h1, h2⟩ := t.hp
  exact He.free_ok h1 h2 (t.says.fact i h)
theorem Top.int (t : Top K mg) (i : Nat) {x : Str} {j : Int} (h : fa[i]? = some (.int x j) := by rfl) : ∃ tk, mg x = some (.int j tk) := by
  obtain ⟨hp, h1, h2⟩ := t.hp
  exact He.int_ok h1 h2 (t.says.fact i h)
theorem Top.cal (t : Top K mg) (i : Nat) {sp : Sp} {st : Stmt} {j : Nat} (ok : ∀ (f : Addr) (fd : FuncData), FunD K x x (defArgs st) (defBody st) (defScope st) [] [] f fd → FnOk P w K mg base CX0 j f fd ps sp)
    (hd : fn[i]? = some ⟨(x, none), x, x, defArgs st, defBody st, defScope st, [], []⟩ := by rfl) (hg : fa[i]? = some (.glo x) := by rfl)
    (hb : ∀ (kV doc pm : Value) (an : Option Addr) (cdv ct : Value) (us : List Value), us.length = ps.length → bindArgs (PySem.W.fnOf x x (defArgs st) (defBody st) (defScope st) .none kV doc pm an cdv ct) ⟨us, []⟩ = pure (ps.zip us)) : Cal P w K mg base x j sp := by
  obtain ⟨fd, F⟩ := t.says.def_ i hd
  exact ⟨_, fd, ps, ok _ fd F, t.glo i hg, F.kp, FunD.bindsN F hb⟩
end
end OC
set_option linter.all false
/-! What the defs compute, over plain lists. -/
namespace OC
def prodI (c : List Int) : Int := c.foldl (fun a b => a * b) 1
structure ClubOk (c : List Int) : Prop where
  l1 : 1 ≤ c.length
  l4 : c.length ≤ 4
  s1 : ∀ s ∈ c, 1 ≤ s ∧ s ≤ 4
  pr : prodI c ≤ 12
def slR : List Int → Int → List Int
  | [], _ => []
  | s :: r, n => n % s :: slR r (n / s)
def slips (c : List Int) (n : Int) : List Int := (slR c.reverse n).reverse
def place (c row : List Int) : Int := (row.zip c).foldl (fun f p => f * p.2 + p.1) 0
def rowsOf (c : List Int) : List (List Int) := (List.range (prodI c).toNat).map fun n => slips c (n : Nat)
/-- the places where two rows are unlike -/
def unl (m : Nat) (a b : List Int) : List Int := ((List.range m).filter fun k => !decide (a.getD k 0 = b.getD k 0)).map fun k => ((k : Nat) : Int)
def ix {α : Type} (xs : List α) : List (Int × α) := xs.mapIdx fun k x => (((k : Nat) : Int), x)
def lineOf (c lot : List Int) (n : Int) : Int := place c ((ix (slips c n)).map fun p => if p.1 ∈ lot then 0 else p.2)
def hasSome (lot other : List Int) : Bool := lot.any fun k => decide (k ∈ other)
def meetsAll (lot : List Int) (kin : List (List Int)) : Bool := kin.all fun o => hasSome lot o
def without (lot : List Int) (k : Int) : List Int := lot.filter fun x => !decide (x = k)
def allLots : Nat → List (List Int)
  | 0 => [[]]
  | n + 1 => allLots n ++ (allLots n).map fun l => l ++ [((n : Nat) : Int)]
def isLeast (kin : List (List Int)) (lot : List Int) : Bool := meetsAll lot kin && !(lot.any fun k => meetsAll (without lot k) kin)
def leastOf (kin : List (List Int)) : List (List Int) := (allLots kin.length).filter (isLeast kin)
/-- the rows of a box, with signs -/
def cornStep (f : List (List Int × Int)) (p : Int × Int) : List (List Int × Int) := f.map (fun q => (q.1 ++ [p.1], q.2)) ++ if p.2 = p.1 then [] else f.map (fun q => (q.1 ++ [p.2], -q.2))
def corn (one other : List Int) : List (List Int × Int) := (one.zip other).foldl cornStep [([], 1)]
def at0 (t : List Int) (n : Int) : Int := t.getD n.toNat 0
def boxSum (c t : List Int) (one other : Int) : Int := ((corn (slips c one) (slips c other)).map fun q => q.2 * at0 t (place c q.1)).sum
def KinOk (m : Nat) (kin : List (List Int)) : Prop := kin.length = m ∧ ∀ lot ∈ kin, lot.Pairwise (· < ·) ∧ ∀ k ∈ lot, 0 ≤ k ∧ k < (m : Int)
def TotOk (c t : List Int) : Prop := t.length = (prodI c).toNat
def speak (row : List Int) : List Int := ((ix row).filter fun p => !decide (p.2 = 0)).map fun p => p.1
def takers (kin : List (List Int)) (lot : List Int) : List Int := ((ix kin).filter fun p => !hasSome lot p.2).map fun p => p.1
/-- a member's pass over the parts: at one row, at all -/
def passStep (c : List Int) (k : Nat) (f : List Int) (n : Nat) : List Int := if (slips c ((n : Nat) : Int)).getD k 0 = 0 then f else f.set n (f.getD n 0 - f.getD (lineOf c [((k : Nat) : Int)] ((n : Nat) : Int)).toNat 0)
def passN (c : List Int) (k : Nat) (f : List Int) : List Int := (List.range (prodI c).toNat).foldl (passStep c k) f
def partsOf (c t : List Int) : List Int := (List.range c.length).foldl (fun f k => passN c k f) t
def barred (c : List Int) (kin : List (List Int)) (ps : List Int) : List (Int × Int) := ((ix ps).filter fun p => !decide (p.2 = 0) && (takers kin (speak (slips c p.1))).isEmpty).map fun p => (((speak (slips c p.1)).length : Nat), p.1)
end OC
set_option Elab.async false
set_option linter.all false
set_option maxRecDepth 100000
set_option maxHeartbeats 4000000
namespace OC
open PySem PySem.Spec PyProof.Rows L2
abbrev dI (ns : List Int) : PyData := .tuple (ns.map .int)
abbrev dL (ns : List Int) : PyData := .list (ns.map .int)
theorem map_int_inj : ∀ {a b : List Int}, a.map PyData.int = b.map PyData.int → a = b
  | [], [], _ => rfl
  | [], _ :: _, h => by cases h
  | _ :: _, [], h => by cases h
  | x :: a, y :: b, h => by
    rw [List.map_cons, List.map_cons] at h
    injection h with h1 h2
    injection h1 with h1
    rw [h1, map_int_inj h2]
theorem DI.inj {a b : List Int} (h : [dI a] = [dI b]) : a = b := by
  injection h with h _
  injection h with h
  exact map_int_inj h
theorem dI_inj {a b : List Int} (h : dI a = dI b) : a = b := by
  injection h with h
  exact map_int_inj h
theorem kit_ii : kitB "int" "int" = some true := by decide +kernel
theorem kit_ib : kitB "int" "bool" = some false := by decide +kernel
theorem kit_tt : kitB "tuple" "tuple" = some true := by decide +kernel
theorem kit_bb : kitB "bool" "bool" = some true := by decide +kernel
theorem bt_int : bootBuiltins "int" = some (.type "int") := by decide +kernel
theorem bt_bool : bootBuiltins "bool" = some (.type "bool") := by decide +kernel
theorem bt_tuple : bootBuiltins "tuple" = some (.type "tuple") := by decide +kernel
section
variable {P : Program} {w : World} {K : PySem.W.Frag} {mg : Str → Option Value} {base : Heap}
/-! ### checks -/
def R_is_integer (ds : List PyData) (d : PyData) : Prop := ∃ i : Int, ds = [.int i] ∧ d = .bool true
theorem cal_is_integer (t : Top K mg) : Cal P w K mg base "is_integer" 1 (spD R_is_integer) :=
  t.cal 0 (fun f fd F => okD F sc_is_integer (fun ds d ⟨i, h, _⟩ => by rw [h]; rfl) (fun cdv A outer s H E hr B hB ds h => by
    obtain ⟨d, i, rfl, rfl⟩ := h
    exact bd_retd (pd_and (pd_isi (t.free 58) (t.free 59) bt_int (nv 0 rfl) kit_ii) (fun _ => pd_one (pd_not (pd_isi (t.free 58) (t.free 72) bt_bool (nv 0 rfl) kit_ib)))) ⟨i, rfl, rfl⟩))
    rfl rfl (fun _ _ _ _ _ _ us hl => match us, hl with | [_], _ => rfl)
def R_is_within (ds : List PyData) (d : PyData) : Prop := ∃ i l m : Int, ds = [.int i, .int l, .int m] ∧ d = .bool (decide (l ≤ i) && decide (i ≤ m))
theorem cal_is_within (t : Top K mg) : Cal P w K mg base "is_within" 2 (spD R_is_within) :=
  t.cal 1 (fun f fd F => okD F sc_is_within (fun ds d ⟨i, l, m, h, _⟩ => by rw [h]; rfl) (fun cdv A outer s H E hr B hB ds h => by
    obtain ⟨d, i, l, m, rfl, rfl⟩ := h
    exact bd_retd (pd_and (pd_call (cal_is_integer t) hr (pa_d (nv 0 rfl) pa_n) ⟨i, rfl, rfl⟩ (fun d' ⟨_, _, h⟩ => h)) (fun _ => pd_one (pd_chain (nv 1 rfl) (nv 0 rfl) (nv 2 rfl)))) ⟨i, l, m, rfl, rfl⟩))
    rfl rfl (fun _ _ _ _ _ _ us hl => match us, hl with | [_, _, _], _ => rfl)
def R_is_table (ds : List PyData) (d : PyData) : Prop := ∃ (xs : List PyData), ds = [.tuple xs, .int xs.length] ∧ d = .bool true
theorem cal_is_table (t : Top K mg) : Cal P w K mg base "is_table" 1 (spD R_is_table) :=
  t.cal 4 (fun f fd F => okD F sc_is_table (fun ds d ⟨i, h, _⟩ => by rw [h]; rfl) (fun cdv A outer s H E hr B hB ds h => by
    obtain ⟨d, xs, rfl, rfl⟩ := h
    refine bd_retd (pd_and (pd_isi (t.free 58) (t.free 60) bt_tuple (nv 0 rfl) kit_tt) (fun _ => pd_one (pd_eqI (pd_lenT (t.free 61) (nv 0 rfl)) (nv 1 rfl)))) ⟨xs, rfl, ?_⟩
    rw [decide_eq_true rfl]; rfl))
    rfl rfl (fun _ _ _ _ _ _ us hl => match us, hl with | [_, _], _ => rfl)
def R_is_pair (ds : List PyData) (d : PyData) : Prop := ∃ (a b : PyData), ds = [.tuple [a, b]] ∧ d = .bool true
theorem cal_is_pair (t : Top K mg) : Cal P w K mg base "is_pair" 1 (spD R_is_pair) :=
  t.cal 2 (fun f fd F => okD F sc_is_pair (fun ds d ⟨i, _, h, _⟩ => by rw [h]; rfl) (fun cdv A outer s H E hr B hB ds h => by
    obtain ⟨d, a, b, rfl, rfl⟩ := h
    exact bd_retd (pd_and (pd_isi (t.free 58) (t.free 60) bt_tuple (nv 0 rfl) kit_tt) (fun _ => pd_one (pd_eqI (pd_lenT (t.free 61) (nv 0 rfl)) pn_int))) ⟨a, b, rfl, rfl⟩))
    rfl rfl (fun _ _ _ _ _ _ us hl => match us, hl with | [_], _ => rfl)
def R_is_many (ds : List PyData) (d : PyData) : Prop := ∃ i : Int, 1 ≤ i ∧ i ≤ 8 ∧ ds = [.int i] ∧ d = .bool true
theorem cal_is_many (t : Top K mg) : Cal P w K mg base "is_many" 3 (spD R_is_many) :=
  t.cal 5 (fun f fd F => okD F sc_is_many (fun ds d ⟨i, _, _, h, _⟩ => by rw [h]; rfl) (fun cdv A outer s H E hr B hB ds h => by
    obtain ⟨d, i, h1, h2, rfl, rfl⟩ := h
    refine bd_retd (pd_call (cal_is_within t) hr (pa_d (nv 0 rfl) (pa_d pn_int (pa_d (pn_glob (t.int 55)) pa_n))) ⟨i, 1, 8, rfl, rfl⟩ (fun d' ⟨_, _, _, h, h'⟩ => by cases h; exact h')) ⟨i, h1, h2, rfl, ?_⟩
    rw [decide_eq_true h1, decide_eq_true h2]; rfl))
    rfl rfl (fun _ _ _ _ _ _ us hl => match us, hl with | [_], _ => rfl)
/-! ### clubs -/
def R_size_of (ds : List PyData) (d : PyData) : Prop := ∃ c, ClubOk c ∧ ds = [dI c] ∧ d = .int (prodI c)
theorem foldl_take {α β : Type} {f : β → α → β} {b : β} {xs : List α} {i : Nat} {a : α} (h : xs[i]? = some a) : (xs.take (i + 1)).foldl f b = f ((xs.take i).foldl f b) a := by
  rw [List.take_add_one, h, Option.toList_some, List.foldl_append]; rfl
theorem cal_size_of (t : Top K mg) : Cal P w K mg base "size_of" 1 (spD R_size_of) :=
  t.cal 6 (fun f fd F => okD F sc_size_of (fun ds d ⟨i, _, h, _⟩ => by rw [h]; rfl) (fun cdv A outer s H E hr B hB ds h => by
    obtain ⟨d, c, hc, rfl, rfl⟩ := h
    refine bd_set 1 sc_size_of.nd pn_int ?_
    refine bd_for1 (k := 2) (as := c) (enc := .int) (G := fun i => [.dat (dI c), .dat (.int (prodI (c.take i))), .non]) rfl PassesOwn.never (src_T (nv 0 rfl)) (pg_name (i := 2) sc_size_of.nd rfl (.inl rfl)) ⟨.inr rfl, .inr rfl, .inl rfl, trivial⟩ (fun i a h => ?_) ?_
    · have ha := hc.s1 a (List.mem_of_getElem? h)
      refine bd_aug 1 sc_size_of.nd iop_mul (nv 2 rfl) rfl (ro_Ii (.inr ⟨by omega, by omega⟩)) (bd_end ?_)
      refine ⟨.inr rfl, .inr ?_, .inl rfl, trivial⟩
      show Slot.dat (.int (prodI (c.take (i + 1)))) = _
      unfold prodI
      rw [foldl_take h]
    · rw [List.take_length]
      exact bd_retd (nv 1 rfl) ⟨c, hc, rfl, rfl⟩))
    rfl rfl (fun _ _ _ _ _ _ us hl => match us, hl with | [_], _ => rfl)
end
end OC
set_option Elab.async false
set_option linter.all false
set_option maxRecDepth 100000
set_option maxHeartbeats 4000000
namespace OC
open PySem PySem.Spec PyProof.Rows L2
section
variable {P : Program} {w : World} {K : PySem.W.Frag} {mg : Str → Option Value} {base : Heap}
theorem ClubOk.le (c : List Int) (h : ClubOk c) : c.length ≤ 100000 := by have := h.l4; omega
def R_is_club (ds : List PyData) (d : PyData) : Prop := ∃ c, ClubOk c ∧ ds = [dI c] ∧ d = .bool true
theorem cal_is_club (t : Top K mg) : Cal P w K mg base "is_club" 4 (spD R_is_club) :=
  t.cal 7 (fun f fd F => okD F sc_is_club (fun ds d ⟨i, _, h, _⟩ => by rw [h]; rfl) (fun cdv A outer s H E hr B hB ds h => by
    obtain ⟨d, c, hc, rfl, rfl⟩ := h
    have h1 := hc.l1
    have h4 := hc.l4
    refine bd_ifF (PW.pt (pw_o (k := false) (l := false) (pt_notd (k := true) (pt_vd (pd_isi (t.free 58) (t.free 60) bt_tuple (nv 0 rfl) kit_tt))) (fun _ => pw_o1 (pt_notd (k := true) (pt_vd (pd_call (d := .bool true) (cal_is_many t) hr (pa_d (pd_lenT (t.free 61) (nv 0 rfl)) pa_n) ⟨_, ?_, ?_, rfl, rfl⟩ (fun d' ⟨_, _, _, _, h⟩ => h))))))) ?_
    · rw [List.length_map]; omega
    · rw [List.length_map]; omega
    · refine bd_retd (pd_and (pd_allC (t.free 62) rfl (comp1 "sorts" 1 (as := c) (enc := .int) (f := fun a => .bool (decide (1 ≤ a) && decide (a ≤ 4))) rfl sc_is_club.nd (src_T (nv 0 rfl)) (blkOk_by (N := N_is_club) (sc := defScope s_is_club) (by decide +kernel)) (fun _ _ _ _ _ => pg_name (i := 1) sc_is_club.nd rfl (Or.inl rfl)) hc.le
        (fun a ha s H C cl fp => pd_call (cal_is_within t) hr (pa_d (nv 1 rfl) (pa_d pn_int (pa_d (pn_glob (t.int 56)) pa_n))) ⟨a, 1, 4, rfl, rfl⟩ (fun d' ⟨_, _, _, h, h'⟩ => by cases h; exact h'))))
        (fun _ => pd_one (pd_le (pd_call (cal_size_of t) hr (pa_d (nv 0 rfl) pa_n) ⟨c, hc, rfl, rfl⟩ (fun d' ⟨c', _, h, h'⟩ => by cases DI.inj h; exact h')) (pn_glob (t.int 57))))) ⟨c, hc, rfl, ?_⟩
      have e1 : (c.all fun a => decide (1 ≤ a) && decide (a ≤ 4)) = true := List.all_eq_true.mpr fun a ha => by
        have := hc.s1 a ha
        rw [decide_eq_true this.1, decide_eq_true this.2]; rfl
      have e2 : decide (prodI c ≤ 256) = true := decide_eq_true (by have := hc.pr; omega)
      rw [e1, e2]; rfl))
    rfl rfl (fun _ _ _ _ _ _ us hl => match us, hl with | [_], _ => rfl)
def R_check_club (ds : List PyData) (d : PyData) : Prop := ∃ c, ClubOk c ∧ ds = [dI c] ∧ d = .none
theorem cal_check_club (t : Top K mg) : Cal P w K mg base "check_club" 5 (spD R_check_club) :=
  t.cal 8 (fun f fd F => okD F sc_check_club (fun ds d ⟨i, _, h, _⟩ => by rw [h]; rfl) (fun cdv A outer s H E hr B hB ds h => by
    obtain ⟨d, c, hc, rfl, rfl⟩ := h
    exact bd_ifF (pt_notd (k := true) (pt_vd (pd_call (cal_is_club t) hr (pa_d (nv 0 rfl) pa_n) ⟨c, hc, rfl, rfl⟩ (fun d' ⟨_, _, _, h⟩ => h)))) (bd_end ⟨c, hc, rfl, rfl⟩)))
    rfl rfl (fun _ _ _ _ _ _ us hl => match us, hl with | [_], _ => rfl)
def R_is_place (ds : List PyData) (d : PyData) : Prop := ∃ c i, ClubOk c ∧ (0 ≤ i ∧ i < prodI c) ∧ ds = [dI c, .int i] ∧ d = .bool true
theorem cal_is_place (t : Top K mg) : Cal P w K mg base "is_place" 3 (spD R_is_place) :=
  t.cal 9 (fun f fd F => okD F sc_is_place (fun ds d ⟨i, _, _, _, h, _⟩ => by rw [h]; rfl) (fun cdv A outer s H E hr B hB ds h => by
    obtain ⟨d, c, i, hc, hi, rfl, rfl⟩ := h
    refine bd_retd (pd_call (cal_is_within t) hr (pa_d (nv 1 rfl) (pa_d pn_int (pa_d (pd_sub (pd_call (cal_size_of t) hr (pa_d (nv 0 rfl) pa_n) ⟨c, hc, rfl, rfl⟩ (fun d' ⟨c', _, h, h'⟩ => by cases DI.inj h; exact h')) pn_int) pa_n))) ⟨i, 0, prodI c - 1, rfl, rfl⟩ (fun d' ⟨_, _, _, h, h'⟩ => by cases h; exact h')) ⟨c, i, hc, hi, rfl, ?_⟩
    rw [decide_eq_true hi.1, decide_eq_true (show i ≤ prodI c - 1 by omega)]; rfl))
    rfl rfl (fun _ _ _ _ _ _ us hl => match us, hl with | [_, _], _ => rfl)
def R_place_of (ds : List PyData) (d : PyData) : Prop := ∃ c row, ClubOk c ∧ row.length = c.length ∧ (ds = [dI c, dI row] ∨ ds = [dI c, dL row]) ∧ d = .int (place c row)
theorem zip_mem_r {α β : Type} {xs : List α} {ys : List β} {i : Nat} {a : α × β} (h : (xs.zip ys)[i]? = some a) : a.2 ∈ ys := (List.of_mem_zip (List.mem_of_getElem? h)).2
theorem cal_place_of (t : Top K mg) : Cal P w K mg base "place_of" 1 (spD R_place_of) :=
  t.cal 10 (fun f fd F => okD F sc_place_of (fun ds d ⟨i, _, _, _, h, _⟩ => by rcases h with h | h <;> rw [h] <;> rfl) (fun cdv A outer s H E hr B hB ds h => by
    obtain ⟨d, c, row, hc, hl, h, rfl⟩ := h
    have hR : R_place_of ds (.int (place c row)) := ⟨c, row, hc, hl, h, rfl⟩
    obtain ⟨dr, hdr, rfl⟩ : ∃ dr, (dr = dI row ∨ dr = dL row) ∧ ds = [dI c, dr] := by
      rcases h with h | h
      · exact ⟨_, .inl rfl, h⟩
      · exact ⟨_, .inr rfl, h⟩
    refine bd_set 2 sc_place_of.nd pn_int ?_
    refine bd_for2 (j := 3) (k := 4) (as := row.zip c) (e1 := fun a => .int a.1) (e2 := fun a => .int a.2) (G := fun i => [.dat (dI c), .non, .dat (.int (((row.zip c).take i).foldl (fun f p => f * p.2 + p.1) 0)), .non, .non]) rfl PassesOwn.never ?src (pg_tup rfl (pgs_cons (pg_name (i := 3) sc_place_of.nd rfl (.inl rfl)) (pgs_cons (pg_name (i := 4) sc_place_of.nd rfl (.inl rfl)) pgs_nil))) ⟨.inr rfl, .inl rfl, .inr rfl, .inl rfl, .inl rfl, trivial⟩ (fun i a h => ?_) ?_
    case src =>
      rcases hdr with rfl | rfl
      · exact src_zipTm (t.free 64) (nv 1 rfl) (nv 0 rfl) hl
      · exact src_zipMm (t.free 64) (nv 1 rfl) (nv 0 rfl) hl
    · have ha := hc.s1 a.2 (zip_mem_r h)
      refine bd_set 2 sc_place_of.nd (pd_add (pd_mul (nv 2 rfl) (nv 4 rfl) (.inr ⟨by omega, by omega⟩)) (nv 3 rfl)) (bd_end ⟨.inr rfl, .inl rfl, .inr ?_, .inl rfl, .inl rfl, trivial⟩)
      show Slot.dat (.int (((row.zip c).take (i + 1)).foldl (fun f p => f * p.2 + p.1) 0)) = _
      rw [foldl_take h]
    · rw [List.take_length]
      exact bd_retd (nv 2 rfl) hR))
    rfl rfl (fun _ _ _ _ _ _ us hl => match us, hl with | [_, _], _ => rfl)
/-! ### rows by their numbers -/
def nst : List Int → Nat → Int → Int
  | _, 0, n => n
  | [], _, n => n
  | s :: r, i + 1, n => nst r i (n / s)
theorem slR_get : ∀ {r : List Int} {i : Nat} {a n : Int}, r[i]? = some a → (slR r n)[i]? = some (nst r i n % a)
  | [], _, _, _, h => by simp at h
  | s :: r, 0, a, n, h => by simp at h; subst h; rfl
  | s :: r, i + 1, a, n, h => by
    have ih := slR_get (r := r) (i := i) (a := a) (n := n / s) (by simpa using h)
    show (slR r (n / s))[i]? = _
    rw [ih]; rfl
theorem nst_succ : ∀ {r : List Int} {i : Nat} {a n : Int}, r[i]? = some a → nst r (i + 1) n = nst r i n / a
  | [], _, _, _, h => by simp at h
  | s :: r, 0, a, n, h => by
    simp at h; subst h
    cases r <;> rfl
  | s :: r, i + 1, a, n, h => by
    show nst r (i + 1) (n / s) = nst r i (n / s) / a
    exact nst_succ (by simpa using h)
theorem slR_len : ∀ (r : List Int) (n : Int), (slR r n).length = r.length
  | [], _ => rfl
  | s :: r, n => by simp [slR, slR_len r]
theorem slips_len (c : List Int) (n : Int) : (slips c n).length = c.length := by simp [slips, slR_len]
def R_slips_of (ds : List PyData) (d : PyData) : Prop := ∃ c n, ClubOk c ∧ ds = [dI c, .int n] ∧ d = dI (slips c n)
theorem cal_slips_of (t : Top K mg) : Cal P w K mg base "slips_of" 1 (spD R_slips_of) :=
  t.cal 11 (fun f fd F => okD F sc_slips_of (fun ds d ⟨i, _, _, h, _⟩ => by rw [h]; rfl) (fun cdv A outer s H E hr B hB ds h => by
    obtain ⟨d, c, n, hc, rfl, rfl⟩ := h
    have h4 := hc.l4
    refine bd_setL 2 sc_slips_of.nd (ds := []) (pl_lst pa_n (fun ds h => by rw [h]; simp)) ?_
    refine bd_for1 (k := 3) (as := c.reverse) (enc := .int) (G := fun i => [.dat (dI c), .dat (.int (nst c.reverse i n)), .own (Lst (((slR c.reverse n).take i).map .int)), .non]) rfl PassesOwn.never ?_ (pg_name (i := 3) sc_slips_of.nd rfl (.inl rfl)) ⟨.inr rfl, .inr ?_, .inr rfl, .inl rfl, trivial⟩ (fun i a h => ?_) ?_
    · rw [List.map_reverse]
      exact src_revT (t.free 65) (nv 0 rfl)
    · cases c.reverse <;> rfl
    · have hm : a ∈ c := by simpa using List.mem_of_getElem? h
      have ha := hc.s1 a hm
      have hi : i < c.reverse.length := (List.getElem?_eq_some_iff.mp h).1
      rw [List.length_reverse] at hi
      refine bd_app 2 rfl (pd_mod (nv 1 rfl) (nv 3 rfl) (by omega)) (by simp; omega) ?_
      refine bd_set 1 sc_slips_of.nd (pd_fdiv (nv 1 rfl) (nv 3 rfl) ⟨by omega, by omega⟩) (bd_end ⟨.inr rfl, .inr ?_, .inr ?_, .inl rfl, trivial⟩)
      · show Slot.dat (.int (nst c.reverse (i + 1) n)) = _
        rw [nst_succ h]
      · show Slot.own (Lst (((slR c.reverse n).take (i + 1)).map .int)) = _
        rw [List.take_add_one, slR_get h, Option.toList_some, List.map_append]
        rfl
    · refine bd_freeze 2 rfl ?_
      refine bd_retd (pd_tupRev rfl (t.free 60) (t.free 65) (nv 2 rfl)) ⟨c, n, hc, rfl, ?_⟩
      rw [List.take_of_length_le (by rw [slR_len]; exact Nat.le_refl _), ← List.map_reverse]
      rfl))
    rfl rfl (fun _ _ _ _ _ _ us hl => match us, hl with | [_, _], _ => rfl)
theorem prodI_pos (c : List Int) (h : ∀ s ∈ c, 1 ≤ s) : 1 ≤ prodI c := by
  unfold prodI
  have : ∀ (l : List Int) (a : Int), (∀ s ∈ l, 1 ≤ s) → 1 ≤ a → 1 ≤ l.foldl (fun a b => a * b) a := by
    intro l
    induction l with
    | nil => intro a _ ha; exact ha
    | cons x l ih =>
      intro a hl ha
      refine ih (a * x) (fun s hs => hl s (List.mem_cons_of_mem _ hs)) ?_
      have hx := hl x List.mem_cons_self
      calc (1 : Int) = 1 * 1 := rfl
        _ ≤ a * x := Int.mul_le_mul ha hx (by omega) (by omega)
  exact this c 1 h (Int.le_refl 1)
theorem ClubOk.pos {c : List Int} (h : ClubOk c) : 1 ≤ prodI c := prodI_pos c fun s hs => (h.s1 s hs).1
def R_all_rows (ds : List PyData) (d : PyData) : Prop := ∃ c, ClubOk c ∧ ds = [dI c] ∧ d = .list ((rowsOf c).map dI)
theorem rngc {c : List Int} (h : ClubOk c) : (List.range (prodI c).toNat).length ≤ 100000 := by
  have := h.pr
  rw [List.length_range]; omega
theorem cal_all_rows (t : Top K mg) : Cal P w K mg base "all_rows" 2 (spD R_all_rows) :=
  t.cal 12 (fun f fd F => okD F sc_all_rows (fun ds d ⟨i, _, h, _⟩ => by rw [h]; rfl) (fun cdv A outer s H E hr B hB ds h => by
    obtain ⟨d, c, hc, rfl, rfl⟩ := h
    have hp := hc.pos
    have hq := hc.pr
    refine bd_retd (comp1 "number" 1 (as := List.range (prodI c).toNat) (enc := fun k => .int (k : Nat)) (f := fun k => dI (slips c (k : Nat))) rfl sc_all_rows.nd (src_rngI (t.free 63) (pd_call (cal_size_of t) hr (pa_d (nv 0 rfl) pa_n) ⟨c, hc, rfl, rfl⟩ (fun d' ⟨c', _, h, h'⟩ => by cases DI.inj h; exact h')) (by omega) (by omega)) (blkOk_by (N := N_all_rows) (sc := defScope s_all_rows) (by decide +kernel)) (fun _ _ _ _ _ => pg_name (i := 1) sc_all_rows.nd rfl (Or.inl rfl)) (rngc hc)
      (fun a ha s H C cl fp => pd_call (cal_slips_of t) hr (pa_d (nv 0 rfl) (pa_d (nv 1 rfl) pa_n)) ⟨c, _, hc, rfl, rfl⟩ (fun d' ⟨c', n', _, h, h'⟩ => ?_))).pd ⟨c, hc, rfl, ?_⟩
    · injection h with h1 h2
      injection h2 with h2
      injection h2 with h2
      rw [h', dI_inj h1, h2]
    · rw [rowsOf, List.map_map]; rfl))
    rfl rfl (fun _ _ _ _ _ _ us hl => match us, hl with | [_], _ => rfl)
end
end OC
set_option Elab.async false
set_option linter.all false
set_option maxRecDepth 100000
set_option maxHeartbeats 4000000
namespace OC
open PySem PySem.Spec PyProof.Rows L2
section
variable {P : Program} {w : World} {K : PySem.W.Frag} {mg : Str → Option Value} {base : Heap}
theorem inj2 {a b : List Int} {m n : Int} (h : [dI a, PyData.int m] = [dI b, .int n]) : a = b ∧ m = n := by
  injection h with h1 h2
  injection h2 with h2
  injection h2 with h2
  exact ⟨dI_inj h1, h2⟩
def R_unlike_in (ds : List PyData) (d : PyData) : Prop := ∃ c i j, ClubOk c ∧ ds = [dI c, .int i, .int j] ∧ d = dI (unl c.length (slips c i) (slips c j))
theorem cal_unlike_in (t : Top K mg) : Cal P w K mg base "unlike_in" 2 (spD R_unlike_in) :=
  t.cal 13 (fun f fd F => okD F sc_unlike_in (fun ds d ⟨i, _, _, _, h, _⟩ => by rw [h]; rfl) (fun cdv A outer s H E hr B hB ds h => by
    obtain ⟨d, c, i, j, hc, rfl, rfl⟩ := h
    have h4 := hc.l4
    refine bd_set 3 sc_unlike_in.nd (pd_call (d := dI (slips c i)) (cal_slips_of t) hr (pa_d (nv 0 rfl) (pa_d (nv 1 rfl) pa_n)) ⟨c, i, hc, rfl, rfl⟩ (fun d' ⟨c', n', _, h, h'⟩ => by obtain ⟨e1, e2⟩ := inj2 h; rw [h', e1, e2])) ?_
    refine bd_set 4 sc_unlike_in.nd (pd_call (d := dI (slips c j)) (cal_slips_of t) hr (pa_d (nv 0 rfl) (pa_d (nv 2 rfl) pa_n)) ⟨c, j, hc, rfl, rfl⟩ (fun d' ⟨c', n', _, h, h'⟩ => by obtain ⟨e1, e2⟩ := inj2 h; rw [h', e1, e2])) ?_
    refine bd_retd (pd_tupL (t.free 60) (CompOk.pl (comp1f "member" 5 (as := List.range c.length) (enc := fun k => .int (k : Nat)) (f := fun k => .int (k : Nat)) (fun k => !decide ((slips c i).getD k 0 = (slips c j).getD k 0)) rfl sc_unlike_in.nd ?_ (blkOk_by (N := N_unlike_in) (sc := defScope s_unlike_in) (by decide +kernel)) (fun _ _ _ _ _ => pg_name (i := 5) sc_unlike_in.nd rfl (Or.inl rfl)) (by simp; omega)
      (fun a ha s H C cl fp => ?_) (fun a ha _ s H C cl fp => nv 5 rfl)))) ⟨c, i, j, hc, rfl, ?_⟩
    · exact (src_rng (n := c.length) (t.free 63) ((pd_lenT (t.free 61) (nv 0 rfl)).eq (by rw [List.length_map])) (by omega))
    · have hl : a < c.length := List.mem_range.mp ha
      exact pt_neI (pd_ixT (nv 3 rfl) (nv 5 rfl) (at_map (z := 0) (by rw [slips_len]; exact hl))) (pd_ixT (nv 4 rfl) (nv 5 rfl) (at_map (z := 0) (by rw [slips_len]; exact hl)))
    · rw [dI, unl, List.map_map]; rfl))
    rfl rfl (fun _ _ _ _ _ _ us hl => match us, hl with | [_, _, _], _ => rfl)
def R_line_of (ds : List PyData) (d : PyData) : Prop := ∃ c lot n, ClubOk c ∧ (ds = [dI c, dI lot, .int n] ∨ ds = [dI c, dL lot, .int n]) ∧ d = .int (lineOf c lot n)
theorem ix_len {α : Type} (xs : List α) : (ix xs).length = xs.length := by simp [ix]
theorem cal_line_of (t : Top K mg) : Cal P w K mg base "line_of" 2 (spD R_line_of) :=
  t.cal 14 (fun f fd F => okD F sc_line_of (fun ds d ⟨i, _, _, _, h, _⟩ => by rcases h with h | h <;> rw [h] <;> rfl) (fun cdv A outer s H E hr B hB ds h => by
    obtain ⟨d, c, lot, n, hc, h, rfl⟩ := h
    have h4 := hc.l4
    have hR : R_line_of ds (.int (lineOf c lot n)) := ⟨c, lot, n, hc, h, rfl⟩
    obtain ⟨dr, hdr, rfl⟩ : ∃ dr, (dr = dI lot ∨ dr = dL lot) ∧ ds = [dI c, dr, .int n] := by
      rcases h with h | h
      · exact ⟨_, .inl rfl, h⟩
      · exact ⟨_, .inr rfl, h⟩
    refine bd_set 3 sc_line_of.nd (pd_call (d := dI (slips c n)) (cal_slips_of t) hr (pa_d (nv 0 rfl) (pa_d (nv 2 rfl) pa_n)) ⟨c, n, hc, rfl, rfl⟩ (fun d' ⟨c', n', _, h, h'⟩ => by obtain ⟨e1, e2⟩ := inj2 h; rw [h', e1, e2])) ?_
    refine bd_retd (pd_call (d := .int (lineOf c lot n)) (ds := [dI c, dL ((ix (slips c n)).map fun p => if p.1 ∈ lot then 0 else p.2)]) (cal_place_of t) hr (pa_d (nv 0 rfl) (pa_d (PD.eq (CompOk.pd (comp2 "member" "slip" 4 5 (as := ix (slips c n)) (e1 := fun a => .int a.1) (e2 := fun a => .int a.2) (f := fun a => .int (if a.1 ∈ lot then 0 else a.2)) rfl sc_line_of.nd (src_enumTm (t.free 66) (nv 3 rfl)) (blkOk_by (N := N_line_of) (sc := defScope s_line_of) (by decide +kernel)) (by decide) (fun _ _ _ _ _ => pg_tup rfl (pgs_cons (pg_name (i := 4) sc_line_of.nd rfl (.inl rfl)) (pgs_cons (pg_name (i := 5) sc_line_of.nd rfl (.inl rfl)) pgs_nil))) (by rw [ix_len, slips_len]; omega)
      (fun a ha s H C cl fp => ?_))) ?_) pa_n)) ⟨c, _, hc, by rw [List.length_map, ix_len, slips_len], .inr rfl, rfl⟩ ?_) hR
    · refine pn_if (k := decide (a.1 ∈ lot)) ?_ (fun hk => ?_) (fun hk => ?_)
      · rcases hdr with rfl | rfl
        · exact pt_inT (nv 4 rfl) (nv 1 rfl)
        · exact pt_inL (nv 4 rfl) (nv 1 rfl)
      · rw [if_pos (of_decide_eq_true hk)]; exact pn_int
      · rw [if_neg (of_decide_eq_false hk)]; exact nv 5 rfl
    · show _ = dL _
      rw [dL, List.map_map]; rfl
    · rintro d' ⟨c', row', _, _, h | h, h'⟩
      · injection h with _ h2
        injection h2 with h2 _
        cases h2
      · injection h with h1 h2
        injection h2 with h2 _
        injection h2 with h2
        rw [h', ← dI_inj h1, ← map_int_inj h2]; rfl))
    rfl rfl (fun _ _ _ _ _ _ us hl => match us, hl with | [_, _, _], _ => rfl)
/-! ### kin -/
structure LotOk (m : Nat) (lot : List Int) : Prop where
  asc : lot.Pairwise (· < ·)
  rng : ∀ k ∈ lot, 0 ≤ k ∧ k < (m : Int)
def R_is_lot (ds : List PyData) (d : PyData) : Prop := ∃ lot m, LotOk m lot ∧ ds = [dI lot, .int (m : Nat)] ∧ d = .bool true
theorem pw_get {l : List Int} (h : l.Pairwise (· < ·)) {i : Nat} {a b : Int} (h1 : l[i]? = some a) (h2 : l[i + 1]? = some b) : a < b := by
  have i1 := (List.getElem?_eq_some_iff.mp h1).1
  have i2 := (List.getElem?_eq_some_iff.mp h2).1
  have e1 := (List.getElem?_eq_some_iff.mp h1).2
  have e2 := (List.getElem?_eq_some_iff.mp h2).2
  have := List.pairwise_iff_getElem.mp h i (i + 1) i1 i2 (by omega)
  rw [e1, e2] at this
  exact this
theorem cal_is_lot (t : Top K mg) : Cal P w K mg base "is_lot" 3 (spD R_is_lot) :=
  t.cal 3 (fun f fd F => okD F sc_is_lot (fun ds d ⟨i, _, _, h, _⟩ => by rw [h]; rfl) (fun cdv A outer s H E hr B hB ds h => by
    obtain ⟨d, lot, m, hl, rfl, rfl⟩ := h
    refine bd_ifF (pt_notd (k := true) (pt_vd (pd_isi (t.free 58) (t.free 60) bt_tuple (nv 0 rfl) kit_tt))) ?_
    refine bd_set 2 sc_is_lot.nd (pd_neg pn_int) ?_
    refine bd_for1 (k := 3) (as := lot) (enc := .int) (G := fun i => [.dat (dI lot), .dat (.int (m : Nat)), .dat (.int ((-1 :: lot).getD i 0)), .non]) rfl PassesOwn.never (src_T (nv 0 rfl)) (pg_name (i := 3) sc_is_lot.nd rfl (.inl rfl)) ⟨.inr rfl, .inr rfl, .inr rfl, .inl rfl, trivial⟩ (fun i a h => ?_) ?_
    · have ha := hl.rng a (List.mem_of_getElem? h)
      have hlast : (-1 :: lot).getD i 0 + 1 ≤ a := by
        cases i with
        | zero => show (-1 : Int) + 1 ≤ a; omega
        | succ i =>
          cases hq : lot[i]? with
          | none =>
            have := List.getElem?_eq_none_iff.mp hq
            have := (List.getElem?_eq_some_iff.mp h).1
            omega
          | some b =>
            have := pw_get hl.asc hq h
            have e : (-1 :: lot).getD (i + 1) 0 = b := by simp [List.getD, hq]
            rw [e]; omega
      refine bd_ifF (pt_notd (k := true) (pt_vd (PD.eq (pd_call (d := .bool (decide ((-1 :: lot).getD i 0 + 1 ≤ a) && decide (a ≤ (m : Int) - 1))) (cal_is_within t) hr (pa_d (nv 3 rfl) (pa_d (pd_add (nv 2 rfl) pn_int) (pa_d (pd_sub (nv 1 rfl) pn_int) pa_n))) ⟨a, _, _, rfl, rfl⟩ (fun d' ⟨_, _, _, h, h'⟩ => by cases h; exact h')) (by rw [decide_eq_true hlast, decide_eq_true (show a ≤ (m : Int) - 1 by omega)]; rfl)))) ?_
      refine bd_set 2 sc_is_lot.nd (nv 3 rfl) (bd_end ⟨.inr rfl, .inr rfl, .inr ?_, .inl rfl, trivial⟩)
      show Slot.dat (.int ((-1 :: lot).getD (i + 1) 0)) = _
      have e : (-1 :: lot).getD (i + 1) 0 = a := by simp [List.getD, h]
      rw [e]
    · exact bd_retd pn_bl ⟨lot, m, hl, rfl, rfl⟩))
    rfl rfl (fun _ _ _ _ _ _ us hl => match us, hl with | [_, _], _ => rfl)
abbrev dK (kin : List (List Int)) : PyData := .tuple (kin.map dI)
theorem map_dI_inj : ∀ {a b : List (List Int)}, a.map dI = b.map dI → a = b
  | [], [], _ => rfl
  | [], _ :: _, h => by cases h
  | _ :: _, [], h => by cases h
  | x :: a, y :: b, h => by
    rw [List.map_cons, List.map_cons] at h
    injection h with h1 h2
    rw [dI_inj h1, map_dI_inj h2]
theorem dK_inj {a b : List (List Int)} (h : dK a = dK b) : a = b := by
  injection h with h
  exact map_dI_inj h
structure KinO (m : Nat) (kin : List (List Int)) : Prop where
  len : kin.length = m
  ok : ∀ lot ∈ kin, LotOk m lot
  m4 : 1 ≤ m ∧ m ≤ 4
def R_is_kin (ds : List PyData) (d : PyData) : Prop := ∃ m kin, KinO m kin ∧ ds = [.int (m : Nat), dK kin] ∧ d = .bool true
theorem cal_is_kin (t : Top K mg) : Cal P w K mg base "is_kin" 4 (spD R_is_kin) :=
  t.cal 15 (fun f fd F => okD F sc_is_kin (fun ds d ⟨i, _, _, h, _⟩ => by rw [h]; rfl) (fun cdv A outer s H E hr B hB ds h => by
    obtain ⟨d, m, kin, hk, rfl, rfl⟩ := h
    have hm := hk.m4
    have hkl := hk.len
    refine bd_retd (pd_and (pd_call (d := .bool true) (ds := [dK kin, .int (kin.map dI).length]) (cal_is_table t) hr (pa_d (nv 1 rfl) (pa_d (PD.eq (nv 0 rfl) (by rw [List.length_map, hkl])) pa_n)) ⟨_, rfl, rfl⟩ (fun d' ⟨_, _, h⟩ => h)) (fun _ => pd_one (pd_allC (g := fun _ => true) (t.free 62) rfl (comp1 "lot" 2 (as := kin) (enc := dI) (f := fun a => .bool true) rfl sc_is_kin.nd (src_T (nv 1 rfl)) (blkOk_by (N := N_is_kin) (sc := defScope s_is_kin) (by decide +kernel)) (fun _ _ _ _ _ => pg_name (i := 2) sc_is_kin.nd rfl (Or.inl rfl)) (by omega)
      (fun a ha s H C cl fp => pd_call (cal_is_lot t) hr (pa_d (nv 2 rfl) (pa_d (nv 0 rfl) pa_n)) ⟨a, m, hk.ok a ha, rfl, rfl⟩ (fun d' ⟨_, _, _, _, h⟩ => h)))))) ⟨m, kin, hk, rfl, ?_⟩
    simp))
    rfl rfl (fun _ _ _ _ _ _ us hl => match us, hl with | [_, _], _ => rfl)
def R_check_kin (ds : List PyData) (d : PyData) : Prop := ∃ m kin, KinO m kin ∧ ds = [.int (m : Nat), dK kin] ∧ d = .none
theorem cal_check_kin (t : Top K mg) : Cal P w K mg base "check_kin" 5 (spD R_check_kin) :=
  t.cal 16 (fun f fd F => okD F sc_check_kin (fun ds d ⟨i, _, _, h, _⟩ => by rw [h]; rfl) (fun cdv A outer s H E hr B hB ds h => by
    obtain ⟨d, m, kin, hk, rfl, rfl⟩ := h
    exact bd_ifF (pt_notd (k := true) (pt_vd (pd_call (cal_is_kin t) hr (pa_d (nv 0 rfl) (pa_d (nv 1 rfl) pa_n)) ⟨m, kin, hk, rfl, rfl⟩ (fun d' ⟨_, _, _, _, h⟩ => h)))) (bd_end ⟨m, kin, hk, rfl, rfl⟩)))
    rfl rfl (fun _ _ _ _ _ _ us hl => match us, hl with | [_, _], _ => rfl)
def R_check_totals (ds : List PyData) (d : PyData) : Prop := ∃ c tt, ClubOk c ∧ TotOk c tt ∧ ds = [dI c, dI tt] ∧ d = .none
theorem cal_check_totals (t : Top K mg) : Cal P w K mg base "check_totals" 2 (spD R_check_totals) :=
  t.cal 17 (fun f fd F => okD F sc_check_totals (fun ds d ⟨i, _, _, _, h, _⟩ => by rw [h]; rfl) (fun cdv A outer s H E hr B hB ds h => by
    obtain ⟨d, c, tt, hc, ht, rfl, rfl⟩ := h
    have hp := hc.pos
    have hq := hc.pr
    have hlen : tt.length = (prodI c).toNat := ht
    refine bd_ifF (PW.pt (pw_o (k := false) (l := false) (pt_notd (k := true) (pt_vd (pd_call (d := .bool true) (ds := [dI tt, .int (tt.map PyData.int).length]) (cal_is_table t) hr (pa_d (nv 1 rfl) (pa_d (PD.eq (pd_call (d := .int (prodI c)) (cal_size_of t) hr (pa_d (nv 0 rfl) pa_n) ⟨c, hc, rfl, rfl⟩ (fun d' ⟨c', _, h, h'⟩ => by cases DI.inj h; exact h')) (by rw [List.length_map, hlen]; congr 1; omega)) pa_n)) ⟨_, rfl, rfl⟩ (fun d' ⟨_, _, h⟩ => h)))) (fun _ => pw_o1 (pt_notd (k := true) (pt_vd (PD.eq (pd_allC (g := fun _ => true) (t.free 62) rfl (comp1 "total" 2 (as := tt) (enc := .int) (f := fun a => .bool true) rfl sc_check_totals.nd (src_T (nv 1 rfl)) (blkOk_by (N := N_check_totals) (sc := defScope s_check_totals) (by decide +kernel)) (fun _ _ _ _ _ => pg_name (i := 2) sc_check_totals.nd rfl (Or.inl rfl)) (by omega)
      (fun a ha s H C cl fp => pd_call (cal_is_integer t) hr (pa_d (nv 2 rfl) pa_n) ⟨a, rfl, rfl⟩ (fun d' ⟨_, _, h⟩ => h)))) (by simp))))))) (bd_end ⟨c, tt, hc, ht, rfl, rfl⟩)))
    rfl rfl (fun _ _ _ _ _ _ us hl => match us, hl with | [_, _], _ => rfl)
def R_check_shared (ds : List PyData) (d : PyData) : Prop := ∃ c kin tt, ClubOk c ∧ KinO c.length kin ∧ TotOk c tt ∧ ds = [dI c, dK kin, dI tt] ∧ d = .none
theorem cal_check_shared (t : Top K mg) : Cal P w K mg base "check_shared" 6 (spD R_check_shared) :=
  t.cal 18 (fun f fd F => okD F sc_check_shared (fun ds d ⟨i, _, _, _, _, _, h, _⟩ => by rw [h]; rfl) (fun cdv A outer s H E hr B hB ds h => by
    obtain ⟨d, c, kin, tt, hc, hk, ht, rfl, rfl⟩ := h
    refine bd_expr (pd_call (cal_check_club t) hr (pa_d (nv 0 rfl) pa_n) ⟨c, hc, rfl, rfl⟩ (fun d' ⟨_, _, _, h⟩ => h)) ?_
    refine bd_expr (pd_call (cal_check_kin t) hr (pa_d (PD.eq (pd_lenT (t.free 61) (nv 0 rfl)) (by rw [List.length_map])) (pa_d (nv 1 rfl) pa_n)) ⟨_, kin, hk, rfl, rfl⟩ (fun d' ⟨_, _, _, _, h⟩ => h)) ?_
    exact bd_expr (pd_call (cal_check_totals t) hr (pa_d (nv 0 rfl) (pa_d (nv 2 rfl) pa_n)) ⟨c, tt, hc, ht, rfl, rfl⟩ (fun d' ⟨_, _, _, _, _, h⟩ => h)) (bd_end ⟨c, kin, tt, hc, hk, ht, rfl, rfl⟩)))
    rfl rfl (fun _ _ _ _ _ _ us hl => match us, hl with | [_, _, _], _ => rfl)
end
end OC
set_option Elab.async false
set_option linter.all false
set_option maxRecDepth 100000
set_option maxHeartbeats 4000000
/-! Own kit: sorted of data. -/
namespace OC
open PySem PySem.Spec PyProof.Rows L2
theorem mem_zip_ix {α β : Type} {as : List α} {bs : List β} {p : α × β} (h : p ∈ as.zip bs) : ∃ i : Nat, as[i]? = some p.1 ∧ bs[i]? = some p.2 := by
  obtain ⟨i, hi⟩ := List.mem_iff_getElem?.mp h
  rw [List.getElem?_zip_eq_some] at hi
  exact ⟨i, hi.1, hi.2⟩
theorem each_vals {xs : List V} {β : Type} {bs : List β} {enc : β → PyData} : ∀ {out : List Value} {cs : List β}, PySem.W.EachIs (fun v b => ∃ (x : V) (i : Nat), RelV x v ∧ xs[i]? = some x ∧ bs[i]? = some b) out cs →
    ∃ ys : List V, Vals ys out ∧ ∀ Hf, DqAll Hf xs (bs.map enc) → DqAll Hf ys (cs.map enc)
  | _, _, .nil => ⟨[], .nil, fun _ _ => .nil⟩
  | _, _, .cons h t => by
    obtain ⟨ys, h1, h2⟩ := each_vals t
    obtain ⟨x, i, r, e1, e2⟩ := h
    refine ⟨x :: ys, .cons r h1, fun Hf hd => .cons ?_ (h2 Hf hd)⟩
    obtain ⟨d, g1, g2⟩ := hd.get' e1
    rw [List.getElem?_map, e2] at g1
    cases g1
    exact g2
theorem call_sortD {X : Cx} {k : Nat} {β : Type} (hr : Room k X.A) (bs : List β) (enc : β → PyData) (hal : PySem.W.AllAlike (bs.map enc)) (hk : PySem.W.Sortable (bs.map enc)) (hd : ∀ b ∈ bs, (enc b).depth ≤ 8) (hz : bs.length ≤ 100000) :
    CallR X (.builtin "sorted") (fun vs H Q => ∃ (a : Addr) (xs : List V), vs = [.ref a] ∧ H a = some (.lst xs) ∧ DqAll H xs (bs.map enc) ∧ ∀ (ys : List V) (p : Addr), H p = none → (∀ Hf, DqAll Hf xs (bs.map enc) → DqAll Hf ys ((bs.mergeSort (PySem.W.dataLe false enc)).map enc)) → Q (.ref p) (upd H p (.lst ys))) := by
  intro pins s σ H vs us Q I r h
  obtain ⟨a, xs, rfl, ha, hx, q⟩ := h
  rw [Vals.ref1 r]
  obtain ⟨its, rv, hl, _⟩ := I.list (SqL.of ha)
  have l1 := rv.length
  have l2 := hx.length
  rw [List.length_map] at l2
  have hun := hr.un
  have e : PySem.W.EachIs (fun v b => ∃ (x : V) (i : Nat), RelV x v ∧ xs[i]? = some x ∧ bs[i]? = some b) its bs := PySem.W.EachIs.of_zip (by omega) fun p hp => by
    obtain ⟨i, h1, h2⟩ := mem_zip_ix hp
    have hi : i < xs.length := by have := (List.getElem?_eq_some_iff.mp h1).1; omega
    obtain ⟨u, g1, g2⟩ := rv.get (List.getElem?_eq_getElem hi)
    rw [h1] at g1; cases g1
    exact ⟨_, i, g2, List.getElem?_eq_getElem hi, h2⟩
  have er : PySem.W.EachIs (fun v b => ∃ as, Reads s.heap v (enc b) as) its bs := PySem.W.EachIs.of_zip (by omega) fun p hp => by
    obtain ⟨i, h1, h2⟩ := mem_zip_ix hp
    have hi : i < xs.length := by have := (List.getElem?_eq_some_iff.mp h1).1; omega
    obtain ⟨u, g1, g2⟩ := rv.get (List.getElem?_eq_getElem hi)
    rw [h1] at g1; cases g1
    obtain ⟨d, k1, k2⟩ := hx.get' (List.getElem?_eq_getElem hi)
    rw [List.getElem?_map, h2] at k1
    cases k1
    exact Dp.reads I _ _ _ (dq_dp _ _ k2) g2
  refine PySem.W.sorted_data (vs := its) (bs := bs) (enc := enc) hl.isList e er hal hk (Evl.sz_of hz) (fun b hb => by have := hd b hb; omega) fun out ho eo => ?_
  obtain ⟨ys, v1, v2⟩ := each_vals eo
  obtain ⟨ep, he'⟩ := PyProof.Rows.sortedAll_at s.heap its out.toArray
  have l3 := v1.length
  exact ⟨.ref _, upd H (s.heap.objs.size + 1) (.lst ys), I.laid (t' := s.toks) (fun _ _ => PyProof.Rows.sortedAll_old) (Nat.le_succ _) ⟨Evl.sz_of (by omega), out, ep, v1, he'⟩, rfl, q ys _ (I.hok.fresh (Nat.le_succ _)) v2⟩
section
variable {X : Cx} {B : Bs} {Γ : List Slot} {e : Expr} {p pos : Pos}
theorem pl_sorted {β : Type} {bs : List β} {enc : β → PyData} {k : Nat} (hr : Room k X.A) (hm : X.mg "sorted" = none) (h : PD X B Γ e (.list (bs.map enc))) (hal : PySem.W.AllAlike (bs.map enc)) (hk : PySem.W.Sortable (bs.map enc)) (hd : ∀ b ∈ bs, (enc b).depth ≤ 8) (hz : bs.length ≤ 100000)
    (hg : Gl X "sorted" := by rfl) (he : starEach [e] X.env = (false, eval e X.env) :: starEach [] X.env := by rfl) (hpl : (backTo pos (starEach [] X.env)).any (·.1) = false := by rfl) : PLD X B Γ (.Call (.Name "sorted" p) [e] [] pos) ((bs.mergeSort (PySem.W.dataLe false enc)).map enc) := fun σ Hf H s Q q =>
  E.of (pe_callB (call_sortD hr bs enc hal hk hd hz) hg hm (by decide +kernel) pa_A (by decide) (by decide) he hpl) ((one_of h he) σ Hf H s _ fun vs dd Hf1 H1 hd1 e1 s1 dq => by
    obtain ⟨_, h1, h2⟩ := hd1
    subst h2; subst h1
    obtain ⟨v, rfl, hv⟩ := dq_one dq
    obtain ⟨a, ws, rfl, h1, h2⟩ := dq_list hv
    refine ⟨a, ws, rfl, s1.sub _ _ h1, dqAll_mono s1.sub _ _ h2, fun ys l hl hy => ?_⟩
    obtain ⟨e2, s2⟩ := s1.neo (o := .lst ys) hl
    have h0 : H l = none := by
      cases g : H l with
      | none => rfl
      | some u => exact absurd hl (e1.there l (by rw [g]; simp))
    exact q l ys _ _ _ rfl h0 (e1.trans e2) s2 upd_same (s1.sub.free hl) (hy Hf1 h2))
end
end OC
set_option Elab.async false
set_option linter.all false
set_option maxRecDepth 100000
set_option maxHeartbeats 4000000
namespace OC
open PySem PySem.Spec PyProof.Rows L2
section
variable {P : Program} {w : World} {K : PySem.W.Frag} {mg : Str → Option Value} {base : Heap}
/-! ### lots -/
theorem allLots_len : ∀ n, (allLots n).length = 2 ^ n
  | 0 => rfl
  | n + 1 => by
    show (allLots n ++ _).length = _
    rw [List.length_append, List.length_map, allLots_len n, Nat.pow_succ]; omega
theorem allLots_le {m n : Nat} (h : m ≤ 4) (hn : n ≤ m) : (allLots n).length ≤ 16 := by
  rw [allLots_len]
  have : n = 0 ∨ n = 1 ∨ n = 2 ∨ n = 3 ∨ n = 4 := by omega
  rcases this with h | h | h | h | h <;> subst h <;> decide
theorem allLots_mem_len : ∀ {n : Nat} {l : List Int}, l ∈ allLots n → l.length ≤ n
  | 0, l, h => by
    have : l = [] := by simpa [allLots] using h
    rw [this]; exact Nat.le_refl 0
  | n + 1, l, h => by
    rcases List.mem_append.mp h with h | h
    · have := allLots_mem_len h; omega
    · obtain ⟨l', h1, rfl⟩ := List.mem_map.mp h
      have := allLots_mem_len h1
      rw [List.length_append, List.length_singleton]; omega
def R_all_lots (ds : List PyData) (d : PyData) : Prop := ∃ m : Nat, m ≤ 4 ∧ ds = [.int (m : Nat)] ∧ d = .list ((allLots m).map dI)
theorem natInt_inj {m n : Nat} (h : [PyData.int (m : Int)] = [.int (n : Int)]) : m = n := by
  injection h with h _
  injection h with h
  exact Int.ofNat.inj h
theorem cal_all_lots (t : Top K mg) : Cal P w K mg base "all_lots" 1 (spD R_all_lots) :=
  t.cal 19 (fun f fd F => okD F sc_all_lots (fun ds d ⟨i, _, h, _⟩ => by rw [h]; rfl) (fun cdv A outer s H E hr B hB ds h => by
    obtain ⟨d, m, hm, rfl, rfl⟩ := h
    refine bd_set 1 sc_all_lots.nd (PLD.pd (ds := [dI []]) (pl_lst (pa_d (pd_tup pa_n (by simp)) pa_n) (fun ds h => by rw [h]; simp))) ?_
    refine bd_for1 (k := 2) (as := List.range m) (enc := fun k => .int (k : Nat)) (G := fun i => [.dat (.int (m : Nat)), .dat (.list ((allLots i).map dI)), .non, .non]) rfl PassesOwn.never (src_rng (t.free 63) (nv 0 rfl) (by omega)) (pg_name (i := 2) sc_all_lots.nd rfl (.inr rfl)) ⟨.inr rfl, .inr rfl, .inl rfl, .inl rfl, trivial⟩ (fun i a h => ?_) ?_
    · have hi := (List.getElem?_eq_some_iff.mp h).1
      rw [List.length_range] at hi
      have ea : a = i := by
        rw [List.getElem?_range hi] at h
        exact (Option.some.inj h).symm
      subst ea
      have hl := allLots_le hm (Nat.le_of_lt hi)
      refine bd_set 1 sc_all_lots.nd (PLD.pd (pl_cat (nv 1 rfl) (CompOk.pd (comp1 "lot" 3 (as := allLots a) (enc := dI) (f := fun l => dI (l ++ [((a : Nat) : Int)])) rfl sc_all_lots.nd (src_L (nv 1 rfl)) (blkOk_by (N := N_all_lots) (sc := defScope s_all_lots) (by decide +kernel)) (fun _ _ _ _ _ => pg_name (i := 3) sc_all_lots.nd rfl (Or.inl rfl)) (by omega)
        (fun l hl' s H C cl fp => (pd_cat (nv 3 rfl) (pd_tup (pa_d (nv 2 rfl) pa_n) (by simp)) (by have := allLots_mem_len hl'; simp; omega)).eq (by rw [dI, List.map_append]; rfl)))) (by simp; omega))) (bd_end ⟨.inr rfl, .inr ?_, .inl rfl, .inl rfl, trivial⟩)
      show Slot.dat (.list ((allLots (a + 1)).map dI)) = _
      show Slot.dat (.list ((allLots a ++ (allLots a).map fun l => l ++ [((a : Nat) : Int)]).map dI)) = _
      rw [List.map_append, List.map_map]; rfl
    · rw [List.length_range]
      exact bd_retd (nv 1 rfl) ⟨m, hm, rfl, rfl⟩))
    rfl rfl (fun _ _ _ _ _ _ us hl => match us, hl with | [_], _ => rfl)
theorem inj2I {a b c d : List Int} (h : [dI a, dI b] = [dI c, dI d]) : a = c ∧ b = d := by
  injection h with h1 h2
  injection h2 with h2
  exact ⟨dI_inj h1, dI_inj h2⟩
def R_has_some (ds : List PyData) (d : PyData) : Prop := ∃ a b : List Int, a.length ≤ 1000 ∧ ds = [dI a, dI b] ∧ d = .bool (hasSome a b)
theorem cal_has_some (t : Top K mg) : Cal P w K mg base "has_some" 1 (spD R_has_some) :=
  t.cal 20 (fun f fd F => okD F sc_has_some (fun ds d ⟨i, _, _, h, _⟩ => by rw [h]; rfl) (fun cdv A outer s H E hr B hB ds h => by
    obtain ⟨d, a, b, hl, rfl, rfl⟩ := h
    exact bd_retd (pd_anyC (t.free 67) rfl (comp1 "member" 2 (as := a) (enc := .int) (f := fun k => .bool (decide (k ∈ b))) rfl sc_has_some.nd (src_T (nv 0 rfl)) (blkOk_by (N := N_has_some) (sc := defScope s_has_some) (by decide +kernel)) (fun _ _ _ _ _ => pg_name (i := 2) sc_has_some.nd rfl (Or.inl rfl)) (by omega)
      (fun k hk s H C cl fp => pd_inT (nv 2 rfl) (nv 1 rfl)))) ⟨a, b, hl, rfl, rfl⟩))
    rfl rfl (fun _ _ _ _ _ _ us hl => match us, hl with | [_, _], _ => rfl)
def R_meets_all (ds : List PyData) (d : PyData) : Prop := ∃ (a : List Int) (kin : List (List Int)), a.length ≤ 1000 ∧ kin.length ≤ 4 ∧ ds = [dI a, dK kin] ∧ d = .bool (meetsAll a kin)
theorem cal_meets_all (t : Top K mg) : Cal P w K mg base "meets_all" 2 (spD R_meets_all) :=
  t.cal 21 (fun f fd F => okD F sc_meets_all (fun ds d ⟨i, _, _, _, h, _⟩ => by rw [h]; rfl) (fun cdv A outer s H E hr B hB ds h => by
    obtain ⟨d, a, kin, hl, hk, rfl, rfl⟩ := h
    exact bd_retd (pd_allC (t.free 62) rfl (comp1 "other" 2 (as := kin) (enc := dI) (f := fun o => .bool (hasSome a o)) rfl sc_meets_all.nd (src_T (nv 1 rfl)) (blkOk_by (N := N_meets_all) (sc := defScope s_meets_all) (by decide +kernel)) (fun _ _ _ _ _ => pg_name (i := 2) sc_meets_all.nd rfl (Or.inl rfl)) (by omega)
      (fun o ho s H C cl fp => pd_call (cal_has_some t) hr (pa_d (nv 0 rfl) (pa_d (nv 2 rfl) pa_n)) ⟨a, o, hl, rfl, rfl⟩ (fun d' ⟨a', b', _, h, h'⟩ => by obtain ⟨e1, e2⟩ := inj2I h; rw [h', e1, e2])))) ⟨a, kin, hl, hk, rfl, rfl⟩))
    rfl rfl (fun _ _ _ _ _ _ us hl => match us, hl with | [_, _], _ => rfl)
def R_without (ds : List PyData) (d : PyData) : Prop := ∃ (a : List Int) (k : Int), a.length ≤ 1000 ∧ ds = [dI a, .int k] ∧ d = dI (without a k)
theorem cal_without (t : Top K mg) : Cal P w K mg base "without" 1 (spD R_without) :=
  t.cal 22 (fun f fd F => okD F sc_without (fun ds d ⟨i, _, _, h, _⟩ => by rw [h]; rfl) (fun cdv A outer s H E hr B hB ds h => by
    obtain ⟨d, a, k, hl, rfl, rfl⟩ := h
    exact bd_retd (pd_tupL (t.free 60) (CompOk.pl (comp1f "other" 2 (as := a) (enc := .int) (f := .int) (fun x => !decide (x = k)) rfl sc_without.nd (src_T (nv 0 rfl)) (blkOk_by (N := N_without) (sc := defScope s_without) (by decide +kernel)) (fun _ _ _ _ _ => pg_name (i := 2) sc_without.nd rfl (Or.inl rfl)) (by omega)
      (fun o ho s H C cl fp => pt_neI (nv 2 rfl) (nv 1 rfl)) (fun o ho _ s H C cl fp => nv 2 rfl)))) ⟨a, k, hl, rfl, rfl⟩))
    rfl rfl (fun _ _ _ _ _ _ us hl => match us, hl with | [_, _], _ => rfl)
theorem inj2K {a : List Int} {b : List (List Int)} {c : List Int} {d : List (List Int)} (h : [dI a, dK b] = [dI c, dK d]) : a = c ∧ b = d := by
  injection h with h1 h2
  injection h2 with h2
  exact ⟨dI_inj h1, dK_inj h2⟩
theorem without_len (a : List Int) (k : Int) : (without a k).length ≤ a.length := List.length_filter_le _ _
/-- no least lot is empty -/
theorem isLeast_ne {kin : List (List Int)} {lot : List Int} (h1 : 1 ≤ kin.length) (h : isLeast kin lot = true) : lot ≠ [] := fun e => by
  subst e
  cases kin with
  | nil => simp at h1
  | cons k ks => simp [isLeast, meetsAll, hasSome] at h
theorem alike_ints : ∀ (a b : List Int), PySem.W.alikeAll (a.map .int) (b.map .int) = true
  | [], _ => by simp [PySem.W.alikeAll]
  | _ :: _, [] => by simp [PySem.W.alikeAll]
  | x :: a, y :: b => by
    simp only [List.map_cons, PySem.W.alikeAll, PySem.W.alike, Bool.true_and]
    exact alike_ints a b
theorem depth_ints : ∀ (a : List Int), PyData.depthAll (a.map .int) = 0 ∨ PyData.depthAll (a.map .int) ≤ 1
  | [] => .inl (by simp [PyData.depthAll])
  | x :: a => .inr (by
    have h := depth_ints a
    simp only [List.map_cons, PyData.depthAll, PyData.depth]
    omega)
def R_least_of (ds : List PyData) (d : PyData) : Prop := ∃ (kin : List (List Int)), (1 ≤ kin.length ∧ kin.length ≤ 4) ∧ ds = [dK kin] ∧ ∃ ls : List (List Int), ls.Perm (leastOf kin) ∧ d = .list (ls.map dI)
theorem cal_least_of (t : Top K mg) : Cal P w K mg base "least_of" 3 (spD R_least_of) :=
  t.cal 23 (fun f fd F => okD F sc_least_of (fun ds d ⟨i, _, h, _⟩ => by rw [h]; rfl) (fun cdv A outer s H E hr B hB ds h => by
    obtain ⟨d, kin, hk, rfl, _⟩ := h
    have hl16 := allLots_le (m := kin.length) (n := kin.length) hk.2 (Nat.le_refl _)
    refine bd_setL 1 sc_least_of.nd (ds := []) (pl_lst pa_n (fun ds h => by rw [h]; simp)) ?_
    refine bd_for1 (k := 2) (as := allLots kin.length) (enc := dI) (G := fun i => [.dat (dK kin), .own (Lst ((((allLots kin.length).take i).filter (isLeast kin)).map dI)), .non, .non]) rfl PassesOwn.never (src_L (pd_call (cal_all_lots t) hr (pa_d (pd_lenT (t.free 61) (nv 0 rfl)) pa_n) ⟨kin.length, hk.2, by rw [List.length_map], rfl⟩ (fun d' ⟨m', _, h, h'⟩ => by have := natInt_inj h; rw [List.length_map] at this; rw [h', this])))
      (pg_name (i := 2) sc_least_of.nd rfl (.inr rfl)) ⟨.inr rfl, .inr rfl, .inl rfl, .inl rfl, trivial⟩ (fun i a h => ?_) ?_
    · have hal := allLots_mem_len (List.mem_of_getElem? h)
      have hmeet : ∀ {X : Cx} {Γ : List Slot} {B : Bs} {e1 e2 : Expr} {b : List Int}, True := fun {_ _ _ _ _ _} => trivial
      refine bd_cons (M := fun G => le [.dat (dK kin), .own (Lst ((((allLots kin.length).take (i + 1)).filter (isLeast kin)).map dI)), .non, .non] G) (b1_if (k := isLeast kin a) (PW.pt (pw_a (pt_vd (pd_call (cal_meets_all t) hr (pa_d (nv 2 rfl) (pa_d (nv 0 rfl) pa_n)) ⟨a, kin, by omega, hk.2, rfl, rfl⟩ (fun d' ⟨a', b', _, _, h, h'⟩ => by obtain ⟨e1, e2⟩ := inj2K h; rw [h', e1, e2])))
        (fun _ => pw_a1 (pt_notd (pt_vd (pd_anyC (t.free 67) rfl (comp1 "member" 3 (as := a) (enc := .int) (f := fun k => .bool (meetsAll (without a k) kin)) rfl sc_least_of.nd (src_T (nv 2 rfl)) (blkOk_by (N := N_least_of) (sc := defScope s_least_of) (by decide +kernel)) (fun _ _ _ _ _ => pg_name (i := 3) sc_least_of.nd rfl (Or.inl rfl)) (by omega)
          (fun k hk' s H C cl fp => pd_call (cal_meets_all t) hr (pa_d (pd_call (cal_without t) hr (pa_d (nv 2 rfl) (pa_d (nv 3 rfl) pa_n)) ⟨a, k, by omega, rfl, rfl⟩ (fun d' ⟨a', k', _, h, h'⟩ => by obtain ⟨e1, e2⟩ := inj2 h; rw [h', e1, e2])) (pa_d (nv 0 rfl) pa_n)) ⟨without a k, kin, by have := without_len a k; omega, hk.2, rfl, rfl⟩ (fun d' ⟨a', b', _, _, h, h'⟩ => by obtain ⟨e1, e2⟩ := inj2K h; rw [h', e1, e2])))))))))
        (fun hT => ?_) (fun hF => ?_)) (fun G g => bd_nil (Γ' := _) (show le _ _ from le_refl) g)
      · have hlen : (((allLots kin.length).take i).filter (isLeast kin)).length ≤ 16 := Nat.le_trans (List.length_filter_le _ _) (by rw [List.length_take]; omega)
        refine bd_app 1 rfl (nv 2 rfl) (by rw [List.length_map]; omega) (bd_end ⟨.inr rfl, .inr ?_, .inl rfl, .inl rfl, trivial⟩)
        rw [List.take_add_one, h, Option.toList_some, List.filter_append, List.filter_cons_of_pos hT, List.filter_nil, List.map_append]
        rfl
      · refine bd_end ⟨.inr rfl, .inr ?_, .inl rfl, .inl rfl, trivial⟩
        rw [List.take_add_one, h, Option.toList_some, List.filter_append, List.filter_cons_of_neg (by rw [hF]; simp), List.filter_nil, List.append_nil]
    · rw [List.take_length]
      have hne : ∀ l ∈ (allLots kin.length).filter (isLeast kin), l ≠ [] := fun l hl => isLeast_ne hk.1 (List.mem_filter.mp hl).2
      refine bd_freeze 1 rfl ?_
      refine bd_retd (PLD.pd (pl_sorted hr (t.free 68) (nv 1 rfl) ?_ ?_ ?_ ?_)) ⟨kin, hk, rfl, _, List.mergeSort_perm _ _, rfl⟩
      · intro d1 h1 d2 h2
        obtain ⟨l1, _, rfl⟩ := List.mem_map.mp h1
        obtain ⟨l2, _, rfl⟩ := List.mem_map.mp h2
        simp only [PySem.W.alike]
        exact alike_ints l1 l2
      · refine .inl fun d1 h1 => ?_
        obtain ⟨l1, g1, rfl⟩ := List.mem_map.mp h1
        cases l1 with
        | nil => exact absurd rfl (hne _ g1)
        | cons x r => exact ⟨.int x, r.map .int, rfl⟩
      · intro l hl
        have := depth_ints l
        simp only [PyData.depth]
        omega
      · exact Nat.le_trans (List.length_filter_le _ _) (by omega)))
    rfl rfl (fun _ _ _ _ _ _ us hl => match us, hl with | [_], _ => rfl)
end
end OC
set_option linter.all false
/-! Plain law, part 1: rows in range, their numbers, the rows of a box. -/
namespace OC
/-- a row of a club -/
def inR : List Int → List Int → Prop
  | [], [] => True
  | s :: c, x :: r => (0 ≤ x ∧ x < s) ∧ inR c r
  | _, _ => False
theorem inR_len : ∀ {c r : List Int}, inR c r → r.length = c.length
  | [], [], _ => rfl
  | _ :: _, _ :: _, h => by simp [inR_len h.2]
  | [], _ :: _, h => h.elim
  | _ :: _, [], h => h.elim
theorem inR_append : ∀ {c r c' r' : List Int}, inR c r → inR c' r' → inR (c ++ c') (r ++ r')
  | [], [], _, _, _, h => h
  | _ :: _, _ :: _, _, _, h, h' => ⟨h.1, inR_append h.2 h'⟩
  | [], _ :: _, _, _, h, _ => h.elim
  | _ :: _, [], _, _, h, _ => h.elim
theorem inR_reverse : ∀ {c r : List Int}, inR c r → inR c.reverse r.reverse
  | [], [], _ => trivial
  | s :: c, x :: r, h => by
    rw [List.reverse_cons, List.reverse_cons]
    exact inR_append (inR_reverse h.2) ⟨h.1, trivial⟩
  | [], _ :: _, h => h.elim
  | _ :: _, [], h => h.elim
theorem slR_inR : ∀ {r : List Int} {n : Int}, (∀ s ∈ r, 1 ≤ s) → inR r (slR r n)
  | [], _, _ => trivial
  | s :: r, n, h => by
    have hs := h s List.mem_cons_self
    exact ⟨⟨Int.emod_nonneg _ (by omega), Int.emod_lt_of_pos _ (by omega)⟩, slR_inR fun x hx => h x (List.mem_cons_of_mem _ hx)⟩
theorem slips_inR {c : List Int} {n : Int} (h : ∀ s ∈ c, 1 ≤ s) : inR c (slips c n) := by
  have := inR_reverse (slR_inR (r := c.reverse) (n := n) fun s hs => h s (by simpa using hs))
  rwa [List.reverse_reverse] at this
theorem place_lt_aux : ∀ {c r : List Int} {a b : Int}, (∀ s ∈ c, 1 ≤ s) → inR c r → 0 ≤ a → a < b → 0 ≤ (r.zip c).foldl (fun f p => f * p.2 + p.1) a ∧ (r.zip c).foldl (fun f p => f * p.2 + p.1) a < c.foldl (fun a b => a * b) b
  | [], [], a, b, _, _, h0, h1 => ⟨h0, h1⟩
  | s :: c, x :: r, a, b, hs, h, h0, h1 => by
    have h2 := hs s List.mem_cons_self
    have e1 : a * s + x < b * s := by
      have : (a + 1) * s ≤ b * s := Int.mul_le_mul_of_nonneg_right (by omega) (by omega)
      rw [Int.add_mul, Int.one_mul] at this
      have := h.1.2
      omega
    have e0 : 0 ≤ a * s + x := by
      have : 0 ≤ a * s := Int.mul_nonneg h0 (by omega)
      have := h.1.1
      omega
    exact place_lt_aux (a := a * s + x) (b := b * s) (fun y hy => hs y (List.mem_cons_of_mem _ hy)) h.2 e0 e1
  | [], _ :: _, _, _, _, h, _, _ => h.elim
  | _ :: _, [], _, _, _, h, _, _ => h.elim
theorem place_range {c r : List Int} (hs : ∀ s ∈ c, 1 ≤ s) (h : inR c r) : 0 ≤ place c r ∧ place c r < prodI c := place_lt_aux hs h (Int.le_refl 0) (by decide)
/-- the rows of a box in the making -/
structure CornI (c : List Int) (n : Nat) (f : List (List Int × Int)) : Prop where
  rows : ∀ q ∈ f, inR (c.take n) q.1 ∧ (q.2 = 1 ∨ q.2 = -1)
  len : f.length ≤ 2 ^ n
theorem cornI_zero (c : List Int) : CornI c 0 [([], 1)] := ⟨fun q hq => by
  have : q = ([], 1) := by simpa using hq
  rw [this]; exact ⟨trivial, .inl rfl⟩, by simp⟩
theorem cornI_step {c : List Int} {n : Nat} {f : List (List Int × Int)} {s : Int} {p : Int × Int} (h : CornI c n f) (hs : c[n]? = some s) (h1 : 0 ≤ p.1 ∧ p.1 < s) (h2 : 0 ≤ p.2 ∧ p.2 < s) : CornI c (n + 1) (cornStep f p) := by
  have et : c.take (n + 1) = c.take n ++ [s] := by rw [List.take_add_one, hs]; rfl
  refine ⟨fun q hq => ?_, ?_⟩
  · rw [et]
    rcases List.mem_append.mp hq with hq | hq
    · obtain ⟨q', g1, rfl⟩ := List.mem_map.mp hq
      exact ⟨inR_append (h.rows q' g1).1 ⟨h1, trivial⟩, (h.rows q' g1).2⟩
    · by_cases e : p.2 = p.1
      · rw [if_pos e] at hq; simp at hq
      · rw [if_neg e] at hq
        obtain ⟨q', g1, rfl⟩ := List.mem_map.mp hq
        refine ⟨inR_append (h.rows q' g1).1 ⟨h2, trivial⟩, ?_⟩
        show -q'.2 = 1 ∨ -q'.2 = -1
        rcases (h.rows q' g1).2 with e | e <;> rw [e]
        · exact .inr rfl
        · exact .inl rfl
  · have hl := h.len
    unfold cornStep
    rw [List.length_append, List.length_map, Nat.pow_succ]
    split
    · simp; omega
    · rw [List.length_map]; omega
theorem inR_get : ∀ {c r : List Int} {i : Nat} {s x : Int}, inR c r → c[i]? = some s → r[i]? = some x → 0 ≤ x ∧ x < s
  | [], [], _, _, _, _, h, _ => by simp at h
  | s :: c, x :: r, 0, s', x', h, h1, h2 => by
    simp at h1 h2; subst h1; subst h2; exact h.1
  | s :: c, x :: r, i + 1, s', x', h, h1, h2 => inR_get h.2 (by simpa using h1) (by simpa using h2)
  | [], _ :: _, _, _, _, h, _, _ => h.elim
  | _ :: _, [], _, _, _, h, _, _ => h.elim
theorem cornI_take {c a b : List Int} (ha : inR c a) (hb : inR c b) : ∀ n, n ≤ c.length → CornI c n (((a.zip b).take n).foldl cornStep [([], 1)])
  | 0, _ => by rw [List.take_zero]; exact cornI_zero c
  | n + 1, hn => by
    have la := inR_len ha
    have lb := inR_len hb
    have ih := cornI_take ha hb n (by omega)
    have g : (a.zip b)[n]? = some (a[n]'(by omega), b[n]'(by omega)) := by
      rw [List.getElem?_eq_getElem (by rw [List.length_zip]; omega), List.getElem_zip]
    rw [List.take_add_one, g, Option.toList_some, List.foldl_append]
    exact cornI_step ih (List.getElem?_eq_getElem (by omega)) (inR_get ha (List.getElem?_eq_getElem (by omega)) (List.getElem?_eq_getElem (by omega))) (inR_get hb (List.getElem?_eq_getElem (by omega)) (List.getElem?_eq_getElem (by omega)))
theorem corn_ok {c a b : List Int} (ha : inR c a) (hb : inR c b) : CornI c c.length (corn a b) := by
  have h := cornI_take ha hb c.length (Nat.le_refl _)
  have e : (a.zip b).take c.length = a.zip b := List.take_of_length_le (by rw [List.length_zip, inR_len ha, inR_len hb]; omega)
  rw [e] at h
  exact h
theorem inR_of : ∀ {c r : List Int}, r.length = c.length → (∀ (i : Nat) (s x : Int), c[i]? = some s → r[i]? = some x → 0 ≤ x ∧ x < s) → inR c r
  | [], [], _, _ => trivial
  | s :: c, x :: r, hl, h => ⟨h 0 s x rfl rfl, inR_of (by simpa using hl) fun i s' x' h1 h2 => h (i + 1) s' x' (by simpa using h1) (by simpa using h2)⟩
  | [], _ :: _, h, _ => by simp at h
  | _ :: _, [], h, _ => by simp at h
/-- a row with the slips of a lot made 0 -/
def zeroed (lot row : List Int) : List Int := (ix row).map fun p => if p.1 ∈ lot then 0 else p.2
theorem zeroed_len (lot row : List Int) : (zeroed lot row).length = row.length := by simp [zeroed, ix]
theorem zeroed_get {lot row : List Int} {i : Nat} {x : Int} (h : row[i]? = some x) : (zeroed lot row)[i]? = some (if ((i : Nat) : Int) ∈ lot then 0 else x) := by simp [zeroed, ix, h]
theorem zeroed_inR {c lot row : List Int} (hc : ∀ s ∈ c, 1 ≤ s) (h : inR c row) : inR c (zeroed lot row) := by
  have hl := inR_len h
  refine inR_of (by rw [zeroed_len, hl]) fun i s x h1 h2 => ?_
  have hi : i < row.length := by have := (List.getElem?_eq_some_iff.mp h1).1; omega
  have g := List.getElem?_eq_getElem hi
  rw [zeroed_get g] at h2
  have hs := hc s (List.mem_of_getElem? h1)
  have hr := inR_get h h1 g
  cases h2
  split
  · omega
  · exact hr
theorem line_range {c lot : List Int} {n : Int} (hc : ∀ s ∈ c, 1 ≤ s) : 0 ≤ lineOf c lot n ∧ lineOf c lot n < prodI c := place_range hc (zeroed_inR hc (slips_inR hc))
theorem passStep_len (c : List Int) (k : Nat) (f : List Int) (n : Nat) : (passStep c k f n).length = f.length := by
  unfold passStep
  split
  · rfl
  · rw [List.length_set]
theorem passFold_len (c : List Int) (k : Nat) : ∀ (ns : List Nat) (f : List Int), (ns.foldl (passStep c k) f).length = f.length
  | [], _ => rfl
  | n :: ns, f => by rw [List.foldl_cons, passFold_len c k ns, passStep_len]
theorem passN_len (c : List Int) (k : Nat) (f : List Int) : (passN c k f).length = f.length := passFold_len c k _ f
theorem partsFold_len (c : List Int) : ∀ (ks : List Nat) (f : List Int), (ks.foldl (fun f k => passN c k f) f).length = f.length
  | [], _ => rfl
  | k :: ks, f => by rw [List.foldl_cons, partsFold_len c ks, passN_len]
theorem partsOf_len (c t : List Int) : (partsOf c t).length = t.length := partsFold_len c _ t
end OC
set_option Elab.async false
set_option linter.all false
set_option maxRecDepth 100000
set_option maxHeartbeats 4000000
namespace OC
open PySem PySem.Spec PyProof.Rows L2
section
variable {P : Program} {w : World} {K : PySem.W.Frag} {mg : Str → Option Value} {base : Heap}
abbrev dC (q : List Int × Int) : PyData := .tuple [dI q.1, .int q.2]
theorem inj3 {a b : List Int} {m n i j : Int} (h : [dI a, PyData.int m, .int i] = [dI b, .int n, .int j]) : a = b ∧ m = n ∧ i = j := by
  injection h with h1 h2
  injection h2 with h2 h3
  injection h2 with h2
  injection h3 with h3
  injection h3 with h3
  exact ⟨dI_inj h1, h2, h3⟩
theorem ClubOk.ge1 {c : List Int} (h : ClubOk c) : ∀ s ∈ c, 1 ≤ s := fun s hs => (h.s1 s hs).1
theorem pow_le16 {n : Nat} (h : n ≤ 4) : 2 ^ n ≤ 16 := by
  have : n = 0 ∨ n = 1 ∨ n = 2 ∨ n = 3 ∨ n = 4 := by omega
  rcases this with h | h | h | h | h <;> subst h <;> decide
def R_corners (ds : List PyData) (d : PyData) : Prop := ∃ c i j, ClubOk c ∧ ds = [dI c, .int i, .int j] ∧ d = .list ((corn (slips c i) (slips c j)).map fun q => .tuple [.int (place c q.1), .int q.2])
theorem cal_corners (t : Top K mg) : Cal P w K mg base "corners" 2 (spD R_corners) :=
  t.cal 24 (fun f fd F => okD F sc_corners (fun ds d ⟨i, _, _, _, h, _⟩ => by rw [h]; rfl) (fun cdv A outer s H E hr B hB ds h => by
    obtain ⟨d, c, i, j, hc, rfl, rfl⟩ := h
    have h4 := hc.l4
    have ia := slips_inR (n := i) hc.ge1
    have ib := slips_inR (n := j) hc.ge1
    have la := slips_len c i
    have lb := slips_len c j
    have hin : ∀ {n m : Int} {d' : PyData}, R_slips_of [dI c, .int n] d' → d' = dI (slips c n) := fun {n m d'} ⟨c', n', _, h, h'⟩ => by obtain ⟨e1, e2⟩ := inj2 h; rw [h', e1, e2]
    refine bd_set 3 sc_corners.nd (PLD.pd (ds := [dC ([], 1)]) (pl_lst (pa_d (pd_tup (pa_d (pd_tup pa_n (by simp)) (pa_d pn_int pa_n)) (by simp)) pa_n) (fun ds h => by rw [h]; simp))) ?_
    refine bd_for2 (j := 4) (k := 5) (as := (slips c i).zip (slips c j)) (e1 := fun a => .int a.1) (e2 := fun a => .int a.2) (G := fun n => [.dat (dI c), .dat (.int i), .dat (.int j), .dat (.list (((((slips c i).zip (slips c j)).take n).foldl cornStep [([], 1)]).map dC)), .non, .non, .non, .non, .non]) rfl PassesOwn.never
      (src_zipTm (t.free 64) (pd_call (cal_slips_of t) hr (pa_d (nv 0 rfl) (pa_d (nv 1 rfl) pa_n)) ⟨c, i, hc, rfl, rfl⟩ (fun d' h => hin (m := 0) h)) (pd_call (cal_slips_of t) hr (pa_d (nv 0 rfl) (pa_d (nv 2 rfl) pa_n)) ⟨c, j, hc, rfl, rfl⟩ (fun d' h => hin (m := 0) h)) (by rw [la, lb]))
      (pg_tup rfl (pgs_cons (pg_name (i := 4) sc_corners.nd rfl (.inr rfl)) (pgs_cons (pg_name (i := 5) sc_corners.nd rfl (.inr rfl)) pgs_nil))) ⟨.inr rfl, .inr rfl, .inr rfl, .inr rfl, .inl rfl, .inl rfl, .inl rfl, .inl rfl, .inl rfl, trivial⟩ (fun n p h => ?_) ?_
    · have hn := (List.getElem?_eq_some_iff.mp h).1
      rw [List.length_zip, la, lb] at hn
      have ci := cornI_take ia ib n (by omega)
      have cl : (((((slips c i).zip (slips c j)).take n).foldl cornStep [([], 1)])).length ≤ 16 := Nat.le_trans ci.len (pow_le16 (by omega))
      have cr : ∀ q ∈ ((((slips c i).zip (slips c j)).take n).foldl cornStep [([], 1)]), q.1.length ≤ 4 := fun q hq => by
        have := inR_len (ci.rows q hq).1
        rw [this, List.length_take]; omega
      generalize hf : ((((slips c i).zip (slips c j)).take n).foldl cornStep [([], 1)]) = ff at cl cr
      have hst : ((((slips c i).zip (slips c j)).take (n + 1)).foldl cornStep [([], 1)]) = cornStep ff p := by rw [foldl_take h, hf]
      refine bd_lc 6 (comp2 "row" "sign" 7 8 (as := ff) (e1 := fun q => dI q.1) (e2 := fun q => .int q.2) (f := fun q => dC (q.1 ++ [p.1], q.2)) rfl sc_corners.nd (src_L (nv 3 rfl)) (blkOk_by (N := N_corners) (sc := defScope s_corners) (by decide +kernel)) (by decide) (fun _ _ _ _ _ => pg_tup rfl (pgs_cons (pg_name (i := 7) sc_corners.nd rfl (.inl rfl)) (pgs_cons (pg_name (i := 8) sc_corners.nd rfl (.inl rfl)) pgs_nil))) (by omega)
        (fun q hq s H C cl fp => pd_tup (pa_d ((pd_cat (nv 7 rfl) (pd_tup (pa_d (nv 4 rfl) pa_n) (by simp)) (by have := cr q hq; simp; omega)).eq (by rw [dI, List.map_append]; rfl)) (pa_d (nv 8 rfl) pa_n)) (by simp))) ?_
      refine bd_cons (M := fun G => le [.dat (dI c), .dat (.int i), .dat (.int j), .non, .non, .non, .own (Lst ((cornStep ff p).map dC)), .non, .non] G) (b1_if (pt_neI (nv 5 rfl) (nv 4 rfl)) (fun hk => ?_) (fun hk => ?_)) (fun G g => ?_)
      · have hne : ¬ p.2 = p.1 := by simpa using hk
        refine bd_cons (b1_ext 6 rfl (CompOk.pl (comp2 "row" "sign" 7 8 (as := ff) (e1 := fun q => dI q.1) (e2 := fun q => .int q.2) (f := fun q => dC (q.1 ++ [p.2], -q.2)) rfl sc_corners.nd (src_L (nv 3 rfl)) (blkOk_by (N := N_corners) (sc := defScope s_corners) (by decide +kernel)) (by decide) (fun _ _ _ _ _ => pg_tup rfl (pgs_cons (pg_name (i := 7) sc_corners.nd rfl (.inl rfl)) (pgs_cons (pg_name (i := 8) sc_corners.nd rfl (.inl rfl)) pgs_nil))) (by omega)
          (fun q hq s H C cl fp => pd_tup (pa_d ((pd_cat (nv 7 rfl) (pd_tup (pa_d (nv 5 rfl) pa_n) (by simp)) (by have := cr q hq; simp; omega)).eq (by rw [dI, List.map_append]; rfl)) (pa_d (pd_neg (nv 8 rfl)) pa_n)) (by simp)))) (fun es h => by rw [h, List.length_map, List.length_map]; omega)) (fun G ⟨es, h1, h2⟩ => ?_)
        rw [h2, h1]
        refine bd_end ⟨.inr rfl, .inr rfl, .inr rfl, .inl rfl, .inl rfl, .inl rfl, .inr ?_, .inl rfl, .inl rfl, trivial⟩
        rw [cornStep, if_neg hne, List.map_append, List.map_map, List.map_map]; rfl
      · have he : p.2 = p.1 := by simpa using hk
        refine bd_end ⟨.inr rfl, .inr rfl, .inr rfl, .inl rfl, .inl rfl, .inl rfl, .inr ?_, .inl rfl, .inl rfl, trivial⟩
        rw [cornStep, if_pos he, List.append_nil, List.map_map]; rfl
      · refine BD.weak ?_ g
        refine bd_freeze 6 rfl ?_
        refine bd_set 3 sc_corners.nd (nv 6 rfl) (bd_end ⟨.inr rfl, .inr rfl, .inr rfl, .inr ?_, .inl rfl, .inl rfl, .inl rfl, .inl rfl, .inl rfl, trivial⟩)
        rw [hst]
    · rw [List.take_length]
      have co := corn_ok ia ib
      have cl := Nat.le_trans co.len (pow_le16 h4)
      refine bd_retd (CompOk.pd (comp2 "row" "sign" 7 8 (as := corn (slips c i) (slips c j)) (e1 := fun q => dI q.1) (e2 := fun q => .int q.2) (f := fun q => .tuple [.int (place c q.1), .int q.2]) rfl sc_corners.nd (src_L (nv 3 rfl)) (blkOk_by (N := N_corners) (sc := defScope s_corners) (by decide +kernel)) (by decide) (fun _ _ _ _ _ => pg_tup rfl (pgs_cons (pg_name (i := 7) sc_corners.nd rfl (.inl rfl)) (pgs_cons (pg_name (i := 8) sc_corners.nd rfl (.inl rfl)) pgs_nil))) (by omega)
          (fun q hq s H C cl fp => pd_tup (pa_d (pd_call (d := .int (place c q.1)) (cal_place_of t) hr (pa_d (nv 0 rfl) (pa_d (nv 7 rfl) pa_n)) ⟨c, q.1, hc, by have := inR_len (co.rows q hq).1; rw [this, List.take_length], .inl rfl, rfl⟩ ?_) (pa_d (nv 8 rfl) pa_n)) (by simp)))) ⟨c, i, j, hc, rfl, rfl⟩
      rintro d' ⟨c', row', _, _, h | h, h'⟩
      · obtain ⟨e1, e2⟩ : c = c' ∧ q.1 = row' := by
          injection h with h1 h2
          injection h2 with h2
          exact ⟨dI_inj h1, dI_inj h2⟩
        rw [h', ← e1, ← e2]
      · injection h with _ h2
        injection h2 with h2 _
        cases h2))
    rfl rfl (fun _ _ _ _ _ _ us hl => match us, hl with | [_, _, _], _ => rfl)
def R_sum_of_box (ds : List PyData) (d : PyData) : Prop := ∃ c tt i j, ClubOk c ∧ TotOk c tt ∧ ds = [dI c, dI tt, .int i, .int j] ∧ d = .int (boxSum c tt i j)
theorem at0_get {tt : List Int} {n : Int} (h0 : 0 ≤ n) (h1 : n < tt.length) : atI (tt.map PyData.int) n = some (.int (at0 tt n)) := by
  have e : n = ((n.toNat : Nat) : Int) := (Int.toNat_of_nonneg h0).symm
  rw [e]
  exact at_map (z := 0) (by omega)
theorem cal_sum_of_box (t : Top K mg) : Cal P w K mg base "sum_of_box" 3 (spD R_sum_of_box) :=
  t.cal 25 (fun f fd F => okD F sc_sum_of_box (fun ds d ⟨i, _, _, _, _, _, h, _⟩ => by rw [h]; rfl) (fun cdv A outer s H E hr B hB ds h => by
    obtain ⟨d, c, tt, i, j, hc, ht, rfl, rfl⟩ := h
    have h4 := hc.l4
    have hp := hc.pos
    have hlen : tt.length = (prodI c).toNat := ht
    have co := corn_ok (slips_inR (n := i) hc.ge1) (slips_inR (n := j) hc.ge1)
    have cl := Nat.le_trans co.len (pow_le16 h4)
    refine bd_retd (pd_sumC (t.free 69) rfl (comp2 "number" "sign" 4 5 (as := corn (slips c i) (slips c j)) (e1 := fun q => .int (place c q.1)) (e2 := fun q => .int q.2) (f := fun q => .int (q.2 * at0 tt (place c q.1))) rfl sc_sum_of_box.nd
      (src_L (pd_call (cal_corners t) hr (pa_d (nv 0 rfl) (pa_d (nv 2 rfl) (pa_d (nv 3 rfl) pa_n))) ⟨c, i, j, hc, rfl, rfl⟩ (fun d' ⟨c', i', j', _, h, h'⟩ => by obtain ⟨e1, e2, e3⟩ := inj3 h; rw [h', e1, e2, e3]))) (blkOk_by (N := N_sum_of_box) (sc := defScope s_sum_of_box) (by decide +kernel)) (by decide) (fun _ _ _ _ _ => pg_tup rfl (pgs_cons (pg_name (i := 4) sc_sum_of_box.nd rfl (.inl rfl)) (pgs_cons (pg_name (i := 5) sc_sum_of_box.nd rfl (.inl rfl)) pgs_nil))) (by omega)
      (fun q hq s H C cl fp => pd_mul (nv 5 rfl) (pd_ixT (nv 1 rfl) (nv 4 rfl) ?_) (.inl ?_)))) ⟨c, tt, i, j, hc, ht, rfl, rfl⟩
    · have hr := (co.rows q hq).1
      rw [List.take_length] at hr
      have := place_range hc.ge1 hr
      exact at0_get this.1 (by omega)
    · rcases (co.rows q hq).2 with e | e <;> rw [e] <;> decide))
    rfl rfl (fun _ _ _ _ _ _ us hl => match us, hl with | [_, _, _, _], _ => rfl)
def Pl (c : List Int) (i : Int) : Prop := 0 ≤ i ∧ i < prodI c
abbrev dP (p : Int × Int) : PyData := .tuple [.int p.1, .int p.2]
def R_are_places (ds : List PyData) (d : PyData) : Prop := ∃ c i j, ClubOk c ∧ Pl c i ∧ Pl c j ∧ ds = [dI c, dP (i, j)] ∧ d = .bool true
theorem cal_are_places (t : Top K mg) : Cal P w K mg base "are_places" 4 (spD R_are_places) :=
  t.cal 26 (fun f fd F => okD F sc_are_places (fun ds d ⟨i, _, _, _, _, _, h, _⟩ => by rw [h]; rfl) (fun cdv A outer s H E hr B hB ds h => by
    obtain ⟨d, c, i, j, hc, hi, hj, rfl, rfl⟩ := h
    exact bd_retd (pd_and (pd_call (d := .bool true) (cal_is_pair t) hr (pa_d (nv 1 rfl) pa_n) ⟨_, _, rfl, rfl⟩ (fun d' ⟨_, _, _, h⟩ => h)) (fun _ => pd_and (pd_call (d := .bool true) (cal_is_place t) hr (pa_d (nv 0 rfl) (pa_d (pd_ixT (nv 1 rfl) pn_int (d := .int i) rfl) pa_n)) ⟨c, i, hc, hi, rfl, rfl⟩ (fun d' ⟨_, _, _, _, _, h⟩ => h))
      (fun _ => pd_one (pd_call (d := .bool true) (cal_is_place t) hr (pa_d (nv 0 rfl) (pa_d (pd_ixT (nv 1 rfl) pn_int (d := .int j) rfl) pa_n)) ⟨c, j, hc, hj, rfl, rfl⟩ (fun d' ⟨_, _, _, _, _, h⟩ => h))))) ⟨c, i, j, hc, hi, hj, rfl, rfl⟩))
    rfl rfl (fun _ _ _ _ _ _ us hl => match us, hl with | [_, _], _ => rfl)
theorem inj4 {a b a' b' : List Int} {m n i j : Int} (h : [dI a, dI a', PyData.int m, .int i] = [dI b, dI b', .int n, .int j]) : a = b ∧ a' = b' ∧ m = n ∧ i = j := by
  injection h with h1 h2
  injection h2 with h2 h3
  injection h3 with h3 h4
  injection h3 with h3
  injection h4 with h4
  injection h4 with h4
  exact ⟨dI_inj h1, dI_inj h2, h3, h4⟩
def R_box_sum (ds : List PyData) (d : PyData) : Prop := ∃ c tt i j, ClubOk c ∧ TotOk c tt ∧ Pl c i ∧ Pl c j ∧ ds = [dI c, dI tt, dP (i, j)] ∧ d = .int (boxSum c tt i j)
theorem cal_box_sum (t : Top K mg) : Cal P w K mg base "box_sum" 6 (spD R_box_sum) :=
  t.cal 27 (fun f fd F => okD F sc_box_sum (fun ds d ⟨i, _, _, _, _, _, _, _, h, _⟩ => by rw [h]; rfl) (fun cdv A outer s H E hr B hB ds h => by
    obtain ⟨d, c, tt, i, j, hc, ht, hi, hj, rfl, rfl⟩ := h
    refine bd_expr (pd_call (cal_check_club t) hr (pa_d (nv 0 rfl) pa_n) ⟨c, hc, rfl, rfl⟩ (fun d' ⟨_, _, _, h⟩ => h)) ?_
    refine bd_expr (pd_call (cal_check_totals t) hr (pa_d (nv 0 rfl) (pa_d (nv 1 rfl) pa_n)) ⟨c, tt, hc, ht, rfl, rfl⟩ (fun d' ⟨_, _, _, _, _, h⟩ => h)) ?_
    refine bd_ifF (pt_notd (k := true) (pt_vd (pd_call (cal_are_places t) hr (pa_d (nv 0 rfl) (pa_d (nv 2 rfl) pa_n)) ⟨c, i, j, hc, hi, hj, rfl, rfl⟩ (fun d' ⟨_, _, _, _, _, _, _, h⟩ => h)))) ?_
    exact bd_retd (pd_call (cal_sum_of_box t) hr (pa_d (nv 0 rfl) (pa_d (nv 1 rfl) (pa_d (pd_ixT (nv 2 rfl) pn_int (d := .int i) rfl) (pa_d (pd_ixT (nv 2 rfl) pn_int (d := .int j) rfl) pa_n)))) ⟨c, tt, i, j, hc, ht, rfl, rfl⟩ (fun d' ⟨c', t', i', j', _, _, h, h'⟩ => by obtain ⟨e1, e2, e3, e4⟩ := inj4 h; rw [h', e1, e2, e3, e4])) ⟨c, tt, i, j, hc, ht, hi, hj, rfl, rfl⟩))
    rfl rfl (fun _ _ _ _ _ _ us hl => match us, hl with | [_, _, _], _ => rfl)
end
end OC
set_option Elab.async false
set_option linter.all false
set_option maxRecDepth 100000
set_option maxHeartbeats 4000000
namespace OC
open PySem PySem.Spec PyProof.Rows L2
section
variable {P : Program} {w : World} {K : PySem.W.Frag} {mg : Str → Option Value} {base : Heap}
def R_speakers (ds : List PyData) (d : PyData) : Prop := ∃ row : List Int, row.length ≤ 1000 ∧ ds = [dI row] ∧ d = dI (speak row)
theorem cal_speakers (t : Top K mg) : Cal P w K mg base "speakers" 1 (spD R_speakers) :=
  t.cal 29 (fun f fd F => okD F sc_speakers (fun ds d ⟨i, _, h, _⟩ => by rw [h]; rfl) (fun cdv A outer s H E hr B hB ds h => by
    obtain ⟨d, row, hl, rfl, rfl⟩ := h
    refine bd_retd (pd_tupL (t.free 60) (CompOk.pl (comp2f "member" "slip" 1 2 (as := ix row) (e1 := fun a => .int a.1) (e2 := fun a => .int a.2) (f := fun a => .int a.1) (fun a => !decide (a.2 = 0)) rfl sc_speakers.nd (src_enumTm (t.free 66) (nv 0 rfl)) (blkOk_by (N := N_speakers) (sc := defScope s_speakers) (by decide +kernel)) (by decide) (fun _ _ _ _ _ => pg_tup rfl (pgs_cons (pg_name (i := 1) sc_speakers.nd rfl (.inl rfl)) (pgs_cons (pg_name (i := 2) sc_speakers.nd rfl (.inl rfl)) pgs_nil))) (by rw [ix_len]; omega)
      (fun a ha s H C cl fp => pt_neI (nv 2 rfl) pn_int) (fun a ha _ s H C cl fp => nv 1 rfl)))) ⟨row, hl, rfl, ?_⟩
    rw [dI, speak, List.map_map]; rfl))
    rfl rfl (fun _ _ _ _ _ _ us hl => match us, hl with | [_], _ => rfl)
def R_takers_of (ds : List PyData) (d : PyData) : Prop := ∃ (kin : List (List Int)) (lot : List Int), kin.length ≤ 4 ∧ lot.length ≤ 1000 ∧ ds = [dK kin, dI lot] ∧ d = dL (takers kin lot)
theorem cal_takers_of (t : Top K mg) : Cal P w K mg base "takers_of" 2 (spD R_takers_of) :=
  t.cal 30 (fun f fd F => okD F sc_takers_of (fun ds d ⟨i, _, _, _, h, _⟩ => by rw [h]; rfl) (fun cdv A outer s H E hr B hB ds h => by
    obtain ⟨d, kin, lot, hk, hl, rfl, rfl⟩ := h
    refine bd_retd (CompOk.pd (comp2f "member" "other" 2 3 (as := ix kin) (e1 := fun a => .int a.1) (e2 := fun a => dI a.2) (f := fun a => .int a.1) (fun a => !hasSome lot a.2) rfl sc_takers_of.nd (src_enumTm (t.free 66) (nv 0 rfl)) (blkOk_by (N := N_takers_of) (sc := defScope s_takers_of) (by decide +kernel)) (by decide) (fun _ _ _ _ _ => pg_tup rfl (pgs_cons (pg_name (i := 2) sc_takers_of.nd rfl (.inl rfl)) (pgs_cons (pg_name (i := 3) sc_takers_of.nd rfl (.inl rfl)) pgs_nil))) (by rw [ix_len]; omega)
      (fun a ha s H C cl fp => pt_notd (pt_vd (pd_call (cal_has_some t) hr (pa_d (nv 1 rfl) (pa_d (nv 3 rfl) pa_n)) ⟨lot, a.2, hl, rfl, rfl⟩ (fun d' ⟨a', b', _, h, h'⟩ => by obtain ⟨e1, e2⟩ := inj2I h; rw [h', e1, e2])))) (fun a ha _ s H C cl fp => nv 2 rfl))) ⟨kin, lot, hk, hl, rfl, ?_⟩
    rw [dL, takers, List.map_map]; rfl))
    rfl rfl (fun _ _ _ _ _ _ us hl => match us, hl with | [_, _], _ => rfl)
theorem injKI {a : List (List Int)} {b : List Int} {c : List (List Int)} {d : List Int} (h : [dK a, dI b] = [dK c, dI d]) : a = c ∧ b = d := by
  injection h with h1 h2
  injection h2 with h2
  exact ⟨dK_inj h1, dI_inj h2⟩
/-! ### parts -/
theorem rowsOf_len (c : List Int) : (rowsOf c).length = (prodI c).toNat := by simp [rowsOf]
theorem ix_get {α : Type} {xs : List α} {i : Nat} {x : α} (h : xs[i]? = some x) : (ix xs)[i]? = some (((i : Nat) : Int), x) := by simp [ix, h]
theorem ix_get' {α : Type} {xs : List α} {i : Nat} {p : Int × α} (h : (ix xs)[i]? = some p) : p.1 = ((i : Nat) : Int) ∧ xs[i]? = some p.2 := by
  rw [ix, List.getElem?_mapIdx] at h
  cases q : xs[i]? with
  | none => rw [q] at h; cases h
  | some x => rw [q] at h; cases h; exact ⟨rfl, rfl⟩
theorem rowsOf_get {c : List Int} {i : Nat} {r : List Int} (h : (rowsOf c)[i]? = some r) : r = slips c ((i : Nat) : Int) ∧ i < (prodI c).toNat := by
  have hi := (List.getElem?_eq_some_iff.mp h).1
  rw [rowsOf_len] at hi
  rw [rowsOf, List.getElem?_map, List.getElem?_range hi] at h
  exact ⟨(Option.some.inj h).symm, hi⟩
theorem getD_map_int {f : List Int} {n : Nat} (h : n < f.length) : (f.map PyData.int)[n]? = some (.int (f.getD n 0)) := by simp [List.getD, h]
theorem ixN_of {n : Nat} {j : Int} (h0 : 0 ≤ j) (h1 : j < n) : ixN n j = some j.toNat := by
  unfold ixN
  rw [if_pos h0, if_pos h1]
def R_parts_of (ds : List PyData) (d : PyData) : Prop := ∃ c tt, ClubOk c ∧ TotOk c tt ∧ ds = [dI c, dI tt] ∧ d = dL (partsOf c tt)
theorem cal_parts_of (t : Top K mg) : Cal P w K mg base "parts_of" 3 (spD R_parts_of) :=
  t.cal 28 (fun f fd F => okD F sc_parts_of (fun ds d ⟨i, _, _, _, h, _⟩ => by rw [h]; rfl) (fun cdv A outer s H E hr B hB ds h => by
    obtain ⟨d, c, tt, hc, ht, rfl, rfl⟩ := h
    have h4 := hc.l4
    have hp := hc.pos
    have hq := hc.pr
    have hlen : tt.length = (prodI c).toNat := ht
    refine bd_setL 2 sc_parts_of.nd (pl_listT (t.free 70) (nv 1 rfl)) ?_
    refine bd_for1 (k := 3) (as := List.range c.length) (enc := fun k => .int (k : Nat)) (G := fun k => [.dat (dI c), .non, .own (Lst ((((List.range c.length).take k).foldl (fun f k => passN c k f) tt).map .int)), .non, .non, .non]) rfl PassesOwn.never (src_rng (t.free 63) ((pd_lenT (t.free 61) (nv 0 rfl)).eq (by rw [List.length_map])) (by omega)) (pg_name (i := 3) sc_parts_of.nd rfl (.inl rfl)) ⟨.inr rfl, .inl rfl, .inr rfl, .inl rfl, .inl rfl, .inl rfl, trivial⟩ (fun k a h => ?_) ?_
    · have hk := (List.getElem?_eq_some_iff.mp h).1
      rw [List.length_range] at hk
      have ea : a = k := by
        rw [List.getElem?_range hk] at h
        exact (Option.some.inj h).symm
      subst ea
      have hst : ((List.range c.length).take (a + 1)).foldl (fun f k => passN c k f) tt = passN c a (((List.range c.length).take a).foldl (fun f k => passN c k f) tt) := foldl_take h
      have flen : (((List.range c.length).take a).foldl (fun f k => passN c k f) tt).length = (prodI c).toNat := by rw [partsFold_len, hlen]
      generalize (((List.range c.length).take a).foldl (fun f k => passN c k f) tt) = ff at hst flen
      refine bd_for2 (j := 4) (k := 5) (as := ix (rowsOf c)) (e1 := fun p => .int p.1) (e2 := fun p => dI p.2) (G := fun n => [.dat (dI c), .non, .own (Lst ((((List.range (prodI c).toNat).take n).foldl (passStep c a) ff).map .int)), .dat (.int ((a : Nat) : Int)), .non, .non]) rfl PassesOwn.never
        (src_enumLm (t.free 66) (pd_call (cal_all_rows t) hr (pa_d (nv 0 rfl) pa_n) ⟨c, hc, rfl, rfl⟩ (fun d' ⟨c', _, h, h'⟩ => by rw [h', DI.inj h]))) (pg_tup rfl (pgs_cons (pg_name (i := 4) sc_parts_of.nd rfl (.inl rfl)) (pgs_cons (pg_name (i := 5) sc_parts_of.nd rfl (.inl rfl)) pgs_nil))) ⟨.inr rfl, .inl rfl, .inr rfl, .inr rfl, .inl rfl, .inl rfl, trivial⟩ (fun n p h => ?_) ?_
      · obtain ⟨e1, h2⟩ := ix_get' h
        obtain ⟨e2, hn⟩ := rowsOf_get h2
        obtain ⟨p1, p2⟩ := p
        simp only at e1 e2
        subst e1; subst e2
        have hr2 : (List.range (prodI c).toNat)[n]? = some n := by rw [List.getElem?_range hn]
        have hst2 : (((List.range (prodI c).toNat).take (n + 1)).foldl (passStep c a) ff) = passStep c a (((List.range (prodI c).toNat).take n).foldl (passStep c a) ff) n := foldl_take hr2
        have glen : (((List.range (prodI c).toNat).take n).foldl (passStep c a) ff).length = (prodI c).toNat := by rw [passFold_len, flen]
        rw [show (fun Z => le [Slot.dat (dI c), .non, .own (Lst ((((List.range (prodI c).toNat).take (n + 1)).foldl (passStep c a) ff).map .int)), .dat (.int ((a : Nat) : Int)), .non, .non] Z) = (fun Z => le [Slot.dat (dI c), .non, .own (Lst ((passStep c a (((List.range (prodI c).toNat).take n).foldl (passStep c a) ff) n).map .int)), .dat (.int ((a : Nat) : Int)), .non, .non] Z) by rw [hst2]]
        generalize (((List.range (prodI c).toNat).take n).foldl (passStep c a) ff) = gg at glen
        have hrow : a < (slips c ((n : Nat) : Int)).length := by rw [slips_len]; exact hk
        refine bd_one (b1_if (pt_neI (pd_ixT (nv 5 rfl) (nv 3 rfl) (at_map (z := 0) hrow)) pn_int) (fun hT => ?_) (fun hF => ?_))
        · have hne : ¬ (slips c ((n : Nat) : Int)).getD a 0 = 0 := by simpa using hT
          have hlr := line_range (c := c) (lot := [((a : Nat) : Int)]) (n := ((n : Nat) : Int)) hc.ge1
          refine bd_one (fun σ Hf H s D nx rt => (b1_augS (Se := fun z => z = .int (gg.getD (lineOf c [((a : Nat) : Int)] ((n : Nat) : Int)).toNat 0)) (Sz := fun z => z = .int (gg.getD n 0 - gg.getD (lineOf c [((a : Nat) : Int)] ((n : Nat) : Int)).toNat 0)) (j := ((n : Nat) : Int)) (m := n) (d0 := .int (gg.getD n 0)) 2 rfl (nv 4 rfl) iop_sub ?_ (by omega) ?_ ?_ (fun db hdb => by rw [hdb]; exact ro_I0i)) σ Hf H s D (fun G ⟨dz, g1, g2⟩ => nx G ?_) rt)
          · refine pd_ixO (j := lineOf c [((a : Nat) : Int)] ((n : Nat) : Int)) 2 rfl (pd_call (d := .int (lineOf c [((a : Nat) : Int)] ((n : Nat) : Int))) (cal_line_of t) hr (pa_d (nv 0 rfl) (pa_d (pd_tup (pa_d (nv 3 rfl) pa_n) (by simp)) (pa_d (nv 4 rfl) pa_n))) ⟨c, [((a : Nat) : Int)], _, hc, .inl rfl, rfl⟩ ?_) ?_
            · rintro d' ⟨c', lot', n', _, h | h, h'⟩
              · injection h with h1 h2
                injection h2 with h2 h3
                injection h3 with h3
                injection h3 with h3
                rw [h', dI_inj h1, ← map_int_inj (a := [((a : Nat) : Int)]) (b := lot') (by injection h2), ← (show ((n : Nat) : Int) = n' from h3)]
              · injection h with h1 h2
                injection h2 with h2 h3
                cases h2
            · exact at0_get hlr.1 (by omega)
          · rw [List.length_map, glen]
            exact ixN_of (by omega) (by omega)
          · exact getD_map_int (by omega)
          · rw [g2, g1]
            refine ⟨.inr rfl, .inl rfl, .inr ?_, .inr rfl, .inl rfl, .inl rfl, trivial⟩
            rw [passStep, if_neg hne, List.map_set]
        · have he : (slips c ((n : Nat) : Int)).getD a 0 = 0 := by simpa using hF
          refine bd_end ⟨.inr rfl, .inl rfl, .inr ?_, .inr rfl, .inl rfl, .inl rfl, trivial⟩
          rw [passStep, if_pos he]
      · refine bd_end ⟨.inr rfl, .inl rfl, .inr ?_, .inl rfl, .inl rfl, .inl rfl, trivial⟩
        rw [hst, passN, ix_len, rowsOf_len, List.take_of_length_le (by simp)]
    · rw [List.take_length]
      refine bd_freeze 2 rfl ?_
      exact bd_retd (nv 2 rfl) ⟨c, tt, hc, ht, rfl, rfl⟩))
    rfl rfl (fun _ _ _ _ _ _ us hl => match us, hl with | [_, _], _ => rfl)
/-! ### barred rows -/
theorem shaped_of {d : PyData} (h1 : d.canLay0 = true) (h2 : d.depth ≤ 64) : SeqAt.shaped d = true := by
  show (d.canLay0 && decide (d.depth ≤ 64)) = true
  rw [h1, decide_eq_true h2]; rfl
theorem lay_ints : ∀ ns : List Int, PyData.canLayAll0 (ns.map .int) = true
  | [] => by simp [PyData.canLayAll0]
  | n :: ns => by simp [PyData.canLayAll0, PyData.canLay0, lay_ints ns]
theorem shaped_dL (ns : List Int) : SeqAt.shaped (dL ns) = true := shaped_of (by simp only [PyData.canLay0]; exact lay_ints ns) (by have := depth_ints ns; simp only [PyData.depth]; omega)
theorem shaped_dI (ns : List Int) : SeqAt.shaped (dI ns) = true := shaped_of (by simp only [PyData.canLay0]; exact lay_ints ns) (by have := depth_ints ns; simp only [PyData.depth]; omega)
theorem shaped_nil : SeqAt.shaped (.list []) = true := shaped_dL []
theorem eqv_nil (xs : List PyData) : PyData.eqv (.list xs) (.list []) = xs.isEmpty := by cases xs <;> simp [PyData.eqv, PyData.eqvAll]
theorem speak_len (row : List Int) : (speak row).length ≤ row.length := by
  rw [speak, List.length_map]
  exact Nat.le_trans (List.length_filter_le _ _) (by rw [ix_len]; exact Nat.le_refl _)
theorem PTD.eq {X : Cx} {B : Bs} {Γ : List Slot} {e : Expr} {k k' : Bool} (h : PTD X B Γ e k) (m : k = k') : PTD X B Γ e k' := m ▸ h
def brd (c : List Int) (kin : List (List Int)) (p : Int × Int) : Bool := !decide (p.2 = 0) && (takers kin (speak (slips c p.1))).isEmpty
theorem take_filter_map {α β : Type} {xs : List α} {i : Nat} {a : α} (p : α → Bool) (g : α → β) (h : xs[i]? = some a) : ((xs.take (i + 1)).filter p).map g = if p a then ((xs.take i).filter p).map g ++ [g a] else ((xs.take i).filter p).map g := by
  rw [List.take_add_one, h, Option.toList_some, List.filter_append]
  split
  · rename_i hp
    rw [List.filter_cons_of_pos hp, List.filter_nil, List.map_append]; rfl
  · rename_i hp
    rw [List.filter_cons_of_neg hp, List.filter_nil, List.append_nil]
theorem alike_P (a b : Int × Int) : PySem.W.alike (dP a) (dP b) = true := by simp [PySem.W.alike, PySem.W.alikeAll]
abbrev sorted (xs : List (Int × Int)) : List (Int × Int) := xs.mergeSort (PySem.W.dataLe false dP)
def R_barred_rows (ds : List PyData) (d : PyData) : Prop := ∃ c kin ps, ClubOk c ∧ kin.length ≤ 4 ∧ ps.length ≤ 1000 ∧ ds = [dI c, dK kin, dL ps] ∧ d = .list ((sorted (barred c kin ps)).map dP)
theorem cal_barred_rows (t : Top K mg) : Cal P w K mg base "barred_rows" 3 (spD R_barred_rows) :=
  t.cal 32 (fun f fd F => okD F sc_barred_rows (fun ds d ⟨i, _, _, _, _, _, h, _⟩ => by rw [h]; rfl) (fun cdv A outer s H E hr B hB ds h => by
    obtain ⟨d, c, kin, ps, hc, hk, hps, rfl, rfl⟩ := h
    have h4 := hc.l4
    refine bd_setL 3 sc_barred_rows.nd (ds := []) (pl_lst pa_n (fun ds h => by rw [h]; simp)) ?_
    refine bd_for2 (j := 4) (k := 5) (as := ix ps) (e1 := fun p => .int p.1) (e2 := fun p => .int p.2) (G := fun n => [.dat (dI c), .dat (dK kin), .non, .own (Lst (((((ix ps).take n).filter (brd c kin)).map fun p => ((((speak (slips c p.1)).length : Nat) : Int), p.1)).map dP)), .non, .non, .non]) rfl PassesOwn.never
      (src_enumLm (t.free 66) (nv 2 rfl)) (pg_tup rfl (pgs_cons (pg_name (i := 4) sc_barred_rows.nd rfl (.inl rfl)) (pgs_cons (pg_name (i := 5) sc_barred_rows.nd rfl (.inl rfl)) pgs_nil))) ⟨.inr rfl, .inr rfl, .inl rfl, .inr rfl, .inl rfl, .inl rfl, .inl rfl, trivial⟩ (fun n p h => ?_) ?_
    · have hsl : (slips c p.1).length ≤ 4 := by rw [slips_len]; exact h4
      have hsp := speak_len (slips c p.1)
      have hlen : ((((ix ps).take n).filter (brd c kin)).map fun p => ((((speak (slips c p.1)).length : Nat) : Int), p.1)).length ≤ 1000 := by
        rw [List.length_map]
        exact Nat.le_trans (List.length_filter_le _ _) (by rw [List.length_take, ix_len]; omega)
      have hst := take_filter_map (brd c kin) (fun p => ((((speak (slips c p.1)).length : Nat) : Int), p.1)) h
      rw [hst]
      generalize ((((ix ps).take n).filter (brd c kin)).map fun p => ((((speak (slips c p.1)).length : Nat) : Int), p.1)) = acc at hlen
      refine bd_set 6 sc_barred_rows.nd (pd_call (d := dI (speak (slips c p.1))) (cal_speakers t) hr (pa_d (pd_call (d := dI (slips c p.1)) (cal_slips_of t) hr (pa_d (nv 0 rfl) (pa_d (nv 4 rfl) pa_n)) ⟨c, p.1, hc, rfl, rfl⟩ (fun d' ⟨c', n', _, h, h'⟩ => by obtain ⟨e1, e2⟩ := inj2 h; rw [h', e1, e2])) pa_n) ⟨slips c p.1, by omega, rfl, rfl⟩ (fun d' ⟨r', _, h, h'⟩ => by rw [h', DI.inj h])) ?_
      refine bd_one (b1_if (k := brd c kin p) (PW.pt (pw_a (pt_neI (nv 5 rfl) pn_int) (fun _ => pw_a1 (PTD.eq (pt_eqD hr (pd_call (d := dL (takers kin (speak (slips c p.1)))) (cal_takers_of t) hr (pa_d (nv 1 rfl) (pa_d (nv 6 rfl) pa_n)) ⟨kin, _, hk, by omega, rfl, rfl⟩ (fun d' ⟨k', l', _, _, h, h'⟩ => by obtain ⟨e1, e2⟩ := injKI h; rw [h', e1, e2]))
          (PLD.pd (ds := []) (pl_lst pa_n (fun ds h => by rw [h]; simp))) (shaped_dL _) shaped_nil) (by rw [eqv_nil, List.isEmpty_map]))))) (fun hT => ?_) (fun hF => ?_))
      · refine bd_app 3 rfl (pd_tup (pa_d ((pd_lenT (t.free 61) (nv 6 rfl)).eq (by rw [List.length_map])) (pa_d (nv 4 rfl) pa_n)) (by simp)) (by rw [List.length_map]; omega) (bd_end ⟨.inr rfl, .inr rfl, .inl rfl, .inr ?_, .inl rfl, .inl rfl, .inl rfl, trivial⟩)
        rw [if_pos hT, List.map_append]; rfl
      · refine bd_end ⟨.inr rfl, .inr rfl, .inl rfl, .inr ?_, .inl rfl, .inl rfl, .inl rfl, trivial⟩
        rw [if_neg (by rw [hF]; simp)]
    · rw [List.take_length]
      refine bd_freeze 3 rfl ?_
      refine bd_retd (PLD.pd (pl_sorted (enc := dP) hr (t.free 68) (nv 3 rfl) ?_ ?_ ?_ ?_)) ⟨c, kin, ps, hc, hk, hps, rfl, rfl⟩
      · intro d1 h1 d2 h2
        obtain ⟨l1, _, rfl⟩ := List.mem_map.mp h1
        obtain ⟨l2, _, rfl⟩ := List.mem_map.mp h2
        exact alike_P l1 l2
      · refine .inl fun d1 h1 => ?_
        obtain ⟨l1, _, rfl⟩ := List.mem_map.mp h1
        exact ⟨.int l1.1, [.int l1.2], rfl⟩
      · intro l hl
        simp [PyData.depth, PyData.depthAll]
      · rw [List.length_map]
        exact Nat.le_trans (List.length_filter_le _ _) (by rw [ix_len]; omega)))
    rfl rfl (fun _ _ _ _ _ _ us hl => match us, hl with | [_, _, _], _ => rfl)
end
end OC
set_option Elab.async false
set_option linter.all false
set_option maxRecDepth 100000
set_option maxHeartbeats 4000000
/-! Own kit: comprehensions over a source of which several kinds may come. -/
namespace OC
open PySem PySem.Spec PyProof.Rows L2
section
variable {X : Cx} {B : Bs} {Γ Γ' : List Slot} {e a b c : Expr} {p pos : Pos} {tg : Expr} {iter elt : Expr} {scope : Scope} {ifs : List Expr}
theorem comp1N {SL : List PyData → Prop} (x : Str) (k : Nat) {f : PyData → PyData} (pr : PyData → Bool)
    (hc : X.calm = true) (hN : X.N.Nodup) (src : Src X B Γ tg iter SL) (ok : BlkOk X.N X.env.scope scope [(x, k)])
    (hg : ∀ (s : Shared) (H : Hp) (C : Addr) (cl : List (Str × Addr)) (fp : List Addr), PG (X.blk s H scope (compEnvC scope cl C X.env) fp) tg (gName k))
    (hz : ∀ ds, SL ds → ds.length ≤ 100000)
    (ht : ∀ ds d, SL ds → d ∈ ds → ∀ (s : Shared) (H : Hp) (C : Addr) (cl : List (Str × Addr)) (fp : List Addr), PTD (X.blk s H scope (compEnvC scope cl C X.env) fp) B (Γ.set k (.dat d)) c (pr d))
    (he : ∀ ds d, SL ds → d ∈ ds → pr d = true → ∀ (s : Shared) (H : Hp) (C : Addr) (cl : List (Str × Addr)) (fp : List Addr), PD (X.blk s H scope (compEnvC scope cl C X.env) fp) B (Γ.set k (.dat d)) elt (f d))
    (hfs : ∀ x, foldedSetIterable iter X.env x = pure x := by intro _; rfl) : CompOk X B Γ elt tg iter [c] scope (fun z => ∃ ds, SL ds ∧ z = (ds.filter pr).map f) := by
  refine (comp_ok (Rl := fun ds i acc => acc = ((ds.take i).filter pr).map f) (Γi := fun ds i d => Γ.set k (.dat d)) (Tb := fun ds i d b => b = pr d) (Se := fun ds i d r => r = f d) hc hN src ok hg hz (fun ds h => by simp) (fun ds i d h hd => ?_) (fun ds i d h hd s H C cl fp => pq_one (ht ds d h (List.mem_of_getElem? hd) s H C cl fp)) (fun ds i d h hd hT s H C cl fp => he ds d h (List.mem_of_getElem? hd) hT.symm s H C cl fp) (fun ds i d acc r h hd hR hT hS => ?_) (fun ds i d acc h hd hR hT => ?_) hfs).mono (fun z ⟨ds, h1, h2⟩ => ⟨ds, h1, by rw [h2, List.take_length]⟩)
  · have e : wipeG Γ ([(x, k)].map (·.2)) = Γ.set k .non := rfl
    have e2 : (Γ.set k .non).set k (.dat d) = Γ.set k (.dat d) := by rw [List.set_set]
    rw [e, ← e2]
    exact tg_name (by simp)
  · rw [hR, hS, List.take_add_one, hd, Option.toList_some, List.filter_append, List.map_append, List.filter_cons_of_pos hT.symm, List.filter_nil]
    rfl
  · rw [hR, List.take_add_one, hd, Option.toList_some, List.filter_append, List.map_append, List.filter_cons_of_neg (by rw [← hT]; simp), List.filter_nil]
    simp
end
end OC
set_option linter.all false
/-! Plain law, part 2: lots that meet all kin, least ones. -/
namespace OC
theorem filter_allLots (p : Int → Bool) : ∀ {m : Nat} {lot : List Int}, lot ∈ allLots m → lot.filter p ∈ allLots m
  | 0, lot, h => by
    have : lot = [] := by simpa [allLots] using h
    rw [this]; simp [allLots]
  | m + 1, lot, h => by
    rcases List.mem_append.mp h with h | h
    · exact List.mem_append_left _ (filter_allLots p h)
    · obtain ⟨l, h1, rfl⟩ := List.mem_map.mp h
      rw [List.filter_append]
      have ih := filter_allLots p h1
      by_cases hp : p ((m : Nat) : Int) = true
      · rw [List.filter_cons_of_pos hp, List.filter_nil]
        exact List.mem_append_right _ (List.mem_map.mpr ⟨_, ih, rfl⟩)
      · rw [List.filter_cons_of_neg hp, List.filter_nil, List.append_nil]
        exact List.mem_append_left _ ih
def fullLot (m : Nat) : List Int := (List.range m).map fun k => ((k : Nat) : Int)
theorem full_mem : ∀ m, fullLot m ∈ allLots m
  | 0 => by simp [fullLot, allLots]
  | m + 1 => by
    have : fullLot (m + 1) = fullLot m ++ [((m : Nat) : Int)] := by simp [fullLot, List.range_succ]
    rw [this]
    exact List.mem_append_right _ (List.mem_map.mpr ⟨_, full_mem m, rfl⟩)
theorem ix_eq {α : Type} [Inhabited α] (xs : List α) : ix xs = (List.range xs.length).map fun k => (((k : Nat) : Int), xs.getD k default) := by
  apply List.ext_getElem?
  intro i
  by_cases h : i < xs.length
  · simp [ix, h, List.getD]
  · simp [ix, h]
theorem speak_eq (row : List Int) : speak row = (fullLot row.length).filter fun k => !decide (row.getD k.toNat 0 = 0) := by
  have e : ix row = (List.range row.length).map fun k => (((k : Nat) : Int), row.getD k 0) := by
    apply List.ext_getElem?
    intro i
    by_cases h : i < row.length
    · simp [ix, h, List.getD]
    · simp [ix, h]
  rw [speak, e, fullLot, List.filter_map, List.filter_map, List.map_map]
  rfl
theorem speak_mem (row : List Int) : speak row ∈ allLots row.length := by
  rw [speak_eq]
  exact filter_allLots _ (full_mem _)
theorem mem_speak {row : List Int} {k : Int} : k ∈ speak row ↔ ∃ i : Nat, i < row.length ∧ k = ((i : Nat) : Int) ∧ row.getD i 0 ≠ 0 := by
  rw [speak_eq, List.mem_filter, fullLot, List.mem_map]
  constructor
  · rintro ⟨⟨i, h1, rfl⟩, h2⟩
    exact ⟨i, List.mem_range.mp h1, rfl, by simpa using h2⟩
  · rintro ⟨i, h1, rfl, h2⟩
    exact ⟨⟨i, List.mem_range.mpr h1, rfl⟩, by simpa using h2⟩
theorem takers_nil {kin : List (List Int)} {lot : List Int} : (takers kin lot).isEmpty = meetsAll lot kin := by
  rw [takers, List.isEmpty_map, Bool.eq_iff_iff, List.isEmpty_iff, List.filter_eq_nil_iff, meetsAll, List.all_eq_true]
  constructor
  · intro h o ho
    obtain ⟨i, hi⟩ := List.mem_iff_getElem?.mp ho
    have g : (ix kin)[i]? = some (((i : Nat) : Int), o) := by simp [ix, hi]
    have := h _ (List.mem_of_getElem? g)
    simpa using this
  · intro h p hp
    obtain ⟨i, hi⟩ := List.mem_iff_getElem?.mp hp
    rw [ix, List.getElem?_mapIdx] at hi
    cases q : kin[i]? with
    | none => rw [q] at hi; cases hi
    | some o =>
      rw [q] at hi; cases hi
      simp [h o (List.mem_of_getElem? q)]
theorem without_lt {lot : List Int} {k : Int} (h : k ∈ lot) : (without lot k).length < lot.length := by
  have h1 : (without lot k).length ≤ lot.length := List.length_filter_le _ _
  have h2 : (without lot k).length ≠ lot.length := fun e => by
    have := List.length_filter_eq_length_iff.mp e k h
    simp at this
  omega
theorem exists_least {kin : List (List Int)} : ∀ (n : Nat) (lot : List Int), lot.length ≤ n → lot ∈ allLots kin.length → meetsAll lot kin = true → ∃ l ∈ leastOf kin, ∀ k ∈ l, k ∈ lot := by
  intro n
  induction n with
  | zero =>
    intro lot hl hm h
    have : lot = [] := List.length_eq_zero_iff.mp (by omega)
    subst this
    exact ⟨[], List.mem_filter.mpr ⟨hm, by simp [isLeast, h]⟩, fun k hk => hk⟩
  | succ n ih =>
    intro lot hl hm h
    by_cases hL : isLeast kin lot = true
    · exact ⟨lot, List.mem_filter.mpr ⟨hm, hL⟩, fun k hk => hk⟩
    · have : (lot.any fun k => meetsAll (without lot k) kin) = true := by
        simp only [isLeast, h, Bool.true_and, Bool.not_eq_true', Bool.not_eq_false] at hL
        exact hL
      obtain ⟨k, hk, hw⟩ := List.any_eq_true.mp this
      obtain ⟨l, h1, h2⟩ := ih (without lot k) (by have := without_lt hk; omega) (filter_allLots _ hm) hw
      exact ⟨l, h1, fun j hj => (List.mem_filter.mp (h2 j hj)).1⟩
theorem mem_leastOf {kin : List (List Int)} {l : List Int} (h : l ∈ leastOf kin) : l ∈ allLots kin.length ∧ meetsAll l kin = true := by
  obtain ⟨h1, h2⟩ := List.mem_filter.mp h
  simp only [isLeast, Bool.and_eq_true] at h2
  exact ⟨h1, h2.1⟩
theorem allLots_rng : ∀ {m : Nat} {l : List Int}, l ∈ allLots m → ∀ k ∈ l, 0 ≤ k ∧ k < (m : Int)
  | 0, l, h, k, hk => by
    have : l = [] := by simpa [allLots] using h
    rw [this] at hk; simp at hk
  | m + 1, l, h, k, hk => by
    rcases List.mem_append.mp h with h | h
    · have := allLots_rng h k hk; omega
    · obtain ⟨l', h1, rfl⟩ := List.mem_map.mp h
      rcases List.mem_append.mp hk with hk | hk
      · have := allLots_rng h1 k hk; omega
      · have : k = ((m : Nat) : Int) := by simpa using hk
        omega
end OC
set_option Elab.async false
set_option linter.all false
set_option maxRecDepth 100000
set_option maxHeartbeats 4000000
namespace OC
open PySem PySem.Spec PyProof.Rows L2
section
variable {P : Program} {w : World} {K : PySem.W.Frag} {mg : Str → Option Value} {base : Heap}
theorem RO.mono {r : R2} {da db : PyData} {S S' : PyData → Prop} (h : RO r da db S) (m : ∀ d, S d → S' d) : RO r da db S' := fun x y Hf H e hx hy Q q => h x y Hf H e hx hy Q fun v d Hf' H' hd => q v d Hf' H' (m d hd)
def decI : PyData → List Int
  | .tuple xs => xs.map fun d => match d with | .int i => i | _ => 0
  | _ => []
theorem decI_dI (l : List Int) : decI (dI l) = l := by
  show (l.map PyData.int).map _ = l
  rw [List.map_map]
  exact List.map_id' l
theorem lay_P : ∀ ps : List (Int × Int), PyData.canLayAll0 (ps.map dP) = true
  | [] => by simp [PyData.canLayAll0]
  | p :: ps => by simp [PyData.canLayAll0, PyData.canLay0, lay_P ps]
theorem depth_P : ∀ ps : List (Int × Int), PyData.depthAll (ps.map dP) ≤ 2
  | [] => by simp [PyData.depthAll]
  | p :: ps => by
    have := depth_P ps
    simp only [List.map_cons, PyData.depthAll, PyData.depth]
    omega
theorem shaped_P (ps : List (Int × Int)) : SeqAt.shaped (.list (ps.map dP)) = true := shaped_of (by simp only [PyData.canLay0]; exact lay_P ps) (by have := depth_P ps; simp only [PyData.depth]; omega)
theorem inj3K {a : List Int} {b : List (List Int)} {c : List Int} {a' : List Int} {b' : List (List Int)} {c' : List Int} (h : [dI a, dK b, dL c] = [dI a', dK b', dL c']) : a = a' ∧ b = b' ∧ c = c' := by
  injection h with h1 h2
  injection h2 with h2 h3
  injection h3 with h3
  injection h3 with h3
  exact ⟨dI_inj h1, dK_inj h2, map_int_inj h3⟩
/-- a lot's members are in another -/
def inLot (lot l : List Int) : Bool := l.all fun k => decide (k ∈ lot)
def BoxRes (c : List Int) (kin : List (List Int)) (tt : List Int) (d : PyData) : Prop :=
  (sorted (barred c kin (partsOf c tt)) = [] ∧ d = .none) ∨ ∃ p rest l, sorted (barred c kin (partsOf c tt)) = p :: rest ∧ l ∈ leastOf kin ∧ (∀ k ∈ l, k ∈ speak (slips c p.2)) ∧ d = dP (lineOf c l p.2, p.2)
theorem barred_meets {c : List Int} {kin : List (List Int)} {ps : List Int} {p : Int × Int} (h : p ∈ barred c kin ps) : meetsAll (speak (slips c p.2)) kin = true := by
  obtain ⟨q, h1, rfl⟩ := List.mem_map.mp h
  have := (List.mem_filter.mp h1).2
  rw [Bool.and_eq_true, takers_nil] at this
  exact this.2
def R_box (ds : List PyData) (d : PyData) : Prop := ∃ c kin tt, ClubOk c ∧ KinO c.length kin ∧ TotOk c tt ∧ ds = [dI c, dK kin, dI tt] ∧ BoxRes c kin tt d
theorem cal_box (t : Top K mg) : Cal P w K mg base "box" 7 (spD R_box) :=
  t.cal 33 (fun f fd F => okD F sc_box (fun ds d ⟨i, _, _, _, _, _, h, _⟩ => by rw [h]; rfl) (fun cdv A outer s H E hr B hB ds h => by
    obtain ⟨d, c, kin, tt, hc, hk, ht, rfl, _⟩ := h
    have h4 := hc.l4
    have hkl := hk.len
    have hlen : tt.length = (prodI c).toNat := ht
    have hpr := hc.pr
    have hR : ∀ d, BoxRes c kin tt d → R_box [dI c, dK kin, dI tt] d := fun d hd => ⟨c, kin, tt, hc, hk, ht, rfl, hd⟩
    refine bd_expr (pd_call (cal_check_shared t) hr (pa_d (nv 0 rfl) (pa_d (nv 1 rfl) (pa_d (nv 2 rfl) pa_n))) ⟨c, kin, tt, hc, hk, ht, rfl, rfl⟩ (fun d' ⟨_, _, _, _, _, _, _, h⟩ => h)) ?_
    refine bd_set 3 sc_box.nd (pd_call (d := .list ((sorted (barred c kin (partsOf c tt))).map dP)) (ds := [dI c, dK kin, dL (partsOf c tt)]) (cal_barred_rows t) hr (pa_d (nv 0 rfl) (pa_d (nv 1 rfl) (pa_d (pd_call (d := dL (partsOf c tt)) (cal_parts_of t) hr (pa_d (nv 0 rfl) (pa_d (nv 2 rfl) pa_n)) ⟨c, tt, hc, ht, rfl, rfl⟩ (fun d' ⟨c', t', _, _, h, h'⟩ => by obtain ⟨e1, e2⟩ := inj2I h; rw [h', e1, e2])) pa_n)))
      ⟨c, kin, partsOf c tt, hc, by omega, by rw [partsOf_len]; omega, rfl, rfl⟩ (fun d' ⟨c', k', p', _, _, _, h, h'⟩ => by obtain ⟨e1, e2, e3⟩ := inj3K h; rw [h', ← e1, ← e2, ← e3])) ?_
    have htest : ∀ (G : List Slot) (g : Nat), True := fun _ _ => trivial
    cases hs : sorted (barred c kin (partsOf c tt)) with
    | nil =>
      rw [List.map_nil]
      refine bd_ifT (M := fun _ => False) (PTD.eq (pt_eqD hr (nv 3 rfl) (PLD.pd (ds := []) (pl_lst pa_n (fun ds h => by rw [h]; simp))) shaped_nil shaped_nil) (by rw [eqv_nil]; rfl)) (bd_retd pn_non (hR _ (.inl ⟨hs, rfl⟩))) (fun G z => z.elim)
    | cons p rest =>
      have hpm : p ∈ barred c kin (partsOf c tt) := (List.mergeSort_perm _ _).mem_iff.mp (by show p ∈ sorted _; rw [hs]; exact List.mem_cons_self)
      have hmt := barred_meets hpm
      have hsl := slips_len c p.2
      have hspl := speak_len (slips c p.2)
      obtain ⟨l0, g1, g2⟩ := exists_least (kin := kin) _ (speak (slips c p.2)) (Nat.le_refl _) (by have := speak_mem (slips c p.2); rw [hsl, ← hkl] at this; exact this) hmt
      refine bd_ifF (PTD.eq (pt_eqD hr (nv 3 rfl) (PLD.pd (ds := []) (pl_lst pa_n (fun ds h => by rw [h]; simp))) (shaped_P (p :: rest)) shaped_nil) (by rw [eqv_nil]; rfl)) ?_
      refine bd_set 4 sc_box.nd (pd_ixT (d := .int p.2) (ds := [.int p.1, .int p.2]) (pd_ixL (d := dP p) (nv 3 rfl) pn_int (atI_nat (j := 0) rfl)) pn_int rfl) ?_
      refine bd_set 5 sc_box.nd (pd_call (d := dI (speak (slips c p.2))) (cal_speakers t) hr (pa_d (pd_call (d := dI (slips c p.2)) (cal_slips_of t) hr (pa_d (nv 0 rfl) (pa_d (nv 4 rfl) pa_n)) ⟨c, p.2, hc, rfl, rfl⟩ (fun d' ⟨c', n', _, h, h'⟩ => by obtain ⟨e1, e2⟩ := inj2 h; rw [h', e1, e2])) pa_n) ⟨slips c p.2, by omega, rfl, rfl⟩ (fun d' ⟨r', _, h, h'⟩ => by rw [h', DI.inj h])) ?_
      refine bd_setN (Se := fun d => ∃ l, l ∈ leastOf kin ∧ (∀ k ∈ l, k ∈ speak (slips c p.2)) ∧ d = dI l) 6 sc_box.nd (pn_ix ix_list (PL.pn (CompOk.pl (comp1N (SL := fun ds => ∃ ls : List (List Int), ls.Perm (leastOf kin) ∧ ds = ls.map dI) "other" 7 (f := fun d => d) (fun d => inLot (speak (slips c p.2)) (decI d)) rfl sc_box.nd
        (src_list (pn_call (S := fun d => ∃ ds, (∃ ls : List (List Int), ls.Perm (leastOf kin) ∧ ds = ls.map dI) ∧ d = .list ds) (cal_least_of t) hr (pa_d (nv 1 rfl) pa_n) (fun ds h => ⟨_, kin, ⟨by have := hk.m4; omega, by omega⟩, h, _, List.Perm.refl _, rfl⟩) (fun ds d h ⟨k', _, h1, ls, h2, h3⟩ => by
          subst h
          have ek : kin = k' := by injection h1 with h1; exact dK_inj h1
          exact ⟨_, ⟨ls, by rw [ek]; exact h2, rfl⟩, h3⟩)))
        (blkOk_by (N := N_box) (sc := defScope s_box) (by decide +kernel)) (fun _ _ _ _ _ => pg_name (i := 7) sc_box.nd rfl (Or.inl rfl)) (fun ds ⟨ls, h1, h2⟩ => by
          rw [h2, List.length_map, h1.length_eq]
          exact Nat.le_trans (List.length_filter_le _ _) (by rw [hkl]; have := allLots_le (m := c.length) (n := c.length) h4 (Nat.le_refl _); omega))
        (fun ds d ⟨ls, h1, h2⟩ hd s H C cl fp => ?_) (fun ds d _ hd _ s H C cl fp => nv 7 rfl)))) pn_int (fun da db h1 h2 => ?_)) (fun d ⟨l, q1, q2, q3⟩ => ?_)
      · subst h2
        obtain ⟨l, hl, rfl⟩ := List.mem_map.mp hd
        have hll := allLots_mem_len (mem_leastOf (h1.mem_iff.mp hl)).1
        refine pt_vd ((pd_allC (g := fun k => decide (k ∈ speak (slips c p.2))) (t.free 62) rfl (comp1 "member" 8 (as := l) (enc := .int) (f := fun k => .bool (decide (k ∈ speak (slips c p.2)))) rfl sc_box.nd (src_T (nv 7 rfl)) (blkOk_by (N := N_box) (by kernel_rfl)) (fun _ _ _ _ _ => pg_name (i := 8) sc_box.nd rfl (Or.inl rfl)) (by omega)
          (fun k hk' s H C cl fp => pd_inT (nv 8 rfl) (nv 5 rfl)))).eq ?_)
        rw [decI_dI]; rfl
      · subst h2
        obtain ⟨ds, ⟨ds0, ⟨ls, h1, rfl⟩, rfl⟩, rfl⟩ := h1
        have hin : dI l0 ∈ ((ls.map dI).filter fun d => inLot (speak (slips c p.2)) (decI d)).map fun d => d := by
          rw [List.map_id']
          refine List.mem_filter.mpr ⟨List.mem_map.mpr ⟨l0, h1.mem_iff.mpr g1, rfl⟩, ?_⟩
          rw [decI_dI]
          exact List.all_eq_true.mpr fun k hk' => decide_eq_true (g2 k hk')
        cases hq : ((ls.map dI).filter fun d => inLot (speak (slips c p.2)) (decI d)).map fun d => d with
        | nil => rw [hq] at hin; simp at hin
        | cons d1 rest1 =>
          refine (ro_ixL (d := d1) (atI_nat (j := 0) rfl)).mono fun d hd => ?_
          have hm : d1 ∈ ((ls.map dI).filter fun d => inLot (speak (slips c p.2)) (decI d)).map fun d => d := by rw [hq]; exact List.mem_cons_self
          rw [List.map_id'] at hm
          obtain ⟨m1, m2⟩ := List.mem_filter.mp hm
          obtain ⟨l, hl, rfl⟩ := List.mem_map.mp m1
          rw [decI_dI] at m2
          exact ⟨l, h1.mem_iff.mp hl, fun k hk' => of_decide_eq_true (List.all_eq_true.mp m2 k hk'), hd⟩
      · subst q3
        refine bd_retd (d := dP (lineOf c l p.2, p.2)) (pd_tup (pa_d (pd_call (d := .int (lineOf c l p.2)) (cal_line_of t) hr (pa_d (nv 0 rfl) (pa_d (nv 6 rfl) (pa_d (nv 4 rfl) pa_n))) ⟨c, l, p.2, hc, .inl rfl, rfl⟩ ?_) (pa_d (nv 4 rfl) pa_n)) (by simp)) (hR _ (.inr ⟨p, rest, l, hs, q1, q2, rfl⟩))
        rintro d' ⟨c', lot', n', _, h | h, h'⟩
        · injection h with h1 h2
          injection h2 with h2 h3
          injection h3 with h3
          injection h3 with h3
          rw [h', dI_inj h1, dI_inj h2, h3]
        · injection h with h1 h2
          injection h2 with h2 h3
          cases h2))
    rfl rfl (fun _ _ _ _ _ _ us hl => match us, hl with | [_, _, _], _ => rfl)
end
end OC
set_option Elab.async false
set_option linter.all false
set_option maxRecDepth 100000
set_option maxHeartbeats 4000000
namespace OC
open PySem PySem.Spec PyProof.Rows L2
section
variable {P : Program} {w : World} {K : PySem.W.Frag} {mg : Str → Option Value} {base : Heap}
theorem eqvAll_ints : ∀ (a b : List Int), PyData.eqvAll (a.map .int) (b.map .int) = decide (a = b)
  | [], [] => by simp [PyData.eqvAll]
  | [], _ :: _ => by simp [PyData.eqvAll]
  | _ :: _, [] => by simp [PyData.eqvAll]
  | x :: a, y :: b => by
    simp only [List.map_cons, PyData.eqvAll, PyData.eqv]
    rw [eqvAll_ints a b]
    by_cases h1 : x = y
    · subst h1
      simp
    · have : (x == y) = false := beq_eq_false_iff_ne.mpr h1
      rw [this, Bool.false_and, decide_eq_false]
      intro h; injection h with h _; exact h1 h
theorem eqv_dI (a b : List Int) : PyData.eqv (dI a) (dI b) = decide (a = b) := by
  simp only [PyData.eqv]
  exact eqvAll_ints a b
theorem any_dI (ls : List (List Int)) (u : List Int) : ((ls.map dI).any fun z => PyData.eqv z (dI u)) = decide (u ∈ ls) := by
  rw [List.any_map, Bool.eq_iff_iff, List.any_eq_true, decide_eq_true_iff]
  constructor
  · rintro ⟨l, h1, h2⟩
    have h3 : PyData.eqv (dI l) (dI u) = true := h2
    rw [eqv_dI] at h3
    rw [← of_decide_eq_true h3]; exact h1
  · intro h
    refine ⟨u, h, ?_⟩
    show PyData.eqv (dI u) (dI u) = true
    rw [eqv_dI, decide_eq_true rfl]
theorem lay_K : ∀ ls : List (List Int), PyData.canLayAll0 (ls.map dI) = true
  | [] => by simp [PyData.canLayAll0]
  | l :: ls => by
    simp only [List.map_cons, PyData.canLayAll0, PyData.canLay0, lay_K ls, lay_ints l]
    rfl
theorem depth_K : ∀ ls : List (List Int), PyData.depthAll (ls.map dI) ≤ 3
  | [] => by simp [PyData.depthAll]
  | l :: ls => by
    have h1 := depth_K ls
    have h2 := depth_ints l
    simp only [List.map_cons, PyData.depthAll, PyData.depth]
    omega
theorem shaped_K (ls : List (List Int)) : SeqAt.shaped (.list (ls.map dI)) = true := shaped_of (by simp only [PyData.canLay0]; exact lay_K ls) (by have := depth_K ls; simp only [PyData.depth]; omega)
def isB (c : List Int) (kin : List (List Int)) (tt : List Int) (i j : Int) : Bool := decide (unl c.length (slips c i) (slips c j) ∈ leastOf kin) && !decide (boxSum c tt i j = 0)
def R_is_box (ds : List PyData) (d : PyData) : Prop := ∃ c kin tt i j, ClubOk c ∧ KinO c.length kin ∧ TotOk c tt ∧ Pl c i ∧ Pl c j ∧ ds = [dI c, dK kin, dI tt, dP (i, j)] ∧ d = .bool (isB c kin tt i j)
theorem cal_is_box (t : Top K mg) : Cal P w K mg base "is_box" 7 (spD R_is_box) :=
  t.cal 34 (fun f fd F => okD F sc_is_box (fun ds d ⟨i, _, _, _, _, _, _, _, _, _, h, _⟩ => by rw [h]; rfl) (fun cdv A outer s H E hr B hB ds h => by
    obtain ⟨d, c, kin, tt, i, j, hc, hk, ht, hi, hj, rfl, rfl⟩ := h
    have hkl := hk.len
    have h4 := hc.l4
    have hm4 := hk.m4
    refine bd_expr (pd_call (cal_check_shared t) hr (pa_d (nv 0 rfl) (pa_d (nv 1 rfl) (pa_d (nv 2 rfl) pa_n))) ⟨c, kin, tt, hc, hk, ht, rfl, rfl⟩ (fun d' ⟨_, _, _, _, _, _, _, h⟩ => h)) ?_
    refine bd_cons (M := fun G => G = ent N_is_box (dats [dI c, dK kin, dI tt, dP (i, j)]) ∧ decide (unl c.length (slips c i) (slips c j) ∈ leastOf kin) = true) (b1_if (k := !decide (unl c.length (slips c i) (slips c j) ∈ leastOf kin)) (PW.pt (pw_o (k := false) (pt_notd (k := true) (pt_vd (pd_call (cal_are_places t) hr (pa_d (nv 0 rfl) (pa_d (nv 3 rfl) pa_n)) ⟨c, i, j, hc, hi, hj, rfl, rfl⟩ (fun d' ⟨_, _, _, _, _, _, _, h⟩ => h))))
      (fun _ => pw_o1 (pt_cmp' (Sb := fun d => ∃ ls : List (List Int), ls.Perm (leastOf kin) ∧ d = .list (ls.map dI)) (op_notInD (units65 hr)) (pd_call (d := dI (unl c.length (slips c i) (slips c j))) (cal_unlike_in t) hr (pa_d (nv 0 rfl) (pa_d (pd_ixT (nv 3 rfl) pn_int (d := .int i) rfl) (pa_d (pd_ixT (nv 3 rfl) pn_int (d := .int j) rfl) pa_n))) ⟨c, i, j, hc, rfl, rfl⟩ (fun d' ⟨c', i', j', _, h, h'⟩ => by obtain ⟨e1, e2, e3⟩ := inj3 h; rw [h', ← e1, ← e2, ← e3]))
        (pn_call (cal_least_of t) hr (pa_d (nv 1 rfl) pa_n) (fun ds h => ⟨_, kin, ⟨by omega, by omega⟩, h, _, List.Perm.refl _, rfl⟩) (fun ds d h ⟨k', _, h1, ls, h2, h3⟩ => by
          subst h
          have ek : kin = k' := by injection h1 with h1; exact dK_inj h1
          exact ⟨ls, by rw [ek]; exact h2, h3⟩)) (fun da db h1 ⟨ls, h2, h3⟩ => by
          subst h1; subst h3
          refine (ro_niD (shaped_dI _) (shaped_K ls)).mono fun d hd => ⟨_, ?_, hd⟩
          rw [any_dI]
          congr 1
          exact decide_eq_decide.mpr h2.mem_iff) rfl)))) (fun hT => ?_) (fun hF => ?_)) (fun G ⟨g1, g2⟩ => ?_)
    · refine bd_retd pn_bl ⟨c, kin, tt, i, j, hc, hk, ht, hi, hj, rfl, ?_⟩
      have : decide (unl c.length (slips c i) (slips c j) ∈ leastOf kin) = false := by simpa using hT
      rw [isB, this]; rfl
    · exact bd_end ⟨rfl, by simpa using hF⟩
    · subst g1
      refine bd_retd (pd_neI (pd_call (d := .int (boxSum c tt i j)) (cal_sum_of_box t) hr (pa_d (nv 0 rfl) (pa_d (nv 2 rfl) (pa_d (pd_ixT (nv 3 rfl) pn_int (d := .int i) rfl) (pa_d (pd_ixT (nv 3 rfl) pn_int (d := .int j) rfl) pa_n)))) ⟨c, tt, i, j, hc, ht, rfl, rfl⟩ (fun d' ⟨c', t', i', j', _, _, h, h'⟩ => by obtain ⟨e1, e2, e3, e4⟩ := inj4 h; rw [h', e1, e2, e3, e4])) pn_int) ⟨c, kin, tt, i, j, hc, hk, ht, hi, hj, rfl, ?_⟩
      rw [isB, g2, Bool.true_and]))
    rfl rfl (fun _ _ _ _ _ _ us hl => match us, hl with | [_, _, _, _], _ => rfl)
end
end OC
set_option Elab.async false
set_option linter.all false
set_option maxRecDepth 100000
set_option maxHeartbeats 4000000
/-! Own kit: a table, a new list of new lists of ints that are written in place. -/
namespace OC
open PySem PySem.Spec PyProof.Rows L2
/-- the table at p (slot 3), its rows at as, each of m ints -/
structure TS (B : Bs) (Γ : List Slot) (σ : L2.St) (Hf H : Hp) (p : Addr) (as : List Addr) (m : Nat) : Prop where
  sa : SA B Γ σ Hf H
  w : B.w = none
  no : ∀ (i : Nat) (φ : Addr → Hp → HO → Prop), Γ[i]? ≠ some (.own φ)
  sl : σ[3]? = some (some (.ref p))
  tp : H p = some (.lst (as.map V.ref))
  pf : Hf p = none
  pb : B.H p = none
  it : ∀ a ∈ as, a ≠ p ∧ Hf a = none ∧ B.H a = none ∧ ∃ ns : List Int, ns.length = m ∧ H a = some (.lst (ns.map V.int))
section
variable {B : Bs} {Γ Γ' : List Slot} {σ : L2.St} {Hf H Hf' H' : Hp} {p : Addr} {as : List Addr} {m : Nat}
theorem TS.next (s : TS B Γ σ Hf H p as m) (e : FEx none Hf H Hf' H') : TS B Γ σ Hf' H' p as m where
  sa := s.sa.next0 e
  w := s.w
  no := s.no
  sl := s.sl
  tp := e.keep p _ (by simp) s.tp
  pf := e.excl p (by rw [s.tp]; simp) s.pf
  pb := s.pb
  it := fun a ha => by
    obtain ⟨h1, h2, h3, ns, h4, h5⟩ := s.it a ha
    exact ⟨h1, e.excl a (by rw [h5]; simp) h2, h3, ns, h4, e.keep a _ (by simp) h5⟩
theorem TS.put (s : TS B Γ σ Hf H p as m) (i : Nat) (hi : i ≠ 3) {v : V} {d : PyData} (hd : Dq Hf v d) : TS B (Γ.set i (.dat d)) (σ.set i (some v)) Hf H p as m where
  sa := s.sa.put i hd
  w := s.w
  no := fun j φ h => by
    rcases get_set h with ⟨_, h1, _⟩ | ⟨_, h1⟩
    · cases h1
    · exact s.no j φ h1
  sl := by rw [List.getElem?_set_ne hi]; exact s.sl
  tp := s.tp
  pf := s.pf
  pb := s.pb
  it := s.it
theorem TS.weak (s : TS B Γ σ Hf H p as m) (l : le Γ' Γ) : TS B Γ' σ Hf H p as m where
  sa := s.sa.weak l
  w := s.w
  no := fun j φ h => s.no j φ (le_get l h (by simp))
  sl := s.sl
  tp := s.tp
  pf := s.pf
  pb := s.pb
  it := s.it
theorem TS.write (s : TS B Γ σ Hf H p as m) {a : Addr} {ns : List Int} (ha : a ∈ as) (hn : ns.length = m) : TS B Γ σ Hf (upd H a (.lst (ns.map V.int))) p as m where
  sa := s.sa.wr (s.it a ha).2.1 (s.it a ha).2.2.1 (by rw [s.w]; simp) fun i φ h => absurd h (s.no i φ)
  w := s.w
  no := s.no
  sl := s.sl
  tp := by rw [upd_ne (Ne.symm (s.it a ha).1)]; exact s.tp
  pf := s.pf
  pb := s.pb
  it := fun b hb => by
    obtain ⟨h1, h2, h3, ns', h4, h5⟩ := s.it b hb
    refine ⟨h1, h2, h3, ?_⟩
    by_cases e : b = a
    · subst e; exact ⟨ns, hn, upd_same⟩
    · exact ⟨ns', h4, by rw [upd_ne e]; exact h5⟩
theorem wipe_get {i : Nat} {σ : L2.St} : ∀ {vs : List Nat}, i ∉ vs → (wipe σ vs)[i]? = σ[i]?
  | [], _ => rfl
  | v :: vs, h => by
    show ((wipe σ vs).set v none)[i]? = _
    rw [List.getElem?_set_ne (fun e => h (by simp [e])), wipe_get fun z => h (by simp [z])]
theorem TS.slots (s : TS B Γ σ Hf H p as m) {σ2 : L2.St} {vs : List Nat} (hv : 3 ∉ vs) (hw : wipe σ2 vs = wipe σ vs) (s2 : SA B Γ' σ2 Hf H) (no : ∀ (i : Nat) (φ : Addr → Hp → HO → Prop), Γ'[i]? ≠ some (.own φ)) : TS B Γ' σ2 Hf H p as m where
  sa := s2
  w := s.w
  no := no
  sl := by rw [← wipe_get (vs := vs) hv, hw, wipe_get hv]; exact s.sl
  tp := s.tp
  pf := s.pf
  pb := s.pb
  it := s.it
/-- an object of nobody's is frozen -/
theorem SA.icy (s : SA B Γ σ Hf H) {a : Addr} {o : HO} (hw : B.w = none) (no : ∀ (i : Nat) (φ : Addr → Hp → HO → Prop), Γ[i]? ≠ some (.own φ)) (h1 : H a = some o) (h0 : B.H a = none) (hf : Hf a = none) : SA B Γ σ (upd Hf a o) H where
  fx := s.fx.ice h1 h0 hf
  pl := fun q hq => by rw [hw] at hq; cases hq
  len := s.len
  dat := fun i d h => by
    obtain ⟨v, g1, g2⟩ := s.dat i d h
    exact ⟨v, g1, dq_mono (Evl.Ex.new hf) _ _ g2⟩
  own := fun i φ h => absurd h (no i φ)
  dis := fun i j φ ψ p _ h => absurd h (no i φ)
  pool := s.pool
theorem TS.freeze (s : TS B Γ σ Hf H p as m) : ∃ (Hf' : Hp) (dss : List (List Int)), Same Hf Hf' ∧ SA B (Γ.set 3 (.dat (.list (dss.map dL)))) σ Hf' H ∧ dss.length = as.length := by
  have step : ∀ bs : List Addr, (∀ b ∈ bs, b ∈ as) → ∃ Hf', Same Hf Hf' ∧ SA B Γ σ Hf' H ∧ Hf' p = none ∧ ∃ dss : List (List Int), dss.length = bs.length ∧ DqAll Hf' (bs.map V.ref) (dss.map dL) := by
    intro bs
    induction bs with
    | nil => intro _; exact ⟨Hf, Same.refl _, s.sa, s.pf, [], rfl, .nil⟩
    | cons b bs ih =>
      intro hb
      obtain ⟨Hf1, e1, s1, h1, dss, hl, dq⟩ := ih fun x hx => hb x (List.mem_cons_of_mem _ hx)
      obtain ⟨g1, g2, g3, ns, g4, g5⟩ := s.it b (hb b List.mem_cons_self)
      cases q : Hf1 b with
      | none =>
        have e2 : Same Hf1 (upd Hf1 b (.lst (ns.map V.int))) := Evl.Ex.new q
        exact ⟨_, e1.trans e2, s1.icy s.w s.no g5 g3 q, by rw [upd_ne (Ne.symm g1)]; exact h1, ns :: dss, by rw [List.length_cons, List.length_cons, hl], .cons (.lst upd_same (DqAll.of_ints ns)) (dqAll_mono e2 _ _ dq)⟩
      | some o =>
        have ho : o = .lst (ns.map V.int) := by
          have := s1.sub b o q
          rw [g5] at this; cases this; rfl
        subst ho
        exact ⟨Hf1, e1, s1, h1, ns :: dss, by rw [List.length_cons, List.length_cons, hl], .cons (.lst q (DqAll.of_ints ns)) dq⟩
  obtain ⟨Hf1, e1, s1, h1, dss, hl, dq⟩ := step as fun _ h => h
  have e2 : Same Hf1 (upd Hf1 p (.lst (as.map V.ref))) := Evl.Ex.new h1
  have s2 := s1.icy s.w s.no s.tp s.pb h1
  have s3 := s2.put (d := .list (dss.map dL)) 3 (.lst upd_same (dqAll_mono e2 _ _ dq))
  refine ⟨_, dss, e1.trans e2, ?_, hl⟩
  have : σ.set 3 (some (V.ref p)) = σ := by
    apply List.ext_getElem?
    intro i
    by_cases hi : i = 3
    · subst hi
      rw [List.getElem?_set_self (List.getElem?_eq_some_iff.mp s.sl).1, s.sl]
    · rw [List.getElem?_set_ne (Ne.symm hi)]
  rw [this] at s3
  exact s3
end
/-- blocks beside the table -/
def TB (X : Cx) (B : Bs) (p : Addr) (as : List Addr) (m : Nat) (Γ : List Slot) (body : List Stmt) (N : List Slot → Prop) : Prop :=
  ∀ (σ : L2.St) (Hf H : Hp), TS B Γ σ Hf H p as m → ∀ D : Ends, (∀ G, N G → ∀ σ' Hf' H', TS B G σ' Hf' H' p as m → Same Hf Hf' → D.nx σ' H') → Ss X body D σ H
def T1 (X : Cx) (B : Bs) (p : Addr) (as : List Addr) (m : Nat) (Γ : List Slot) (st : Stmt) (N : List Slot → Prop) : Prop :=
  ∀ (σ : L2.St) (Hf H : Hp), TS B Γ σ Hf H p as m → ∀ D : Ends, (∀ G, N G → ∀ σ' Hf' H', TS B G σ' Hf' H' p as m → Same Hf Hf' → D.nx σ' H') → S1 X st D σ H
section
variable {X : Cx} {B : Bs} {pt : Addr} {as : List Addr} {m : Nat} {Γ Γ' : List Slot} {e a b c : Expr} {p pos : Pos} {d : PyData} {N M : List Slot → Prop} {rest body : List Stmt} {st : Stmt} {tg : Expr}
theorem tb_cons (h1 : T1 X B pt as m Γ st M) (h2 : ∀ G, M G → TB X B pt as m G rest N) : TB X B pt as m Γ (st :: rest) N := fun σ Hf H s D n =>
  Ss.cons (h1 σ Hf H s { D with nx := Ss X rest D } (fun G g σ' Hf' H' s' e => h2 G g σ' Hf' H' s' D (fun G' g' σ2 Hf2 H2 s2 e2 => n G' g' σ2 Hf2 H2 s2 (e.trans e2))))
theorem tb_nil (h : N Γ') (l : le Γ' Γ) : TB X B pt as m Γ [] N := fun σ Hf H s D n => Ss.of pss_nil (n Γ' h σ Hf H (s.weak l) (Same.refl _))
theorem tb_end (h : N Γ) : TB X B pt as m Γ [] N := tb_nil h le_refl
theorem tb_one (h1 : T1 X B pt as m Γ st N) : TB X B pt as m Γ [st] N := tb_cons h1 fun G g => tb_end g
theorem TB.weak (h : TB X B pt as m Γ' body N) (l : le Γ' Γ) : TB X B pt as m Γ body N := fun σ Hf H s D n => h σ Hf H (s.weak l) D n
theorem FEx.nn {B : Bs} (hw : B.w = none) {Hf H Hf' H' : Hp} (e : FEx B.w Hf H Hf' H') : FEx none Hf H Hf' H' := by rw [hw] at e; exact e
theorem t1_set {Se : PyData → Prop} (i : Nat) (h3 : i ≠ 3) {x : Str} {pos' : Pos} (hN : X.N.Nodup) (he : PN X B Γ e Se) (hi : X.N[i]? = some x := by rfl) (hx : Loc X.env.scope x := by first | exact Or.inl rfl | exact Or.inr rfl) (hs : swapsWith e (some (.Name x pos')) pos.line X.env = pure false := by rfl)
    (hf : X.fn x = true ∨ X.env.scope.names.lookup x = some .local := by first | exact .inl rfl | exact .inr rfl) : T1 X B pt as m Γ (.Assign [.Name x pos'] e pos) (fun G => ∃ d, Se d ∧ G = Γ.set i (.dat d)) := fun σ Hf H s D n =>
  S1.of (ps_set hN hi hx pe_E hs hf) (he σ Hf H s.sa _ fun v d Hf' H' hd ex s' dq => n _ ⟨d, hd, rfl⟩ _ Hf' H' ((s.next (ex.nn s.w)).put i h3 dq) ex.ff)
theorem t1_lc {iter elt : Expr} {scope : Scope} {ifs : List Expr} {SR : List PyData → Prop} (i : Nat) (h3 : i ≠ 3) {y : Str} {py : Pos} (h : CompOk X B Γ elt tg iter ifs scope SR) (hy : X.N[i]? = some y := by rfl) (hyl : X.env.scope.names.lookup y = some .local := by rfl)
    (hsw : swapsWith (.ListComp elt [⟨tg, iter, ifs, 0⟩] scope p) (some (.Name y py)) pos.line X.env = pure true := by exact sw_true rfl rfl rfl (by decide +kernel)) : T1 X B pt as m Γ (.Assign [.Name y py] (.ListComp elt [⟨tg, iter, ifs, 0⟩] scope p) pos) (fun G => ∃ ds, SR ds ∧ G = Γ.set i (.dat (.list ds))) := by
  obtain ⟨wi, g, own, hi, ok, hg, hr⟩ := h.ex
  intro σ Hf H s D n
  refine S1.of (ps_setLc (tt := TQB X scope ifs) (te := TEB X scope elt) h.calm h.nd hy hyl hsw hi ok hg (fun s H C cl fp => ⟨fun pins st _ _ _ I h => h s H C cl fp pins st I⟩) (fun s H C cl fp => ⟨fun pins st _ _ _ I h => h s H C cl fp pins st I⟩) h.hfs) ?_
  refine hr σ Hf H s.sa _ fun q vs ds Hf' H' hd h0 ex s' h1 hf' dq => ?_
  have e2 : FEx none Hf H (upd Hf' q (.lst vs)) H' := (ex.nn s.w).ice h1 h0 hf'
  exact n _ ⟨ds, hd, rfl⟩ _ _ H' ((s.next e2).put i h3 (.lst upd_same (dqAll_mono (Evl.Ex.new hf') _ _ dq))) e2.ff
theorem t1_if {k : Bool} {A Bb : List Stmt} (hc : PTD X B Γ c k) (ha : k = true → TB X B pt as m Γ A N) (hb : k = false → TB X B pt as m Γ Bb N) : T1 X B pt as m Γ (.If c A Bb pos) N := fun σ Hf H s D n =>
  S1.of (ps_if pt_T pss_S pss_S) (hc σ Hf H s.sa _ fun z Hf1 H1 hz e1 s1 => by
    subst hz
    cases z with
    | true => exact ha rfl σ Hf1 H1 (s.next (e1.nn s.w)) D (fun G g σ' Hf' H' s' e => n G g σ' Hf' H' s' (e1.ff.trans e))
    | false => exact hb rfl σ Hf1 H1 (s.next (e1.nn s.w)) D (fun G g σ' Hf' H' s' e => n G g σ' Hf' H' s' (e1.ff.trans e)))
theorem t1_for {iter : Expr} {ds : List PyData} {g : TG} {vs : List Nat} {Γi : PyData → List Slot} (hc : X.calm = true) (hp : PassesOwn (model X.prog X.w) X.A X.env X.xe) (src : SrcD X B Γ tg iter ds) (hg : PG X tg g) (hv : 3 ∉ vs)
    (hb : ∀ (i : Nat) (d : PyData), ds[i]? = some d → Tg g d Γ (Γi d) B vs)
    (hno : ∀ (i : Nat) (d : PyData), ds[i]? = some d → ∀ (j : Nat) (φ : Addr → Hp → HO → Prop), (Γi d)[j]? ≠ some (.own φ))
    (hs : ∀ (i : Nat) (d : PyData), ds[i]? = some d → TB X B pt as m (Γi d) body (fun G => le Γ G))
    (hfs : ∀ x, foldedSetIterable iter X.env x = pure x := by intro _; rfl) : T1 X B pt as m Γ (.For tg iter body [] pos) (fun G => G = Γ) := fun σ Hf H s D n => by
  obtain ⟨wi, hi, hw⟩ := src
  refine S1.of (ps_for hp hc hi hg pss_S hfs) (hw σ Hf H s.sa _ fun J ds' Hf1 H1 hds e1 s1 W => ?_)
  subst hds
  refine for_it (g := g) (tb := Ss X body) (D := D) W (fun i σ' H' => ∃ Hf', TS B Γ σ' Hf' H' pt as m ∧ Same Hf1 Hf') ⟨Hf1, s.next (e1.nn s.w), Same.refl _⟩ (fun i σ' H' _ ⟨Hf', g2, g3⟩ => g3.trans g2.sa.sub) (fun i x σ' H' H'' hlt ⟨Hf', g2, g3⟩ y => ?_) (fun σ' H' ⟨Hf', g2, g3⟩ => n Γ rfl σ' Hf' H' g2 (e1.ff.trans g3))
  obtain ⟨Hf2, d, e2, hd, dx⟩ := y Hf' g3 g2.sa.sub
  have g4 := g2.next e2
  refine hb i d hd σ' Hf2 H'' x g4.sa dx _ fun σ2 hw2 s3 => ?_
  exact hs i d hd σ2 Hf2 H'' (g4.slots hv hw2 s3 (hno i d hd)) { D with nx := fun σ' H' => ∃ Hf', TS B Γ σ' Hf' H' pt as m ∧ Same Hf1 Hf', ct := fun σ' H' => ∃ Hf', TS B Γ σ' Hf' H' pt as m ∧ Same Hf1 Hf', bk := D.nx } (fun G' g' σ3 Hf3 H3 s4 e3 => ⟨Hf3, s4.weak g', g3.trans (e2.ff.trans e3)⟩)
/-- table[i][j] += n -/
theorem t1_add {i j n : Int} {x : Str} {px p1 p2 : Pos} {ei ej : Expr} (hi : PD X B Γ ei (.int i)) (hj : PD X B Γ ej (.int j)) (he : PD X B Γ e (.int n)) (hi0 : 0 ≤ i ∧ i < as.length) (hj0 : 0 ≤ j ∧ j < m) (hN : X.N[3]? = some x := by rfl) (hv : Vis X.env.scope x := by first | exact Or.inl rfl | exact Or.inr (Or.inl rfl) | exact Or.inr (Or.inr rfl))
    (hd : (x == ("__debug__" : Str)) = false := by decide) (hcd : (x == ("__classdict__" : Str)) = false := by decide) (hpi : PlainIx ei := by exact fun _ _ => rfl)
    (ha : ∀ ov iv new, augStore ej ov iv new = (do holding [new, ov, iv] (setItem ov iv new); release [new, ov, iv] []; pure .next) := by intros; rfl) : T1 X B pt as m Γ (.AugAssign (.Subscript (.Subscript (.Name x px) ei p1) ej p2) .Add e pos) (fun G => G = Γ) := fun σ Hf H s D n' => by
  have ig : as[i.toNat]? = some (as[i.toNat]'(by omega)) := List.getElem?_eq_getElem _
  obtain ⟨a, ha'⟩ : ∃ a, as[i.toNat]? = some a := ⟨_, ig⟩
  have hmem := List.mem_of_getElem? ha'
  refine S1.of (ps_augS (pe_ix ix_list (pe_var hN hv hd hcd) pe_E hpi) pe_E (tget := rGetL X.K) get_list pe_E (tip := rI0 fun i j => .int (i + j)) iop_add set_list ha) ⟨.ref pt, s.sl, hi σ Hf H s.sa _ fun v1 d1 Hf1 H1 hd1 e1 s1 dq1 => ?_⟩
  subst hd1; cases dq1
  have t1 := s.next (e1.nn s.w)
  refine ⟨pt, as.map V.ref, i, .ref a, rfl, rfl, SqL.of t1.tp, ?_, hj σ Hf1 H1 t1.sa _ fun v2 d2 Hf2 H2 hd2 e2 s2 dq2 => ?_⟩
  · have := atI_nat (xs := as.map V.ref) (j := i.toNat) (v := .ref a) (by rw [List.getElem?_map, ha']; rfl)
    rwa [Int.toNat_of_nonneg hi0.1] at this
  subst hd2; cases dq2
  have t2 := t1.next (e2.nn s.w)
  obtain ⟨_, _, _, ns, k1, k2⟩ := t2.it a hmem
  have jl : j.toNat < ns.length := by omega
  refine ⟨a, ns.map V.int, j, .int (ns[j.toNat]), rfl, rfl, SqL.of k2, hj0.1, ?_, he σ Hf2 H2 t2.sa _ fun v3 d3 Hf3 H3 hd3 e3 s3 dq3 => ?_⟩
  · have := atI_nat (xs := ns.map V.int) (j := j.toNat) (v := .int (ns[j.toNat])) (by rw [List.getElem?_map, List.getElem?_eq_getElem jl]; rfl)
    rwa [Int.toNat_of_nonneg hj0.1] at this
  subst hd3; cases dq3
  have t3 := t2.next (e3.nn s.w)
  have k3 : H3 a = some (.lst (ns.map V.int)) := (e3.nn s.w).keep a _ (by simp) k2
  refine ⟨_, n, rfl, rfl, a, ns.map V.int, j, j.toNat, rfl, rfl, k3, ixN_of hj0.1 (by rw [List.length_map]; omega), ?_⟩
  have t4 := t3.write (ns := ns.set j.toNat (ns[j.toNat] + n)) hmem (by rw [List.length_set]; exact k1)
  rw [List.map_set] at t4
  exact n' Γ rfl σ Hf3 _ t4 ((e1.ff.trans e2.ff).trans e3.ff)
end
end OC
set_option Elab.async false
set_option linter.all false
set_option maxRecDepth 100000
set_option maxHeartbeats 4000000
namespace OC
open PySem PySem.Spec PyProof.Rows L2
section
variable {B : Bs} {Γ : List Slot}
theorem SA.junk {σ : L2.St} {Hf H : Hp} (s : SA B Γ σ Hf H) (i : Nat) (v : V) : SA B (Γ.set i .non) (σ.set i (some v)) Hf H where
  fx := s.fx
  pl := s.pl
  len := by simp [s.len]
  dat := fun j d h => by
    rcases get_set h with ⟨_, h1, _⟩ | ⟨n, h1⟩
    · cases h1
    · rw [List.getElem?_set_ne (Ne.symm n)]; exact s.dat j d h1
  own := fun j φ h => by
    rcases get_set h with ⟨_, h1, _⟩ | ⟨n, h1⟩
    · cases h1
    · rw [List.getElem?_set_ne (Ne.symm n)]; exact s.own j φ h1
  dis := fun a b φ ψ p n h1 h2 h3 h4 => by
    rcases get_set h1 with ⟨_, q, _⟩ | ⟨n1, q1⟩
    · cases q
    rcases get_set h2 with ⟨_, q, _⟩ | ⟨n2, q2⟩
    · cases q
    rw [List.getElem?_set_ne (Ne.symm n1)] at h3
    rw [List.getElem?_set_ne (Ne.symm n2)] at h4
    exact s.dis a b φ ψ p n q1 q2 h3 h4
  pool := fun j h => by
    rcases get_set h with ⟨_, h1, _⟩ | ⟨n, h1⟩
    · cases h1
    · rw [List.getElem?_set_ne (Ne.symm n)]; exact s.pool j h1
end
section
variable {X : Cx} {B : Bs} {Γ : List Slot}
theorem s1_table {elt tg iter : Expr} {scope : Scope} {k m : Nat} {x y : Str} {py p pos : Pos} {ds : List PyData} (hc : X.calm = true) (hN : X.N.Nodup) (src : SrcD X B Γ tg iter ds) (ok : BlkOk X.N X.env.scope scope [(x, k)])
    (hg : ∀ (s : Shared) (H : Hp) (C : Addr) (cl : List (Str × Addr)) (fp : List Addr), PG (X.blk s H scope (compEnvC scope cl C X.env) fp) tg (gName k)) (hz : ds.length ≤ 100000)
    (he : ∀ (i : Nat) (d : PyData), ds[i]? = some d → ∀ (s : Shared) (H : Hp) (C : Addr) (cl : List (Str × Addr)) (fp : List Addr), PL (X.blk s H scope (compEnvC scope cl C X.env) fp) B (Γ.set k (.dat d)) elt (fun z => ∃ ns : List Int, ns.length = m ∧ z = ns.map .int))
    (hw : B.w = none) (no : ∀ (i : Nat) (φ : Addr → Hp → HO → Prop), Γ[i]? ≠ some (.own φ))
    {σ : L2.St} {Hf H : Hp} (s : SA B Γ σ Hf H) (h3 : 3 < Γ.length) {D : Ends} (n : ∀ p as σ' Hf' H', TS B (Γ.set 3 .non) σ' Hf' H' p as m → as.length = ds.length → Same Hf Hf' → D.nx σ' H')
    (hy : X.N[3]? = some y := by rfl) (hyl : X.env.scope.names.lookup y = some .local := by rfl)
    (hsw : swapsWith (.ListComp elt [⟨tg, iter, [], 0⟩] scope p) (some (.Name y py)) pos.line X.env = pure true := by exact sw_true rfl rfl rfl (by decide +kernel))
    (hfs : ∀ x, foldedSetIterable iter X.env x = pure x := by intro _; rfl) : S1 X (.Assign [.Name y py] (.ListComp elt [⟨tg, iter, [], 0⟩] scope p) pos) D σ H := by
  obtain ⟨wi, hi, hwi⟩ := src
  refine S1.of (ps_setLc (tt := TQB X scope []) (te := TEB X scope elt) hc hN hy hyl hsw hi ok hg (fun s H C cl fp => ⟨fun pins st _ _ _ I h => h s H C cl fp pins st I⟩) (fun s H C cl fp => ⟨fun pins st _ _ _ I h => h s H C cl fp pins st I⟩) hfs) ?_
  refine hwi σ Hf H s _ fun J ds' Hf1 H1 hds e1 s1 W A hA => ?_
  subst hds
  have e1' : FEx none Hf H Hf1 H1 := e1.nn hw
  have hAH : H A = none := by
    cases z : H A with
    | none => rfl
    | some u => exact absurd hA (e1'.there A (by rw [z]; simp))
  have hAB : B.H A = none := by
    cases z : B.H A with
    | none => rfl
    | some u => exact absurd hA (s1.fx.there A (by rw [z]; simp))
  have no2 : ∀ (i : Nat) (φ : Addr → Hp → HO → Prop), (wipeG Γ ([(x, k)].map (·.2)))[i]? ≠ some (.own φ) := fun i φ h => by
    have e : wipeG Γ ([(x, k)].map (·.2)) = Γ.set k .non := rfl
    rw [e] at h
    rcases get_set h with ⟨_, h1, _⟩ | ⟨_, h1⟩
    · cases h1
    · exact no i φ h1
  refine lc_it (g := gName k) (tt := TQB X scope []) (te := TEB X scope elt) (vs := [(x, k)].map (·.2)) (σ := σ) (H1 := H1) (D := A) (Qd := fun H' => _) W (fun i H' => ∃ (Hf' : Hp) (as : List Addr), SA B (wipeG Γ ([(x, k)].map (·.2))) (wipe σ ([(x, k)].map (·.2))) Hf' H' ∧ Same Hf1 Hf' ∧ FEx none Hf H Hf' H' ∧ H' A = some (.lst (as.map V.ref)) ∧ Hf' A = none ∧ as.length = i ∧ ∀ a ∈ as, a ≠ A ∧ Hf' a = none ∧ B.H a = none ∧ ∃ ns : List Int, ns.length = m ∧ H' a = some (.lst (ns.map V.int))) ?_ ?_ ?_ ?_
  · have e2 : FEx none Hf1 H1 Hf1 (upd H1 A (.lst [])) := FEx.own s1.sub hA
    exact ⟨Hf1, [], (s1.wiped _).wr (s1.sub.free hA) hAB (by rw [hw]; simp) (fun i φ h => absurd h (no2 i φ)), Same.refl _, e1'.trans e2, upd_same, s1.sub.free hA, rfl, fun a h => by simp at h⟩
  · intro i H' _ h
    obtain ⟨Hf', as, g1, g2, _⟩ := h
    exact g2.trans g1.sub
  · intro i z H' H'' hi2 h y2
    obtain ⟨Hf', as, g1, g2, g3, g4, g5, g6, g7⟩ := h
    obtain ⟨Hf2, d, e2, hd, dx⟩ := y2 Hf' g2 g1.sub
    have s2 := g1.next0 e2
    have hset : (wipe σ ([(x, k)].map (·.2))).set k (some z) = σ.set k (some z) := by
      show (σ.set k none).set k (some z) = _
      rw [List.set_set]
    have s3 : SA B (Γ.set k (.dat d)) (σ.set k (some z)) Hf2 H'' := by
      have := s2.put k dx
      rw [hset] at this
      have e : (wipeG Γ ([(x, k)].map (·.2))).set k (.dat d) = Γ.set k (.dat d) := by
        show (Γ.set k .non).set k (.dat d) = _
        rw [List.set_set]
      rwa [e] at this
    refine ⟨?_, fun st H0 C cl fp => ?_⟩
    · exact wipe_set (by simp) |>.trans (wipe_sub fun _ h => h)
    · refine Tq.of pts_nil ?_
      show TEB X scope elt _ _ _
      intro st H0 C cl fp
      show E _ elt ((wipe σ ([(x, k)].map (·.2))).set k (some z)) H'' _
      rw [hset]
      refine he i d hd st H0 C cl fp _ Hf2 H'' s3 _ fun q vs rs Hf4 H4 hr h0 e4 s5 h1 hf4 dv => ?_
      obtain ⟨ns, hns, rfl⟩ := hr
      have ev := dv.ints
      subst ev
      have eq : FEx none Hf' H' Hf4 H4 := e2.trans (e4.nn hw)
      have hAq : A ≠ q := ne_of_none (e2.keep A _ (by simp) g4) h0
      have hBq : B.H q = none := by
        cases z2 : B.H q with
        | none => rfl
        | some u => exact absurd h0 (s3.fx.there q (by rw [z2]; simp))
      have hA4 := eq.keep A _ (by simp) g4
      have hfA4 := eq.excl A (by rw [g4]; simp) g5
      have hlt := (List.getElem?_eq_some_iff.mp hd).1
      refine ⟨as.map V.ref, hA4, Evl.sz_lt (by rw [List.length_map]; omega), Hf4, as ++ [q], ?_, g2.trans eq.ff, (g3.trans eq).write (.inl hAH) hfA4, by rw [upd_same, List.map_append]; rfl, hfA4, by rw [List.length_append, g6]; rfl, fun a ha => ?_⟩
      · exact (g1.next0 eq).wr hfA4 hAB (by rw [hw]; simp) fun i φ h => absurd h (no2 i φ)
      · rcases List.mem_append.mp ha with ha | ha
        · obtain ⟨k1, k2, k3, ns2, k4, k5⟩ := g7 a ha
          exact ⟨k1, eq.excl a (by rw [k5]; simp) k2, k3, ns2, k4, by rw [upd_ne k1]; exact eq.keep a _ (by simp) k5⟩
        · rw [List.mem_singleton.mp ha]
          exact ⟨Ne.symm hAq, hf4, hBq, ns, hns, by rw [upd_ne (Ne.symm hAq)]; exact h1⟩
  · intro H' h
    obtain ⟨Hf', as, g1, g2, g3, g4, g5, g6, g7⟩ := h
    have s4 : SA B Γ σ Hf' H' := s.next0 g3
    exact n A as _ Hf' H' ⟨s4.junk 3 (.ref A), hw, fun j φ h => by
      rcases get_set h with ⟨_, h1, _⟩ | ⟨_, h1⟩
      · cases h1
      · exact no j φ h1, List.getElem?_set_self (by rw [← s.len]; exact h3), g4, g5, hAB, g7⟩ g6 g3.ff
end
end OC
set_option Elab.async false
set_option linter.all false
set_option maxRecDepth 100000
set_option maxHeartbeats 4000000
namespace OC
open PySem PySem.Spec PyProof.Rows L2
def nOwn : List Slot → Prop
  | [] => True
  | .own _ :: _ => False
  | .non :: r => nOwn r
  | .dat _ :: r => nOwn r
  | .pool :: r => nOwn r
theorem nOwn.ne : ∀ {Γ : List Slot}, nOwn Γ → ∀ (i : Nat) (φ : Addr → Hp → HO → Prop), Γ[i]? ≠ some (.own φ)
  | [], _, i, φ, h => by simp at h
  | .own _ :: _, h, _, _, _ => h
  | .non :: r, h, 0, φ, e => by cases e
  | .non :: r, h, i + 1, φ, e => nOwn.ne (Γ := r) h i φ (by simpa using e)
  | .dat _ :: r, h, 0, φ, e => by cases e
  | .dat _ :: r, h, i + 1, φ, e => nOwn.ne (Γ := r) h i φ (by simpa using e)
  | .pool :: r, h, 0, φ, e => by cases e
  | .pool :: r, h, i + 1, φ, e => nOwn.ne (Γ := r) h i φ (by simpa using e)
theorem takers_get {kin : List (List Int)} {lot : List Int} : ∀ k ∈ takers kin lot, 0 ≤ k ∧ k < (kin.length : Int) := by
  intro k hk
  obtain ⟨p, h1, rfl⟩ := List.mem_map.mp hk
  obtain ⟨i, hi⟩ := List.mem_iff_getElem?.mp (List.mem_filter.mp h1).1
  obtain ⟨e, h2⟩ := ix_get' hi
  have := (List.getElem?_eq_some_iff.mp h2).1
  omega
section
variable {P : Program} {w : World} {K : PySem.W.Frag} {mg : Str → Option Value} {base : Heap}
/-- every part has a taker -/
def PartsOk (c : List Int) (kin : List (List Int)) (ps : List Int) : Prop := ∀ p ∈ ix ps, p.2 ≠ 0 → takers kin (speak (slips c p.1)) ≠ []
def R_by_parts (ds : List PyData) (d : PyData) : Prop := ∃ c kin ps, ClubOk c ∧ KinO c.length kin ∧ ps.length = (prodI c).toNat ∧ PartsOk c kin ps ∧ ds = [dI c, dK kin, dL ps] ∧ isN d = false
theorem cal_by_parts (t : Top K mg) : Cal P w K mg base "shares_by_parts" 3 (spD R_by_parts) :=
  t.cal 31 (fun f fd F => okD F sc_shares_by_parts (fun ds d ⟨i, _, _, _, _, _, _, h, _⟩ => by rw [h]; rfl) (fun cdv A outer s H E hr B hB ds h => by
    obtain ⟨d, c, kin, ps, hc, hk, hps, hpo, rfl, _⟩ := h
    have h4 := hc.l4
    have hq := hc.pr
    have hkl := hk.len
    intro σ0 Hf0 H0 s0 D hn hrt
    refine Ss.cons (s1_table (m := c.length) (x := "number") (k := 5) (ds := ps.map .int) rfl sc_shares_by_parts.nd (src_L (nv 2 rfl)) (blkOk_by (N := N_shares_by_parts) (sc := defScope s_shares_by_parts) (by decide +kernel)) (fun _ _ _ _ _ => pg_name (i := 5) sc_shares_by_parts.nd rfl (Or.inl rfl)) (by rw [List.length_map]; omega) (fun i d hd s H C cl fp => ?_) hB (nOwn.ne (by exact True.intro)) s0 (by show 3 < 13; decide) (fun p as σ1 Hf1 H1 t1 hl e1 => ?_))
    · refine (CompOk.pl (comp1 "sorts" 4 (as := c) (enc := .int) (f := fun _ => .int 0) rfl sc_shares_by_parts.nd (src_T (nv 0 rfl)) (blkOk_by (N := N_shares_by_parts) (by kernel_rfl)) (fun _ _ _ _ _ => pg_name (i := 4) sc_shares_by_parts.nd rfl (Or.inl rfl)) (by omega) (fun a ha s H C cl fp => pn_int))).mono fun z hz => ⟨c.map fun _ => 0, by rw [List.length_map], by rw [hz, List.map_map]; rfl⟩
    · rw [List.length_map] at hl
      refine Ss.cons ((show T1 (cxOf CX0 P w K mg base N_shares_by_parts "shares_by_parts" (defScope s_shares_by_parts) f cdv A outer s H E).nox B p as c.length (ent N_shares_by_parts (dats [dI c, dK kin, dL ps])) _ (fun G => G = ent N_shares_by_parts (dats [dI c, dK kin, dL ps])) from ?_) σ1 Hf1 H1 t1 _ (fun G g σ2 Hf2 H2 t2 e2 => ?_))
      · refine (t1_for (ds := (ix ps).map fun a => .tuple [.int a.1, .int a.2]) (vs := [5, 6]) (Γi := fun d => match d with | .tuple [d1, d2] => ((ent N_shares_by_parts (dats [dI c, dK kin, dL ps])).set 5 (.dat d1)).set 6 (.dat d2) | _ => ent N_shares_by_parts (dats [dI c, dK kin, dL ps])) rfl PassesOwn.never (src_enumLm (t.free 66) (nv 2 rfl)) (pg_tup rfl (pgs_cons (pg_name (i := 5) sc_shares_by_parts.nd rfl (.inl rfl)) (pgs_cons (pg_name (i := 6) sc_shares_by_parts.nd rfl (.inl rfl)) pgs_nil))) (by decide) (fun i d hd => ?_) (fun i d hd => ?_) (fun i d hd => ?_))
        all_goals
          obtain ⟨a, ha, rfl⟩ : ∃ a, (ix ps)[i]? = some a ∧ d = .tuple [.int a.1, .int a.2] := by
            rw [List.getElem?_map] at hd
            cases q : (ix ps)[i]? with
            | none => rw [q] at hd; cases hd
            | some a => rw [q] at hd; exact ⟨a, rfl, (Option.some.inj hd).symm⟩
        · exact tg_pair (by simp) (by simp)
        · exact nOwn.ne (by exact True.intro)
        · obtain ⟨e1, e2⟩ := ix_get' ha
          have hi := (List.getElem?_eq_some_iff.mp e2).1
          refine tb_one (t1_if (pt_neI (nv 6 rfl) pn_int) (fun hT => ?_) (fun hF => tb_end (by exact ⟨.inr rfl, .inr rfl, .inr rfl, .inl rfl, .inl rfl, .inl rfl, .inl rfl, .inl rfl, .inl rfl, .inl rfl, .inl rfl, .inl rfl, .inl rfl, trivial⟩)))
          have hne : a.2 ≠ 0 := by simpa using hT
          have htk := hpo a (List.mem_of_getElem? ha) hne
          refine tb_cons (t1_set (Se := fun d => d = dI (speak (slips c a.1))) 7 (by decide) sc_shares_by_parts.nd (pd_call (d := dI (speak (slips c a.1))) (cal_speakers t) hr (pa_d (pd_call (d := dI (slips c a.1)) (cal_slips_of t) hr (pa_d (nv 0 rfl) (pa_d (nv 5 rfl) pa_n)) ⟨c, a.1, hc, rfl, rfl⟩ (fun d' ⟨c', n', _, h, h'⟩ => by obtain ⟨e1, e2⟩ := inj2 h; rw [h', e1, e2])) pa_n) ⟨slips c a.1, by rw [slips_len]; omega, rfl, rfl⟩ (fun d' ⟨r', _, h, h'⟩ => by rw [h', DI.inj h]))) (fun G ⟨d, hd, g⟩ => ?_)
          subst g; subst hd
          have hspl := speak_len (slips c a.1)
          have hsl := slips_len c a.1
          obtain ⟨tk, tks, htk2⟩ : ∃ tk tks, takers kin (speak (slips c a.1)) = tk :: tks := by
            cases q : takers kin (speak (slips c a.1)) with
            | nil => exact absurd q htk
            | cons x r => exact ⟨x, r, rfl⟩
          have htr := takers_get tk (by rw [htk2]; exact List.mem_cons_self)
          refine tb_cons (t1_set (Se := fun d => d = .int tk) 8 (by decide) sc_shares_by_parts.nd (pd_ixL (ds := (takers kin (speak (slips c a.1))).map .int) (pd_call (d := dL (takers kin (speak (slips c a.1)))) (cal_takers_of t) hr (pa_d (nv 1 rfl) (pa_d (nv 7 rfl) pa_n)) ⟨kin, speak (slips c a.1), by omega, by omega, rfl, rfl⟩ (fun d' ⟨k', l', _, _, h, h'⟩ => by
            injection h with h1 h2
            injection h2 with h2 _
            rw [h', dK_inj h1, dI_inj h2])) pn_int (atI_nat (j := 0) (by rw [htk2]; rfl)))) (fun G ⟨d, hd, g⟩ => ?_)
          subst g; subst hd
          refine tb_cons (t1_lc 9 (by decide) (comp1f "member" 10 (as := List.range c.length) (enc := fun k => .int (k : Nat)) (f := fun k => .int (k : Nat)) (fun k => !decide (((k : Nat) : Int) ∈ speak (slips c a.1))) rfl sc_shares_by_parts.nd (src_rng (t.free 63) ((pd_lenT (t.free 61) (nv 0 rfl)).eq (by rw [List.length_map])) (by omega)) (blkOk_by (N := N_shares_by_parts) (sc := defScope s_shares_by_parts) (by decide +kernel)) (fun _ _ _ _ _ => pg_name (i := 10) sc_shares_by_parts.nd rfl (Or.inl rfl)) (by simp; omega)
            (fun k hk' s H C cl fp => pt_niT (nv 10 rfl) (nv 7 rfl)) (fun k hk' _ s H C cl fp => nv 10 rfl))) (fun G ⟨d, hd, g⟩ => ?_)
          subst g; subst hd
          have hoth : (((List.range c.length).filter fun k => !decide (((k : Nat) : Int) ∈ speak (slips c a.1))).map fun k => PyData.int ((k : Nat) : Int)) = (((List.range c.length).filter fun k => !decide (((k : Nat) : Int) ∈ speak (slips c a.1))).map fun k => ((k : Nat) : Int)).map .int := by rw [List.map_map]; rfl
          rw [hoth]
          generalize (((List.range c.length).filter fun k => !decide (((k : Nat) : Int) ∈ speak (slips c a.1))).map fun k => ((k : Nat) : Int)) = oth
          refine tb_cons (t1_for (ds := rngD ps.length) (vs := [11]) (Γi := fun d => List.set _ 11 (.dat d)) rfl PassesOwn.never (src_rng (t.free 63) ((pd_lenL (t.free 61) (nv 2 rfl)).eq (by rw [List.length_map])) (by omega)) (pg_name (i := 11) sc_shares_by_parts.nd rfl (.inl rfl)) (by decide) (fun i d hd => tg_name (by simp)) (fun j d hd => nOwn.ne (by exact True.intro)) (fun j d hd => ?_)) (fun G g => tb_nil (Γ' := ent N_shares_by_parts (dats [dI c, dK kin, dL ps])) le_refl (by rw [g]; exact ⟨.inr rfl, .inr rfl, .inr rfl, .inl rfl, .inl rfl, .inl rfl, .inl rfl, .inl rfl, .inl rfl, .inl rfl, .inl rfl, .inl rfl, .inl rfl, trivial⟩))
          have hj := (List.getElem?_eq_some_iff.mp hd).1
          rw [rngD_len] at hj
          rw [rngD_get hj] at hd
          cases hd
          refine tb_one (t1_if (pt_eqI (pd_call (d := .int (lineOf c oth ((j : Nat) : Int))) (cal_line_of t) hr (pa_d (nv 0 rfl) (pa_d (nv 9 rfl) (pa_d (nv 11 rfl) pa_n))) ⟨c, oth, _, hc, .inr rfl, rfl⟩ (fun d' ⟨c', l', n', _, h, h'⟩ => ?_)) (nv 5 rfl)) (fun hT2 => ?_) (fun hF => tb_end (by exact ⟨.inr rfl, .inr rfl, .inr rfl, .inl rfl, .inl rfl, .inr rfl, .inr rfl, .inr rfl, .inr rfl, .inr rfl, .inl rfl, .inl rfl, .inl rfl, trivial⟩)))
          · rcases h with h | h
            · injection h with h1 h2
              injection h2 with h2 h3
              cases h2
            · injection h with h1 h2
              injection h2 with h2 h3
              injection h2 with h2
              injection h3 with h3
              injection h3 with h3
              rw [h', dI_inj h1, map_int_inj h2, h3]
          · exact tb_cons (t1_add (nv 11 rfl) (nv 8 rfl) (nv 6 rfl) (by omega) (by omega)) (fun G g => by rw [g]; exact tb_end (by exact ⟨.inr rfl, .inr rfl, .inr rfl, .inl rfl, .inl rfl, .inr rfl, .inr rfl, .inr rfl, .inr rfl, .inr rfl, .inl rfl, .inl rfl, .inl rfl, trivial⟩))
      · subst g
        obtain ⟨Hf3, dss, e3, s3, hl3⟩ := t2.freeze
        exact (bd_retd (N := fun _ => False) (pd_tupL (t.free 60) (CompOk.pl (comp1 "row" 12 (as := dss) (enc := dL) (f := dI) rfl sc_shares_by_parts.nd (src_L (nv 3 rfl)) (blkOk_by (N := N_shares_by_parts) (sc := defScope s_shares_by_parts) (by decide +kernel)) (fun _ _ _ _ _ => pg_name (i := 12) sc_shares_by_parts.nd rfl (Or.inl rfl)) (by omega) (fun r hr' s H C cl fp => pd_tupD (t.free 60) (nv 12 rfl))))) ⟨c, kin, ps, hc, hk, hps, hpo, rfl, rfl⟩) σ2 Hf3 H2 s3 D (fun G z => z.elim) hrt))
    rfl rfl (fun _ _ _ _ _ _ us hl => match us, hl with | [_, _, _], _ => rfl)
end
end OC
set_option Elab.async false
set_option linter.all false
set_option maxRecDepth 100000
set_option maxHeartbeats 4000000
namespace OC
open PySem PySem.Spec PyProof.Rows L2
section
variable {P : Program} {w : World} {K : PySem.W.Frag} {mg : Str → Option Value} {base : Heap}
theorem partsOk_of {c : List Int} {kin : List (List Int)} {ps : List Int} (h : barred c kin ps = []) : PartsOk c kin ps := fun p hp hne hnil => by
  have : (((speak (slips c p.1)).length : Int), p.1) ∈ barred c kin ps := List.mem_map.mpr ⟨p, List.mem_filter.mpr ⟨hp, by rw [hnil]; simpa using hne⟩, rfl⟩
  rw [h] at this
  simp at this
def R_shares (ds : List PyData) (d : PyData) : Prop := ∃ c kin tt, ClubOk c ∧ KinO c.length kin ∧ TotOk c tt ∧ ds = [dI c, dK kin, dI tt] ∧ isN d = !(barred c kin (partsOf c tt)).isEmpty
theorem cal_shares (t : Top K mg) : Cal P w K mg base "shares" 7 (spD R_shares) :=
  t.cal 35 (fun f fd F => okD F sc_shares (fun ds d ⟨i, _, _, _, _, _, h, _⟩ => by rw [h]; rfl) (fun cdv A outer s H E hr B hB ds h => by
    obtain ⟨d, c, kin, tt, hc, hk, ht, rfl, _⟩ := h
    have hlen : tt.length = (prodI c).toNat := ht
    have hpr := hc.pr
    have h4 := hc.l4
    have hkl := hk.len
    have hR : ∀ d, isN d = (!(barred c kin (partsOf c tt)).isEmpty) → R_shares [dI c, dK kin, dI tt] d := fun d hd => ⟨c, kin, tt, hc, hk, ht, rfl, hd⟩
    refine bd_expr (pd_call (cal_check_shared t) hr (pa_d (nv 0 rfl) (pa_d (nv 1 rfl) (pa_d (nv 2 rfl) pa_n))) ⟨c, kin, tt, hc, hk, ht, rfl, rfl⟩ (fun d' ⟨_, _, _, _, _, _, _, h⟩ => h)) ?_
    refine bd_set 3 sc_shares.nd (pd_call (d := dL (partsOf c tt)) (cal_parts_of t) hr (pa_d (nv 0 rfl) (pa_d (nv 2 rfl) pa_n)) ⟨c, tt, hc, ht, rfl, rfl⟩ (fun d' ⟨c', t', _, _, h, h'⟩ => by obtain ⟨e1, e2⟩ := inj2I h; rw [h', e1, e2])) ?_
    refine bd_cons (M := fun G => G = (ent N_shares (dats [dI c, dK kin, dI tt])).set 3 (.dat (dL (partsOf c tt))) ∧ barred c kin (partsOf c tt) = []) (b1_if (k := !(barred c kin (partsOf c tt)).isEmpty) (PTD.eq (pt_neD hr (pd_call (d := .list ((sorted (barred c kin (partsOf c tt))).map dP)) (ds := [dI c, dK kin, dL (partsOf c tt)]) (cal_barred_rows t) hr (pa_d (nv 0 rfl) (pa_d (nv 1 rfl) (pa_d (nv 3 rfl) pa_n)))
      ⟨c, kin, partsOf c tt, hc, by omega, by rw [partsOf_len]; omega, rfl, rfl⟩ (fun d' ⟨c', k', p', _, _, _, h, h'⟩ => by obtain ⟨e1, e2, e3⟩ := inj3K h; rw [h', ← e1, ← e2, ← e3])) (PLD.pd (ds := []) (pl_lst pa_n (fun ds h => by rw [h]; simp))) (shaped_P _) shaped_nil) ?_) (fun hT => ?_) (fun hF => ?_)) (fun G ⟨g1, g2⟩ => ?_)
    · rw [eqv_nil, List.isEmpty_map]
      congr 1
      rw [Bool.eq_iff_iff, List.isEmpty_iff, List.isEmpty_iff]
      have h2 : (sorted (barred c kin (partsOf c tt))).length = (barred c kin (partsOf c tt)).length := (List.mergeSort_perm _ _).length_eq
      rw [← List.length_eq_zero_iff, ← List.length_eq_zero_iff, h2]
    · exact bd_retd pn_non (hR _ (by rw [hT]; rfl))
    · refine bd_end ⟨rfl, ?_⟩
      have : (barred c kin (partsOf c tt)).isEmpty = true := by simpa using hF
      exact List.isEmpty_iff.mp this
    · subst g1
      refine bd_ret (pn_call (S' := fun ds => ds = [dI c, dK kin, dL (partsOf c tt)]) (cal_by_parts t) hr (pa_d (nv 0 rfl) (pa_d (nv 1 rfl) (pa_d (nv 3 rfl) pa_n))) (fun ds h => ⟨.bool true, c, kin, partsOf c tt, hc, hk, by rw [partsOf_len]; exact ht, partsOk_of g2, h, rfl⟩) (fun ds d h ⟨_, _, _, _, _, _, _, _, h'⟩ => hR d (by rw [h', g2]; rfl)))))
    rfl rfl (fun _ _ _ _ _ _ us hl => match us, hl with | [_, _, _], _ => rfl)
end
end OC
set_option Elab.async false
set_option linter.all false
set_option maxRecDepth 100000
set_option maxHeartbeats 4000000
namespace OC
open PySem PySem.Spec PyProof.Rows L2
section
variable {P : Program} {w : World} {K : PySem.W.Frag} {mg : Str → Option Value} {base : Heap}
def D_draw (ds : List PyData) : Prop := ∃ m : Int, 1 ≤ m ∧ m < 1073741824 ∧ ds = [.int m]
def R_draw (ds : List PyData) (d : PyData) : Prop := ∃ m v : Int, ds = [.int m] ∧ 0 ≤ v ∧ v < m ∧ d = .int v
/-- the pool is written, or a list that it holds is new -/
structure PSt (Hf0 H0 : Hp) (p : Addr) (Hf H : Hp) (v0 v1 : V) (a b : Int) (gs ss : List Int) : Prop where
  fx : FEx (some p) Hf0 H0 Hf H
  hf : Hf p = none
  at_ : H p = some (.lst [v0, v1, .int a, .int b])
  d0 : Dq Hf v0 (.list (gs.map PyData.int))
  d1 : Dq Hf v1 (.list (ss.map PyData.int))
theorem PSt.ok {Hf0 H0 Hf H : Hp} {p : Addr} {v0 v1 : V} {a b : Int} {gs ss : List Int} (s : PSt Hf0 H0 p Hf H v0 v1 a b gs ss) : PoolOk Hf H p := ⟨s.hf, v0, v1, a, b, gs, ss, s.at_, s.d0, s.d1⟩
theorem PSt.set {Hf0 H0 Hf H : Hp} {p : Addr} {v0 v1 w0 : V} {a b a' b' : Int} {gs ss hs : List Int} (s : PSt Hf0 H0 p Hf H v0 v1 a b gs ss) (h : Dq Hf w0 (.list (hs.map PyData.int))) : PSt Hf0 H0 p Hf (upd H p (.lst [w0, v1, .int a', .int b'])) w0 v1 a' b' hs ss :=
  ⟨s.fx.write (.inr rfl) s.hf, s.hf, upd_same, h, s.d1⟩
theorem PSt.neu {Hf0 H0 Hf H : Hp} {p q : Addr} {v0 v1 : V} {a b : Int} {gs ss hs : List Int} (s : PSt Hf0 H0 p Hf H v0 v1 a b gs ss) (hq : H q = none) : PSt Hf0 H0 p (upd Hf q (.lst (hs.map V.int))) (upd H q (.lst (hs.map V.int))) v0 v1 a b gs ss := by
  have e : FEx (some p) Hf H (upd Hf q (.lst (hs.map V.int))) (upd H q (.lst (hs.map V.int))) := FEx.new s.fx.sub hq
  have hne : p ≠ q := ne_of_none s.at_ hq
  exact ⟨s.fx.trans e, by rw [upd_ne hne]; exact s.hf, by rw [upd_ne hne]; exact s.at_, dq_mono e.ff _ _ s.d0, dq_mono e.ff _ _ s.d1⟩
theorem dqAll_of_ints {H : Hp} (ns : List Int) : DqAll H (ns.map V.int) (ns.map PyData.int) := DqAll.of_ints ns
theorem cut_ints1 (ns : List Int) : cutV (ns.map V.int) (some 1) none = (ns.drop 1).map V.int := by
  unfold cutV
  rw [show HT.sIx (ns.map V.int).length 0 (some 1) = min 1 (ns.map V.int).length from HT.sIx_nat _ 0 1, HT.sIx_none]
  cases ns with
  | nil => rfl
  | cons x r =>
    rw [show min 1 ((x :: r).map V.int).length = 1 by rw [List.length_map, List.length_cons]; omega]
    show (List.take (((x :: r).map V.int).length - 1) (r.map V.int)) = r.map V.int
    rw [List.length_map, List.length_cons, Nat.add_sub_cancel]
    exact List.take_of_length_le (by rw [List.length_map]; exact Nat.le_refl _)
theorem atI_int {vs : List V} {i : Int} {v : V} (h : 0 ≤ i) (e : vs[i.toNat]? = some v) : atI vs i = some v := by
  have := atI_nat (xs := vs) (j := i.toNat) e
  rwa [Int.toNat_of_nonneg h] at this
theorem ok_draw (t : Top K mg) {f : Addr} {fd : FuncData} (F : FunD K "_law_draw" "_law_draw" (defArgs s_L_draw) (defBody s_L_draw) (defScope s_L_draw) [] [] f fd) : FnOk P w K mg base CX0 1 f fd ["_law_pool_here", "_law_many"] (spP D_draw R_draw) := by
  refine F.ok sc_L_draw (fun vs H Q E h => ?_) (fun cdv A outer s H vs Q E hr h => ?_)
  · obtain ⟨Hf, p, ws, ds, rfl, _, _, h2, ⟨m, _, _, rfl⟩, _⟩ := h
    rw [List.length_cons, h2.length]; rfl
  · obtain ⟨Hf, p, ws, ds, rfl, hsub, hpo, h2, ⟨m, hm1, hm2, rfl⟩, q⟩ := h
    obtain ⟨vm, rfl, hvm⟩ := (by
      cases h2 with
      | cons h1 h2 => cases h2; exact ⟨_, rfl, h1⟩ : ∃ v, ws = [v] ∧ Dq Hf v (.int m))
    cases hvm
    obtain ⟨hpf, v0, v1, a, b, gs, ss, hp, d0, d1⟩ := hpo
    have st0 : PSt Hf H p Hf H v0 v1 a b gs ss := ⟨FEx.refl hsub, hpf, hp, d0, d1⟩
    have fin : ∀ {v : Int} {Hf' H' : Hp} {v0 v1 : V} {a b : Int} {gs ss : List Int}, PSt Hf H p Hf' H' v0 v1 a b gs ss → 0 ≤ v → v < m → Q (.int v) H' := fun {v Hf' H' v0 v1 a b gs ss} st h0 h1 => q (.int v) (.int v) Hf' H' ⟨m, v, rfl, h0, h1, rfl⟩ st.fx st.ok (.int v)
    refine ⟨_, PSs.nox pss_S, ?_⟩
    have tl : ("len" : Str) ≠ "__name__" := by decide
    -- the third part: a number of the pool's own making
    have part3 : ∀ {Hf1 H1 : Hp} {v0 v1 : V} {a b : Int} {gs ss : List Int}, PSt Hf H p Hf1 H1 v0 v1 a b gs ss →
        Ss (cxOf CX0 P w K mg base N_L_draw "_law_draw" (defScope s_L_draw) f cdv A outer s H E).nox ((defBody s_L_draw).drop 2) { nx := fun _ H' => Q .non H', rt := Q } [some (.ref p), some (.int m), none, none, none] H1 := by
      intro Hf1 H1 v0 v1 a b gs ss st
      obtain ⟨a1, vs1, rfl, h1a, h1b⟩ := dq_list st.d1
      have e1 := h1b.ints
      subst e1
      refine Ss.cons (S1.of (ps_asg (pe_op op_add (pe_ix ix_list (pv 0) pe_int (fun _ _ => rfl)) pe_int) (pg_sub (pv 0) pe_int set_list)) ?_)
      refine ⟨.ref p, rfl, p, _, 3, .int b, rfl, rfl, SqL.of st.at_, rfl, b, 1, rfl, rfl, .ref p, rfl, p, [v0, .ref a1, .int a, .int b], 3, 3, rfl, rfl, st.at_, rfl, ?_⟩
      have st2 : PSt Hf H p Hf1 (upd H1 p (.lst [v0, .ref a1, .int a, .int (b + 1)])) v0 (.ref a1) a (b + 1) gs ss := st.set st.d0
      refine Ss.cons (S1.of (ps_set (i := 3) sc_L_draw.nd rfl (.inl rfl) pe_int) ?_)
      have hs1 : SqL K (upd H1 p (.lst [v0, .ref a1, .int a, .int (b + 1)])) a1 (ss.map V.int) := SqL.of (st2.fx.sub _ _ h1a)
      have part7 : ∀ (cl x3 : Int), Ss (cxOf CX0 P w K mg base N_L_draw "_law_draw" (defScope s_L_draw) f cdv A outer s H E).nox ((defBody s_L_draw).drop 8) { nx := fun _ H' => Q .non H', rt := Q } [some (.ref p), some (.int m), none, some (.int cl), some (.int x3)] (upd H1 p (.lst [v0, .ref a1, .int a, .int (b + 1)])) := by
        intro cl x3
        refine Ss.cons (S1.of (ps_ret (pe_op op_mod (pe_callTy call_int1 rfl (t.free 59) (by decide +kernel) (pa_cons (pe_op op_fdiv (pv 4) pe_int) pa_nil)) (pv 1))) ?_)
        exact ⟨.int x3, rfl, x3, 16, rfl, rfl, ⟨by decide, by decide⟩, .inl ⟨_, rfl, .int m, rfl, _, m, rfl, rfl, by omega, fin st2 (Int.emod_nonneg _ (by omega)) (Int.emod_lt_of_pos _ (by omega))⟩⟩
      have part6 : ∀ (cl x2 : Int), 0 ≤ x2 → x2 < 2147483647 → Ss (cxOf CX0 P w K mg base N_L_draw "_law_draw" (defScope s_L_draw) f cdv A outer s H E).nox ((defBody s_L_draw).drop 7) { nx := fun _ H' => Q .non H', rt := Q } [some (.ref p), some (.int m), none, some (.int cl), some (.int x2)] (upd H1 p (.lst [v0, .ref a1, .int a, .int (b + 1)])) := by
        intro cl x2 n3 n4
        refine Ss.cons (S1.of (ps_set (i := 4) sc_L_draw.nd rfl (.inl rfl) (pe_op op_mod (pe_callTy call_int1 rfl (t.free 59) (by decide +kernel) (pa_cons (pe_op op_mul (pv 4) (pe_op op_add (pe_op op_fdiv (pv 4) pe_int) pe_int)) pa_nil)) pe_int)) ?_)
        refine ⟨.int x2, rfl, .int x2, rfl, x2, 2003, rfl, rfl, ⟨by decide, by decide⟩, x2 / 2003, 40692, rfl, rfl, x2, x2 / 2003 + 40692, rfl, rfl, .inl ⟨by omega, by omega⟩, .inl ⟨_, rfl, _, 2147483399, rfl, rfl, (by show (0 : Int) < 2147483399; decide), ?_⟩⟩
        exact part7 _ _
      have part5 : ∀ (cl x1 : Int), 0 ≤ x1 → x1 < 2147483647 → Ss (cxOf CX0 P w K mg base N_L_draw "_law_draw" (defScope s_L_draw) f cdv A outer s H E).nox ((defBody s_L_draw).drop 6) { nx := fun _ H' => Q .non H', rt := Q } [some (.ref p), some (.int m), none, some (.int cl), some (.int x1)] (upd H1 p (.lst [v0, .ref a1, .int a, .int (b + 1)])) := by
        intro cl x1 n1 n2
        refine Ss.cons (S1.of (ps_set (i := 4) sc_L_draw.nd rfl (.inl rfl) (pe_op op_mod (pe_callTy call_int1 rfl (t.free 59) (by decide +kernel) (pa_cons (pe_op op_mul (pv 4) (pe_op op_add (pe_op op_fdiv (pv 4) pe_int) pe_int)) pa_nil)) pe_int)) ?_)
        refine ⟨.int x1, rfl, .int x1, rfl, x1, 1009, rfl, rfl, ⟨by decide, by decide⟩, x1 / 1009, 69621, rfl, rfl, x1, x1 / 1009 + 69621, rfl, rfl, .inl ⟨by omega, by omega⟩, .inl ⟨_, rfl, _, 2147483647, rfl, rfl, (by show (0 : Int) < 2147483647; decide), ?_⟩⟩
        exact part6 _ _ (Int.emod_nonneg _ (by decide)) (Int.emod_lt_of_pos _ (by decide))
      have part4 : ∀ cl : Int, Ss (cxOf CX0 P w K mg base N_L_draw "_law_draw" (defScope s_L_draw) f cdv A outer s H E).nox ((defBody s_L_draw).drop 5) { nx := fun _ H' => Q .non H', rt := Q } [some (.ref p), some (.int m), none, some (.int cl), none] (upd H1 p (.lst [v0, .ref a1, .int a, .int (b + 1)])) := by
        intro cl
        refine Ss.cons (S1.of (ps_set (i := 4) sc_L_draw.nd rfl (.inl rfl) (pe_op op_mod (pe_callTy call_int1 rfl (t.free 59) (by decide +kernel) (pa_cons (pe_op op_mul (pe_op op_add (pe_op op_add (pv 3) (pe_op op_mul pe_int (pe_ix ix_list (pv 0) pe_int (fun _ _ => rfl)))) pe_int) pe_int) pa_nil)) pe_int)) ?_)
        refine ⟨.int cl, rfl, .ref p, rfl, p, _, 3, .int (b + 1), rfl, rfl, SqL.of st2.at_, rfl, 7919, b + 1, rfl, rfl, .inl (by decide), cl, 7919 * (b + 1), rfl, rfl, cl + 7919 * (b + 1), 1, rfl, rfl, cl + 7919 * (b + 1) + 1, 48271, rfl, rfl, .inr (by decide), .inl ⟨_, rfl, _, 2147483647, rfl, rfl, (by show (0 : Int) < 2147483647; decide), ?_⟩⟩
        have n1 := Int.emod_nonneg ((cl + 7919 * (b + 1) + 1) * 48271) (show (2147483647 : Int) ≠ 0 by decide)
        have n2 := Int.emod_lt_of_pos ((cl + 7919 * (b + 1) + 1) * 48271) (show (0 : Int) < 2147483647 by decide)
        refine part5 _ _ n1 n2
      refine Ss.cons (S1.of (ps_if (pt_cmpR op_gt (pe_callB call_len_seq rfl (t.free 61) PySem.boot_len (pa_cons (pe_ix ix_list (pv 0) pe_int (fun _ _ => rfl)) pa_nil)) pe_int (nomark _))
        (pss_one (ps_set (i := 3) sc_L_draw.nd rfl (.inl rfl) (pe_ix ix_list (pe_ix ix_list (pv 0) pe_int (fun _ _ => rfl)) (pe_op op_mod (pe_callTy call_int1 rfl (t.free 59) (by decide +kernel) (pa_cons (pe_ix ix_list (pv 0) pe_int (fun _ _ => rfl)) pa_nil)) (pe_callB call_len_seq rfl (t.free 61) PySem.boot_len (pa_cons (pe_ix ix_list (pv 0) pe_int (fun _ _ => rfl)) pa_nil))) (fun _ _ => rfl)))) pss_nil) ?_)
      refine ⟨.ref p, rfl, p, _, 1, .ref a1, rfl, rfl, SqL.of st2.at_, rfl, a1, ss.map V.int, rfl, .inl hs1, ((ss.map V.int).length : Int), 0, rfl, rfl, _, rfl, ite2 (fun hT => ?_) (fun hF => ?_)⟩
      · have hpos : 0 < ss.length := by
          have := of_decide_eq_true hT
          rw [List.length_map] at this; omega
        have hlt := Int.emod_lt_of_pos (b + 1) (show (0 : Int) < ((ss.map V.int).length : Int) by rw [List.length_map]; omega)
        have hge := Int.emod_nonneg (b + 1) (show ((ss.map V.int).length : Int) ≠ 0 by rw [List.length_map]; omega)
        rw [List.length_map] at hlt hge
        have hi : ((b + 1) % (ss.length : Int)).toNat < ss.length := by omega
        refine ⟨.ref p, rfl, p, _, 1, .ref a1, rfl, rfl, SqL.of st2.at_, rfl, .ref p, rfl, p, _, 3, .int (b + 1), rfl, rfl, SqL.of st2.at_, rfl, .inl ⟨b + 1, rfl, .ref p, rfl, p, _, 1, .ref a1, rfl, rfl, SqL.of st2.at_, rfl, a1, ss.map V.int, rfl, .inl hs1, b + 1, ((ss.map V.int).length : Int), rfl, rfl, by rw [List.length_map]; omega, a1, ss.map V.int, (b + 1) % ((ss.map V.int).length : Int), .int (ss[((b + 1) % (ss.length : Int)).toNat]'hi), rfl, rfl, hs1, ?_, part4 _⟩⟩
        rw [List.length_map]
        exact atI_int hge (by rw [List.getElem?_map, List.getElem?_eq_getElem hi]; rfl)
      · exact part4 0
    have part2 : ∀ {Hf1 H1 : Hp} {v0 v1 : V} {a b : Int} {gs ss : List Int}, PSt Hf H p Hf1 H1 v0 v1 a b gs ss →
        Ss (cxOf CX0 P w K mg base N_L_draw "_law_draw" (defScope s_L_draw) f cdv A outer s H E).nox ((defBody s_L_draw).drop 1) { nx := fun _ H' => Q .non H', rt := Q } [some (.ref p), some (.int m), none, none, none] H1 := by
      intro Hf1 H1 v0 v1 a b gs ss st
      refine Ss.cons (S1.of (ps_if (pt_cmpR op_gt (pe_ix ix_list (pv 0) pe_int (fun _ _ => rfl)) pe_int (nomark _))
        (pss_cons (ps_set (i := 2) sc_L_draw.nd rfl (.inl rfl) (pe_op op_mod (pe_callTy call_int1 rfl (t.free 59) (by decide +kernel) (pa_cons (pe_ix ix_list (pv 0) pe_int (fun _ _ => rfl)) pa_nil)) (pv 1)))
          (pss_cons (ps_asg (pe_op op_fdiv (pe_ix ix_list (pv 0) pe_int (fun _ _ => rfl)) (pv 1)) (pg_sub (pv 0) pe_int set_list)) (pss_one (ps_ret (pv 2))))) pss_nil) ?_)
      refine ⟨.ref p, rfl, p, _, 2, .int a, rfl, rfl, SqL.of st.at_, rfl, a, 1, rfl, rfl, _, rfl, ite2 (fun hT => ?_) (fun hF => ?_)⟩
      · refine ⟨.ref p, rfl, p, _, 2, .int a, rfl, rfl, SqL.of st.at_, rfl, .inl ⟨a, rfl, .int m, rfl, a, m, rfl, rfl, by omega, ?_⟩⟩
        refine ⟨.ref p, rfl, p, _, 2, .int a, rfl, rfl, SqL.of st.at_, rfl, .int m, rfl, a, m, rfl, rfl, ⟨by omega, hm2⟩, .ref p, rfl, p, [v0, v1, .int a, .int b], 2, 2, rfl, rfl, st.at_, rfl, ?_⟩
        exact ⟨.int (a % m), rfl, fin (st.set (a' := a / m) (b' := b) st.d0) (Int.emod_nonneg _ (by omega)) (Int.emod_lt_of_pos _ (by omega))⟩
      · exact part3 st
    obtain ⟨a0, vs0, rfl, h0a, h0b⟩ := dq_list d0
    have e0 := h0b.ints
    subst e0
    refine Ss.cons (S1.of (ps_if (L2.PW.pt (pw_and (pt_cmpR op_le (pe_ix ix_list (pv 0) pe_int (fun _ _ => rfl)) pe_int (nomark _)) (pw_and1 (pt_cmpR op_gt (pe_callB call_len_seq rfl (t.free 61) PySem.boot_len (pa_cons (pe_ix ix_list (pv 0) pe_int (fun _ _ => rfl)) pa_nil)) pe_int (nomark _)))))
      (pss_cons (ps_asg (pe_ix ix_list (pe_ix ix_list (pv 0) pe_int (fun _ _ => rfl)) pe_int (fun _ _ => rfl)) (pg_sub (pv 0) pe_int set_list))
        (pss_one (ps_asg (pe_slice sl_list (pe_ix ix_list (pv 0) pe_int (fun _ _ => rfl)) (po_some pe_int) po_none) (pg_sub (pv 0) pe_int set_list)))) pss_nil) ?_)
    refine ⟨.ref p, rfl, p, _, 2, .int a, rfl, rfl, SqL.of st0.at_, rfl, a, 1, rfl, rfl, _, rfl, ite2 (fun hT => ?_) (fun hF => ?_)⟩
    · refine ⟨.ref p, rfl, p, _, 0, .ref a0, rfl, rfl, SqL.of st0.at_, rfl, a0, gs.map V.int, rfl, .inl (SqL.of (hsub _ _ h0a)), ((gs.map V.int).length : Int), 0, rfl, rfl, _, rfl, ite2 (fun hT2 => ?_) (fun hF2 => ?_)⟩
      · cases gs with
        | nil => exact absurd (of_decide_eq_true hT2) (by decide)
        | cons g gr =>
          refine ⟨.ref p, rfl, p, _, 0, .ref a0, rfl, rfl, SqL.of st0.at_, rfl, a0, _, 0, .int g, rfl, rfl, SqL.of (hsub _ _ h0a), atI_nat (j := 0) rfl, .ref p, rfl, p, [.ref a0, v1, .int a, .int b], 2, 2, rfl, rfl, st0.at_, rfl, ?_⟩
          have st1 : PSt Hf H p Hf (upd H p (.lst [.ref a0, v1, .int g, .int b])) (.ref a0) v1 g b (g :: gr) ss := st0.set d0
          refine ⟨.ref p, rfl, p, _, 0, .ref a0, rfl, rfl, SqL.of st1.at_, rfl, 1, rfl, a0, (g :: gr).map V.int, rfl, SqL.of (st1.fx.sub _ _ h0a), fun l hl => ?_⟩
          rw [cut_ints1]
          have st2 := st1.neu (hs := (g :: gr).drop 1) hl
          refine ⟨.ref p, rfl, p, [.ref a0, v1, .int g, .int b], 0, 0, rfl, rfl, st2.at_, rfl, ?_⟩
          exact part2 (st2.set (w0 := .ref l) (a' := g) (b' := b) (hs := (g :: gr).drop 1) (.lst upd_same (dqAll_of_ints _)))
      · exact part2 st0
    · exact part2 st0
theorem cal_draw (t : Top K mg) : Cal P w K mg base "_law_draw" 1 (spP D_draw R_draw) :=
  t.cal 37 (fun f fd F => ok_draw t F) rfl rfl (fun _ _ _ _ _ _ us hl => match us, hl with | [_, _], _ => rfl)
end
end OC
set_option Elab.async false
set_option linter.all false
set_option maxRecDepth 100000
set_option maxHeartbeats 4000000
namespace OC
open PySem PySem.Spec PyProof.Rows L2
section
variable {X : Cx} {B : Bs} {Γ : List Slot} {e a b c : Expr} {es : List Expr} {p pos : Pos} {Sa Sb S : Int → Prop}
/-- an int, told in part -/
abbrev PI (X : Cx) (B : Bs) (Γ : List Slot) (e : Expr) (S : Int → Prop) : Prop := PN X B Γ e (fun d => ∃ i, S i ∧ d = .int i)
theorem PD.pi {i : Int} (h : PD X B Γ e (.int i)) : PI X B Γ e (fun j => j = i) := h.mono fun d hd => ⟨i, rfl, hd⟩
theorem PI.mono {S' : Int → Prop} (h : PI X B Γ e S) (m : ∀ i, S i → S' i) : PI X B Γ e S' := PN.mono h fun d ⟨i, h1, h2⟩ => ⟨i, m i h1, h2⟩
theorem pi_op {op : Operator} {r : R2} {g : Int → Int → Int} (ho : OpR X (binaryOp op) r) (ha : PI X B Γ a Sa) (hb : PI X B Γ b Sb) (hr : ∀ i j, Sa i → Sb j → RO r (.int i) (.int j) (fun z => z = .int (g i j))) (m : ∀ i j, Sa i → Sb j → S (g i j)) : PI X B Γ (.BinOp a op b pos) S :=
  pn_op ho ha hb fun da db ⟨i, h1, h2⟩ ⟨j, h3, h4⟩ => by subst h2; subst h4; exact (hr i j h1 h3).mono fun d hd => ⟨_, m i j h1 h3, hd⟩
theorem pi_sub (ha : PI X B Γ a Sa) (hb : PI X B Γ b Sb) (m : ∀ i j, Sa i → Sb j → S (i - j)) : PI X B Γ (.BinOp a .Sub b pos) S := pi_op op_sub ha hb (fun i j _ _ => ro_I0i) m
theorem pi_add (ha : PI X B Γ a Sa) (hb : PI X B Γ b Sb) (m : ∀ i j, Sa i → Sb j → S (i + j)) : PI X B Γ (.BinOp a .Add b pos) S := pi_op op_add ha hb (fun i j _ _ => ro_I0i) m
theorem pi_mul (ha : PI X B Γ a Sa) (hb : PI X B Γ b Sb) (h : ∀ i j, Sa i → Sb j → CMul i j) (m : ∀ i j, Sa i → Sb j → S (i * j)) : PI X B Γ (.BinOp a .Mult b pos) S := pi_op op_mul ha hb (fun i j h1 h2 => ro_Ii (h i j h1 h2)) m
theorem pi_mod (ha : PI X B Γ a Sa) (hb : PI X B Γ b Sb) (h : ∀ j, Sb j → 0 < j) (m : ∀ i j, Sa i → Sb j → S (i % j)) : PI X B Γ (.BinOp a .Mod b pos) S := pi_op op_mod ha hb (fun i j h1 h2 => ro_Ii (C := fun _ j => 0 < j) (h j h2)) m
end
section
variable {P : Program} {w : World} {K : PySem.W.Frag} {mg : Str → Option Value} {base : Heap}
/-! ### _law_pick -/
def D_pick (ds : List PyData) : Prop := ∃ ns : List Int, 1 ≤ ns.length ∧ ns.length ≤ 1000 ∧ ds = [dL ns]
def R_pick (ds : List PyData) (d : PyData) : Prop := ∃ ns : List Int, ∃ z, ds = [dL ns] ∧ z ∈ ns ∧ d = .int z
theorem dL_inj {a b : List Int} (h : dL a = dL b) : a = b := by
  unfold dL at h
  injection h with h
  exact List.map_inj_right (fun x y h => by injection h) |>.mp h
theorem cal_pick (t : Top K mg) : Cal P w K mg base "_law_pick" 2 (spP D_pick R_pick) :=
  t.cal 38 (fun f fd F => okP F sc_L_pick (fun ds ⟨ns, _, _, h⟩ => by rw [h]; rfl) (fun cdv A outer s H E hr B p hB ds h => by
    obtain ⟨ns, h1, h2, rfl⟩ := h
    refine bd_ret (pn_ix ix_list (nv 1 rfl) (pn_callP (S := fun d => ∃ i : Int, (0 ≤ i ∧ i < ns.length) ∧ d = .int i) (m := 0) (cal_draw t) hr rfl (pa_d (pd_lenL (t.free 61) (nv 1 rfl)) pa_n) (fun ds h => ⟨ns.length, by omega, by omega, by rw [h, List.length_map]⟩) (fun ds d h ⟨m, v, g1, g2, g3, g4⟩ => by
      rw [h] at g1
      injection g1 with g1
      injection g1 with g1
      rw [List.length_map] at g1
      exact ⟨v, ⟨g2, by omega⟩, g4⟩)) (fun da db g1 ⟨i, ⟨g2, g3⟩, g4⟩ => ?_))
    subst g1; subst g4
    refine (ro_ixL (d := .int (ns.getD i.toNat 0)) ?_).mono fun d hd => ⟨ns, _, rfl, ?_, hd⟩
    · have := at_map (xs := ns) (f := PyData.int) (k := i.toNat) (z := 0) (by omega)
      rwa [Int.toNat_of_nonneg g2] at this
    · have hi : i.toNat < ns.length := by omega
      simp only [List.getD, List.getElem?_eq_getElem hi, Option.getD_some]
      exact List.getElem_mem _))
    rfl rfl (fun _ _ _ _ _ _ us hl => match us, hl with | [_, _], _ => rfl)
/-! ### _law_near -/
def D_near (ds : List PyData) : Prop := ∃ s : Int, 0 < s ∧ (s ≤ 100 ∨ 1000000000 ≤ s) ∧ ds = [.int s]
def anyI (d : PyData) : Prop := ∃ i : Int, True ∧ d = .int i
def R_near (ds : List PyData) (d : PyData) : Prop := anyI d
theorem pow9 : (10 : Int) ^ (9 : Int).toNat = 1000000000 := rfl
theorem cal_near (t : Top K mg) : Cal P w K mg base "_law_near" 2 (spP D_near R_near) :=
  t.cal 39 (fun f fd F => okP F sc_L_near (fun ds ⟨ns, _, _, h⟩ => by rw [h]; rfl) (fun cdv A outer s H E hr B p hB ds h => by
    obtain ⟨sz, h1, h2, rfl⟩ := h
    have c9 : CPow 10 9 := ⟨by decide, by decide, by decide⟩
    refine bd_cons (M := fun G => G = ent N_L_near (.pool :: dats [.int sz])) (b1_if (k := decide (sz < 1000000000)) (pt_lt' (nv 1 rfl) ((pd_pow pn_int pn_int c9).eq rfl)) (fun hT => ?_) (fun hF => bd_end rfl)) (fun G g => ?_)
    · have hs := of_decide_eq_true hT
      exact bd_ret (pi_sub (Sa := fun _ => True) (S := fun _ => True) (pn_callP (m := 0) (cal_draw t) hr rfl (pa_d (pd_add (pd_mul pn_int (nv 1 rfl) (.inl ⟨by decide, by decide⟩)) pn_int) pa_n) (fun ds h => ⟨2 * sz + 1, by omega, by omega, h⟩) (fun ds d h ⟨m, v, g1, g2, g3, g4⟩ => ⟨v, trivial, g4⟩)) (PD.pi (nv 1 rfl)) (fun _ _ _ _ => trivial))
    · subst g
      refine bd_set 2 sc_L_near.nd pn_int ?_
      refine bd_cons (b1_for (vs := [3]) (Gs := fun _ i Z => ∃ n : Int, le [.pool, .dat (.int sz), .dat (.int n), .non] Z) (Gi := fun Z d => Z.set 3 (.dat d)) rfl PassesOwn.never (src_rngI (t.free 63) pn_int (by decide) (by decide)) (pg_name (i := 3) sc_L_near.nd rfl (.inl rfl)) (fun ds h => ⟨0, .inr rfl, .inr rfl, .inr rfl, .inl rfl, trivial⟩) (fun ds i d Z h h1 h2 => tg_name (by simp)) (fun ds i d Z h h1 ⟨n, h2⟩ => ?_)) (fun Z ⟨ds, g1, n, g2⟩ => ?_)
      · refine BD.weak ?_ (bd_for1.le_set h2)
        refine bd_one (b1_if (k := decide (n < sz)) (pt_lt' (nv 2 rfl) (nv 1 rfl)) (fun hT => ?_) (fun hF => bd_end ⟨n, .inr rfl, .inr rfl, .inr rfl, .inl rfl, trivial⟩))
        exact bd_setN (Se := anyI) 2 sc_L_near.nd (pi_add (S := fun _ => True) (PD.pi (pd_mul (nv 2 rfl) ((pd_pow pn_int pn_int c9).eq rfl) (.inr ⟨by decide, by decide⟩))) (pn_callP (S := anyI) (m := 0) (cal_draw t) hr rfl (pa_d ((pd_pow pn_int pn_int c9).eq rfl) pa_n) (fun ds h => ⟨1000000000, by decide, by decide, h⟩) (fun ds d h ⟨m, v, g1, g2, g3, g4⟩ => ⟨v, trivial, g4⟩)) (fun _ _ _ _ => trivial)) (fun d ⟨i, _, hd⟩ => bd_end ⟨i, by subst hd; exact ⟨.inr rfl, .inr rfl, .inr rfl, .inl rfl, trivial⟩⟩)
      · refine BD.weak ?_ g2
        exact bd_ret (PD.pi (pd_sub (pd_mod (pd_int1 (t.free 59) (nv 2 rfl)) (pd_add (pd_mul pn_int (nv 1 rfl) (.inl ⟨by decide, by decide⟩)) pn_int) (by omega)) (nv 1 rfl)) |>.mono fun _ _ => trivial)))
    rfl rfl (fun _ _ _ _ _ _ us hl => match us, hl with | [_, _], _ => rfl)
/-! ### _law_number -/
theorem pow37 : (10 : Int) ^ (37 : Int).toNat = 10000000000000000000000000000000000000 := by decide +kernel
def numD : List Int := [1, 3, 3, 9, 100, 10000000000000000000000000000000000000]
theorem num_eq : [PyData.list [.int 1, .int 3, .int 3, .int 9, .int 100, .int ((10 : Int) ^ (37 : Int).toNat)]] = [dL numD] := by rw [pow37]; rfl
theorem num_cases {z : Int} (h : z ∈ numD) : 0 < z ∧ (z ≤ 100 ∨ 1000000000 ≤ z) := by
  simp only [numD, List.mem_cons, List.not_mem_nil, or_false] at h
  omega
theorem cal_number (t : Top K mg) : Cal P w K mg base "_law_number" 3 (spP (fun ds => ds = []) (fun _ d => anyI d)) :=
  t.cal 40 (fun f fd F => okP F sc_L_number (fun ds h => by rw [h]; rfl) (fun cdv A outer s H E hr B p hB ds h => by
    subst h
    refine bd_ret (pn_callP (m := 0) (S' := fun ds => ∃ z : Int, z ∈ numD ∧ ds = [.int z]) (cal_near t) hr rfl ?_ (fun ds ⟨z, h1, h2⟩ => ⟨z, (num_cases h1).1, (num_cases h1).2, h2⟩) (fun ds d h1 h2 => h2) (he := by simp only [starEach]))
    refine pa_c (S := fun d => ∃ z : Int, z ∈ numD ∧ d = .int z) ?_ pa_n (fun d ds ⟨z, h1, h2⟩ h3 => ⟨z, h1, by rw [h2, h3]⟩) (by simp only [starEach])
    refine pn_callP (m := 0) (S' := fun ds => ds = [dL numD]) (S := fun d => ∃ z : Int, z ∈ numD ∧ d = .int z) (cal_pick t) hr rfl ?_ (fun ds h => ?_) (fun ds d h ⟨ns, z, g1, g2, g3⟩ => ⟨z, ?_, g3⟩) (he := by simp only [starEach])
    rotate_left
    · exact ⟨numD, by decide, by decide, h⟩
    · rw [h] at g1
      injection g1 with g1
      rw [dL_inj g1]; exact g2
    refine pa_d (ds := []) (d := dL numD) ?_ pa_n (by simp only [starEach])
    refine PLD.pd (ds := numD.map .int) (pl_lst ?_ (fun ds h => by rw [h]; decide))
    refine pa_d pn_int (pa_d pn_int (pa_d pn_int (pa_d pn_int (pa_d pn_int (pa_d ?_ pa_n)))))
    exact PD.eq (pd_pow pn_int pn_int ⟨by decide, by decide, by decide⟩) (congrArg PyData.int pow37)))
    rfl rfl (fun _ _ _ _ _ _ us hl => match us, hl with | [_], _ => rfl)
end
end OC
set_option Elab.async false
set_option linter.all false
set_option maxRecDepth 100000
set_option maxHeartbeats 4000000
namespace OC
open PySem PySem.Spec PyProof.Rows L2
theorem prodI_foldl (a : Int) : ∀ c : List Int, c.foldl (fun a b => a * b) a = a * prodI c := by
  intro c
  induction c generalizing a with
  | nil => simp [prodI]
  | cons x c ih =>
    unfold prodI
    rw [List.foldl_cons, List.foldl_cons, ih, ih, Int.mul_assoc, Int.one_mul]
theorem prodI_snoc (c : List Int) (s : Int) : prodI (c ++ [s]) = prodI c * s := by unfold prodI; rw [List.foldl_append]; rfl
theorem prodI_append (a b : List Int) : prodI (a ++ b) = prodI a * prodI b := by
  rw [show prodI (a ++ b) = b.foldl (fun a b => a * b) (prodI a) by unfold prodI; rw [List.foldl_append], prodI_foldl]
theorem prodI_posL : ∀ {c : List Int}, (∀ s ∈ c, 1 ≤ s) → 1 ≤ prodI c := by
  intro c
  induction c with
  | nil => intro _; decide
  | cons x c ih =>
    intro h
    have h1 := ih fun s hs => h s (List.mem_cons_of_mem _ hs)
    have h2 := h x List.mem_cons_self
    rw [show prodI (x :: c) = prodI ([x] ++ c) from rfl, prodI_append]
    have e : prodI [x] = x := by unfold prodI; simp
    rw [e]
    have := Int.mul_le_mul h2 h1 (by decide) (by omega)
    omega
structure Club8 (c : List Int) : Prop where
  l1 : 1 ≤ c.length
  l8 : c.length ≤ 8
  s1 : ∀ s ∈ c, 1 ≤ s ∧ s ≤ 4
  pr : prodI c ≤ 12
theorem Club8.cut {c : List Int} (h : Club8 c) : ClubOk (c.take 4) := by
  refine ⟨by have := h.l1; rw [List.length_take]; omega, by rw [List.length_take]; omega, fun s hs => h.s1 s (List.mem_of_mem_take hs), ?_⟩
  have e : prodI c = prodI (c.take 4) * prodI (c.drop 4) := by rw [← prodI_append, List.take_append_drop]
  have h1 := prodI_posL (c := c.take 4) fun s hs => (h.s1 s (List.mem_of_mem_take hs)).1
  have h2 := prodI_posL (c := c.drop 4) fun s hs => (h.s1 s (List.mem_of_mem_drop hs)).1
  have h3 := h.pr
  have := Int.mul_le_mul_of_nonneg_left h2 (show 0 ≤ prodI (c.take 4) by omega)
  omega
section
variable {P : Program} {w : World} {K : PySem.W.Frag} {mg : Str → Option Value} {base : Heap}
def D_club (ds : List PyData) : Prop := ds = [.int 12]
def R_club (ds : List PyData) (d : PyData) : Prop := ∃ c, Club8 c ∧ d = dI c
theorem list_inj {a b : List Int} (h : [dL a] = [dL b]) : a = b := by
  injection h with h
  exact dL_inj h
theorem cal_L_club (t : Top K mg) : Cal P w K mg base "_law_club" 3 (spP D_club R_club) :=
  t.cal 41 (fun f fd F => okP F sc_L_club (fun ds h => by rw [h]; rfl) (fun cdv A outer s H E hr B p hB ds h => by
    cases h
    refine bd_setL 2 sc_L_club.nd (pl_lst (S := fun z => z = []) pa_n (fun ds h => by rw [h]; decide)) ?_
    refine bd_set 3 sc_L_club.nd pn_int ?_
    refine bd_cons (b1_for (vs := [4]) (SL := fun ds => ∃ i : Int, i ∈ [(1 : Int), 2, 2, 3, 3, 4, 5, 8] ∧ ds = rngD i.toNat) (Gs := fun _ i Z => ∃ c : List Int, c.length = i ∧ (∀ s ∈ c, 1 ≤ s ∧ s ≤ 4) ∧ prodI c ≤ 12 ∧ le [.pool, .dat (.int 12), .own (Lst (c.map .int)), .dat (.int (prodI c)), .non, .non] Z) (Gi := fun Z d => Z.set 4 (.dat d)) rfl PassesOwn.never (src_range (t.free 63) (pn_callP (S := fun d => ∃ z : Int, z ∈ [(1 : Int), 2, 2, 3, 3, 4, 5, 8] ∧ d = .int z) (m := 0) (cal_pick t) hr rfl (pa_d (PLD.pd (ds := [(1 : Int), 2, 2, 3, 3, 4, 5, 8].map .int) (pl_lst (pa_d pn_int (pa_d pn_int (pa_d pn_int (pa_d pn_int (pa_d pn_int (pa_d pn_int (pa_d pn_int (pa_d pn_int pa_n)))))))) (fun ds h => by rw [h]; decide))) pa_n) (fun ds h => ⟨_, by decide, by decide, h⟩) (fun ds d h ⟨ns, z, g1, g2, g3⟩ => ⟨z, by rw [list_inj (h.symm.trans g1)]; exact g2, g3⟩)) (fun i h => ?_) (fun i h => ?_)) (pg_name (i := 4) sc_L_club.nd rfl (.inl rfl)) (fun ds h => ⟨[], rfl, by simp, by decide, .inr rfl, .inr rfl, .inr rfl, .inr rfl, .inl rfl, .inl rfl, trivial⟩) (fun ds i d Z h h1 h2 => tg_name (by simp)) (fun ds i d Z h h1 ⟨c, c1, c2, c3, h2⟩ => ?_)) (fun Z ⟨ds, g1, c, c1, c2, c3, g2⟩ => ?_)
    · simp only [List.mem_cons, List.not_mem_nil, or_false] at h; omega
    · simp only [List.mem_cons, List.not_mem_nil, or_false] at h; omega
    · refine BD.weak ?_ (bd_for1.le_set h2)
      obtain ⟨n, n1, rfl⟩ := h
      have hi := (List.getElem?_eq_some_iff.mp h1).1
      rw [rngD_len] at hi
      have n8 : c.length < 8 := by
        simp only [List.mem_cons, List.not_mem_nil, or_false] at n1; omega
      have c0 := prodI_posL fun s hs => (c2 s hs).1
      refine bd_setN (Se := fun d => ∃ z : Int, z ∈ [(1 : Int), 2, 2, 2, 3, 4] ∧ d = .int z) 5 sc_L_club.nd (pn_callP (m := 0) (cal_pick t) hr rfl (pa_d (PLD.pd (ds := [(1 : Int), 2, 2, 2, 3, 4].map .int) (pl_lst (pa_d pn_int (pa_d pn_int (pa_d pn_int (pa_d pn_int (pa_d pn_int (pa_d pn_int pa_n)))))) (fun ds h => by rw [h]; decide))) pa_n) (fun ds h => ⟨_, by decide, by decide, h⟩) (fun ds d h ⟨ns, z, g1, g2, g3⟩ => ⟨z, by rw [list_inj (h.symm.trans g1)]; exact g2, g3⟩)) (fun d ⟨z, z1, hd⟩ => ?_)
      subst hd
      have z2 : 1 ≤ z ∧ z ≤ 4 := by simp only [List.mem_cons, List.not_mem_nil, or_false] at z1; omega
      have cm : ∀ k, CMul (prodI c) k := fun k => .inl ⟨by omega, by omega⟩
      refine bd_cons (M := fun G => ∃ s : Int, (1 ≤ s ∧ s ≤ 4) ∧ prodI c * s ≤ 12 ∧ le [.pool, .dat (.int 12), .own (Lst (c.map .int)), .dat (.int (prodI c)), .non, .dat (.int s)] G) (b1_if (pt_gt' (pd_mul (nv 3 rfl) (nv 5 rfl) (cm _)) (nv 1 rfl)) (fun hT => ?_) (fun hF => bd_end ⟨z, z2, ?_, .inr rfl, .inr rfl, .inr rfl, .inr rfl, .inl rfl, .inr rfl, trivial⟩)) (fun G ⟨s, s1, s2, g⟩ => ?_)
      · refine bd_set (d := .int (if prodI c * 2 ≤ 12 then 2 else 1)) 5 sc_L_club.nd (pn_if (pt_le' (pd_mul (nv 3 rfl) pn_int (cm _)) (nv 1 rfl)) (fun hT => PD.eq pn_int ?_) (fun hF => PD.eq pn_int ?_)) (bd_end ⟨_, ?_, ?_, .inr rfl, .inr rfl, .inr rfl, .inr rfl, .inl rfl, .inr rfl, trivial⟩)
        · rw [if_pos (of_decide_eq_true hT)]
        · rw [if_neg (of_decide_eq_false hF)]
        · split <;> omega
        · split <;> omega
      · have := of_decide_eq_false hF; omega
      · refine BD.weak ?_ g
        refine bd_app 2 rfl (nv 5 rfl) (by rw [List.length_map]; omega) ?_
        refine bd_set 3 sc_L_club.nd (pd_mul (nv 3 rfl) (nv 5 rfl) (cm _)) (bd_end ⟨c ++ [s], ?_, ?_, ?_, .inr rfl, .inr rfl, .inr ?_, .inr ?_, .inl rfl, .inl rfl, trivial⟩)
        · rw [List.length_append, c1]; rfl
        · intro x hx
          rcases List.mem_append.mp hx with hx | hx
          · exact c2 x hx
          · rw [List.mem_singleton.mp hx]; exact s1
        · rw [prodI_snoc]; exact s2
        · rw [List.map_append]; rfl
        · rw [prodI_snoc]
    · refine BD.weak ?_ g2
      obtain ⟨n, n1, rfl⟩ := g1
      rw [rngD_len] at c1
      have n8 : 1 ≤ c.length ∧ c.length ≤ 8 := by
        simp only [List.mem_cons, List.not_mem_nil, or_false] at n1; omega
      refine bd_freeze 2 rfl ?_
      exact bd_retd (pd_tupD (t.free 60) (nv 2 rfl)) ⟨c, ⟨n8.1, n8.2, c2, c3⟩, rfl⟩))
    rfl rfl (fun _ _ _ _ _ _ us hl => match us, hl with | [_, _], _ => rfl)
end
end OC
set_option Elab.async false
set_option linter.all false
set_option maxRecDepth 100000
set_option maxHeartbeats 4000000
namespace OC
open PySem PySem.Spec PyProof.Rows L2
section
variable {X : Cx} {B : Bs} {Γ : List Slot} {e a b c : Expr} {p pos : Pos} {tg : Expr} {iter elt : Expr} {scope : Scope} {ifs : List Expr}
theorem wipe_put {Γ : List Slot} {x : Str} {k : Nat} {d : PyData} {B : Bs} : Tg (gName k) d (wipeG Γ ([(x, k)].map (·.2))) (Γ.set k (.dat d)) B ([(x, k)].map (·.2)) := by
  have e : wipeG Γ ([(x, k)].map (·.2)) = Γ.set k .non := rfl
  have e2 : (Γ.set k .non).set k (.dat d) = Γ.set k (.dat d) := by rw [List.set_set]
  rw [e, ← e2]
  exact tg_name (by simp)
/-- a comprehension of ints that are told in part -/
theorem compI {α : Type} (x : Str) (k : Nat) {as : List α} {enc : α → PyData} {S : Int → Prop}
    (hc : X.calm = true) (hN : X.N.Nodup) (src : SrcD X B Γ tg iter (as.map enc)) (ok : BlkOk X.N X.env.scope scope [(x, k)])
    (hg : ∀ (s : Shared) (H : Hp) (C : Addr) (cl : List (Str × Addr)) (fp : List Addr), PG (X.blk s H scope (compEnvC scope cl C X.env) fp) tg (gName k))
    (hz : as.length ≤ 100000)
    (he : ∀ a, a ∈ as → ∀ (s : Shared) (H : Hp) (C : Addr) (cl : List (Str × Addr)) (fp : List Addr), PI (X.blk s H scope (compEnvC scope cl C X.env) fp) B (Γ.set k (.dat (enc a))) elt S)
    (hfs : ∀ x, foldedSetIterable iter X.env x = pure x := by intro _; rfl) : CompOk X B Γ elt tg iter [] scope (fun z => ∃ ns : List Int, ns.length = as.length ∧ (∀ n ∈ ns, S n) ∧ z = ns.map .int) := by
  refine (comp_ok (Rl := fun ds i acc => ∃ ns : List Int, ns.length = i ∧ (∀ n ∈ ns, S n) ∧ acc = ns.map .int) (Γi := fun ds i d => Γ.set k (.dat d)) (Tb := fun ds i d b => b = true) (Se := fun ds i d r => ∃ j, S j ∧ r = .int j) hc hN src ok hg (fun ds h => by rw [h, List.length_map]; exact hz) (fun ds h => ⟨[], rfl, by simp, rfl⟩) (fun ds i d h hd => wipe_put) (fun ds i d h hd s H C cl fp => pq_nil) (fun ds i d h hd hT s H C cl fp => ?_) (fun ds i d acc r h hd ⟨ns, h1, h2, h3⟩ hT ⟨j, h4, h5⟩ => ⟨ns ++ [j], by rw [List.length_append, h1]; rfl, fun n hn => ?_, by rw [h3, h5, List.map_append]; rfl⟩) (fun ds i d acc h hd hR hT => by cases hT) hfs).mono (fun z ⟨ds, h1, ns, h2, h3, h4⟩ => ⟨ns, by rw [h2, h1, List.length_map], h3, h4⟩)
  · subst h
    rw [List.getElem?_map] at hd
    cases q : as[i]? with
    | none => rw [q] at hd; cases hd
    | some z =>
      rw [q] at hd
      have := Option.some.inj hd
      subst this
      exact he z (List.mem_of_getElem? q) s H C cl fp
  · rcases List.mem_append.mp hn with hn | hn
    · exact h2 n hn
    · rw [List.mem_singleton.mp hn]; exact h4
end
/-- the rows of a club, as the law makes them -/
def rowsStep (f : List (List Int)) (s : Int) : List (List Int) := f.flatMap fun r => (List.range s.toNat).map fun k => r ++ [((k : Nat) : Int)]
def lawRows (c : List Int) : List (List Int) := c.foldl rowsStep [[]]
theorem rowsStep_len (s : Int) : ∀ f : List (List Int), (rowsStep f s).length = f.length * s.toNat
  | [] => by simp [rowsStep]
  | r :: f => by
    have := rowsStep_len s f
    unfold rowsStep at this ⊢
    rw [List.flatMap_cons, List.length_append, this, List.length_map, List.length_range, List.length_cons, Nat.add_mul]; omega
theorem lawRows_snoc (c : List Int) (s : Int) : lawRows (c ++ [s]) = rowsStep (lawRows c) s := by unfold lawRows; rw [List.foldl_append]; rfl
theorem rowsStep_mem {f : List (List Int)} {s : Int} {r : List Int} (h : r ∈ rowsStep f s) : ∃ r' ∈ f, ∃ x : Int, (0 ≤ x ∧ x < s) ∧ r = r' ++ [x] := by
  obtain ⟨r', h1, h2⟩ := List.mem_flatMap.mp h
  obtain ⟨k, h3, rfl⟩ := List.mem_map.mp h2
  have := List.mem_range.mp h3
  exact ⟨r', h1, _, by omega, rfl⟩
theorem take_snoc {α : Type} {l : List α} {i : Nat} {a : α} (h : l[i]? = some a) : l.take (i + 1) = l.take i ++ [a] := by rw [List.take_add_one, h]; rfl
theorem lawRows_len : ∀ (n : Nat) (c : List Int), c.length = n → (∀ s ∈ c, 1 ≤ s) → (lawRows c).length = (prodI c).toNat ∧ ∀ r ∈ lawRows c, inR c r
  | 0, c, hl, h => by
    have : c = [] := List.length_eq_zero_iff.mp hl
    subst this
    exact ⟨rfl, fun r hr => by rw [List.mem_singleton.mp hr]; trivial⟩
  | n + 1, c, hl, h => by
    obtain ⟨c', s, rfl⟩ : ∃ c' s, c = c' ++ [s] := by
      have hne : c ≠ [] := fun e => by rw [e] at hl; simp at hl
      exact ⟨c.dropLast, c.getLast hne, (List.dropLast_concat_getLast hne).symm⟩
    rw [List.length_append] at hl
    have hl' : c'.length = n := by simpa using hl
    have hs := h s (by simp)
    obtain ⟨ih1, ih2⟩ := lawRows_len n c' hl' fun x hx => h x (List.mem_append_left _ hx)
    have hp := prodI_posL (c := c') fun x hx => h x (List.mem_append_left _ hx)
    rw [lawRows_snoc]
    refine ⟨?_, fun r hr => ?_⟩
    · rw [rowsStep_len, ih1, prodI_snoc, Int.toNat_mul (by omega) (by omega)]
    · obtain ⟨r', h1, x, h2, rfl⟩ := rowsStep_mem hr
      exact inR_append (ih2 r' h1) ⟨h2, trivial⟩
section
variable {P : Program} {w : World} {K : PySem.W.Frag} {mg : Str → Option Value} {base : Heap}
theorem prodI_take {c : List Int} (h : ∀ s ∈ c, 1 ≤ s) (n : Nat) : prodI (c.take n) ≤ prodI c := by
  have e : prodI c = prodI (c.take n) * prodI (c.drop n) := by rw [← prodI_append, List.take_append_drop]
  have h1 := prodI_posL (c := c.take n) fun s hs => h s (List.mem_of_mem_take hs)
  have h2 := prodI_posL (c := c.drop n) fun s hs => h s (List.mem_of_mem_drop hs)
  have := Int.mul_le_mul_of_nonneg_left h2 (show 0 ≤ prodI (c.take n) by omega)
  omega
def R_L_rows (ds : List PyData) (d : PyData) : Prop := ∃ c, ClubOk c ∧ ds = [dI c] ∧ d = .list ((lawRows c).map dI)
theorem cal_L_rows (t : Top K mg) : Cal P w K mg base "_law_rows" 1 (spD R_L_rows) :=
  t.cal 42 (fun f fd F => okD F sc_L_rows (fun ds d ⟨i, _, h, _⟩ => by rw [h]; rfl) (fun cdv A outer s H E hr B hB ds h => by
    obtain ⟨d, c, hc, rfl, rfl⟩ := h
    have h4 := hc.l4
    have hq := hc.pr
    refine bd_set 1 sc_L_rows.nd (PLD.pd (ds := [dI []]) (pl_lst (pa_d (pd_tup pa_n (by simp)) pa_n) (fun ds h => by rw [h]; simp))) ?_
    refine bd_for1 (k := 2) (as := c) (enc := fun s => .int s) (G := fun i => [.dat (dI c), .dat (.list ((lawRows (c.take i)).map dI)), .non, .non, .non, .non]) rfl PassesOwn.never (src_T (nv 0 rfl)) (pg_name (i := 2) sc_L_rows.nd rfl (.inl rfl)) ⟨.inr rfl, .inr rfl, .inl rfl, .inl rfl, .inl rfl, .inl rfl, trivial⟩ (fun i s h => ?_) ?_
    · have hs := hc.s1 s (List.mem_of_getElem? h)
      have ge := fun n => fun x (hx : x ∈ c.take n) => hc.ge1 x (List.mem_of_mem_take hx)
      obtain ⟨l1, l2⟩ := lawRows_len _ (c.take i) rfl (ge i)
      have l3 := prodI_take hc.ge1 i
      have hst : lawRows (c.take (i + 1)) = rowsStep (lawRows (c.take i)) s := by rw [take_snoc h, lawRows_snoc]
      have l4 : ∀ r ∈ lawRows (c.take i), r.length ≤ 4 := fun r hr => by have := inR_len (l2 r hr); rw [this, List.length_take]; omega
      generalize lawRows (c.take i) = ff at l1 l2 hst l4
      refine bd_setL 3 sc_L_rows.nd (pl_lst (S := fun z => z = []) pa_n (fun ds h => by rw [h]; decide)) ?_
      refine bd_for1 (k := 4) (as := ff) (enc := dI) (G := fun n => [.dat (dI c), .dat (.list (ff.map dI)), .dat (.int s), .own (Lst ((rowsStep (ff.take n) s).map dI)), .non, .non]) rfl PassesOwn.never (src_L (nv 1 rfl)) (pg_name (i := 4) sc_L_rows.nd rfl (.inr rfl)) ⟨.inr rfl, .inr rfl, .inr rfl, .inr rfl, .inl rfl, .inl rfl, trivial⟩ (fun n r hr => ?_) ?_
      · have hr4 := l4 r (List.mem_of_getElem? hr)
        refine bd_cons (b1_ext 3 rfl (SL := fun z => z = ((List.range s.toNat).map fun k => dI (r ++ [((k : Nat) : Int)]))) (CompOk.pl (comp1 "_law_slip" 5 (as := List.range s.toNat) (enc := fun k => .int (k : Nat)) (f := fun k => dI (r ++ [((k : Nat) : Int)])) rfl sc_L_rows.nd (src_rngI (t.free 63) (nv 2 rfl) (by omega) (by omega)) (blkOk_by (N := N_L_rows) (sc := defScope s_L_rows) (by decide +kernel)) (fun _ _ _ _ _ => pg_name (i := 5) sc_L_rows.nd rfl (Or.inl rfl)) (by simp; omega)
          (fun k hk s H C cl fp => (pd_cat (nv 4 rfl) (pd_tup (pa_d (nv 5 rfl) pa_n) (by simp)) (by simp; omega)).eq (by rw [dI, List.map_append]; rfl)))) (fun es h => ?_)) (fun G ⟨es, g1, g2⟩ => ?_)
        · rw [h, List.length_map, rowsStep_len, List.length_take, List.length_map, List.length_range]
          have e1 : min n ff.length * s.toNat ≤ 12 * 4 := Nat.mul_le_mul (by omega) (by omega)
          omega
        · rw [g2, g1]
          refine bd_end ⟨.inr rfl, .inr rfl, .inr rfl, .inr ?_, .inl rfl, .inl rfl, trivial⟩
          rw [take_snoc hr]
          show Slot.own (Lst ((rowsStep (ff.take n ++ [r]) s).map dI)) = _
          rw [show rowsStep (ff.take n ++ [r]) s = rowsStep (ff.take n) s ++ ((List.range s.toNat).map fun k => r ++ [((k : Nat) : Int)]) by unfold rowsStep; rw [List.flatMap_append]; simp, List.map_append, List.map_map]
          rfl
      · rw [List.take_length]
        refine bd_freeze 3 rfl ?_
        refine bd_set 1 sc_L_rows.nd (nv 3 rfl) (bd_end ⟨.inr rfl, .inr ?_, .inl rfl, .inl rfl, .inl rfl, .inl rfl, trivial⟩)
        rw [hst]
    · rw [List.take_length]
      exact bd_retd (nv 1 rfl) ⟨c, hc, rfl, rfl⟩))
    rfl rfl (fun _ _ _ _ _ _ us hl => match us, hl with | [_], _ => rfl)
/-! ### _law_spot -/
def spotOf (row lot : List Int) : List Int := ((ix row).filter fun p => !decide (p.1 ∈ lot)).map fun p => p.2
def R_spot (ds : List PyData) (d : PyData) : Prop := ∃ row lot : List Int, row.length ≤ 4 ∧ ds = [dI row, dI lot] ∧ d = dI (spotOf row lot)
theorem cal_spot (t : Top K mg) : Cal P w K mg base "_law_spot" 1 (spD R_spot) :=
  t.cal 44 (fun f fd F => okD F sc_L_spot (fun ds d ⟨i, _, _, h, _⟩ => by rw [h]; rfl) (fun cdv A outer s H E hr B hB ds h => by
    obtain ⟨d, row, lot, hl, rfl, rfl⟩ := h
    refine bd_retd (pd_tupL (t.free 60) (CompOk.pl (comp2f "_law_member" "_law_slip" 2 3 (as := ix row) (e1 := fun a => .int a.1) (e2 := fun a => .int a.2) (f := fun a => .int a.2) (fun a => !decide (a.1 ∈ lot)) rfl sc_L_spot.nd (src_enumTm (t.free 66) (nv 0 rfl)) (blkOk_by (N := N_L_spot) (sc := defScope s_L_spot) (by decide +kernel)) (by decide) (fun _ _ _ _ _ => pg_tup rfl (pgs_cons (pg_name (i := 2) sc_L_spot.nd rfl (.inl rfl)) (pgs_cons (pg_name (i := 3) sc_L_spot.nd rfl (.inl rfl)) pgs_nil))) (by rw [ix_len]; omega)
      (fun a ha s H C cl fp => pt_niT (nv 2 rfl) (nv 1 rfl)) (fun a ha _ s H C cl fp => nv 3 rfl)))) ⟨row, lot, hl, rfl, ?_⟩
    rw [dI, spotOf, List.map_map]; rfl))
    rfl rfl (fun _ _ _ _ _ _ us hl => match us, hl with | [_, _], _ => rfl)
/-! ### _law_sums -/
def R_sums (ds : List PyData) (d : PyData) : Prop := ∃ gs : List (List Int), gs.length ≤ 1000 ∧ ds = [dK gs] ∧ ∃ ns : List Int, ns.length = gs.length ∧ d = dI ns
theorem cal_sums (t : Top K mg) : Cal P w K mg base "_law_sums" 1 (spD R_sums) :=
  t.cal 46 (fun f fd F => okD F sc_L_sums (fun ds d ⟨i, _, h, _⟩ => by rw [h]; rfl) (fun cdv A outer s H E hr B hB ds h => by
    obtain ⟨d, gs, hl, rfl, _⟩ := h
    refine bd_ret ((pn_tupL (S := fun z => ∃ ns : List Int, ns.length = gs.length ∧ (∀ n ∈ ns, True) ∧ z = ns.map .int) (t.free 60) (PL.pn (CompOk.pl (compI "_law_row" 1 (as := gs) (enc := dI) (S := fun _ => True) rfl sc_L_sums.nd (src_T (nv 0 rfl)) (blkOk_by (N := N_L_sums) (sc := defScope s_L_sums) (by decide +kernel)) (fun _ _ _ _ _ => pg_name (i := 1) sc_L_sums.nd rfl (Or.inl rfl)) (by omega)
      (fun a ha s H C cl fp => PN.mono (pn_sumT (t.free 69) rfl (nv 1 rfl)) fun d ⟨i, hd⟩ => ⟨i, trivial, hd⟩))))).mono fun d ⟨z, ⟨ns, h1, _, h2⟩, h3⟩ => ⟨gs, hl, rfl, ns, h1, by rw [h3, h2]⟩)))
    rfl rfl (fun _ _ _ _ _ _ us hl => match us, hl with | [_], _ => rfl)
/-! ### _law_unlike -/
def R_L_unlike (ds : List PyData) (d : PyData) : Prop := ∃ a b : List Int, a.length ≤ 4 ∧ b.length = a.length ∧ ds = [dI a, dI b] ∧ d = dI (unl a.length a b)
theorem cal_L_unlike (t : Top K mg) : Cal P w K mg base "_law_unlike" 1 (spD R_L_unlike) :=
  t.cal 53 (fun f fd F => okD F sc_L_unlike (fun ds d ⟨i, _, _, _, h, _⟩ => by rw [h]; rfl) (fun cdv A outer s H E hr B hB ds h => by
    obtain ⟨d, a, b, h4, hb, rfl, rfl⟩ := h
    refine bd_retd (pd_tupL (t.free 60) (CompOk.pl (comp1f "_law_member" 2 (as := List.range a.length) (enc := fun k => .int (k : Nat)) (f := fun k => .int (k : Nat)) (fun k => !decide (a.getD k 0 = b.getD k 0)) rfl sc_L_unlike.nd ?_ (blkOk_by (N := N_L_unlike) (sc := defScope s_L_unlike) (by decide +kernel)) (fun _ _ _ _ _ => pg_name (i := 2) sc_L_unlike.nd rfl (Or.inl rfl)) (by simp; omega)
      (fun k ha s H C cl fp => ?_) (fun k ha _ s H C cl fp => nv 2 rfl)))) ⟨a, b, h4, hb, rfl, ?_⟩
    · exact (src_rng (n := a.length) (t.free 63) ((pd_lenT (t.free 61) (nv 0 rfl)).eq (by rw [List.length_map])) (by omega))
    · have hl : k < a.length := List.mem_range.mp ha
      exact pt_neI (pd_ixT (nv 0 rfl) (nv 2 rfl) (at_map (z := 0) hl)) (pd_ixT (nv 1 rfl) (nv 2 rfl) (at_map (z := 0) (by omega)))
    · rw [dI, unl, List.map_map]; rfl))
    rfl rfl (fun _ _ _ _ _ _ us hl => match us, hl with | [_, _], _ => rfl)
/-! ### _law_all_lots -/
theorem cal_L_all_lots (t : Top K mg) : Cal P w K mg base "_law_all_lots" 1 (spD R_all_lots) :=
  t.cal 49 (fun f fd F => okD F sc_L_all_lots (fun ds d ⟨i, _, h, _⟩ => by rw [h]; rfl) (fun cdv A outer s H E hr B hB ds h => by
    obtain ⟨d, m, hm, rfl, rfl⟩ := h
    refine bd_set 1 sc_L_all_lots.nd (PLD.pd (ds := [dI []]) (pl_lst (pa_d (pd_tup pa_n (by simp)) pa_n) (fun ds h => by rw [h]; simp))) ?_
    refine bd_for1 (k := 2) (as := List.range m) (enc := fun k => .int (k : Nat)) (G := fun i => [.dat (.int (m : Nat)), .dat (.list ((allLots i).map dI)), .non, .non]) rfl PassesOwn.never (src_rng (t.free 63) (nv 0 rfl) (by omega)) (pg_name (i := 2) sc_L_all_lots.nd rfl (.inr rfl)) ⟨.inr rfl, .inr rfl, .inl rfl, .inl rfl, trivial⟩ (fun i a h => ?_) ?_
    · have hi := (List.getElem?_eq_some_iff.mp h).1
      rw [List.length_range] at hi
      have ea : a = i := by
        rw [List.getElem?_range hi] at h
        exact (Option.some.inj h).symm
      subst ea
      have hl := allLots_le hm (Nat.le_of_lt hi)
      refine bd_set 1 sc_L_all_lots.nd (PLD.pd (pl_cat (nv 1 rfl) (CompOk.pd (comp1 "_law_lot" 3 (as := allLots a) (enc := dI) (f := fun l => dI (l ++ [((a : Nat) : Int)])) rfl sc_L_all_lots.nd (src_L (nv 1 rfl)) (blkOk_by (N := N_L_all_lots) (sc := defScope s_L_all_lots) (by decide +kernel)) (fun _ _ _ _ _ => pg_name (i := 3) sc_L_all_lots.nd rfl (Or.inl rfl)) (by omega)
        (fun l hl' s H C cl fp => (pd_cat (nv 3 rfl) (pd_tup (pa_d (nv 2 rfl) pa_n) (by simp)) (by have := allLots_mem_len hl'; simp; omega)).eq (by rw [dI, List.map_append]; rfl)))) (by simp; omega))) (bd_end ⟨.inr rfl, .inr ?_, .inl rfl, .inl rfl, trivial⟩)
      show Slot.dat (.list ((allLots (a + 1)).map dI)) = _
      show Slot.dat (.list ((allLots a ++ (allLots a).map fun l => l ++ [((a : Nat) : Int)]).map dI)) = _
      rw [List.map_append, List.map_map]; rfl
    · rw [List.length_range]
      exact bd_retd (nv 1 rfl) ⟨m, hm, rfl, rfl⟩))
    rfl rfl (fun _ _ _ _ _ _ us hl => match us, hl with | [_], _ => rfl)
/-! ### _law_place -/
def R_L_place (ds : List PyData) (d : PyData) : Prop := ∃ c row, ClubOk c ∧ row.length = c.length ∧ ds = [dI c, dI row] ∧ d = .int (place c row)
theorem cal_L_place (t : Top K mg) : Cal P w K mg base "_law_place" 1 (spD R_L_place) :=
  t.cal 51 (fun f fd F => okD F sc_L_place (fun ds d ⟨i, _, _, _, h, _⟩ => by rw [h]; rfl) (fun cdv A outer s H E hr B hB ds h => by
    obtain ⟨d, c, row, hc, hl, rfl, rfl⟩ := h
    refine bd_set 2 sc_L_place.nd pn_int ?_
    refine bd_for2 (j := 3) (k := 4) (as := row.zip c) (e1 := fun a => .int a.1) (e2 := fun a => .int a.2) (G := fun i => [.dat (dI c), .non, .dat (.int (((row.zip c).take i).foldl (fun f p => f * p.2 + p.1) 0)), .non, .non]) rfl PassesOwn.never (src_zipTm (t.free 64) (nv 1 rfl) (nv 0 rfl) hl) (pg_tup rfl (pgs_cons (pg_name (i := 3) sc_L_place.nd rfl (.inl rfl)) (pgs_cons (pg_name (i := 4) sc_L_place.nd rfl (.inl rfl)) pgs_nil))) ⟨.inr rfl, .inl rfl, .inr rfl, .inl rfl, .inl rfl, trivial⟩ (fun i a h => ?_) ?_
    · have ha := hc.s1 a.2 (zip_mem_r h)
      refine bd_set 2 sc_L_place.nd (pd_add (pd_mul (nv 2 rfl) (nv 4 rfl) (.inr ⟨by omega, by omega⟩)) (nv 3 rfl)) (bd_end ⟨.inr rfl, .inl rfl, .inr ?_, .inl rfl, .inl rfl, trivial⟩)
      show Slot.dat (.int (((row.zip c).take (i + 1)).foldl (fun f p => f * p.2 + p.1) 0)) = _
      rw [foldl_take h]
    · rw [List.take_length]
      exact bd_retd (nv 2 rfl) ⟨c, row, hc, hl, rfl, rfl⟩))
    rfl rfl (fun _ _ _ _ _ _ us hl => match us, hl with | [_, _], _ => rfl)
end
end OC
set_option Elab.async false
set_option linter.all false
set_option maxRecDepth 100000
set_option maxHeartbeats 4000000
namespace OC
open PySem PySem.Spec PyProof.Rows L2
section
variable {X : Cx} {B : Bs} {Γ : List Slot} {e a b c : Expr} {p pos : Pos} {ds : List PyData} {Sa : Int → Prop}
/-- len of a list of our own -/
theorem pd_lenO (i : Nat) {x : Str} {px : Pos} (hm : X.mg "len" = none) (hi : Γ[i]? = some (.own (Lst ds))) (hN : X.N[i]? = some x := by rfl) (hv : Vis X.env.scope x := by first | exact Or.inl rfl | exact Or.inr (Or.inl rfl) | exact Or.inr (Or.inr rfl))
    (hd : (x == ("__debug__" : Str)) = false := by decide) (hcd : (x == ("__classdict__" : Str)) = false := by decide) (hg : Gl X "len" := by rfl) (he : starEach [.Name x px] X.env = (false, eval (.Name x px) X.env) :: starEach [] X.env := by rfl) : PD X B Γ (.Call (.Name "len" p) [.Name x px] [] pos) (.int ds.length) := fun σ Hf H s Q q => by
  obtain ⟨m, l, o, h1, h2, h3, h4, h5, vs, rfl, h6⟩ := s.own i _ hi
  refine E.of (pe_callB call_len_seq hg hm PySem.boot_len (pa_cons (pe_var hN hv hd hcd) pa_nil he) (by decide) (by decide) he) ⟨.ref l, h1, l, vs, rfl, .inl (SqL.of h2), ?_⟩
  rw [h6.length]
  exact q _ _ Hf H rfl s.self s (.int _)
theorem pti_gt {j : Int} (ha : PI X B Γ a Sa) (hb : PD X B Γ b (.int j)) : PT X B Γ (.Compare a [.Gt] [b] pos) (fun _ => True) := pt_cmp' op_gt ha hb fun da db ⟨i, _, h1⟩ h2 => by
  subst h1; subst h2
  exact (ro_I0b (g := fun i j => decide (j < i))).mono fun d hd => ⟨_, trivial, hd⟩
theorem pti_eq {j : Int} (ha : PI X B Γ a Sa) (hb : PD X B Γ b (.int j)) : PT X B Γ (.Compare a [.Eq] [b] pos) (fun _ => True) := pt_cmp' op_eq ha hb fun da db ⟨i, _, h1⟩ h2 => by
  subst h1; subst h2
  exact ro_eqI.mono fun d hd => ⟨_, trivial, hd⟩
theorem pw_a1' {S : Bool → Prop} (h : PT X B Γ a S) : PW X B Γ (.BoolOp .And [a] pos) S := fun σ Hf H s Q q => W.of (pw_and1 pt_T) (h σ Hf H s Q q)
theorem pw_a' {k : Bool} {S : Bool → Prop} {rest : List Expr} (ha : PTD X B Γ a k) (hb : k = true → PW X B Γ (.BoolOp .And (b :: rest) pos) S) (hn : k = false → S false) : PW X B Γ (.BoolOp .And (a :: b :: rest) pos) S := fun σ Hf H s Q q =>
  W.of (pw_and pt_T pw_W) (ha σ Hf H s _ fun z Hf1 H1 hz e1 s1 => by
    subst hz
    cases z with
    | true => exact hb rfl σ Hf1 H1 s1 Q fun b Hf2 H2 hd e2 s2 => q b Hf2 H2 hd (e1.trans e2) s2
    | false => exact q _ Hf1 H1 (hn rfl) e1 s1)
end
section
variable {P : Program} {w : World} {K : PySem.W.Frag} {mg : Str → Option Value} {base : Heap}
/-! ### _law_box_sum -/
def rowBox (c t a b : List Int) : Int := ((corn a b).map fun q => q.2 * at0 t (place c q.1)).sum
def R_L_box_sum (ds : List PyData) (d : PyData) : Prop := ∃ c tt a b, ClubOk c ∧ TotOk c tt ∧ inR c a ∧ inR c b ∧ ds = [dI c, dI tt, dI a, dI b] ∧ d = .int (rowBox c tt a b)
theorem cal_L_box_sum (t : Top K mg) : Cal P w K mg base "_law_box_sum" 2 (spD R_L_box_sum) :=
  t.cal 52 (fun f fd F => okD F sc_L_box_sum (fun ds d ⟨i, _, _, _, _, _, _, _, h, _⟩ => by rw [h]; rfl) (fun cdv A outer s H E hr B hB ds h => by
    obtain ⟨d, c, tt, a, b, hc, ht, ia, ib, rfl, rfl⟩ := h
    have h4 := hc.l4
    have hp := hc.pos
    have hlen : tt.length = (prodI c).toNat := ht
    have la := inR_len ia
    have lb := inR_len ib
    refine bd_set 4 sc_L_box_sum.nd (PLD.pd (ds := [dC ([], 1)]) (pl_lst (pa_d (pd_tup (pa_d (pd_tup pa_n (by simp)) (pa_d pn_int pa_n)) (by simp)) pa_n) (fun ds h => by rw [h]; simp))) ?_
    refine bd_for2 (j := 5) (k := 6) (as := a.zip b) (e1 := fun a => .int a.1) (e2 := fun a => .int a.2) (G := fun n => [.dat (dI c), .dat (dI tt), .non, .non, .dat (.list ((((a.zip b).take n).foldl cornStep [([], 1)]).map dC)), .non, .non, .non, .non, .non]) rfl PassesOwn.never
      (src_zipTm (t.free 64) (nv 2 rfl) (nv 3 rfl) (by rw [la, lb]))
      (pg_tup rfl (pgs_cons (pg_name (i := 5) sc_L_box_sum.nd rfl (.inr rfl)) (pgs_cons (pg_name (i := 6) sc_L_box_sum.nd rfl (.inr rfl)) pgs_nil))) ⟨.inr rfl, .inr rfl, .inl rfl, .inl rfl, .inr rfl, .inl rfl, .inl rfl, .inl rfl, .inl rfl, .inl rfl, trivial⟩ (fun n p h => ?_) ?_
    · have hn := (List.getElem?_eq_some_iff.mp h).1
      rw [List.length_zip, la, lb] at hn
      have ci := cornI_take ia ib n (by omega)
      have cl : (((a.zip b).take n).foldl cornStep [([], 1)]).length ≤ 16 := Nat.le_trans ci.len (pow_le16 (by omega))
      have cr : ∀ q ∈ (((a.zip b).take n).foldl cornStep [([], 1)]), q.1.length ≤ 4 := fun q hq => by
        have := inR_len (ci.rows q hq).1
        rw [this, List.length_take]; omega
      generalize hf : (((a.zip b).take n).foldl cornStep [([], 1)]) = ff at cl cr
      have hst : (((a.zip b).take (n + 1)).foldl cornStep [([], 1)]) = cornStep ff p := by rw [foldl_take h, hf]
      refine bd_lc 7 (comp2 "_law_row" "_law_sign" 8 9 (as := ff) (e1 := fun q => dI q.1) (e2 := fun q => .int q.2) (f := fun q => dC (q.1 ++ [p.1], q.2)) rfl sc_L_box_sum.nd (src_L (nv 4 rfl)) (blkOk_by (N := N_L_box_sum) (sc := defScope s_L_box_sum) (by decide +kernel)) (by decide) (fun _ _ _ _ _ => pg_tup rfl (pgs_cons (pg_name (i := 8) sc_L_box_sum.nd rfl (.inl rfl)) (pgs_cons (pg_name (i := 9) sc_L_box_sum.nd rfl (.inl rfl)) pgs_nil))) (by omega)
        (fun q hq s H C cl fp => pd_tup (pa_d ((pd_cat (nv 8 rfl) (pd_tup (pa_d (nv 5 rfl) pa_n) (by simp)) (by have := cr q hq; simp; omega)).eq (by rw [dI, List.map_append]; rfl)) (pa_d (nv 9 rfl) pa_n)) (by simp))) ?_
      refine bd_freeze 7 rfl ?_
      refine bd_cons (M := fun G => le [.dat (dI c), .dat (dI tt), .non, .non, .non, .non, .non, .dat (.list ((cornStep ff p).map dC)), .non, .non] G) (b1_if (pt_neI (nv 5 rfl) (nv 6 rfl)) (fun hk => ?_) (fun hk => ?_)) (fun G g => ?_)
      · have hne : ¬ p.2 = p.1 := fun e => by rw [e] at hk; simp at hk
        refine bd_set 7 sc_L_box_sum.nd (PLD.pd (pl_cat (nv 7 rfl) (CompOk.pd (comp2 "_law_row" "_law_sign" 8 9 (as := ff) (e1 := fun q => dI q.1) (e2 := fun q => .int q.2) (f := fun q => dC (q.1 ++ [p.2], -q.2)) rfl sc_L_box_sum.nd (src_L (nv 4 rfl)) (blkOk_by (N := N_L_box_sum) (sc := defScope s_L_box_sum) (by decide +kernel)) (by decide) (fun _ _ _ _ _ => pg_tup rfl (pgs_cons (pg_name (i := 8) sc_L_box_sum.nd rfl (.inl rfl)) (pgs_cons (pg_name (i := 9) sc_L_box_sum.nd rfl (.inl rfl)) pgs_nil))) (by omega)
          (fun q hq s H C cl fp => pd_tup (pa_d ((pd_cat (nv 8 rfl) (pd_tup (pa_d (nv 6 rfl) pa_n) (by simp)) (by have := cr q hq; simp; omega)).eq (by rw [dI, List.map_append]; rfl)) (pa_d (pd_neg (nv 9 rfl)) pa_n)) (by simp)))) (by rw [List.length_map, List.length_map]; omega))) (bd_end ⟨.inr rfl, .inr rfl, .inl rfl, .inl rfl, .inl rfl, .inl rfl, .inl rfl, .inr ?_, .inl rfl, .inl rfl, trivial⟩)
        rw [cornStep, if_neg hne, List.map_append, List.map_map, List.map_map]; rfl
      · have he : p.2 = p.1 := by
          have : p.1 = p.2 := by simpa using hk
          exact this.symm
        refine bd_end ⟨.inr rfl, .inr rfl, .inl rfl, .inl rfl, .inl rfl, .inl rfl, .inl rfl, .inr ?_, .inl rfl, .inl rfl, trivial⟩
        rw [cornStep, if_pos he, List.append_nil, List.map_map]; rfl
      · refine BD.weak ?_ g
        refine bd_set 4 sc_L_box_sum.nd (nv 7 rfl) (bd_end ⟨.inr rfl, .inr rfl, .inl rfl, .inl rfl, .inr ?_, .inl rfl, .inl rfl, .inl rfl, .inl rfl, .inl rfl, trivial⟩)
        rw [hst]
    · rw [List.take_length]
      have co := corn_ok ia ib
      have cl := Nat.le_trans co.len (pow_le16 h4)
      refine bd_retd (pd_sumC (t.free 69) rfl (comp2 "_law_row" "_law_sign" 8 9 (as := corn a b) (e1 := fun q => dI q.1) (e2 := fun q => .int q.2) (f := fun q => .int (q.2 * at0 tt (place c q.1))) rfl sc_L_box_sum.nd
        (src_L (nv 4 rfl)) (blkOk_by (N := N_L_box_sum) (sc := defScope s_L_box_sum) (by decide +kernel)) (by decide) (fun _ _ _ _ _ => pg_tup rfl (pgs_cons (pg_name (i := 8) sc_L_box_sum.nd rfl (.inl rfl)) (pgs_cons (pg_name (i := 9) sc_L_box_sum.nd rfl (.inl rfl)) pgs_nil))) (by omega)
        (fun q hq s H C cl fp => pd_mul (nv 9 rfl) (pd_ixT (nv 1 rfl) (pd_call (d := .int (place c q.1)) (cal_L_place t) hr (pa_d (nv 0 rfl) (pa_d (nv 8 rfl) pa_n)) ⟨c, q.1, hc, by have := inR_len (co.rows q hq).1; rw [this, List.take_length], rfl, rfl⟩ (fun d' ⟨c', r', _, _, h, h'⟩ => by obtain ⟨e1, e2⟩ := inj2I h; rw [h', e1, e2])) ?_) (.inl ?_)))) ⟨c, tt, a, b, hc, ht, ia, ib, rfl, rfl⟩
      · have hr := (co.rows q hq).1
        rw [List.take_length] at hr
        have := place_range hc.ge1 hr
        exact at0_get this.1 (by omega)
      · rcases (co.rows q hq).2 with e | e <;> rw [e] <;> decide))
    rfl rfl (fun _ _ _ _ _ _ us hl => match us, hl with | [_, _, _, _], _ => rfl)
/-! ### _law_raised -/
def D_raised (ds : List PyData) : Prop := ∃ ns : List Int, 1 ≤ ns.length ∧ ns.length ≤ 1000 ∧ ds = [dI ns]
def R_raised (ds : List PyData) (d : PyData) : Prop := ∃ ns ms : List Int, ds = [dI ns] ∧ ms.length = ns.length ∧ d = dI ms
theorem cal_raised (t : Top K mg) : Cal P w K mg base "_law_raised" 3 (spP D_raised R_raised) :=
  t.cal 47 (fun f fd F => okP F sc_L_raised (fun ds ⟨ns, _, _, h⟩ => by rw [h]; rfl) (fun cdv A outer s H E hr B p hB ds h => by
    obtain ⟨tt, h1, h2, rfl⟩ := h
    refine bd_setL 2 sc_L_raised.nd (pl_listT (t.free 70) (nv 1 rfl)) ?_
    refine bd_cons (b1_for (vs := [3]) (SL := fun ds => ∃ i : Int, i ∈ [(1 : Int), 1, 2, 3] ∧ ds = rngD i.toNat) (Gs := fun _ i Z => ∃ ns : List Int, ns.length = tt.length ∧ le [.pool, .non, .own (Lst (ns.map .int)), .non, .non] Z) (Gi := fun Z d => Z.set 3 (.dat d)) rfl PassesOwn.never (src_range (t.free 63) (pn_callP (S := fun d => ∃ z : Int, z ∈ [(1 : Int), 1, 2, 3] ∧ d = .int z) (m := 0) (cal_pick t) hr rfl (pa_d (PLD.pd (ds := [(1 : Int), 1, 2, 3].map .int) (pl_lst (pa_d pn_int (pa_d pn_int (pa_d pn_int (pa_d pn_int pa_n)))) (fun ds h => by rw [h]; decide))) pa_n) (fun ds h => ⟨_, by decide, by decide, h⟩) (fun ds d h ⟨ns, z, g1, g2, g3⟩ => ⟨z, by rw [list_inj (h.symm.trans g1)]; exact g2, g3⟩)) (fun i h => ?_) (fun i h => ?_)) (pg_name (i := 3) sc_L_raised.nd rfl (.inl rfl)) (fun ds h => ⟨tt, rfl, .inr rfl, .inl rfl, .inr rfl, .inl rfl, .inl rfl, trivial⟩) (fun ds i d Z h h1 h2 => tg_name (by simp)) (fun ds i d Z h h1' ⟨ns, n1, n2⟩ => ?_)) (fun Z ⟨ds, g1, ns, n1, n2⟩ => ?_)
    · simp only [List.mem_cons, List.not_mem_nil, or_false] at h; omega
    · simp only [List.mem_cons, List.not_mem_nil, or_false] at h; omega
    · refine BD.weak ?_ (bd_for1.le_set n2)
      refine bd_setN (Se := fun d => ∃ j : Int, (0 ≤ j ∧ j < ns.length) ∧ d = .int j) 4 sc_L_raised.nd (pn_callP (m := 0) (cal_draw t) hr rfl (pa_d (pd_lenO 2 (t.free 61) rfl) pa_n) (fun ds h => ⟨ns.length, by omega, by omega, by rw [h, List.length_map]⟩) (fun ds d h ⟨m, v, g1, g2, g3, g4⟩ => by
        rw [h] at g1
        injection g1 with g1
        injection g1 with g1
        rw [List.length_map] at g1
        exact ⟨v, ⟨g2, by omega⟩, g4⟩)) (fun d ⟨j, ⟨j1, j2⟩, hd⟩ => ?_)
      subst hd
      refine bd_cons (b1_put (m := j.toNat) (Se := anyI) 2 rfl (nv 4 rfl) (pi_add (S := fun _ => True) (PD.pi (pd_ixO (d := .int (at0 ns j)) 2 rfl (nv 4 rfl) (at0_get j1 j2))) (pn_callP (S := anyI) (m := 0) (cal_pick t) hr rfl (pa_d (PLD.pd (ds := [PyData.int 1, .int (-1), .int 2, .int ((10 : Int) ^ (20 : Int).toNat)]) (pl_lst (pa_d pn_int (pa_d (pd_neg pn_int) (pa_d pn_int (pa_d (pd_pow pn_int pn_int ⟨by decide, by decide, by decide⟩) pa_n)))) (fun ds h => by rw [h]; show 4 ≤ 100000; omega))) pa_n) (fun ds h => ⟨[1, -1, 2, (10 : Int) ^ (20 : Int).toNat], by show 1 ≤ 4; omega, by show 4 ≤ 1000; omega, h⟩) (fun ds d h ⟨ns, z, g1, g2, g3⟩ => ⟨z, trivial, g3⟩)) (fun _ _ _ _ => trivial)) (ixN_of j1 (by rw [List.length_map]; omega))) (fun G ⟨d, ⟨i, _, hd⟩, g⟩ => ?_)
      subst hd; subst g
      exact bd_end ⟨ns.set j.toNat i, by rw [List.length_set]; exact n1, .inr rfl, .inl rfl, .inr (by rw [List.map_set]), .inl rfl, .inl rfl, trivial⟩
    · refine BD.weak ?_ n2
      refine bd_freeze 2 rfl ?_
      exact bd_retd (pd_tupD (t.free 60) (nv 2 rfl)) ⟨tt, ns, rfl, n1, rfl⟩))
    rfl rfl (fun _ _ _ _ _ _ us hl => match us, hl with | [_, _], _ => rfl)
end
end OC
set_option Elab.async false
set_option linter.all false
set_option maxRecDepth 100000
set_option maxHeartbeats 4000000
namespace OC
open PySem PySem.Spec PyProof.Rows L2
theorem pt_weak {X : Cx} {B : Bs} {Γ : List Slot} {e : Expr} {S : Bool → Prop} (h : PT X B Γ e S) : PT X B Γ e (fun _ => True) := fun σ Hf H s Q q => h σ Hf H s Q fun b Hf' H' _ => q b Hf' H' trivial
section
variable {P : Program} {w : World} {K : PySem.W.Frag} {mg : Str → Option Value} {base : Heap}
def D_kin (ds : List PyData) : Prop := ∃ m : Nat, 1 ≤ m ∧ m ≤ 4 ∧ ds = [.int m]
def R_L_kin (ds : List PyData) (d : PyData) : Prop := ∃ m : Nat, ∃ kin, ds = [.int m] ∧ KinO m kin ∧ d = dK kin
theorem lot_nil (m : Nat) : LotOk m [] := ⟨.nil, fun k h => by simp at h⟩
theorem lot_one {m : Nat} {k : Int} (h0 : 0 ≤ k) (h1 : k < m) : LotOk m [k] := ⟨List.pairwise_singleton _ _, fun j h => by rw [List.mem_singleton.mp h]; exact ⟨h0, h1⟩⟩
theorem lot_snoc {m i : Nat} {l : List Int} (h : LotOk i l) (hi : i < m) : LotOk (i + 1) (l ++ [((i : Nat) : Int)]) := by
  refine ⟨List.pairwise_append.mpr ⟨h.asc, List.pairwise_singleton _ _, fun x hx y hy => ?_⟩, fun k hk => ?_⟩
  · rw [List.mem_singleton.mp hy]; exact (h.rng x hx).2
  · rcases List.mem_append.mp hk with hk | hk
    · have := h.rng k hk; omega
    · rw [List.mem_singleton.mp hk]; omega
theorem lot_mono {m i : Nat} {l : List Int} (h : LotOk i l) (hi : i ≤ m) : LotOk m l := ⟨h.asc, fun k hk => by have := h.rng k hk; omega⟩
theorem cal_L_kin (t : Top K mg) : Cal P w K mg base "_law_kin" 2 (spP D_kin R_L_kin) :=
  t.cal 43 (fun f fd F => okP F sc_L_kin (fun ds ⟨ns, _, _, h⟩ => by rw [h]; rfl) (fun cdv A outer s H E hr B p hB ds h => by
    obtain ⟨m, m1, m4, rfl⟩ := h
    refine bd_setN (Se := fun d => ∃ st : Int, (0 ≤ st ∧ st < 6) ∧ d = .int st) 2 sc_L_kin.nd (pn_callP (m := 0) (cal_draw t) hr rfl (pa_d pn_int pa_n) (fun ds h => ⟨6, by decide, by decide, h⟩) (fun ds d h ⟨m, v, g1, g2, g3, g4⟩ => by
        rw [h] at g1
        injection g1 with g1
        injection g1 with g1
        exact ⟨v, ⟨g2, by omega⟩, g4⟩)) (fun d ⟨st, hst, hd⟩ => ?_)
    subst hd
    refine bd_setL 3 sc_L_kin.nd (pl_lst (S := fun z => z = []) pa_n (fun ds h => by rw [h]; decide)) ?_
    refine bd_cons (b1_for (vs := [4]) (SL := fun ds => ds = rngD m) (Gs := fun _ i Z => ∃ kin : List (List Int), kin.length = i ∧ (∀ lot ∈ kin, LotOk m lot) ∧ le [.pool, .dat (.int m), .dat (.int st), .own (Lst (kin.map dI)), .non, .non, .non] Z) (Gi := fun Z d => Z.set 4 (.dat d)) rfl PassesOwn.never (src_rng (t.free 63) (nv 1 rfl) (by omega)) (pg_name (i := 4) sc_L_kin.nd rfl (.inr rfl)) (fun ds h => ⟨[], rfl, by simp, .inr rfl, .inr rfl, .inr rfl, .inr rfl, .inl rfl, .inl rfl, .inl rfl, trivial⟩) (fun ds i d Z h h1 h2 => tg_name (by simp)) (fun ds i d Z h h1 ⟨kin, k1, k2, h2⟩ => ?_)) (fun Z ⟨ds, g1, kin, k1, k2, g2⟩ => ?_)
    · refine BD.weak ?_ (bd_for1.le_set h2)
      subst h
      have hi := (List.getElem?_eq_some_iff.mp h1).1
      rw [rngD_len] at hi
      rw [rngD_get hi] at h1
      cases h1
      refine bd_set 5 sc_L_kin.nd (PLD.pd (ds := [.int (i : Nat)]) (pl_lst (pa_d (nv 4 rfl) pa_n) (fun ds h => by rw [h]; show 1 ≤ 100000; decide))) ?_
      refine bd_cons (M := fun G => ∃ l : List Int, LotOk m l ∧ le [.pool, .dat (.int m), .dat (.int st), .own (Lst (kin.map dI)), .non, .dat (dL l), .non] G) (b1_if (pt_eqI (nv 2 rfl) pn_int) (fun hT => ?_) (fun hF => ?_)) (fun G ⟨l, hl, g⟩ => ?_)
      · refine bd_cons (b1_lc (SR := fun z => ∃ ds, ds = rngD m ∧ ∃ l : List Int, LotOk ds.length l ∧ z = l.map .int) 5 (comp_ok (own := [("_law_other", 6)]) (SL := fun ds => ds = rngD m) (Rl := fun ds i acc => ∃ l : List Int, LotOk i l ∧ acc = l.map .int) (Γi := fun ds i d => List.set _ 6 (.dat d)) (Tb := fun ds i d b => True) (Se := fun ds i d r => r = d) rfl sc_L_kin.nd (src_rng (t.free 63) (nv 1 rfl) (by omega)) (blkOk_by (N := N_L_kin) (sc := defScope s_L_kin) (by decide +kernel)) (fun _ _ _ _ _ => pg_name (i := 6) sc_L_kin.nd rfl (Or.inl rfl)) (fun ds h => by rw [h, rngD_len]; omega) (fun ds h => ⟨[], lot_nil 0, rfl⟩) (fun ds i d h hd => wipe_put) (fun ds k d h hd s H C cl fp => ?_) (fun ds k d h hd hT s H C cl fp => nv 6 rfl) (fun ds k d acc r h hd ⟨l, l1, l2⟩ hT hS => ?_) (fun ds k d acc h hd ⟨l, l1, l2⟩ hT => ⟨l, lot_mono l1 (Nat.le_succ _), l2⟩))) (fun G ⟨z, ⟨ds, hds, l, l1, l2⟩, g⟩ => ?_)
        · subst h
          have hk := (List.getElem?_eq_some_iff.mp hd).1
          rw [rngD_len] at hk
          rw [rngD_get hk] at hd
          cases hd
          exact pq_one (pt_weak (pt_chain' (pd_sub (nv 4 rfl) pn_int) (nv 6 rfl) (pd_add (nv 4 rfl) pn_int)))
        · subst h
          have hk := (List.getElem?_eq_some_iff.mp hd).1
          rw [rngD_len] at hk
          rw [rngD_get hk] at hd
          cases hd
          exact ⟨l ++ [((k : Nat) : Int)], lot_snoc l1 hk, by rw [l2, hS, List.map_append]; rfl⟩
        · subst hds; subst g; subst l2
          rw [rngD_len] at l1
          refine bd_freeze 5 rfl (bd_end ⟨l, l1, .inr rfl, .inr rfl, .inr rfl, .inr rfl, .inl rfl, .inr rfl, .inl rfl, trivial⟩)
      · refine bd_one (b1_if (pt_gt' (nv 2 rfl) pn_int) (fun hT => ?_) (fun hF => bd_end ⟨[((i : Nat) : Int)], lot_one (by omega) (by omega), .inr rfl, .inr rfl, .inr rfl, .inr rfl, .inl rfl, .inr rfl, .inl rfl, trivial⟩))
        have st3 := of_decide_eq_true hT
        refine bd_cons (b1_lc (SR := fun z => ∃ ds, ds = rngD m ∧ ∃ l : List Int, LotOk ds.length l ∧ z = l.map .int) 5 (comp_ok (own := [("_law_other", 6)]) (SL := fun ds => ds = rngD m) (Rl := fun ds i acc => ∃ l : List Int, LotOk i l ∧ acc = l.map .int) (Γi := fun ds i d => List.set _ 6 (.dat d)) (Tb := fun ds i d b => True) (Se := fun ds i d r => r = d) rfl sc_L_kin.nd (src_rng (t.free 63) (nv 1 rfl) (by omega)) (blkOk_by (N := N_L_kin) (sc := defScope s_L_kin) (by decide +kernel)) (fun _ _ _ _ _ => pg_name (i := 6) sc_L_kin.nd rfl (Or.inl rfl)) (fun ds h => by rw [h, rngD_len]; omega) (fun ds h => ⟨[], lot_nil 0, rfl⟩) (fun ds i d h hd => wipe_put) (fun ds k d h hd s H C cl fp => ?_) (fun ds k d h hd hT s H C cl fp => nv 6 rfl) (fun ds k d acc r h hd ⟨l, l1, l2⟩ hT hS => ?_) (fun ds k d acc h hd ⟨l, l1, l2⟩ hT => ⟨l, lot_mono l1 (Nat.le_succ _), l2⟩))) (fun G ⟨z, ⟨ds, hds, l, l1, l2⟩, g⟩ => ?_)
        · exact pq_one (pti_eq (pn_callP (S := anyI) (m := 0) (cal_draw t) hr rfl (pa_d (pd_sub (nv 2 rfl) pn_int) pa_n) (fun ds h => ⟨st - 1, by omega, by omega, h⟩) (fun ds d h ⟨m, v, g1, g2, g3, g4⟩ => ⟨v, trivial, g4⟩)) pn_int)
        · subst h
          have hk := (List.getElem?_eq_some_iff.mp hd).1
          rw [rngD_len] at hk
          rw [rngD_get hk] at hd
          cases hd
          exact ⟨l ++ [((k : Nat) : Int)], lot_snoc l1 hk, by rw [l2, hS, List.map_append]; rfl⟩
        · subst hds; subst g; subst l2
          rw [rngD_len] at l1
          refine bd_freeze 5 rfl ?_
          refine bd_one (b1_ifN (Sk := fun _ => True) (PW.pt (pw_a' (pt_eqI (pd_lenL (t.free 61) (nv 5 rfl)) pn_int) (fun _ => pw_a1' (pti_gt (pn_callP (S := anyI) (m := 0) (cal_draw t) hr rfl (pa_d pn_int pa_n) (fun ds h => ⟨4, by decide, by decide, h⟩) (fun ds d h ⟨m, v, g1, g2, g3, g4⟩ => ⟨v, trivial, g4⟩)) pn_int)) (fun _ => trivial))) (fun _ => ?_) (fun _ => bd_end ⟨l, l1, .inr rfl, .inr rfl, .inr rfl, .inr rfl, .inl rfl, .inr rfl, .inl rfl, trivial⟩))
          refine bd_cons (b1_setL (SL := fun z => ∃ j : Int, (0 ≤ j ∧ j < m) ∧ z = [.int j]) 5 sc_L_kin.nd (pl_lst (pa_c (pn_callP (S := fun d => ∃ j : Int, (0 ≤ j ∧ j < m) ∧ d = .int j) (m := 0) (cal_draw t) hr rfl (pa_d (nv 1 rfl) pa_n) (fun ds h => ⟨m, by omega, by omega, h⟩) (fun ds d h ⟨m', v, g1, g2, g3, g4⟩ => by
              rw [h] at g1
              injection g1 with g1
              injection g1 with g1
              exact ⟨v, ⟨g2, by omega⟩, g4⟩)) pa_n (fun d ds ⟨j, h1, h2⟩ h3 => ⟨j, h1, by rw [h2, h3]⟩)) (fun ds ⟨j, _, h⟩ => by rw [h]; show 1 ≤ 100000; decide))) (fun G ⟨z, ⟨j, ⟨j0, j1⟩, hz⟩, g⟩ => ?_)
          subst g; subst hz
          exact bd_freeze 5 rfl (bd_end ⟨[j], lot_one j0 j1, .inr rfl, .inr rfl, .inr rfl, .inr rfl, .inl rfl, .inr rfl, .inl rfl, trivial⟩)
      · refine BD.weak ?_ g
        refine bd_app 3 rfl (pd_tupD (t.free 60) (nv 5 rfl)) (by rw [List.length_map]; omega) (bd_end ⟨kin ++ [l], by rw [List.length_append, k1]; rfl, fun x hx => ?_, .inr rfl, .inr rfl, .inr rfl, .inr (by rw [List.map_append]; rfl), .inl rfl, .inl rfl, .inl rfl, trivial⟩)
        rcases List.mem_append.mp hx with hx | hx
        · exact k2 x hx
        · rw [List.mem_singleton.mp hx]; exact hl
    · refine BD.weak ?_ g2
      subst g1
      rw [rngD_len] at k1
      refine bd_freeze 3 rfl ?_
      exact bd_retd (pd_tupD (t.free 60) (nv 3 rfl)) ⟨m, kin, rfl, ⟨k1, k2, m1, m4⟩, rfl⟩))
    rfl rfl (fun _ _ _ _ _ _ us hl => match us, hl with | [_, _], _ => rfl)
end
end OC
set_option Elab.async false
set_option linter.all false
set_option maxRecDepth 100000
set_option maxHeartbeats 4000000
/-! Own kit: a dict whose keys are pairs (an int, a tuple of ints) and whose values are ints. -/
namespace OC
open PySem PySem.Spec PyProof.Rows L2
def NK (k : Int × List Int) : NestedKey := .tup [.num k.1, .tup (k.2.map .num)]
theorem num_inj : ∀ {a b : List Int}, a.map NestedKey.num = b.map NestedKey.num → a = b
  | [], [], _ => rfl
  | [], _ :: _, h => by cases h
  | _ :: _, [], h => by cases h
  | x :: a, y :: b, h => by
    rw [List.map_cons, List.map_cons] at h
    injection h with h1 h2
    injection h1 with h1
    rw [h1, num_inj h2]
theorem NK.inj {a b : Int × List Int} (h : NK a = NK b) : a = b := by
  obtain ⟨a1, a2⟩ := a
  obtain ⟨b1, b2⟩ := b
  unfold NK at h
  injection h with h
  injection h with h1 h2
  injection h1 with h1
  injection h2 with h2 _
  injection h2 with h2
  simp only at h1
  have h3 := num_inj h2
  simp only at h3
  rw [h1, h3]
def kD (k : Int × List Int) : PyData := .tuple [.int k.1, .tuple (k.2.map .int)]
def NDo (P : Program) (w : World) (a : Addr) (xs : List (NestedKey × Addr × Value)) : HO := .ext fun h => (a == sysModules) = false ∧ ∃ o es ep, h.get? a = some o ∧ o.ExactDict ∧ o.data = .dict es ep ∧ es.toList = xs.map (entryOfKey (nestedKind P w)) ∧ (xs.map (·.1)).Nodup
def NDk (Hf : Hp) (xs : List (NestedKey × Addr × Value)) (ks : List (Int × List Int)) : Prop :=
  xs.map (·.1) = ks.map NK ∧ ∀ x ∈ xs, (∃ k, x.1 = NK k ∧ Dq Hf (.ref x.2.1) (kD k)) ∧ ∃ i t, x.2.2 = Value.int i t
/-- a dict of ours with the keys ks -/
def ND (P : Program) (w : World) (ks : List (Int × List Int)) : Addr → Hp → HO → Prop := fun _ Hf o => ∃ a xs, o = NDo P w a xs ∧ NDk Hf xs ks
theorem nd_mono {P : Program} {w : World} {ks : List (Int × List Int)} : Mono (ND P w ks) := fun _ Hf Hf' o e ⟨a, xs, h1, h2, h3⟩ =>
  ⟨a, xs, h1, h2, fun x hx => ⟨let ⟨k, g1, g2⟩ := (h3 x hx).1; ⟨k, g1, dq_mono e _ _ g2⟩, (h3 x hx).2⟩⟩
section
variable {P : Program} {w : World} {H Hf : Hp} {h : Heap} {a : Addr} {xs : List (NestedKey × Addr × Value)} {ks : List (Int × List Int)}
theorem nd_ok (hs : (a == sysModules) = false) (hd : ∃ o es ep, h.get? a = some o ∧ o.ExactDict ∧ o.data = .dict es ep ∧ es.toList = xs.map (entryOfKey (nestedKind P w)) ∧ (xs.map (·.1)).Nodup) : ObjOk P w H h a (NDo P w a xs) := by
  have e : ∃ o, h.get? a = some o := let ⟨o, _, _, ho, _⟩ := hd; ⟨o, ho⟩
  exact ⟨⟨hs, hd⟩, e, fun h1 h2 ⟨_, o, es, ep, ho, r⟩ k => ⟨hs, o, es, ep, k o ho, r⟩⟩
theorem nd_at {p : Addr} (ok : HOk P w H h) (e : H p = some (NDo P w a xs)) : a = p ∧ (a == sysModules) = false ∧ ∃ o es ep, h.get? a = some o ∧ o.ExactDict ∧ o.data = .dict es ep ∧ es.toList = xs.map (entryOfKey (nestedKind P w)) ∧ (xs.map (·.1)).Nodup := by
  obtain ⟨h1, h2, h3⟩ := (show ObjOk P w H h p (NDo P w a xs) from ok p _ e)
  refine ⟨?_, h1.1, h1.2⟩
  by_cases q : a = p
  · exact q
  · exfalso
    obtain ⟨_, o, _, _, ho, _⟩ := h3 h (PySem.W.hideAll h [a]) h1 (fun o ho => PySem.W.hideAll_get [a] ho (by simpa using fun z => q z.symm))
    rw [PySem.W.hideAll_none [a] (by simp)] at ho
    cases ho
theorem nums_are : ∀ {ns : List Int} {us : List Value}, Vals (ns.map V.int) us → NestedAll h (ns.map .num) us
  | [], _, r => by cases r; exact .nil
  | n :: ns, _, r => by
    cases r with
    | cons r1 r2 =>
      obtain ⟨t, rfl⟩ := r1
      exact .cons (.int n t) (nums_are r2)
theorem depth_nums : ∀ ns : List Int, NestedKey.depthAll (ns.map .num) = 0
  | [] => rfl
  | n :: ns => by
    rw [List.map_cons, NestedKey.depthAll, depth_nums ns]; rfl
theorem nk_is {b : Addr} {k : Int × List Int} (ok : HOk P w H h) (sub : Same Hf H) (d : Dq Hf (.ref b) (kD k)) : (nestedKind P w).is h (NK k) b := by
  refine ⟨?_, ?_⟩
  · obtain ⟨a1, vs, e, g1, g2⟩ := dq_tup d
    cases e
    obtain ⟨v, u, rfl, d1, d2⟩ := dq_two2 g2
    cases d1
    obtain ⟨a2, vs2, rfl, g3, g4⟩ := dq_tup d2
    have e4 := g4.ints
    subst e4
    obtain ⟨_, its, r, o, h1, h2, n, h3⟩ := (show ObjOk P w H h b _ from ok b _ (sub _ _ g1))
    obtain ⟨_, its2, r2, o2, h4, h5, n2, h6⟩ := (show ObjOk P w H h a2 _ from ok a2 _ (sub _ _ g3))
    cases r with
    | cons q1 q2 =>
      cases q2 with
      | cons q3 q4 =>
        cases q4
        obtain ⟨t, rfl⟩ := q1
        cases q3
        exact .tup h1 h2 h3 (.cons (.int _ t) (.cons (.tup h4 h5 h6 (by simpa using nums_are r2)) .nil))
  · show NestedKey.depth (.tup [.num k.1, .tup (k.2.map .num)]) ≤ 8
    simp only [NestedKey.depth, NestedKey.depthAll, depth_nums]
    decide
where
  dq_two2 {H : Hp} {vs : List V} {da db : PyData} (h : DqAll H vs [da, db]) : ∃ v u, vs = [v, u] ∧ Dq H v da ∧ Dq H u db := by
    cases h with
    | cons h1 h2 =>
      cases h2 with
      | cons h3 h4 => cases h4; exact ⟨_, _, rfl, h1, h3⟩
theorem nd_of {p : Addr} (ok : HOk P w H h) (sub : Same Hf H) (e : H p = some (NDo P w a xs)) (k : NDk Hf xs ks) : a = p ∧ (p == sysModules) = false ∧ h.DictOfH (nestedKind P w) p xs := by
  obtain ⟨rfl, h1, o, es, ep, g1, g2, g3, g4, g5⟩ := nd_at ok e
  exact ⟨rfl, h1, o, es, ep, g1, g2, g3, g4, fun x hx => by
    obtain ⟨kk, e1, d⟩ := (k.2 x hx).1
    rw [e1]; exact nk_is ok sub d, g5⟩
theorem atKey_nk : ∀ {xs : List (NestedKey × Addr × Value)} {ks : List (Int × List Int)} {k : Int × List Int}, xs.map (·.1) = ks.map NK → (atKey xs (NK k)).isSome = decide (k ∈ ks)
  | [], [], k, _ => by simp [atKey]
  | [], _ :: _, _, h => by cases h
  | _ :: _, [], _, h => by cases h
  | x :: xs, y :: ks, k, h => by
    rw [List.map_cons, List.map_cons] at h
    injection h with h1 h2
    have ih := atKey_nk (k := k) h2
    by_cases q : y = k
    · subst q
      simp [atKey, h1]
    · have hne : ¬ x.1 = NK k := fun z => q (NK.inj (h1.symm.trans z))
      have hk : decide (k ∈ y :: ks) = decide (k ∈ ks) := by
        apply decide_eq_decide.mpr
        constructor
        · intro m
          rcases List.mem_cons.mp m with m | m
          · exact absurd m.symm q
          · exact m
        · exact List.mem_cons_of_mem _
      rw [hk, ← ih]
      simp [atKey, hne]
end
section
variable {X : Cx} {B : Bs} {Γ : List Slot} {e : Expr} {p pos : Pos} {N : List Slot → Prop} {S : PyData → Prop}
/-- {} -/
theorem pe_ndnew : L2.PE X (.Dict [] [] pos) (fun _ H Q => ∀ p, H p = none → Q (.ref p) (upd H p (NDo X.prog X.w p []))) := ⟨fun pins s σ H Q I h =>
  wpAny_Dict_empty ⟨.ref s.heap.objs.size, _, I.laid (a := s.heap.objs.size) (t' := s.toks) (fun _ _ q => Heap.get?_push_of_some _ q) (Nat.le_refl _) (nd_ok (xs := []) (beq_eq_false_iff_ne.mpr (Ne.symm (Nat.ne_of_lt I.big))) ⟨_, #[], 0, Heap.get?_push_size _ rfl, ⟨rfl, rfl, rfl⟩, rfl, rfl, List.nodup_nil⟩), rfl, h _ (I.hok.fresh (Nat.le_refl _))⟩⟩
theorem b1_ndnew (i : Nat) {x : Str} {p2 : Pos} (hN : X.N.Nodup) (hi : X.N[i]? = some x := by rfl) (hx : Loc X.env.scope x := by first | exact Or.inl rfl | exact Or.inr rfl) (hs : swapsWith (.Dict [] [] p) (some (.Name x p2)) pos.line X.env = pure false := by rfl)
    (hf : X.fn x = true ∨ X.env.scope.names.lookup x = some .local := by first | exact .inl rfl | exact .inr rfl) : B1 X B Γ (.Assign [.Name x p2] (.Dict [] [] p) pos) (fun G => G = Γ.set i (.own (ND X.prog X.w []))) S := fun σ Hf H s D n r =>
  S1.of (ps_set hN hi hx pe_ndnew hs hf) fun q hq => n _ rfl _ Hf _ (s.take i nd_mono hq ⟨q, [], rfl, rfl, fun x h => by simp at h⟩) (Same.refl _)
/-- e not in known -/
def rNDNot (P : Program) (w : World) : R2 := fun x y H Q => ∃ (Hf : Hp) (b p : Addr) (k : Int × List Int) (o : HO) (ks : List (Int × List Int)), x = .ref b ∧ y = .ref p ∧ Same Hf H ∧ Dq Hf (.ref b) (kD k) ∧ H p = some o ∧ ND P w ks p Hf o ∧ Q (.bl (!decide (k ∈ ks))) H
theorem op_ndNot (hu : X.A.units + 9 < cLine) : OpR X (compareOp .NotIn) (rNDNot X.prog X.w) := by
  intro pins s σ H x y v u Q I rx ry h
  obtain ⟨Hf, b, p, k, o, ks, rfl, rfl, sub, dk, hp, ⟨a, xs, rfl, hk⟩, q⟩ := h
  cases rx; cases ry
  obtain ⟨rfl, hs, hd⟩ := nd_of I.hok sub hp hk
  refine wpAny_notIn_heap (knd := nestedKind X.prog X.w) (by show X.A.in1.units + 8 < cLine; exact hu9 hu) (nk_is I.hok sub dk) hs hd ?_
  rw [atKey_nk hk.1]
  exact ⟨.bl _, H, I.tok _, rfl, q⟩
where
  hu9 {A : Around} (hu : A.units + 9 < cLine) : A.in1.units + 8 < cLine := by
    show A.units + 1 + 8 < cLine
    omega
theorem pt_ndNot {j : Nat} (hr : Room j X.A) (i : Nat) {x : Str} {px : Pos} {ks : List (Int × List Int)} {k : Int × List Int} (he : PD X B Γ e (kD k)) (hi : Γ[i]? = some (.own (ND X.prog X.w ks))) (hN : X.N[i]? = some x := by rfl) (hv : Vis X.env.scope x := by first | exact Or.inl rfl | exact Or.inr (Or.inl rfl) | exact Or.inr (Or.inr rfl))
    (hd : (x == ("__debug__" : Str)) = false := by decide) (hcd : (x == ("__classdict__" : Str)) = false := by decide) (hm : behindInMarks .NotIn (.Name x px) = false := by rfl) : PTD X B Γ (.Compare e [.NotIn] [.Name x px] pos) (!decide (k ∈ ks)) := fun σ Hf H s Q q => by
  refine T.of (pt_cmpR (op_ndNot (by have := hr.un; omega)) pe_E (pe_var hN hv hd hcd) hm) (he σ Hf H s _ fun v d Hf1 H1 hdv e1 s1 dq => ?_)
  subst hdv
  obtain ⟨m, p', o, g1, g2, g3, g4, g5, g6⟩ := s1.own i _ hi
  obtain ⟨b, vs, rfl, g7, g8⟩ := dq_tup dq
  exact ⟨.ref p', g1, Hf1, b, p', k, o, ks, rfl, rfl, s1.sub, dq, g2, g6, _, rfl, q _ Hf1 H1 rfl e1 s1⟩
/-- known[e] -/
theorem pe_ndget {o i : Expr} {td ty : TE} (hu : X.A.units + 9 < cLine) (ho : L2.PE X o td) (hi : L2.PE X i ty) (hs : NoSl i) : L2.PE X (.Subscript o i pos) (fun σ H Q => td σ H fun x H1 => ty σ H1 fun y H2 => ∃ (Hf : Hp) (b p : Addr) (k : Int × List Int) (o : HO) (ks : List (Int × List Int)), x = .ref p ∧ y = .ref b ∧ Same Hf H2 ∧ Dq Hf (.ref b) (kD k) ∧ H2 p = some o ∧ ND X.prog X.w ks p Hf o ∧ k ∈ ks ∧ ∀ n, Q (.int n) H2) := by
  refine ⟨fun pins s σ H Q I h => ?_⟩
  refine subD_of PySem.F.slot_dict_getitem.lookup hs (thn (ho.run pins s σ H _ I h) fun u s1 ⟨x, H1, I1, rx, q1⟩ => thn (hi.run pins s1 σ H1 _ I1 q1) fun iv s2 ⟨y, H2, I2, ry, Hf, b, p, k, ob, ks, ex, ey, sub, dk, hp, ⟨a, xs, eo, hk⟩, hin, q2⟩ => ?_)
  subst ex; subst ey; subst eo
  cases rx; cases ry
  obtain ⟨rfl, hs', hd⟩ := nd_of I2.hok sub hp hk
  have hsome := atKey_nk (k := k) hk.1
  rw [decide_eq_true hin] at hsome
  obtain ⟨v, hv⟩ := Option.isSome_iff_exists.mp hsome
  have hmem : ∃ x ∈ xs, x.2 = v := by
    unfold atKey at hv
    obtain ⟨x, h1, h2⟩ := Option.map_eq_some_iff.mp hv
    exact ⟨x, List.mem_of_find?_eq_some h1, h2⟩
  obtain ⟨x, hx, hxv⟩ := hmem
  obtain ⟨i, t, hi⟩ := (hk.2 x hx).2
  refine ⟨hd.typeIs, wpAny_getItem_heap (knd := nestedKind X.prog X.w) (op_ndNot.hu9 hu) (nk_is I2.hok sub dk) hd hv ⟨.int i, H2, I2.tok _, ?_, q2 i⟩⟩
  rw [← hxv, hi]
  exact ⟨t, rfl⟩
theorem pi_ndget {j : Nat} (hr : Room j X.A) (i : Nat) {x : Str} {px : Pos} {ks : List (Int × List Int)} {k : Int × List Int} (he : PD X B Γ e (kD k)) (hi : Γ[i]? = some (.own (ND X.prog X.w ks))) (hk : k ∈ ks) (hN : X.N[i]? = some x := by rfl) (hv : Vis X.env.scope x := by first | exact Or.inl rfl | exact Or.inr (Or.inl rfl) | exact Or.inr (Or.inr rfl))
    (hd : (x == ("__debug__" : Str)) = false := by decide) (hcd : (x == ("__classdict__" : Str)) = false := by decide) (hs : NoSl e := by exact fun _ _ => rfl) : PN X B Γ (.Subscript (.Name x px) e pos) (fun d => ∃ i : Int, True ∧ d = .int i) := fun σ Hf H s Q q => by
  obtain ⟨m, p', o, g1, g2, g3, g4, g5, g6⟩ := s.own i _ hi
  refine E.of (pe_ndget (by have := hr.un; omega) (pe_var hN hv hd hcd) pe_E hs) ⟨.ref p', g1, he σ Hf H s _ fun v d Hf1 H1 hdv e1 s1 dq => ?_⟩
  subst hdv
  obtain ⟨m, p2, o2, k1, k2, k3, k4, k5, k6⟩ := s1.own i _ hi
  rw [g1] at k1; cases k1
  obtain ⟨b, vs, rfl, g7, g8⟩ := dq_tup dq
  exact ⟨Hf1, b, p', k, o2, ks, rfl, rfl, s1.sub, dq, k2, k6, hk, fun n => q _ _ Hf1 H1 ⟨n, trivial, rfl⟩ e1 s1 (.int n)⟩
/-- known[e] = an int, at a new key -/
theorem set_nd (hu : X.A.units + 9 < cLine) : PSet X (fun o i v H Q => ∃ (Hf : Hp) (b p : Addr) (k : Int × List Int) (ob : HO) (ks : List (Int × List Int)) (n : Int), o = .ref p ∧ i = .ref b ∧ v = .int n ∧ Same Hf H ∧ Dq Hf (.ref b) (kD k) ∧ H p = some ob ∧ ND X.prog X.w ks p Hf ob ∧ k ∉ ks ∧ ks.length < 100000 ∧ ∀ ob', ND X.prog X.w (ks ++ [k]) p Hf ob' → Q (upd H p ob')) := by
  intro pins s σ H o i v ov iv u Q I ro ri rv h
  obtain ⟨Hf, b, p, k, ob, ks, n, rfl, rfl, rfl, sub, dk, hp, ⟨a, xs, rfl, hk⟩, hin, hz, q⟩ := h
  cases ro; cases ri
  obtain ⟨t, rfl⟩ := rv
  obtain ⟨rfl, hs', hd⟩ := nd_of I.hok sub hp hk
  have hnone : atKey xs (NK k) = none := by
    have hsome := atKey_nk (k := k) hk.1
    rw [decide_eq_false hin] at hsome
    exact Option.isNone_iff_eq_none.mp (by rw [Option.isNone_iff_eq_none]; exact Option.not_isSome_iff_eq_none.mp (by rw [hsome]; simp))
  have hl : xs.length = ks.length := by
    have := congrArg List.length hk.1
    simpa using this
  refine wpAny_setItem_heap (knd := nestedKind X.prog X.w) (hsz := by rw [hl]; exact Nat.le_trans (Nat.le_of_lt hz) (by decide)) (op_ndNot.hu9 hu) (nk_is I.hok sub dk) hd fun h' dd' hs => ?_
  rw [storedH_new hnone] at dd'
  obtain ⟨o, es, ep, d1, d2, d3, d4, _, d5⟩ := dd'
  refine ⟨upd H a (NDo X.prog X.w a (xs ++ [(NK k, b, .int n t)])), d_write I (by rw [hp]; exact True.intro) hs ⟨o, d1⟩ (nd_ok hs' ⟨o, es, ep, d1, d2, d3, d4, d5⟩), q _ ⟨a, _, rfl, by rw [List.map_append, List.map_append, hk.1]; rfl, fun x hx => ?_⟩⟩
  rcases List.mem_append.mp hx with hx | hx
  · exact hk.2 x hx
  · rw [List.mem_singleton.mp hx]
    exact ⟨⟨k, rfl, dk⟩, n, t, rfl⟩
theorem b1_ndput {j : Nat} (hr : Room j X.A) (i : Nat) {x : Str} {px ps : Pos} {ix : Expr} {ks : List (Int × List Int)} {k : Int × List Int} (hi : Γ[i]? = some (.own (ND X.prog X.w ks))) (hj : PD X B Γ ix (kD k)) (he : PN X B Γ e (fun d => ∃ i : Int, True ∧ d = .int i)) (hk : k ∉ ks) (hz : ks.length < 100000) (hN : X.N[i]? = some x := by rfl) (hv : Vis X.env.scope x := by first | exact Or.inl rfl | exact Or.inr (Or.inl rfl) | exact Or.inr (Or.inr rfl))
    (hd : (x == ("__debug__" : Str)) = false := by decide) (hcd : (x == ("__classdict__" : Str)) = false := by decide)
    (ha : ∀ v, assign (.Subscript (.Name x px) ix ps) X.env v = (do
      let ov ← holding [v] (eval (.Name x px) X.env)
      let iv ← holding [v, ov] (eval ix X.env)
      standAt ps
      holding [v, ov, iv] (setItem ov iv v)
      release [v, ov, iv] []) := by intro _; rfl)
    (hs : swapsWithSole [.Subscript (.Name x px) ix ps] e pos.line X.env = pure false := by rfl) (hw : swappedStores [.Subscript (.Name x px) ix ps] e X.env = pure none := by rfl)
    (h1 : (assignEach [.Subscript (.Name x px) ix ps] X.env).map (·.2) = [assign (.Subscript (.Name x px) ix ps) X.env] := by rfl) : B1 X B Γ (.Assign [.Subscript (.Name x px) ix ps] e pos) (fun G => G = Γ.set i (.own (ND X.prog X.w (ks ++ [k])))) S := fun σ Hf H s D n r => by
  refine S1.of (ps_asg pe_E (pg_sub (pe_var hN hv hd hcd) pe_E (set_nd (by have := hr.un; omega)) ha) hs hw h1) (he σ Hf H s _ fun v d Hf1 H1 hdv e1 s1 dq => ?_)
  obtain ⟨n', _, rfl⟩ := hdv
  cases dq
  obtain ⟨m, p', o, g1, g2, g3, g4, g5, g6⟩ := s1.own i _ hi
  refine ⟨.ref p', g1, hj σ Hf1 H1 s1 _ fun v2 d2 Hf2 H2 hd2 e2 s2 dq2 => ?_⟩
  subst hd2
  obtain ⟨m, p2, o2, k1, k2, k3, k4, k5, k6⟩ := s2.own i _ hi
  rw [g1] at k1; cases k1
  obtain ⟨b, vs, rfl, g7, g8⟩ := dq_tup dq2
  exact ⟨Hf2, b, p', k, o2, ks, n', rfl, rfl, rfl, s2.sub, dq2, k2, k6, hk, hz, fun ob' hob => n _ rfl σ Hf2 _ (s2.write nd_mono hi g1 hob) (e1.trans e2).ff⟩
end
end OC
set_option Elab.async false
set_option linter.all false
set_option maxRecDepth 100000
set_option maxHeartbeats 4000000
namespace OC
open PySem PySem.Spec PyProof.Rows L2
section
variable {P : Program} {w : World} {K : PySem.W.Frag} {mg : Str → Option Value} {base : Heap}
def D_drawn (ds : List PyData) : Prop := ∃ c kin, ClubOk c ∧ KinO c.length kin ∧ ds = [dI c, dK kin]
def R_drawn (ds : List PyData) (d : PyData) : Prop := ∃ c kin, ∃ gs : List (List Int), ClubOk c ∧ ds = [dI c, dK kin] ∧ gs.length = (prodI c).toNat ∧ d = dK gs
theorem cal_drawn (t : Top K mg) : Cal P w K mg base "_law_drawn_shares" 4 (spP D_drawn R_drawn) :=
  t.cal 45 (fun f fd F => okP F sc_L_drawn_shares (fun ds ⟨c, kin, _, _, h⟩ => by rw [h]; rfl) (fun cdv A outer s H E hr B p hB ds h => by
    obtain ⟨c, kin, hc, hk, rfl⟩ := h
    have h4 := hc.l4
    have hq := hc.pr
    have hkl := hk.len
    obtain ⟨l1, l2⟩ := lawRows_len _ c rfl hc.ge1
    refine bd_set 3 sc_L_drawn_shares.nd (pd_call (cal_L_rows t) hr (pa_d (nv 1 rfl) pa_n) ⟨c, hc, rfl, rfl⟩ (fun d' ⟨c', _, h, h'⟩ => by rw [h', DI.inj h])) ?_
    refine bd_cons (b1_ndnew 4 sc_L_drawn_shares.nd) (fun G g => ?_)
    subst g
    refine bd_setL 5 sc_L_drawn_shares.nd (pl_lst (S := fun z => z = []) pa_n (fun ds h => by rw [h]; decide)) ?_
    refine bd_cons (b1_for (vs := [6]) (SL := fun ds => ds = (lawRows c).map dI) (Gs := fun _ i Z => ∃ (gs : List (List Int)) (ks : List (Int × List Int)), gs.length = i ∧ ks.length ≤ 4 * i ∧ le [.pool, .non, .dat (dK kin), .non, .own (ND P w ks), .own (Lst (gs.map dI)), .non, .non, .non, .non, .non] Z) (Gi := fun Z d => Z.set 6 (.dat d)) rfl PassesOwn.never (src_L (nv 3 rfl)) (pg_name (i := 6) sc_L_drawn_shares.nd rfl (.inl rfl)) (fun ds h => ⟨[], [], rfl, Nat.le_refl _, .inr rfl, .inl rfl, .inr rfl, .inl rfl, .inr rfl, .inr rfl, .inl rfl, .inl rfl, .inl rfl, .inl rfl, .inl rfl, trivial⟩) (fun ds i d Z h h1 h2 => tg_name (by simp)) (fun ds i d Z h h1 ⟨gs, ks, k1, k2, h2⟩ => ?_)) (fun Z ⟨ds, g1, gs, ks, k1, k2, g2⟩ => ?_)
    · refine BD.weak ?_ (bd_for1.le_set h2)
      subst h
      have hi := (List.getElem?_eq_some_iff.mp h1).1
      rw [List.length_map, l1] at hi
      obtain ⟨r, hr1, hr2⟩ : ∃ r, r ∈ lawRows c ∧ dI r = d := by
        have := List.mem_of_getElem? h1
        obtain ⟨r, a, b⟩ := List.mem_map.mp this
        exact ⟨r, a, b⟩
      subst hr2
      have hr4 : r.length ≤ 4 := by rw [inR_len (l2 r hr1)]; exact h4
      refine bd_setL 7 sc_L_drawn_shares.nd (pl_lst (S := fun z => z = []) pa_n (fun ds h => by rw [h]; decide)) ?_
      refine bd_cons (b1_for (vs := [8, 9]) (SL := fun ds => ds = (ix kin).map fun a => .tuple [.int a.1, dI a.2]) (Gs := fun _ n Z => ∃ (ns : List Int) (ks : List (Int × List Int)), ns.length = n ∧ ks.length ≤ 4 * i + n ∧ le [.pool, .non, .dat (dK kin), .non, .own (ND P w ks), .own (Lst (gs.map dI)), .dat (dI r), .own (Lst (ns.map .int)), .non, .non, .non] Z) (Gi := fun Z d => match d with | .tuple [d1, d2] => (Z.set 8 (.dat d1)).set 9 (.dat d2) | _ => Z) rfl PassesOwn.never (src_enumTm (t.free 66) (nv 2 rfl)) (pg_tup rfl (pgs_cons (pg_name (i := 8) sc_L_drawn_shares.nd rfl (.inl rfl)) (pgs_cons (pg_name (i := 9) sc_L_drawn_shares.nd rfl (.inl rfl)) pgs_nil))) (fun ds h => ⟨[], ks, rfl, by omega, .inr rfl, .inl rfl, .inr rfl, .inl rfl, .inr rfl, .inr rfl, .inr rfl, .inr rfl, .inl rfl, .inl rfl, .inl rfl, trivial⟩) (fun ds n d Z h h1 h2 => ?_) (fun ds n d Z h h1' ⟨ns, ks2, m1, m2, m3⟩ => ?_)) (fun Z ⟨ds, g1, ns, ks2, m1, m2, m3⟩ => ?_)
      · subst h
        rw [List.getElem?_map] at h1
        cases q : (ix kin)[n]? with
        | none => rw [q] at h1; cases h1
        | some a =>
          rw [q] at h1
          have e := Option.some.inj h1
          subst e
          exact tg_pair (by simp) (by simp)
      · subst h
        have hn := (List.getElem?_eq_some_iff.mp h1').1
        rw [List.length_map, ix_len, hkl] at hn
        rw [List.getElem?_map] at h1'
        cases q : (ix kin)[n]? with
        | none => rw [q] at h1'; cases h1'
        | some a =>
          rw [q] at h1'
          have e := Option.some.inj h1'
          subst e
          refine BD.weak ?_ (bd_for1.le_set (bd_for1.le_set m3))
          refine bd_set (d := kD (a.1, spotOf r a.2)) 10 sc_L_drawn_shares.nd (pd_tup (pa_d (nv 8 rfl) (pa_d (pd_call (d := dI (spotOf r a.2)) (cal_spot t) hr (pa_d (nv 6 rfl) (pa_d (nv 9 rfl) pa_n)) ⟨r, a.2, hr4, rfl, rfl⟩ (fun d' ⟨r', l', _, h, h'⟩ => by obtain ⟨e1, e2⟩ := inj2I h; rw [h', e1, e2])) pa_n)) (by show 2 ≤ 100000; decide)) ?_
          refine bd_cons (M := fun G => ∃ ks3 : List (Int × List Int), ks3.length ≤ 4 * i + (n + 1) ∧ (a.1, spotOf r a.2) ∈ ks3 ∧ le [.pool, .non, .dat (dK kin), .non, .own (ND P w ks3), .own (Lst (gs.map dI)), .dat (dI r), .own (Lst (ns.map .int)), .non, .non, .dat (kD (a.1, spotOf r a.2))] G) (b1_if (pt_ndNot hr 4 (nv 10 rfl) rfl) (fun hT => ?_) (fun hF => bd_end ⟨ks2, by omega, by simpa using hF, .inr rfl, .inl rfl, .inr rfl, .inl rfl, .inr rfl, .inr rfl, .inr rfl, .inr rfl, .inl rfl, .inl rfl, .inr rfl, trivial⟩)) (fun G ⟨ks3, q1, q2, g⟩ => ?_)
          · refine bd_cons (b1_ndput hr 4 rfl (nv 10 rfl) (pn_callP (m := 0) (cal_number t) hr rfl pa_n (fun ds h => h) (fun ds d h h' => h')) (by simpa using hT) (by omega)) (fun G g => ?_)
            subst g
            exact bd_end ⟨ks2 ++ [(a.1, spotOf r a.2)], by rw [List.length_append]; show ks2.length + 1 ≤ _; omega, by simp, .inr rfl, .inl rfl, .inr rfl, .inl rfl, .inr rfl, .inr rfl, .inr rfl, .inr rfl, .inl rfl, .inl rfl, .inr rfl, trivial⟩
          · refine BD.weak ?_ g
            refine bd_cons (b1_app 7 rfl (pi_ndget hr 4 (nv 10 rfl) rfl q2) (by rw [List.length_map]; omega)) (fun G ⟨d, ⟨z, _, hz⟩, g'⟩ => ?_)
            subst hz; subst g'
            exact bd_end ⟨ns ++ [z], ks3, by rw [List.length_append, m1]; rfl, q1, .inr rfl, .inl rfl, .inr rfl, .inl rfl, .inr rfl, .inr rfl, .inr rfl, .inr (by rw [List.map_append]; rfl), .inl rfl, .inl rfl, .inl rfl, trivial⟩
      · subst g1
        rw [List.length_map, ix_len, hkl] at m1 m2
        refine BD.weak ?_ m3
        refine bd_freeze 7 rfl ?_
        refine bd_app 5 rfl (pd_tupD (t.free 60) (nv 7 rfl)) (by rw [List.length_map]; omega) (bd_end ⟨gs ++ [ns], ks2, by rw [List.length_append, k1]; rfl, by omega, .inr rfl, .inl rfl, .inr rfl, .inl rfl, .inr rfl, .inr (by rw [List.map_append]; rfl), .inl rfl, .inl rfl, .inl rfl, .inl rfl, .inl rfl, trivial⟩)
    · refine BD.weak ?_ g2
      subst g1
      rw [List.length_map, l1] at k1
      refine bd_freeze 5 rfl ?_
      exact bd_retd (pd_tupD (t.free 60) (nv 5 rfl)) ⟨c, kin, gs, hc, rfl, k1, rfl⟩))
    rfl rfl (fun _ _ _ _ _ _ us hl => match us, hl with | [_, _, _], _ => rfl)
/-! ### _law_totals -/
def R_totals (ds : List PyData) (d : PyData) : Prop := ∃ c kin, ∃ tt : List Int, ClubOk c ∧ ds = [dI c, dK kin] ∧ TotOk c tt ∧ d = dI tt
theorem cal_totals (t : Top K mg) : Cal P w K mg base "_law_totals" 5 (spP D_drawn R_totals) :=
  t.cal 48 (fun f fd F => okP F sc_L_totals (fun ds ⟨c, kin, _, _, h⟩ => by rw [h]; rfl) (fun cdv A outer s H E hr B p hB ds h => by
    obtain ⟨c, kin, hc, hk, rfl⟩ := h
    have h4 := hc.l4
    have hq := hc.pr
    have hp := hc.pos
    obtain ⟨l1, l2⟩ := lawRows_len _ c rfl hc.ge1
    refine bd_setN (Se := fun d => ∃ st : Int, (0 ≤ st ∧ st < 5) ∧ d = .int st) 3 sc_L_totals.nd (pn_callP (m := 0) (cal_draw t) hr rfl (pa_d pn_int pa_n) (fun ds h => ⟨5, by decide, by decide, h⟩) (fun ds d h ⟨m, v, g1, g2, g3, g4⟩ => by
        rw [h] at g1
        injection g1 with g1
        injection g1 with g1
        exact ⟨v, ⟨g2, by omega⟩, g4⟩)) (fun d ⟨st, hst, hd⟩ => ?_)
    subst hd
    refine bd_cons (M := fun G => le [.pool, .dat (dI c), .dat (dK kin), .dat (.int st), .non, .non] G) (b1_if (pt_eqI (nv 3 rfl) pn_int) (fun hT => ?_) (fun hF => bd_end ⟨.inr rfl, .inr rfl, .inr rfl, .inr rfl, .inl rfl, .inl rfl, trivial⟩)) (fun G g => ?_)
    · exact bd_ret ((pn_tupL (S := fun z => ∃ ns : List Int, ns.length = (lawRows c).length ∧ (∀ n ∈ ns, True) ∧ z = ns.map .int) (t.free 60) (PL.pn (CompOk.pl (compI "_law_row" 4 (as := lawRows c) (enc := dI) (S := fun _ => True) rfl sc_L_totals.nd (src_L (pd_call (cal_L_rows t) hr (pa_d (nv 1 rfl) pa_n) ⟨c, hc, rfl, rfl⟩ (fun d' ⟨c', _, h, h'⟩ => by rw [h', DI.inj h]))) (blkOk_by (N := N_L_totals) (sc := defScope s_L_totals) (by decide +kernel)) (fun _ _ _ _ _ => pg_name (i := 4) sc_L_totals.nd rfl (Or.inl rfl)) (by omega)
        (fun a ha s H C cl fp => pn_callP (m := 0) (cal_number t) hr rfl pa_n (fun ds h => h) (fun ds d h h' => h')))))).mono fun d ⟨z, ⟨ns, h1, _, h2⟩, h3⟩ => ⟨c, kin, ns, hc, rfl, h1.trans l1, by rw [h3, h2]⟩)
    · refine BD.weak ?_ g
      refine bd_setN (Se := fun d => ∃ ns : List Int, ns.length = (prodI c).toNat ∧ d = dI ns) 5 sc_L_totals.nd (pn_call (S' := fun ds => ∃ gs : List (List Int), gs.length = (prodI c).toNat ∧ ds = [dK gs]) (cal_sums t) hr (pa_c (pn_callP (S := fun d => ∃ gs : List (List Int), gs.length = (prodI c).toNat ∧ d = dK gs) (m := 0) (cal_drawn t) hr rfl (pa_d (nv 1 rfl) (pa_d (nv 2 rfl) pa_n)) (fun ds h => ⟨c, kin, hc, hk, h⟩) (fun ds d h ⟨c', kin', gs, _, h1, h2, h3⟩ => ?_)) pa_n (fun d ds ⟨gs, h1, h2⟩ h3 => ⟨gs, h1, by rw [h2, h3]⟩)) (fun ds ⟨gs, h1, h2⟩ => ⟨dI (gs.map fun _ => 0), gs, by omega, h2, _, List.length_map .., rfl⟩) (fun ds d ⟨gs, h1, h2⟩ ⟨gs', _, h3, ns, h4, h5⟩ => ?_)) (fun d ⟨ns, n1, hd⟩ => ?_)
      · rw [h] at h1
        injection h1 with e1 _
        exact ⟨gs, by rw [h2, dI_inj e1], h3⟩
      · rw [h2] at h3
        injection h3 with e1 _
        exact ⟨ns, by rw [h4, ← dK_inj e1, h1], h5⟩
      · subst hd
        refine bd_ret (pn_if (pt_lt' (nv 3 rfl) pn_int) (fun hT => (nv 5 rfl : PD _ _ _ _ (dI ns)).mono fun d hd => ⟨c, kin, ns, hc, rfl, n1, hd⟩) (fun hF => pn_callP (m := 0) (cal_raised t) hr rfl (pa_d (nv 5 rfl) pa_n) (fun ds h => ⟨ns, by omega, by omega, h⟩) (fun ds d h ⟨ns', ms, h1, h2, h3⟩ => ⟨c, kin, ms, hc, rfl, ?_, h3⟩)))
        rw [h] at h1
        injection h1 with e1 _
        show ms.length = _
        rw [h2, ← dI_inj e1, n1]))
    rfl rfl (fun _ _ _ _ _ _ us hl => match us, hl with | [_, _, _], _ => rfl)
end
end OC
set_option Elab.async false
set_option linter.all false
set_option maxRecDepth 100000
set_option maxHeartbeats 4000000
/-! Own kit: a dict whose keys are tuples of ints; a walk over its keys. -/
namespace OC
open PySem PySem.Spec PyProof.Rows L2
def TK (l : List Int) : NestedKey := .tup (l.map .num)
theorem TK.inj {a b : List Int} (h : TK a = TK b) : a = b := by
  unfold TK at h
  injection h with h
  exact num_inj h
abbrev tD (l : List Int) : PyData := .tuple (l.map .int)
def TDk (Hf : Hp) (xs : List (NestedKey × Addr × Value)) (ls : List (List Int)) : Prop :=
  xs.map (·.1) = ls.map TK ∧ ∀ x ∈ xs, ∃ l, x.1 = TK l ∧ Dq Hf (.ref x.2.1) (tD l)
/-- a dict of ours with the keys ls; .. while it is walked -/
def TD (P : Program) (w : World) (ls : List (List Int)) : Addr → Hp → HO → Prop := fun p Hf o => ∃ xs, o = NDo P w p xs ∧ TDk Hf xs ls
def TDF (P : Program) (w : World) (p0 : Addr) (od : Obj) (xs : List (NestedKey × Addr × Value)) (ls : List (List Int)) : Addr → Hp → HO → Prop := fun p Hf o => p = p0 ∧ o = .frz od (NDo P w p0 xs) ∧ TDk Hf xs ls
theorem tdk_mono {Hf Hf' : Hp} {xs : List (NestedKey × Addr × Value)} {ls : List (List Int)} (e : Same Hf Hf') (h : TDk Hf xs ls) : TDk Hf' xs ls :=
  ⟨h.1, fun x hx => let ⟨l, g1, g2⟩ := h.2 x hx; ⟨l, g1, dq_mono e _ _ g2⟩⟩
theorem td_mono {P : Program} {w : World} {ls : List (List Int)} : Mono (TD P w ls) := fun _ Hf Hf' o e ⟨xs, h1, h2⟩ => ⟨xs, h1, tdk_mono e h2⟩
theorem tdf_mono {P : Program} {w : World} {p0 : Addr} {od : Obj} {xs : List (NestedKey × Addr × Value)} {ls : List (List Int)} : Mono (TDF P w p0 od xs ls) := fun _ Hf Hf' o e ⟨h0, h1, h2⟩ => ⟨h0, h1, tdk_mono e h2⟩
section
variable {P : Program} {w : World} {H Hf : Hp} {h : Heap} {xs : List (NestedKey × Addr × Value)} {ls : List (List Int)}
theorem tk_is {b : Addr} {l : List Int} (ok : HOk P w H h) (sub : Same Hf H) (d : Dq Hf (.ref b) (tD l)) : (nestedKind P w).is h (TK l) b := by
  refine ⟨?_, ?_⟩
  · obtain ⟨a1, vs, e, g1, g2⟩ := dq_tup d
    cases e
    have e4 := g2.ints
    subst e4
    obtain ⟨_, its, r, o, h1, h2, n, h3⟩ := (show ObjOk P w H h b _ from ok b _ (sub _ _ g1))
    exact .tup h1 h2 h3 (by simpa using nums_are r)
  · show NestedKey.depth (.tup (l.map .num)) ≤ 8
    simp only [NestedKey.depth, depth_nums]
    decide
theorem td_obj {p : Addr} {o : HO} (ok : HOk P w H h) (e : H p = some o) (he : o = NDo P w p xs ∨ ∃ od, o = .frz od (NDo P w p xs)) : (p == sysModules) = false ∧ ∃ o es ep, h.get? p = some o ∧ o.ExactDict ∧ o.data = .dict es ep ∧ es.toList = xs.map (entryOfKey (nestedKind P w)) ∧ (xs.map (·.1)).Nodup := by
  rcases he with rfl | ⟨od, rfl⟩
  · exact (show ObjOk P w H h p (NDo P w p xs) from ok p _ e).1
  · obtain ⟨_, x⟩ := (show ObjOk P w H h p (.frz od (NDo P w p xs)) from ok p _ e)
    exact (show ObjOk P w H h p (NDo P w p xs) from x).1
theorem td_of {p : Addr} {o : HO} (ok : HOk P w H h) (sub : Same Hf H) (e : H p = some o) (he : o = NDo P w p xs ∨ ∃ od, o = .frz od (NDo P w p xs)) (k : TDk Hf xs ls) : (p == sysModules) = false ∧ h.DictOfH (nestedKind P w) p xs := by
  obtain ⟨h1, o, es, ep, g1, g2, g3, g4, g5⟩ := td_obj ok e he
  exact ⟨h1, o, es, ep, g1, g2, g3, g4, fun x hx => by
    obtain ⟨l, e1, d⟩ := k.2 x hx
    rw [e1]; exact tk_is ok sub d, g5⟩
theorem atKey_tk : ∀ {xs : List (NestedKey × Addr × Value)} {ls : List (List Int)} {l : List Int}, xs.map (·.1) = ls.map TK → (atKey xs (TK l)).isSome = decide (l ∈ ls)
  | [], [], l, _ => by simp [atKey]
  | [], _ :: _, _, h => by cases h
  | _ :: _, [], _, h => by cases h
  | x :: xs, y :: ls, l, h => by
    rw [List.map_cons, List.map_cons] at h
    injection h with h1 h2
    have ih := atKey_tk (l := l) h2
    by_cases q : y = l
    · subst q
      simp [atKey, h1]
    · have hne : ¬ x.1 = TK l := fun z => q (TK.inj (h1.symm.trans z))
      have hk : decide (l ∈ y :: ls) = decide (l ∈ ls) := by
        apply decide_eq_decide.mpr
        constructor
        · intro m
          rcases List.mem_cons.mp m with m | m
          · exact absurd m.symm q
          · exact m
        · exact List.mem_cons_of_mem _
      rw [hk, ← ih]
      simp [atKey, hne]
end
/-- the keys' walk -/
def Itx (P : Program) (w : World) (p : Addr) (od : Obj) (xs : List (NestedKey × Addr × Value)) : It :=
  ⟨fun i H => H p = some (.frz od (NDo P w p xs)) ∧ i < xs.length, fun i H x H' => H' = H ∧ ∃ (k : NestedKey) (b : Addr) (v : Value), xs[i]? = some (k, b, v) ∧ x = .ref b, fun i H => H p = some (.frz od (NDo P w p xs)) ∧ xs.length ≤ i⟩
theorem walk_x {P : Program} {w : World} {p : Addr} {od : Obj} {xs : List (NestedKey × Addr × Value)} : Walk (Itx P w p od xs) xs.length (fun H => H p = some (.frz od (NDo P w p xs))) (fun i H x H' => H' = H ∧ ∃ (k : NestedKey) (b : Addr) (v : Value), xs[i]? = some (k, b, v) ∧ x = .ref b) :=
  ⟨fun _ _ hi q => ⟨q, hi⟩, fun _ q => ⟨q, Nat.le_refl _⟩, fun _ _ _ _ _ _ y => y⟩
theorem frzX {X : Cx} {pins : List (Addr × Obj)} {σ : L2.St} {H : Hp} {s : Shared} {p : Addr} {od : Obj} {xs : List (NestedKey × Addr × Value)} (I : Inv X pins σ H s) (h : H p = some (.frz od (NDo X.prog X.w p xs))) :
    (p == sysModules) = false ∧ s.heap.get? p = some od ∧ od.ExactDict ∧ ∃ (es : Array DictEntry) (ep : Nat), od.data = .dict es ep ∧ es.size = xs.length ∧ ∀ (i : Nat) (k : NestedKey) (b : Addr) (v : Value), xs[i]? = some (k, b, v) → ∃ en : DictEntry, es[i]? = some en ∧ en.key = .ref b := by
  obtain ⟨hd, x⟩ := (show ObjOk X.prog X.w H s.heap p (.frz od (NDo X.prog X.w p xs)) from I.hok p _ h)
  obtain ⟨⟨hs, o, es, ep, ho, hx, hdt, he, _⟩, _, _⟩ := (show ObjOk X.prog X.w H s.heap p (NDo X.prog X.w p xs) from x)
  rw [hd] at ho
  cases ho
  refine ⟨hs, hd, hx, es, ep, hdt, size_of_entries he, fun i k b v e => ?_⟩
  have q := entry_at he i
  rw [e] at q
  exact ⟨_, q, rfl⟩
theorem turn_x {P : Program} {w : World} {K : PySem.W.Frag} {tg : Expr} {p : Addr} {od : Obj} {es : Array DictEntry} {ep : Nat} {xs : List (NestedKey × Addr × Value)} (it : Addr) (hod : od.data = .dict es ep) : Turn P w K tg (Itx P w p od xs) [it] it (fun i h => h.IsKeyIter it p i xs.length ep) where
  mem := by simp
  obj := fun i h st b hb => by
    have e : b = it := by simpa using hb
    subst e
    obtain ⟨oi, e, c, dd⟩ := st
    exact ⟨oi, e, fun v z => by rw [dd] at z; cases z⟩
  keep := fun i h h' st k => st.at fun oi e => k it (by simp) oi e
  item := by
    intro X hP hw hK hc i pins s σ H E I hf st hg
    subst hP hw hK
    obtain ⟨hd, hi⟩ := hg
    obtain ⟨f0, f1, f2, f3, f4, f5⟩ := hf it (by simp)
    obtain ⟨hs, hgd, hx, es', ep', hdt, hsz, ent⟩ := frzX I hd
    obtain ⟨rfl, rfl⟩ := dict_ep hod hdt
    obtain ⟨⟨k, b, v⟩, hkv⟩ : ∃ p, xs[i]? = some p := ⟨xs[i], List.getElem?_eq_getElem hi⟩
    obtain ⟨en, hen, hkey⟩ := ent i k b v hkv
    refine next_key_item st hgd hdt hsz hen fun h' st' sb => ?_
    have I1 : Inv X pins σ H { s with heap := h' } := I.turned (t' := s.toks) (fun b ob hb e => (sb.2 b hb).trans e) f0 f1 f3 f4 f5
    obtain ⟨oi, e, c, dd⟩ := id st'
    exact ⟨en.key, rfl, go_of (s := { s with heap := h' }) e c dd (by decide) ⟨.ref b, H, I1, hkey, ⟨rfl, k, b, v, hkv, rfl⟩, st', fun b hb => (hf b hb).1⟩⟩
  done := by
    intro X hP hw hK hc i pins s σ H E I hf st hg
    subst hP hw hK
    obtain ⟨hd, hi⟩ := hg
    obtain ⟨f0, f1, f2, f3, f4, f5⟩ := hf it (by simp)
    obtain ⟨hs, hgd, hx, es', ep', hdt, hsz, ent⟩ := frzX I hd
    obtain ⟨rfl, rfl⟩ := dict_ep hod hdt
    exact next_key_end (I.ok.hd hc) st hgd hdt hsz hi fun h' eb => ⟨rfl, I.turned (t' := s.toks) (fun b ob hb e => eb b ob hb e) f0 f1 f3 f4 f5⟩
  self := fun A i s Q E st h => by
    refine wpAny_pyIter_slot st.typeIs F.slot_dict_keyiterator_iter (wpAny_call_entry F.slot_dict_keyiterator_iter st.typeIs F.entry_dict_keyiterator_iter ?_ (F.args_dict_keyiterator_iter_1 _))
    show wpAny _ _ (ret (.ref it)) _ _ s
    exact wpAny_pure ⟨_, rfl, "dict_keyiterator", _, st.typeIs, F.slot_dict_keyiterator_next.lookup, h⟩
section
variable {X : Cx} {B : Bs} {Γ : List Slot} {e : Expr} {p pos : Pos} {N : List Slot → Prop} {S : PyData → Prop}
theorem pi_td {tg : Expr} {td : TE} (he : L2.PE X e td) : L2.PI X tg e (fun σ H R => td σ H fun x H1 => ∃ (p : Addr) (od : Obj) (xs : List (NestedKey × Addr × Value)), x = .ref p ∧ H1 p = some (.frz od (NDo X.prog X.w p xs)) ∧ R (Itx X.prog X.w p od xs) H1) := by
  refine ⟨fun pins s σ H R I h => ?_⟩
  refine thn (he.run pins s σ H _ I h) fun u s1 ⟨x, H1, I1, rx, d, o, xs, ex, hd, q⟩ => ?_
  subst ex
  obtain rfl : u = Value.ref d := rx
  obtain ⟨hs, hgd, hx, es, ep, hdt, hsz, ent⟩ := frzX I1 hd
  refine iter_keys hs hgd hx hdt (pi_one (tk := s1.toks) I1 _ (turn_x _ hdt) ⟨_, Heap.get?_push_size _ rfl, rfl, ?_⟩ q)
  rw [hsz] <;> rfl
/-- {} -/
theorem b1_tdnew (i : Nat) {x : Str} {p2 : Pos} (hN : X.N.Nodup) (hi : X.N[i]? = some x := by rfl) (hx : Loc X.env.scope x := by first | exact Or.inl rfl | exact Or.inr rfl) (hs : swapsWith (.Dict [] [] p) (some (.Name x p2)) pos.line X.env = pure false := by rfl)
    (hf : X.fn x = true ∨ X.env.scope.names.lookup x = some .local := by first | exact .inl rfl | exact .inr rfl) : B1 X B Γ (.Assign [.Name x p2] (.Dict [] [] p) pos) (fun G => G = Γ.set i (.own (TD X.prog X.w []))) S := fun σ Hf H s D n r =>
  S1.of (ps_set hN hi hx pe_ndnew hs hf) fun q hq => n _ rfl _ Hf _ (s.take i td_mono hq ⟨[], rfl, rfl, fun x h => by simp at h⟩) (Same.refl _)
/-- e in hits -/
theorem op_tdIn (hu : X.A.units + 9 < cLine) : OpR X (compareOp .In) (fun x y H Q => ∃ (Hf : Hp) (b p : Addr) (l : List Int) (o : HO) (xs : List (NestedKey × Addr × Value)) (ls : List (List Int)), x = .ref b ∧ y = .ref p ∧ Same Hf H ∧ Dq Hf (.ref b) (tD l) ∧ H p = some o ∧ (o = NDo X.prog X.w p xs ∨ ∃ od, o = .frz od (NDo X.prog X.w p xs)) ∧ TDk Hf xs ls ∧ Q (.bl (decide (l ∈ ls))) H) := by
  intro pins s σ H x y v u Q I rx ry h
  obtain ⟨Hf, b, p, l, o, xs, ls, rfl, rfl, sub, dk, hp, ho, hk, q⟩ := h
  cases rx; cases ry
  obtain ⟨hs, hd⟩ := td_of I.hok sub hp ho hk
  refine wpAny_in_heap (knd := nestedKind X.prog X.w) (op_ndNot.hu9 hu) (tk_is I.hok sub dk) hs hd ?_
  rw [atKey_tk hk.1]
  exact ⟨.bl _, H, I.tok _, rfl, q⟩
theorem pd_tdIn {j : Nat} (hr : Room j X.A) (i : Nat) {x : Str} {px : Pos} {p0 : Addr} {od : Obj} {xs : List (NestedKey × Addr × Value)} {ls : List (List Int)} {l : List Int} (he : PD X B Γ e (tD l)) (hi : Γ[i]? = some (.own (TDF X.prog X.w p0 od xs ls))) (hN : X.N[i]? = some x := by rfl) (hv : Vis X.env.scope x := by first | exact Or.inl rfl | exact Or.inr (Or.inl rfl) | exact Or.inr (Or.inr rfl))
    (hd : (x == ("__debug__" : Str)) = false := by decide) (hcd : (x == ("__classdict__" : Str)) = false := by decide) (hm : behindInMarks .In (.Name x px) = false := by rfl) : PD X B Γ (.Compare e [.In] [.Name x px] pos) (.bool (decide (l ∈ ls))) := fun σ Hf H s Q q => by
  refine E.of (pe_cmpR (op_tdIn (by have := hr.un; omega)) pe_E (pe_var hN hv hd hcd) hm) (he σ Hf H s _ fun v d Hf1 H1 hdv e1 s1 dq => ?_)
  subst hdv
  obtain ⟨m, p', o, g1, g2, g3, g4, g5, rfl, rfl, g6⟩ := s1.own i _ hi
  obtain ⟨b, vs, rfl, g7, g8⟩ := dq_tup dq
  exact ⟨.ref p', g1, Hf1, b, p', l, _, xs, ls, rfl, rfl, s1.sub, dq, g2, .inr ⟨od, rfl⟩, g6, q _ _ Hf1 H1 rfl e1 s1 (.bl _)⟩
/-- hits[e] = True, at a new key -/
theorem set_td (hu : X.A.units + 9 < cLine) : PSet X (fun o i v H Q => ∃ (Hf : Hp) (b p : Addr) (l : List Int) (xs : List (NestedKey × Addr × Value)) (ls : List (List Int)), o = .ref p ∧ i = .ref b ∧ Same Hf H ∧ Dq Hf (.ref b) (tD l) ∧ H p = some (NDo X.prog X.w p xs) ∧ TDk Hf xs ls ∧ l ∉ ls ∧ ls.length < 100000 ∧ ∀ ob', TD X.prog X.w (ls ++ [l]) p Hf ob' → Q (upd H p ob')) := by
  intro pins s σ H o i v ov iv u Q I ro ri rv h
  obtain ⟨Hf, b, p, l, xs, ls, rfl, rfl, sub, dk, hp, hk, hin, hz, q⟩ := h
  cases ro; cases ri
  obtain ⟨hs', hd⟩ := td_of I.hok sub hp (.inl rfl) hk
  have hnone : atKey xs (TK l) = none := by
    have hsome := atKey_tk (l := l) hk.1
    rw [decide_eq_false hin] at hsome
    exact Option.not_isSome_iff_eq_none.mp (by rw [hsome]; simp)
  have hl : xs.length = ls.length := by
    have := congrArg List.length hk.1
    simpa using this
  refine wpAny_setItem_heap (knd := nestedKind X.prog X.w) (hsz := by rw [hl]; exact Nat.le_trans (Nat.le_of_lt hz) (by decide)) (op_ndNot.hu9 hu) (tk_is I.hok sub dk) hd fun h' dd' hs => ?_
  rw [storedH_new hnone] at dd'
  obtain ⟨o, es, ep, d1, d2, d3, d4, _, d5⟩ := dd'
  refine ⟨upd H p (NDo X.prog X.w p (xs ++ [(TK l, b, u)])), d_write I (by rw [hp]; exact True.intro) hs ⟨o, d1⟩ (nd_ok hs' ⟨o, es, ep, d1, d2, d3, d4, d5⟩), q _ ⟨_, rfl, by rw [List.map_append, List.map_append, hk.1]; rfl, fun x hx => ?_⟩⟩
  rcases List.mem_append.mp hx with hx | hx
  · exact hk.2 x hx
  · rw [List.mem_singleton.mp hx]
    exact ⟨l, rfl, dk⟩
theorem b1_tdput {j : Nat} (hr : Room j X.A) {Se : PyData → Prop} (i : Nat) {x : Str} {px ps : Pos} {ix : Expr} {ls : List (List Int)} {l : List Int} (hi : Γ[i]? = some (.own (TD X.prog X.w ls))) (hj : PD X B Γ ix (tD l)) (he : PN X B Γ e Se) (hk : l ∉ ls) (hz : ls.length < 100000) (hN : X.N[i]? = some x := by rfl) (hv : Vis X.env.scope x := by first | exact Or.inl rfl | exact Or.inr (Or.inl rfl) | exact Or.inr (Or.inr rfl))
    (hd : (x == ("__debug__" : Str)) = false := by decide) (hcd : (x == ("__classdict__" : Str)) = false := by decide)
    (ha : ∀ v, assign (.Subscript (.Name x px) ix ps) X.env v = (do
      let ov ← holding [v] (eval (.Name x px) X.env)
      let iv ← holding [v, ov] (eval ix X.env)
      standAt ps
      holding [v, ov, iv] (setItem ov iv v)
      release [v, ov, iv] []) := by intro _; rfl)
    (hs : swapsWithSole [.Subscript (.Name x px) ix ps] e pos.line X.env = pure false := by rfl) (hw : swappedStores [.Subscript (.Name x px) ix ps] e X.env = pure none := by rfl)
    (h1 : (assignEach [.Subscript (.Name x px) ix ps] X.env).map (·.2) = [assign (.Subscript (.Name x px) ix ps) X.env] := by rfl) : B1 X B Γ (.Assign [.Subscript (.Name x px) ix ps] e pos) (fun G => G = Γ.set i (.own (TD X.prog X.w (ls ++ [l])))) S := fun σ Hf H s D n r => by
  refine S1.of (ps_asg pe_E (pg_sub (pe_var hN hv hd hcd) pe_E (set_td (by have := hr.un; omega)) ha) hs hw h1) (he σ Hf H s _ fun v d Hf1 H1 hdv e1 s1 dq => ?_)
  obtain ⟨m, p', o, g1, g2, g3, g4, g5, g6⟩ := s1.own i _ hi
  refine ⟨.ref p', g1, hj σ Hf1 H1 s1 _ fun v2 d2 Hf2 H2 hd2 e2 s2 dq2 => ?_⟩
  subst hd2
  obtain ⟨m, p2, o2, k1, k2, k3, k4, k5, xs, rfl, k6⟩ := s2.own i _ hi
  rw [g1] at k1; cases k1
  obtain ⟨b, vs, rfl, g7, g8⟩ := dq_tup dq2
  exact ⟨Hf2, b, p', l, xs, ls, rfl, rfl, s2.sub, dq2, k2, k6, hk, hz, fun ob' hob => n _ rfl σ Hf2 _ (s2.write td_mono hi g1 hob) (e1.trans e2).ff⟩
/-- for k in hits: the body neither writes it nor returns -/
theorem b1_tdfor {tg : Expr} {body : List Stmt} (i k : Nat) {x : Str} {px : Pos} {ls : List (List Int)} {Gs : Addr → Obj → List (NestedKey × Addr × Value) → Nat → List Slot → Prop} (hc : X.calm = true) (hp : PassesOwn (model X.prog X.w) X.A X.env X.xe) (hi : Γ[i]? = some (.own (TD X.prog X.w ls))) (hg : PG X tg (gName k))
    (h0 : ∀ p od xs, Gs p od xs 0 (Γ.set i (.own (TDF X.prog X.w p od xs ls))))
    (hG : ∀ p od xs n G, Gs p od xs n G → G[i]? = some (.own (TDF X.prog X.w p od xs ls)))
    (hs : ∀ p od xs n l G, ls[n]? = some l → Gs p od xs n G → BD X B (G.set k (.dat (tD l))) body (Gs p od xs (n + 1)) (fun _ => False))
    (hN : X.N[i]? = some x := by rfl) (hv : Vis X.env.scope x := by first | exact Or.inl rfl | exact Or.inr (Or.inl rfl) | exact Or.inr (Or.inr rfl))
    (hd : (x == ("__debug__" : Str)) = false := by decide) (hcd : (x == ("__classdict__" : Str)) = false := by decide)
    (hfs : ∀ z, foldedSetIterable (.Name x px) X.env z = pure z := by intro _; rfl) : B1 X B Γ (.For tg (.Name x px) body [] pos) (fun G => ∃ p od xs G', Gs p od xs ls.length G' ∧ G = G'.set i (.own (TD X.prog X.w ls))) S := fun σ Hf H s D n r => by
  obtain ⟨m, p, o, g1, g2, g3, g4, g5, xs, rfl, hk⟩ := s.own i _ hi
  have hl : xs.length = ls.length := by
    have := congrArg List.length hk.1
    simpa using this
  refine S1.of (ps_lock (ps_for hp hc (pi_td (pe_var hN hv hd hcd)) hg pss_S hfs)) ⟨p, _, g2, True.intro, fun od => ⟨.ref p, g1, p, od, xs, rfl, upd_same, ?_⟩⟩
  have s1 : SA B (Γ.set i (.own (TDF X.prog X.w p od xs ls))) σ Hf (upd H p (.frz od (NDo X.prog X.w p xs))) := s.write tdf_mono hi g1 ⟨rfl, rfl, hk⟩
  refine for_it (g := gName k) (tb := Ss X body) walk_x (fun n σ' H' => ∃ G Hf', Gs p od xs n G ∧ SA B G σ' Hf' H' ∧ Same Hf Hf') ⟨_, Hf, h0 p od xs, s1, Same.refl _⟩ (fun n σ' H' _ ⟨G, Hf', q1, q2, q3⟩ => ?_) (fun n y σ' H' H'' hlt ⟨G, Hf', q1, q2, q3⟩ ⟨e, kk, b, v, hx, ex⟩ => ?_) (fun σ' H' ⟨G, Hf', q1, q2, q3⟩ => ?_)
  · obtain ⟨_, p', o', k1, k2, k3, k4, k5, rfl, rfl, k6⟩ := q2.own i _ (hG _ _ _ _ _ q1)
    exact k2
  · subst e; subst ex
    obtain ⟨l, e1, dl⟩ := hk.2 _ (List.mem_of_getElem? hx)
    have hln : ls[n]? = some l := by
      have e2 := congrArg (fun z => z[n]?) hk.1
      simp only [List.getElem?_map, hx, Option.map_some] at e2
      cases q : ls[n]? with
      | none => rw [q] at e2; cases e2
      | some l' =>
        rw [q] at e2
        have e3 : kk = TK l' := by simpa using e2
        have e4 : TK l' = TK l := by rw [← e3]; exact e1
        rw [TK.inj e4]
    refine hs p od xs n l G hln q1 _ Hf' H'' (q2.put k (dq_mono q3 _ _ dl)) _ (fun G' g' σ3 Hf3 H3 s4 e3 => ⟨G', Hf3, g', s4, q3.trans e3⟩) (fun _ _ _ _ z => z.elim)
  · rw [hl] at q1
    have hGi := hG _ _ _ _ _ q1
    obtain ⟨_, p', o', k1, k2, k3, k4, k5, rfl, rfl, k6⟩ := q2.own i _ hGi
    exact ⟨k2, n _ ⟨p', od, xs, G, q1, rfl⟩ σ' Hf' _ (q2.write td_mono hGi k1 ⟨xs, rfl, k6⟩) q3⟩
end
end OC
set_option Elab.async false
set_option linter.all false
set_option maxRecDepth 100000
set_option maxHeartbeats 4000000
namespace OC
open PySem PySem.Spec PyProof.Rows L2
def hitsOf (kin : List (List Int)) : List (List Int) := (allLots kin.length).filter fun l => meetsAll l kin
def sparedOf (l : List Int) : List (List Int) := (List.range l.length).map fun k => l.take k ++ l.drop (k + 1)
def leastL (kin : List (List Int)) : List (List Int) := (hitsOf kin).filter fun l => !((sparedOf l).any fun z => decide (z ∈ hitsOf kin))
theorem allLots_lt : ∀ {m : Nat} {l : List Int}, l ∈ allLots m → l.Pairwise (· < ·)
  | 0, l, h => by
    have : l = [] := by simpa [allLots] using h
    rw [this]; exact .nil
  | m + 1, l, h => by
    rcases List.mem_append.mp h with h | h
    · exact allLots_lt h
    · obtain ⟨l', h1, rfl⟩ := List.mem_map.mp h
      refine List.pairwise_append.mpr ⟨allLots_lt h1, List.pairwise_singleton _ _, fun x hx y hy => ?_⟩
      rw [List.mem_singleton.mp hy]
      exact (allLots_rng h1 x hx).2
theorem allLots_nodup : ∀ m : Nat, (allLots m).Nodup
  | 0 => by simp [allLots]
  | m + 1 => by
    show (allLots m ++ (allLots m).map fun l => l ++ [((m : Nat) : Int)]).Nodup
    refine List.nodup_append.mpr ⟨allLots_nodup m, ?_, fun a ha b hb e => ?_⟩
    · refine List.Pairwise.map _ (fun a b hab h => ?_) (allLots_nodup m)
      exact hab (List.append_cancel_right h)
    · obtain ⟨l, h1, rfl⟩ := List.mem_map.mp hb
      have := allLots_rng ha ((m : Nat) : Int) (by rw [e]; simp)
      omega
theorem without_cut : ∀ {l : List Int} {k : Nat} {x : Int}, l.Nodup → l[k]? = some x → l.take k ++ l.drop (k + 1) = without l x
  | [], _, _, _, h => by simp at h
  | y :: l, 0, x, hn, h => by
    simp at h; subst h
    have hnot : y ∉ l := (List.nodup_cons.mp hn).1
    show l = without (y :: l) y
    unfold without
    rw [List.filter_cons_of_neg (by simp)]
    exact (List.filter_eq_self.mpr fun a ha => by
      have : a ≠ y := fun e => hnot (e ▸ ha)
      simpa using this).symm
  | y :: l, k + 1, x, hn, h => by
    have h' : l[k]? = some x := by simpa using h
    have hne : y ≠ x := fun e => (List.nodup_cons.mp hn).1 (e ▸ List.mem_of_getElem? h')
    have ih := without_cut (List.nodup_cons.mp hn).2 h'
    show y :: (l.take k ++ l.drop (k + 1)) = without (y :: l) x
    rw [ih]
    unfold without
    rw [List.filter_cons_of_pos (by simpa using hne)]
theorem nodup_lt {l : List Int} (h : l.Pairwise (· < ·)) : l.Nodup := h.imp fun h e => by omega
theorem filt_pos {α : Type} (p : α → Bool) {xs : List α} {a : α} (h : p a = true) : (xs ++ [a]).filter p = xs.filter p ++ [a] := by
  rw [List.filter_append, List.filter_cons_of_pos h, List.filter_nil]
theorem filt_neg {α : Type} (p : α → Bool) {xs : List α} {a : α} (h : p a = false) : (xs ++ [a]).filter p = xs.filter p := by
  rw [List.filter_append, List.filter_cons_of_neg (by rw [h]; simp), List.filter_nil, List.append_nil]
theorem leastL_eq (kin : List (List Int)) : leastL kin = leastOf kin := by
  unfold leastL leastOf
  unfold hitsOf
  rw [List.filter_filter]
  refine List.filter_congr fun l hl => ?_
  have hnd := nodup_lt (allLots_lt hl)
  unfold isLeast
  have e : ((sparedOf l).any fun z => decide (z ∈ (allLots kin.length).filter fun l => meetsAll l kin)) = (l.any fun k => meetsAll (without l k) kin) := by
    rw [Bool.eq_iff_iff, List.any_eq_true, List.any_eq_true]
    constructor
    · rintro ⟨z, h1, h2⟩
      obtain ⟨k, h3, rfl⟩ := List.mem_map.mp h1
      have hk := List.mem_range.mp h3
      have g := List.getElem?_eq_getElem hk
      have h4 := List.mem_filter.mp (of_decide_eq_true h2)
      rw [without_cut hnd g] at h4
      exact ⟨_, List.getElem_mem _, h4.2⟩
    · rintro ⟨x, h1, h2⟩
      obtain ⟨k, hk⟩ := List.mem_iff_getElem?.mp h1
      have hlt := (List.getElem?_eq_some_iff.mp hk).1
      refine ⟨l.take k ++ l.drop (k + 1), List.mem_map.mpr ⟨k, List.mem_range.mpr hlt, rfl⟩, decide_eq_true ?_⟩
      rw [without_cut hnd hk]
      exact List.mem_filter.mpr ⟨filter_allLots _ hl, h2⟩
  rw [e, Bool.and_comm]
theorem cut_lo (l : List Int) (k : Nat) (h : k ≤ l.length) : cutD (l.map PyData.int) none (some (k : Nat)) = (l.take k).map .int := by
  unfold cutD
  rw [HT.sIx_nat, HT.sIx_none, List.length_map, Nat.min_eq_left h, List.drop_zero, Nat.sub_zero, List.map_take]
theorem cut_hi (l : List Int) (k : Nat) (h : k ≤ l.length) : cutD (l.map PyData.int) (some (k : Nat)) none = (l.drop k).map .int := by
  unfold cutD
  rw [HT.sIx_nat, HT.sIx_none, List.length_map, Nat.min_eq_left h, ← List.map_drop]
  exact List.take_of_length_le (by simp)
section
variable {P : Program} {w : World} {K : PySem.W.Frag} {mg : Str → Option Value} {base : Heap}
def R_L_least (ds : List PyData) (d : PyData) : Prop := ∃ (kin : List (List Int)), (1 ≤ kin.length ∧ kin.length ≤ 4) ∧ ds = [dK kin] ∧ ∃ ls : List (List Int), ls.Perm (leastOf kin) ∧ d = .list (ls.map dI)
theorem cal_L_least (t : Top K mg) : Cal P w K mg base "_law_least_lots" 2 (spD R_L_least) :=
  t.cal 50 (fun f fd F => okD F sc_L_least_lots (fun ds d ⟨i, _, h, _⟩ => by rw [h]; rfl) (fun cdv A outer s H E hr B hB ds h => by
    obtain ⟨d, kin, hk, rfl, _⟩ := h
    have hl16 := allLots_le (m := kin.length) (n := kin.length) hk.2 (Nat.le_refl _)
    refine bd_cons (b1_tdnew 1 sc_L_least_lots.nd) (fun G g => ?_)
    subst g
    refine bd_for1 (k := 2) (as := allLots kin.length) (enc := dI) (G := fun i => [.dat (dK kin), .own (TD P w (((allLots kin.length).take i).filter fun l => meetsAll l kin)), .non, .non, .non, .non, .non, .non, .non]) rfl PassesOwn.never (src_L (pd_call (cal_L_all_lots t) hr (pa_d (pd_lenT (t.free 61) (nv 0 rfl)) pa_n) ⟨kin.length, hk.2, by rw [List.length_map], rfl⟩ (fun d' ⟨m', _, h, h'⟩ => by have := natInt_inj h; rw [List.length_map] at this; rw [h', this])))
      (pg_name (i := 2) sc_L_least_lots.nd rfl (.inr rfl)) ⟨.inr rfl, .inr rfl, .inl rfl, .inl rfl, .inl rfl, .inl rfl, .inl rfl, .inl rfl, .inl rfl, trivial⟩ (fun i a h => ?_) ?_
    · have hal := allLots_mem_len (List.mem_of_getElem? h)
      refine bd_one (b1_if (k := meetsAll a kin) (pt_vd ((pd_allC (g := fun o => hasSome a o) (t.free 62) rfl (comp1 "_law_own" 4 (as := kin) (enc := dI) (f := fun o => .bool (hasSome a o)) rfl sc_L_least_lots.nd (src_T (nv 0 rfl)) (blkOk_by (N := N_L_least_lots) (sc := defScope s_L_least_lots) (by decide +kernel)) (fun _ _ _ _ _ => pg_name (i := 4) sc_L_least_lots.nd rfl (Or.inr rfl)) (by omega)
        (fun o ho s H C cl fp => pd_anyC (g := fun k => decide (k ∈ o)) (t.free 67) rfl (comp1 "_law_member" 3 (as := a) (enc := .int) (f := fun k => .bool (decide (k ∈ o))) rfl sc_L_least_lots.nd (src_T (nv 2 rfl)) (blkOk_by (N := N_L_least_lots) (by kernel_rfl)) (fun _ _ _ _ _ => pg_name (i := 3) sc_L_least_lots.nd rfl (Or.inl rfl)) (by omega)
          (fun k hk' s H C cl fp => pd_inT (nv 3 rfl) (nv 4 rfl)))))).eq rfl)) (fun hT => ?_) (fun hF => ?_))
      · have hlen : (((allLots kin.length).take i).filter fun l => meetsAll l kin).length ≤ 16 := Nat.le_trans (List.length_filter_le _ _) (by rw [List.length_take]; omega)
        refine bd_cons (b1_tdput hr 1 rfl (nv 2 rfl) pn_bl ?_ (by omega)) (fun G g => ?_)
        · intro hm
          have hm2 := (List.mem_filter.mp hm).1
          have hnd := allLots_nodup kin.length
          obtain ⟨j, hj⟩ := List.mem_iff_getElem?.mp hm2
          have hji := (List.getElem?_eq_some_iff.mp hj).1
          rw [List.length_take] at hji
          rw [List.getElem?_take_of_lt (by omega)] at hj
          have := (List.getElem?_inj (by omega) hnd).mp (hj.trans h.symm)
          omega
        · subst g
          refine bd_end ⟨.inr rfl, .inr ?_, .inl rfl, .inl rfl, .inl rfl, .inl rfl, .inl rfl, .inl rfl, .inl rfl, trivial⟩
          rw [take_snoc h, filt_pos (fun l => meetsAll l kin) hT]
          rfl
      · refine bd_end ⟨.inr rfl, .inr ?_, .inl rfl, .inl rfl, .inl rfl, .inl rfl, .inl rfl, .inl rfl, .inl rfl, trivial⟩
        rw [take_snoc h, filt_neg (fun l => meetsAll l kin) hF]
    · rw [List.take_length]
      have hlen : (hitsOf kin).length ≤ 16 := Nat.le_trans (List.length_filter_le _ _) hl16
      refine bd_setL 5 sc_L_least_lots.nd (ds := []) (pl_lst pa_n (fun ds h => by rw [h]; simp)) ?_
      refine bd_cons (b1_tdfor (Gs := fun p od xs n G => le [.dat (dK kin), .own (TDF P w p od xs (hitsOf kin)), .non, .non, .non, .own (Lst ((((hitsOf kin).take n).filter fun l => !((sparedOf l).any fun z => decide (z ∈ hitsOf kin))).map dI)), .non, .non, .non] G) 1 2 (ls := hitsOf kin) rfl PassesOwn.never rfl (pg_name (i := 2) sc_L_least_lots.nd rfl (.inr rfl)) (fun p od xs => ⟨.inr rfl, .inr rfl, .inl rfl, .inl rfl, .inl rfl, .inr rfl, .inl rfl, .inl rfl, .inl rfl, trivial⟩) (fun p od xs n G g => le_get g rfl (by simp)) (fun p od xs n l G hl g => ?_)) (fun G ⟨p, od, xs, G', g1, g2⟩ => ?_)
      · refine BD.weak ?_ (bd_for1.le_set g)
        have hla : l ∈ allLots kin.length := (List.mem_filter.mp (List.mem_of_getElem? hl)).1
        have hal := allLots_mem_len hla
        refine bd_lc 6 (comp1 "_law_at" 7 (as := List.range l.length) (enc := fun k => .int (k : Nat)) (f := fun k => dI (l.take k ++ l.drop (k + 1))) rfl sc_L_least_lots.nd (src_rng (t.free 63) ((pd_lenT (t.free 61) (nv 2 rfl)).eq (by rw [List.length_map])) (by omega)) (blkOk_by (N := N_L_least_lots) (sc := defScope s_L_least_lots) (by decide +kernel)) (fun _ _ _ _ _ => pg_name (i := 7) sc_L_least_lots.nd rfl (Or.inl rfl)) (by simp; omega)
          (fun k hk' s H C cl fp => ?_)) ?_
        · have hkl := List.mem_range.mp hk'
          refine PD.eq (pd_cat (pd_slT (nv 2 rfl) .no (.yes (nv 7 rfl))) (pd_slT (nv 2 rfl) (.yes (pd_add (nv 7 rfl) pn_int)) .no) ?_) ?_
          · rw [cut_lo l k (by omega), show ((k : Nat) : Int) + 1 = ((k + 1 : Nat) : Int) by omega, cut_hi l (k + 1) hkl, List.length_map, List.length_map, List.length_take, List.length_drop]
            omega
          · rw [cut_lo l k (by omega), show ((k : Nat) : Int) + 1 = ((k + 1 : Nat) : Int) by omega, cut_hi l (k + 1) hkl, ← List.map_append]
        · refine bd_freeze 6 rfl ?_
          refine bd_one (b1_if (k := !((sparedOf l).any fun z => decide (z ∈ hitsOf kin))) (pt_notd (pt_vd (pd_anyC (g := fun z => decide (z ∈ hitsOf kin)) (t.free 67) rfl (comp1 "_law_less" 8 (as := sparedOf l) (enc := dI) (f := fun z => .bool (decide (z ∈ hitsOf kin))) rfl sc_L_least_lots.nd (src_L (PD.eq (nv 6 rfl) (by rw [sparedOf, List.map_map]; rfl))) (blkOk_by (N := N_L_least_lots) (sc := defScope s_L_least_lots) (by decide +kernel)) (fun _ _ _ _ _ => pg_name (i := 8) sc_L_least_lots.nd rfl (Or.inl rfl)) (by simp [sparedOf]; omega)
            (fun z hz s H C cl fp => pd_tdIn hr 1 (nv 8 rfl) rfl))))) (fun hT => ?_) (fun hF => ?_))
          · have hlen2 : (((hitsOf kin).take n).filter fun l => !((sparedOf l).any fun z => decide (z ∈ hitsOf kin))).length ≤ 16 := Nat.le_trans (List.length_filter_le _ _) (by rw [List.length_take]; omega)
            refine bd_app 5 rfl (nv 2 rfl) (by rw [List.length_map]; omega) (bd_end ⟨.inr rfl, .inr rfl, .inl rfl, .inl rfl, .inl rfl, .inr ?_, .inl rfl, .inl rfl, .inl rfl, trivial⟩)
            rw [take_snoc hl, filt_pos (fun l => !((sparedOf l).any fun z => decide (z ∈ hitsOf kin))) hT, List.map_append]
            rfl
          · refine bd_end ⟨.inr rfl, .inr rfl, .inl rfl, .inl rfl, .inl rfl, .inr ?_, .inl rfl, .inl rfl, .inl rfl, trivial⟩
            rw [take_snoc hl, filt_neg (fun l => !((sparedOf l).any fun z => decide (z ∈ hitsOf kin))) hF]
      · rw [List.take_length] at g1
        subst g2
        have e5 := le_get g1 (i := 5) rfl (by simp)
        have e5' : (G'.set 1 (.own (TD P w (hitsOf kin))))[5]? = some (.own (Lst ((leastL kin).map dI))) := by
          rw [List.getElem?_set_ne (by decide)]; exact e5
        refine bd_freeze 5 e5' ?_
        have hgl : 5 < (G'.set 1 (Slot.own (TD P w (hitsOf kin)))).length := (List.getElem?_eq_some_iff.mp e5').1
        have hne : ∀ l ∈ leastL kin, l ≠ [] := fun l hl => by
          rw [leastL_eq] at hl
          exact isLeast_ne hk.1 (List.mem_filter.mp hl).2
        refine bd_retd (PLD.pd (pl_sorted hr (t.free 68) (nv 5 (d := .list ((leastL kin).map dI)) (List.getElem?_set_self hgl)) ?_ ?_ ?_ ?_)) ⟨kin, hk, rfl, _, by rw [← leastL_eq]; exact List.mergeSort_perm _ _, rfl⟩
        · intro d1 h1 d2 h2
          obtain ⟨l1, _, rfl⟩ := List.mem_map.mp h1
          obtain ⟨l2, _, rfl⟩ := List.mem_map.mp h2
          simp only [PySem.W.alike]
          exact alike_ints l1 l2
        · refine .inl fun d1 h1 => ?_
          obtain ⟨l1, g1, rfl⟩ := List.mem_map.mp h1
          cases l1 with
          | nil => exact absurd rfl (hne _ g1)
          | cons x r => exact ⟨.int x, r.map .int, rfl⟩
        · intro l hl
          have := depth_ints l
          simp only [PyData.depth]
          omega
        · exact Nat.le_trans (List.length_filter_le _ _) (by omega)))
    rfl rfl (fun _ _ _ _ _ _ us hl => match us, hl with | [_], _ => rfl)
end
end OC
set_option Elab.async false
set_option linter.all false
set_option maxRecDepth 100000
set_option maxHeartbeats 4000000
namespace OC
open PySem PySem.Spec PyProof.Rows L2
section
variable {X : Cx} {B : Bs} {Γ : List Slot}
theorem comp_okZ {wi : TI} {Z : L2.St → Hp → Prop} {elt : Expr} {ifs : List Expr} {scope : Scope} {own : List (Str × Nat)} {SL : List PyData → Prop} {g : TG} {Rl : List PyData → Nat → List PyData → Prop} {Γi : List PyData → Nat → PyData → List Slot} {Tb : List PyData → Nat → PyData → Bool → Prop} {Se : List PyData → Nat → PyData → PyData → Prop}
    (hw : ∀ (σ : L2.St) (Hf H : Hp), SA B Γ σ Hf H → Z σ H → ∀ R : It → Hp → Prop, (∀ J ds Hf2 H2, SL ds → FEx B.w Hf H Hf2 H2 → SA B Γ σ Hf2 H2 → Walk J ds.length (fun H' => Same Hf2 H') (YD Hf2 ds) → R J H2) → wi σ H R)
    (hz : ∀ ds, SL ds → ds.length ≤ 100000)
    (h0 : ∀ ds, SL ds → Rl ds 0 [])
    (hb : ∀ (ds : List PyData) (i : Nat) (d : PyData), SL ds → ds[i]? = some d → Tg g d (wipeG Γ (own.map (·.2))) (Γi ds i d) B (own.map (·.2)))
    (ht : ∀ (ds : List PyData) (i : Nat) (d : PyData), SL ds → ds[i]? = some d → ∀ (s : Shared) (H : Hp) (C : Addr) (cl : List (Str × Addr)) (fp : List Addr), PQ (X.blk s H scope (compEnvC scope cl C X.env) fp) B (Γi ds i d) ifs (Tb ds i d))
    (he : ∀ (ds : List PyData) (i : Nat) (d : PyData), SL ds → ds[i]? = some d → Tb ds i d true → ∀ (s : Shared) (H : Hp) (C : Addr) (cl : List (Str × Addr)) (fp : List Addr), PN (X.blk s H scope (compEnvC scope cl C X.env) fp) B (Γi ds i d) elt (Se ds i d))
    (hs1 : ∀ (ds : List PyData) (i : Nat) (d : PyData) (acc : List PyData) (r : PyData), SL ds → ds[i]? = some d → Rl ds i acc → Tb ds i d true → Se ds i d r → Rl ds (i + 1) (acc ++ [r]))
    (hs2 : ∀ (ds : List PyData) (i : Nat) (d : PyData) (acc : List PyData), SL ds → ds[i]? = some d → Rl ds i acc → Tb ds i d false → Rl ds (i + 1) acc) :
    ∀ (σ : L2.St) (Hf H : Hp), SA B Γ σ Hf H → Z σ H → ∀ Q : VK, (∀ p vs rs Hf' H', (∃ ds, SL ds ∧ Rl ds ds.length rs) → H p = none → FEx B.w Hf H Hf' H' → SA B Γ σ Hf' H' → H' p = some (.lst vs) → Hf' p = none → DqAll Hf' vs rs → Q (.ref p) H') → tLc wi g (TQB X scope ifs) (TEB X scope elt) (own.map (·.2)) σ H Q := by
  intro σ Hf H s z0 Q q
  refine hw σ Hf H s z0 _ fun J ds Hf1 H1 hds e1 s1 W D hD => ?_
  have hDH : H D = none := by
    cases k : H D with
    | none => rfl
    | some u => exact absurd hD (e1.there D (by rw [k]; simp))
  have hDB : B.H D = none := by
    cases k : B.H D with
    | none => rfl
    | some u => exact absurd hD (s1.fx.there D (by rw [k]; simp))
  have hDw : B.w ≠ some D := fun z => by
    obtain ⟨_, v0, v1, a, b, gs, ss, k1, _⟩ := s1.pl D z
    rw [hD] at k1; cases k1
  have own0 : ∀ (i : Nat) (φ : Addr → Hp → HO → Prop), (wipeG Γ (own.map (·.2)))[i]? = some (.own φ) → (wipe σ (own.map (·.2)))[i]? ≠ some (some (.ref D)) := fun i φ h1 h2 => by
    obtain ⟨_, p', o', k1, k2, _⟩ := (s1.wiped (own.map (·.2))).own i φ h1
    rw [h2] at k1; cases k1
    rw [hD] at k2; cases k2
  refine lc_it (g := g) (tt := TQB X scope ifs) (te := TEB X scope elt) (vs := own.map (·.2)) (σ := σ) (H1 := H1) (D := D) (Qd := Q (.ref D)) W (fun i H' => ∃ Hf' acc vs, SA B (wipeG Γ (own.map (·.2))) (wipe σ (own.map (·.2))) Hf' H' ∧ Same Hf1 Hf' ∧ FEx B.w Hf H Hf' H' ∧ H' D = some (.lst vs) ∧ Hf' D = none ∧ DqAll Hf' vs acc ∧ Rl ds i acc ∧ acc.length ≤ i) ?_ ?_ ?_ ?_
  · have e2 : FEx B.w Hf1 H1 Hf1 (upd H1 D (.lst [])) := FEx.own s1.sub hD
    refine ⟨Hf1, [], [], ?_, Same.refl _, e1.trans e2, upd_same, s1.sub.free hD, .nil, h0 ds hds, Nat.zero_le _⟩
    exact (s1.wiped _).wr (s1.sub.free hD) hDB hDw own0
  · intro i H' _ h
    obtain ⟨Hf', acc, vs, g1, g2, g3, g4, g5, g6, g7, g8⟩ := h
    exact g2.trans g1.sub
  · intro i x H' H'' hi h y
    obtain ⟨Hf', acc, vs, g1, g2, g3, g4, g5, g6, g7, g8⟩ := h
    obtain ⟨Hf2, d, e2, hd, dx⟩ := y Hf' g2 g1.sub
    have s2 := g1.next0 e2
    refine hb ds i d hds hd _ Hf2 H'' x s2 dx _ fun σ2 hwp s3 => ⟨hwp.trans (wipe_sub fun _ h => h), fun st H0 C cl fp => ?_⟩
    refine ht ds i d hds hd st H0 C cl fp σ2 Hf2 H'' s3 _ fun b Hf3 H3 hb' e3 s4 => ?_
    have eq : FEx B.w Hf' H' Hf3 H3 := (e2.wk).trans e3
    have hD3 : H3 D = some (.lst vs) := eq.keep D _ hDw g4
    have hf3 : Hf3 D = none := eq.excl D (by rw [g4]; simp) g5
    have back : ∀ {Hf4 H4 : Hp}, FEx B.w Hf' H' Hf4 H4 → SA B (Γi ds i d) σ2 Hf4 H4 → SA B (wipeG Γ (own.map (·.2))) (wipe σ (own.map (·.2))) Hf4 H4 := fun {Hf4 H4} e4 s5 => g1.next e4 s5.pl
    cases b with
    | false =>
      rw [if_neg Bool.false_ne_true]
      exact ⟨Hf3, acc, vs, back eq s4, g2.trans eq.ff, g3.trans eq, hD3, hf3, dqAll_mono eq.ff _ _ g6, hs2 ds i d acc hds hd g7 hb', by omega⟩
    | true =>
      rw [if_pos rfl]
      intro st H0 C cl fp
      refine he ds i d hds hd hb' st H0 C cl fp σ2 Hf3 H3 s4 _ fun v r Hf4 H4 hr e4 s5 dv => ?_
      have eq4 := eq.trans e4
      have hD4 : H4 D = some (.lst vs) := eq4.keep D _ hDw g4
      have hf4 : Hf4 D = none := eq4.excl D (by rw [g4]; simp) g5
      have hlen := g6.length
      have hzz := hz ds hds
      refine ⟨vs, hD4, Evl.sz_lt (by omega), Hf4, acc ++ [r], vs ++ [v], ?_, g2.trans eq4.ff, (g3.trans eq4).write (.inl hDH) hf4, upd_same, hf4, (dqAll_mono eq4.ff _ _ g6).append (.one dv), hs1 ds i d acc r hds hd g7 hb' hr, by simp; omega⟩
      exact (back eq4 s5).wr hf4 hDB hDw own0
  · intro H' h
    obtain ⟨Hf', acc, vs, g1, g2, g3, g4, g5, g6, g7, g8⟩ := h
    exact q D vs acc Hf' H' ⟨ds, hds, g7⟩ hDH g3 (s.next g3 g1.pl) g4 g5 g6

end
section
variable {P : Program} {w : World} {K : PySem.W.Frag} {mg : Str → Option Value} {base : Heap}
theorem cut_63 (ns : List Int) (h : ns.length ≤ 63) : cutV (ns.map V.int) none (some 63) = ns.map V.int := by
  unfold cutV
  rw [show HT.sIx (ns.map V.int).length (ns.map V.int).length (some 63) = min 63 (ns.map V.int).length from HT.sIx_nat _ _ 63, HT.sIx_none, List.drop_zero, List.length_map, Nat.sub_zero]
  exact List.take_of_length_le (by rw [List.length_map]; omega)
/-- the script's call: a pool comes -/
def spL (K : PySem.W.Frag) : Sp := fun vs H Q _ => ∃ (a : Addr) (ns : List Int), vs = [.ref a] ∧ SqL K H a (ns.map V.int) ∧ ns.length ≤ 63 ∧ ∀ p Hf' H', FEx none (fun _ => none) H Hf' H' → H p = none → PoolOk Hf' H' p → Q (.ref p) H'
theorem pow18 : (10 : Int) ^ (18 : Int).toNat = 1000000000000000000 := by decide +kernel
theorem ok_pool (t : Top K mg) {f : Addr} {fd : FuncData} (F : FunD K "_law_pool" "_law_pool" (defArgs s_L_pool) (defBody s_L_pool) (defScope s_L_pool) [] [] f fd) : FnOk P w K mg base CX0 1 f fd ["_law_script"] (spL K) := by
  refine F.ok sc_L_pool (fun vs H Q E h => ?_) (fun cdv A outer s H vs Q E hr h => ?_)
  · obtain ⟨a, ns, rfl, _⟩ := h
    rfl
  · obtain ⟨a, ns, rfl, hs, hl, q⟩ := h
    have c18 : CPow 10 18 := ⟨by decide, by decide, by decide⟩
    refine ⟨_, PSs.nox pss_S, ?_⟩
    let B : Bs := ⟨none, fun _ => none, H⟩
    have Z0 : ∀ {Γ : List Slot} {σ : L2.St} {Hf H1 : Hp}, SA B Γ σ Hf H1 → SqL K H1 a (ns.map V.int) := fun s => Evl.ex_l (fun c o h => s.fx.keep c o (by simp [B]) h) hs
    have hw : ∀ {Γ : List Slot} {σ : L2.St} {Hf H1 : Hp} {R : It → Hp → Prop}, SA B Γ σ Hf H1 → (∀ J ds Hf2 H2, ds = ns.map PyData.int → FEx B.w Hf H1 Hf2 H2 → SA B Γ σ Hf2 H2 → Walk J ds.length (fun H' => Same Hf2 H') (YD Hf2 ds) → R J H2) → ∀ l, H1 l = none → ∃ a', V.ref l = .ref a' ∧ (∃ xs, SqL K (upd H1 l (.lst (cutV (ns.map V.int) none (some 63)))) a' xs) ∧ R (Itl K a') (upd H1 l (.lst (cutV (ns.map V.int) none (some 63)))) := by
      intro Γ σ Hf H1 R s q l hl'
      rw [cut_63 ns hl]
      obtain ⟨e2, s2⟩ := s.neu (o := .lst (ns.map V.int)) hl'
      refine ⟨l, rfl, ⟨_, SqL.of upd_same⟩, q _ (ns.map .int) _ _ rfl e2 s2 ?_⟩
      rw [show (ns.map PyData.int).length = (ns.map V.int).length by simp]
      exact walk_list.mono (fun H' e => SqL.of (e _ _ upd_same)) fun i H' x H'' _ _ y => yd_at (DqAll.of_ints ns) y.1 y.2
    have s0 : SA B (ent N_L_pool (dats [])) (L2.start N_L_pool []) (fun _ => none) H := sa_start (fun _ _ h => by cases h) .nil
    have s1 : SA B [.non, .non, .non, .non] [some (.ref a), none, none, none] (fun _ => none) H := by
      refine ⟨s0.fx, s0.pl, rfl, fun i d h => ?_, fun i φ h => ?_, fun i j φ ψ p n h => ?_, fun i h => ?_⟩
      all_goals
        exfalso
        match i, h with
        | 0, h => cases h
        | 1, h => cases h
        | 2, h => cases h
        | 3, h => cases h
        | n + 4, h => simp at h
    have at_ : ∀ {ds : List PyData} {i : Nat} {d : PyData}, ds = ns.map PyData.int → ds[i]? = some d → ∃ n : Int, d = .int n := fun {ds i d} h hd => by
      subst h
      obtain ⟨n, _, rfl⟩ := List.mem_map.mp (List.mem_of_getElem? hd)
      exact ⟨n, rfl⟩
    refine Ss.cons (S1.of (ps_setLc (i := 1) (own := [("_law_cell", 2)]) (tt := TQB _ _ _) (te := TEB _ _ _) rfl sc_L_pool.nd rfl rfl (by exact sw_true rfl rfl rfl (by decide +kernel)) (pi_list (pe_slice sl_list (pv 0) po_none (po_some pe_int))) (blkOk_by (N := N_L_pool) (sc := defScope s_L_pool) (by decide +kernel)) (fun _ _ _ _ _ => pg_name (i := 2) sc_L_pool.nd rfl (Or.inl rfl)) (fun s H C cl fp => ⟨fun pins st _ _ _ I h => h s H C cl fp pins st I⟩) (fun s H C cl fp => ⟨fun pins st _ _ _ I h => h s H C cl fp pins st I⟩)) ?_)
    refine comp_okZ (own := [("_law_cell", 2)]) (Z := fun σ _ => σ[0]? = some (some (.ref a))) (SL := fun ds => ds = ns.map PyData.int) (Rl := fun _ _ acc => ∃ gs : List Int, acc = gs.map .int) (Γi := fun ds i d => List.set [.non, .non, .non, .non] 2 (.dat d)) (Tb := fun _ _ _ _ => True) (Se := fun _ _ _ r => ∃ n : Int, r = .int n) (fun σ Hf H1 s z R q => ⟨.ref a, z, 63, rfl, a, ns.map V.int, rfl, Z0 s, hw s q⟩) (fun ds h => by rw [h, List.length_map]; omega) (fun ds h => ⟨[], rfl⟩) (fun ds i d h hd => wipe_put) (fun ds i d h hd s H C cl fp => ?_) (fun ds i d h hd hT s H C cl fp => ?_) (fun ds i d acc r h hd ⟨gs, g1⟩ hT ⟨n, hn⟩ => ⟨gs ++ [n], by rw [g1, hn, List.map_append]; rfl⟩) (fun ds i d acc h hd hR hT => hR) _ _ _ s1 rfl _ (fun p1 vs rs Hf1 H1 ⟨ds, _, gs, hgs⟩ h0 e1 s2 k1 k2 dq => ?_)
    · obtain ⟨n, rfl⟩ := at_ h hd
      exact pq_one (pt_weak (pt_ge' (pd_abs (t.free 71) (nv 2 rfl)) ((pd_pow pn_int pn_int c18).eq (congrArg PyData.int pow18))))
    · obtain ⟨n, rfl⟩ := at_ h hd
      exact (pd_abs (t.free 71) (nv 2 rfl)).mono fun d hd => ⟨_, hd⟩
    have s3 := s1.takeN s2 1 h0 k1 k2 lst_mono ⟨vs, rfl, dq⟩
    subst hgs
    refine Ss.cons (S1.of (ps_setLc (i := 3) (own := [("_law_cell", 2)]) (tt := TQB _ _ _) (te := TEB _ _ _) rfl sc_L_pool.nd rfl rfl (by exact sw_true rfl rfl rfl (by decide +kernel)) (pi_list (pe_slice sl_list (pv 0) po_none (po_some pe_int))) (blkOk_by (N := N_L_pool) (sc := defScope s_L_pool) (by decide +kernel)) (fun _ _ _ _ _ => pg_name (i := 2) sc_L_pool.nd rfl (Or.inl rfl)) (fun s H C cl fp => ⟨fun pins st _ _ _ I h => h s H C cl fp pins st I⟩) (fun s H C cl fp => ⟨fun pins st _ _ _ I h => h s H C cl fp pins st I⟩)) ?_)
    refine comp_okZ (own := [("_law_cell", 2)]) (Z := fun σ _ => σ[0]? = some (some (.ref a))) (SL := fun ds => ds = ns.map PyData.int) (Rl := fun _ _ acc => ∃ gs : List Int, acc = gs.map .int) (Γi := fun ds i d => List.set _ 2 (.dat d)) (Tb := fun _ _ _ _ => True) (Se := fun _ _ _ r => ∃ n : Int, r = .int n) (fun σ Hf H1 s z R q => ⟨.ref a, z, 63, rfl, a, ns.map V.int, rfl, Z0 s, hw s q⟩) (fun ds h => by rw [h, List.length_map]; omega) (fun ds h => ⟨[], rfl⟩) (fun ds i d h hd => wipe_put) (fun ds i d h hd s H C cl fp => ?_) (fun ds i d h hd hT s H C cl fp => ?_) (fun ds i d acc r h hd ⟨gs, g1⟩ hT ⟨n, hn⟩ => ⟨gs ++ [n], by rw [g1, hn, List.map_append]; rfl⟩) (fun ds i d acc h hd hR hT => hR) _ _ _ s3 rfl _ (fun p2 vs2 rs2 Hf2 H2 ⟨ds2, _, ss, hss⟩ h02 e2 s4 k3 k4 dq2 => ?_)
    · obtain ⟨n, rfl⟩ := at_ h hd
      exact pq_one (pt_weak (pt_lt' (pd_abs (t.free 71) (nv 2 rfl)) ((pd_pow pn_int pn_int c18).eq (congrArg PyData.int pow18))))
    · obtain ⟨n, rfl⟩ := at_ h hd
      exact (pd_mod (pd_int1 (t.free 59) (nv 2 rfl)) pn_int (by decide)).mono fun d hd => ⟨_, hd⟩
    have s5 := s3.takeN s4 3 h02 k3 k4 lst_mono ⟨vs2, rfl, dq2⟩
    subst hss
    obtain ⟨Hf3, f3, s6⟩ := s5.freeze (i := 1) rfl
    obtain ⟨Hf4, f4, s7⟩ := s6.freeze (i := 3) rfl
    refine Ss.cons (S1.of (ps_ret pe_E) ?_)
    refine (pl_lst (S := fun ds => ds = [dL gs, dL ss, .int 0, .int 0]) (pa_d (nv 1 rfl) (pa_d (nv 3 rfl) (pa_d pn_int (pa_d pn_int pa_n)))) (fun ds h => by rw [h]; show 4 ≤ 100000; decide)) _ Hf4 H2 s7 _ fun p vs3 ds3 Hf5 H5 hd5 h05 e5 s8 k5 k6 dq5 => ?_
    subst hd5
    have e6 : FEx none (fun _ => none) H Hf5 H5 := s8.fx
    refine q p Hf5 H5 e6 ?_ ⟨k6, ?_⟩
    · cases z : H p with
      | none => rfl
      | some o => exact absurd h05 (s7.fx.there p (by show H p ≠ none; rw [z]; simp))
    · obtain ⟨v0, v1, v2, v3, e7, d0, d1, d2, d3⟩ : ∃ v0 v1 v2 v3, vs3 = [v0, v1, v2, v3] ∧ Dq Hf5 v0 (dL gs) ∧ Dq Hf5 v1 (dL ss) ∧ Dq Hf5 v2 (.int 0) ∧ Dq Hf5 v3 (.int 0) := by
        cases dq5 with
        | cons a1 dq5 => cases dq5 with
          | cons a2 dq5 => cases dq5 with
            | cons a3 dq5 => cases dq5 with
              | cons a4 dq5 =>
                cases dq5
                exact ⟨_, _, _, _, rfl, a1, a2, a3, a4⟩
      cases d2; cases d3
      exact ⟨v0, v1, 0, 0, gs, ss, by rw [k5, e7], d0, d1⟩
end
end OC
set_option Elab.async false
set_option linter.all false
set_option maxRecDepth 100000
set_option maxHeartbeats 4000000
namespace OC
open PySem PySem.Spec PyProof.Rows L2
section
variable {X : Cx} {B : Bs} {Γ : List Slot} {a b c : Expr} {p pos : Pos}
theorem pn_isN {k : Bool} {j pos'} (ha : PN X B Γ a (fun d => isN d = k)) : PD X B Γ (.Compare a [.Is] [.Constant .none j pos'] pos) (.bool k) := fun σ Hf H s Q q => E.of (pe_cmp (pc_isN pe_E)) (ha σ Hf H s _ fun v d' Hf' H' hd e s' dq => by
  rw [dq_isN dq, hd]; exact q _ _ Hf' H' rfl e s' (.bl _))
theorem pn_notN {k : Bool} {j pos'} (ha : PN X B Γ a (fun d => isN d = k)) : PD X B Γ (.Compare a [.IsNot] [.Constant .none j pos'] pos) (.bool (!k)) := fun σ Hf H s Q q => E.of (pe_cmp (pc_notN pe_E)) (ha σ Hf H s _ fun v d' Hf' H' hd e s' dq => by
  rw [dq_isN dq, hd]; exact q _ _ Hf' H' rfl e s' (.bl _))
end
section
variable {X : Cx} {B : Bs} {Γ : List Slot} {e : Expr} {pos : Pos}
theorem pn_slT {S : List PyData → Prop} {lo hi : Option Expr} {i j : Option Int} {p2 : Pos} (h : PN X B Γ e (fun d => ∃ ds, S ds ∧ d = .tuple ds)) (hl : PB X B Γ lo i) (hu : PB X B Γ hi j) : PN X B Γ (.Subscript e (.Slice lo hi none p2) pos) (fun d => ∃ ds, S ds ∧ d = .tuple (cutD ds i j)) := fun σ Hf H s Q q =>
  E.of (pe_slice sl_tupA pe_E po_PB po_PB) (h σ Hf H s _ fun v d Hf1 H1 hd e1 s1 dq => hl.run σ Hf1 H1 s1 _ fun Hf2 H2 e2 s2 => hu.run σ Hf2 H2 s2 _ fun Hf3 H3 e3 s3 => by
    obtain ⟨ds, hS, rfl⟩ := hd
    obtain ⟨a, vs, rfl, h1, h2⟩ := dq_tup (dq_mono (e2.ff.trans e3.ff) _ _ dq)
    refine ⟨a, vs, rfl, SqT.of (s3.sub _ _ h1), fun hw => ?_, fun _ p hp => ?_⟩
    · refine q _ _ Hf3 H3 ⟨ds, hS, ?_⟩ ((e1.trans e2).trans e3) s3 (.tup h1 h2)
      rw [h2.length] at hw
      unfold cutD
      rw [hw.1, hw.2, List.drop_zero, Nat.sub_zero, List.take_length]
    · obtain ⟨e4, s4⟩ := s3.neu (o := .tup (cutV vs i j)) hp
      exact q _ _ _ _ ⟨ds, hS, rfl⟩ (((e1.trans e2).trans e3).trans e4) s4 (.tup upd_same (dqAll_mono e4.ff _ _ (cut_dq h2 i j))))
end
theorem cut_4 (c : List Int) : cutD (c.map PyData.int) none (some 4) = (c.take 4).map .int := by
  unfold cutD
  rw [show HT.sIx (c.map PyData.int).length (c.map PyData.int).length (some 4) = min 4 (c.map PyData.int).length from HT.sIx_nat _ _ 4, HT.sIx_none, List.length_map, List.drop_zero, Nat.sub_zero, ← List.map_take]
  congr 1
  by_cases h : 4 ≤ c.length
  · rw [Nat.min_eq_left h]
  · rw [Nat.min_eq_right (by omega), List.take_of_length_le (Nat.le_refl _), List.take_of_length_le (by omega)]
theorem rows_at {c : List Int} {i : Nat} (h : i < (prodI c).toNat) : atI ((rowsOf c).map dI) ((i : Nat) : Int) = some (dI (slips c ((i : Nat) : Int))) := by
  refine atI_nat ?_
  rw [List.getElem?_map, rowsOf, List.getElem?_map, List.getElem?_range h]
  rfl
theorem eqv_dP (a b : Int × Int) : PyData.eqv (dP a) (dP b) = decide (a = b) := by
  have := eqv_dI [a.1, a.2] [b.1, b.2]
  refine this.trans (decide_eq_decide.mpr ⟨fun h => ?_, fun h => by rw [h]⟩)
  injection h with h1 h2
  injection h2 with h2 _
  exact Prod.ext h1 h2
theorem any_dP (ls : List (Int × Int)) (u : Int × Int) : ((ls.map dP).any fun z => PyData.eqv z (dP u)) = decide (u ∈ ls) := by
  rw [List.any_map, Bool.eq_iff_iff, List.any_eq_true, decide_eq_true_iff]
  constructor
  · rintro ⟨l, h1, h2⟩
    have h3 : PyData.eqv (dP l) (dP u) = true := h2
    rw [eqv_dP] at h3
    rw [← of_decide_eq_true h3]; exact h1
  · intro h
    refine ⟨u, h, ?_⟩
    show PyData.eqv (dP u) (dP u) = true
    rw [eqv_dP, decide_eq_true rfl]
theorem shaped_dP (p : Int × Int) : SeqAt.shaped (dP p) = true := shaped_dI [p.1, p.2]
/-- the boxes of a row, of all rows -/
def barsRow (c : List Int) (kin : List (List Int)) (tt : List Int) (i n : Nat) : List (Int × Int) := ((List.range n).filter fun j => isB c kin tt ((i : Nat) : Int) ((j : Nat) : Int)).map fun j => (((i : Nat) : Int), ((j : Nat) : Int))
def barsOf (c : List Int) (kin : List (List Int)) (tt : List Int) (m n : Nat) : List (Int × Int) := (List.range m).flatMap fun i => barsRow c kin tt i n
theorem barsRow_succ (c : List Int) (kin : List (List Int)) (tt : List Int) (i n : Nat) : barsRow c kin tt i (n + 1) = barsRow c kin tt i n ++ if isB c kin tt ((i : Nat) : Int) ((n : Nat) : Int) = true then [(((i : Nat) : Int), ((n : Nat) : Int))] else [] := by
  unfold barsRow
  rw [List.range_succ, List.filter_append, List.map_append]
  congr 1
  split
  · next h => simp [h]
  · next h => simp [h]
theorem barsOf_succ (c : List Int) (kin : List (List Int)) (tt : List Int) (m n : Nat) : barsOf c kin tt (m + 1) n = barsOf c kin tt m n ++ barsRow c kin tt m n := by
  unfold barsOf
  rw [List.range_succ, List.flatMap_append]
  simp
theorem mem_bars {c : List Int} {kin : List (List Int)} {tt : List Int} {n : Nat} {q : Int × Int} : q ∈ barsOf c kin tt n n ↔ (0 ≤ q.1 ∧ q.1 < n) ∧ (0 ≤ q.2 ∧ q.2 < n) ∧ isB c kin tt q.1 q.2 = true := by
  unfold barsOf barsRow
  simp only [List.mem_flatMap, List.mem_map, List.mem_filter, List.mem_range]
  constructor
  · rintro ⟨i, h1, j, ⟨h2, h3⟩, rfl⟩
    exact ⟨by simp; omega, by simp; omega, h3⟩
  · rintro ⟨h1, h2, h3⟩
    refine ⟨q.1.toNat, by omega, q.2.toNat, ⟨by omega, ?_⟩, ?_⟩
    · rw [Int.toNat_of_nonneg h1.1, Int.toNat_of_nonneg h2.1]; exact h3
    · rw [Int.toNat_of_nonneg h1.1, Int.toNat_of_nonneg h2.1]
theorem bars_len (c : List Int) (kin : List (List Int)) (tt : List Int) (i n : Nat) : (barsRow c kin tt i n).length ≤ n := by
  unfold barsRow
  rw [List.length_map]
  exact Nat.le_trans (List.length_filter_le _ _) (by rw [List.length_range]; exact Nat.le_refl _)
theorem bars_len2 (c : List Int) (kin : List (List Int)) (tt : List Int) (n : Nat) : ∀ m : Nat, (barsOf c kin tt m n).length ≤ m * n
  | 0 => by simp [barsOf]
  | m + 1 => by
    have := bars_len2 c kin tt n m
    have := bars_len c kin tt m n
    rw [barsOf_succ, List.length_append, Nat.add_mul]; omega
/-- what plain sums say of boxes and parts -/
structure PL3 (c : List Int) (kin : List (List Int)) (tt : List Int) : Prop where
  rows : lawRows c = rowsOf c
  none : barred c kin (partsOf c tt) = [] → ∀ i j, Pl c i → Pl c j → isB c kin tt i j = false
  some : ∀ p rest l, sorted (barred c kin (partsOf c tt)) = p :: rest → l ∈ leastOf kin → (∀ k ∈ l, k ∈ speak (slips c p.2)) → Pl c (lineOf c l p.2) ∧ Pl c p.2 ∧ isB c kin tt (lineOf c l p.2) p.2 = true
  sym : ∀ i j, Pl c i → Pl c j → isB c kin tt i j = isB c kin tt j i
section
variable {P : Program} {w : World} {K : PySem.W.Frag} {mg : Str → Option Value} {base : Heap}
theorem ok_law (t : Top K mg) (plain : ∀ c kin tt, ClubOk c → KinO c.length kin → TotOk c tt → PL3 c kin tt) {f : Addr} {fd : FuncData} (F : FunD K "law" "law" (defArgs s_law) (defBody s_law) (defScope s_law) [] [] f fd) (sp : Sp) (hsp : ∀ vs H Q E, sp vs H Q E → ∃ (a : Addr) (ns : List Int), vs = [.ref a] ∧ SqL K H a (ns.map V.int) ∧ ns.length ≤ 63 ∧ ∀ H', Q (.bl true) H') : FnOk P w K mg base CX0 9 f fd ["_law_script"] sp := by
  refine F.ok sc_law (fun vs H Q E h => ?_) (fun cdv A outer s H vs Q E hr h => ?_)
  · obtain ⟨a, ns, rfl, _⟩ := hsp vs H Q E h
    rfl
  · obtain ⟨a, ns, rfl, hs, hl, q⟩ := hsp vs H Q E h
    refine ⟨_, PSs.nox pss_S, ?_⟩
    obtain ⟨fdp, Fp⟩ := t.says.def_ (d := d_L_pool) 36 rfl
    have okp := ok_pool (P := P) (w := w) (base := base) t Fp
    refine Ss.cons (S1.of (ps_set (i := 1) sc_law.nd rfl (.inl rfl) (pe_call okp (hr.mono (by decide)) rfl (t.glo 36) Fp.kp (FunD.bindsN Fp (fun _ _ _ _ _ _ us hl => match us, hl with | [_], _ => rfl)) .nil pass0 (pa_cons (pv 0) pa_nil) (by decide) rfl rfl)) ?_)
    refine ⟨.ref a, rfl, a, ns, rfl, hs, hl, fun p Hf1 H1 e1 hp0 po => ?_⟩
    let B : Bs := ⟨some p, Hf1, H1⟩
    have s1 : SA B [.non, .pool, .non, .non, .non, .non, .non, .non, .non, .non, .non, .non, .non, .non] [some (.ref a), some (.ref p), none, none, none, none, none, none, none, none, none, none, none, none] Hf1 H1 := by
      have no : ∀ (i : Nat), ∀ x, ([Slot.non, .pool, .non, .non, .non, .non, .non, .non, .non, .non, .non, .non, .non, .non] : List Slot)[i]? = some x → x = .non ∨ (x = .pool ∧ i = 1) := by
        intro i x h
        match i, h with
        | 0, h => cases h; exact .inl rfl
        | 1, h => cases h; exact .inr ⟨rfl, rfl⟩
        | 2, h => cases h; exact .inl rfl
        | 3, h => cases h; exact .inl rfl
        | 4, h => cases h; exact .inl rfl
        | 5, h => cases h; exact .inl rfl
        | 6, h => cases h; exact .inl rfl
        | 7, h => cases h; exact .inl rfl
        | 8, h => cases h; exact .inl rfl
        | 9, h => cases h; exact .inl rfl
        | 10, h => cases h; exact .inl rfl
        | 11, h => cases h; exact .inl rfl
        | 12, h => cases h; exact .inl rfl
        | 13, h => cases h; exact .inl rfl
        | n + 14, h => simp at h
      refine ⟨FEx.refl e1.sub, fun q hq => ?_, rfl, fun i d h => ?_, fun i φ h => ?_, fun i j φ ψ q n h => ?_, fun i h => ?_⟩
      · cases hq; exact po
      · rcases no i _ h with z | z
        · cases z
        · cases z.1
      · rcases no i _ h with z | z
        · cases z
        · cases z.1
      · rcases no i _ h with z | z
        · cases z
        · cases z.1
      · rcases no i _ h with z | z
        · cases z
        · rw [z.2]; exact ⟨p, rfl, rfl⟩
    have main : BD (cxOf CX0 P w K mg base N_law "law" (defScope s_law) f cdv A outer s H E).nox B [.non, .pool, .non, .non, .non, .non, .non, .non, .non, .non, .non, .non, .non, .non] ((defBody s_law).drop 1) (fun _ => False) (fun d => d = .bool true) := by
      refine bd_setN (Se := fun d => ∃ c, ClubOk c ∧ d = dI c) 2 sc_law.nd (PN.mono (pn_slT (S := fun ds => ∃ c, Club8 c ∧ ds = c.map PyData.int) (pn_callP (m := 1) (cal_L_club t) hr rfl (pa_d pn_int pa_n) (fun ds h => h) (fun ds d h ⟨c, h1, h2⟩ => ⟨_, ⟨c, h1, rfl⟩, h2⟩)) .no (.yes pn_int)) (fun d ⟨ds, ⟨c, h1, h2⟩, h3⟩ => ⟨c.take 4, h1.cut, by rw [h3, h2, cut_4]⟩)) (fun d ⟨c, hc, hd⟩ => ?_)
      subst hd
      have h4 := hc.l4
      have h41 := hc.l1
      have hp := hc.pos
      have hq := hc.pr
      refine bd_setN (Se := fun d => ∃ kin, KinO c.length kin ∧ d = dK kin) 3 sc_law.nd (pn_callP (m := 1) (cal_L_kin t) hr rfl (pa_d (pd_lenT (t.free 61) (nv 2 rfl)) pa_n) (fun ds h => ⟨c.length, h41, h4, by rw [h, List.length_map]⟩) (fun ds d h ⟨m, kin, g1, g2, g3⟩ => ⟨kin, ?_, g3⟩)) (fun d ⟨kin, hk, hd⟩ => ?_)
      · rw [h, List.length_map] at g1
        rw [natInt_inj g1]; exact g2
      subst hd
      refine bd_setN (Se := fun d => ∃ tt, TotOk c tt ∧ d = dI tt) 4 sc_law.nd (pn_callP (m := 1) (cal_totals t) hr rfl (pa_d (nv 2 rfl) (pa_d (nv 3 rfl) pa_n)) (fun ds h => ⟨c, kin, hc, hk, h⟩) (fun ds d h ⟨c', kin', tt, _, g1, g2, g3⟩ => ⟨tt, ?_, g3⟩)) (fun d ⟨tt, ht, hd⟩ => ?_)
      · rw [h] at g1
        injection g1 with g1 _
        rw [dI_inj g1]; exact g2
      subst hd
      have pl := plain c kin tt hc hk ht
      have hkl := hk.len
      refine bd_set (d := .list ((rowsOf c).map dI)) 5 sc_law.nd (pd_call (cal_L_rows t) hr (pa_d (nv 2 rfl) pa_n) ⟨c, hc, rfl, by rw [pl.rows]⟩ (fun d' ⟨c', _, h, h'⟩ => by rw [h', ← DI.inj h, pl.rows])) ?_
      refine bd_setN (Se := fun d => ∃ ls : List (List Int), ls.Perm (leastOf kin) ∧ d = .list (ls.map dI)) 6 sc_law.nd (pn_call (S' := fun ds => ds = [dK kin]) (cal_L_least t) hr (pa_d (nv 3 rfl) pa_n) (fun ds h => ⟨_, kin, ⟨by omega, by omega⟩, h, _, List.Perm.refl _, rfl⟩) (fun ds d h ⟨k', _, h1, ls, h2, h3⟩ => ?_)) (fun d ⟨ls, hls, hd⟩ => ?_)
      · subst h
        have ek : kin = k' := by injection h1 with h1; exact dK_inj h1
        exact ⟨ls, by rw [ek]; exact h2, h3⟩
      subst hd
      refine bd_setL 7 sc_law.nd (ds := []) (pl_lst pa_n (fun ds h => by rw [h]; simp)) ?_
      have hn : ((rowsOf c).map dI).length = (prodI c).toNat := by rw [List.length_map, rowsOf_len]
      refine bd_for1 (k := 8) (as := List.range (prodI c).toNat) (enc := fun k => .int (k : Nat)) (G := fun i => [.non, .non, .dat (dI c), .dat (dK kin), .dat (dI tt), .dat (.list ((rowsOf c).map dI)), .dat (.list (ls.map dI)), .own (Lst ((barsOf c kin tt i (prodI c).toNat).map dP)), .non, .non, .non, .non, .non, .non]) rfl PassesOwn.never (src_rng (t.free 63) ((pd_lenL (t.free 61) (nv 5 rfl)).eq (by rw [hn])) (by omega)) (pg_name (i := 8) sc_law.nd rfl (.inl rfl)) ⟨.inl rfl, .inl rfl, .inr rfl, .inr rfl, .inr rfl, .inr rfl, .inr rfl, .inr rfl, .inl rfl, .inl rfl, .inl rfl, .inl rfl, .inl rfl, .inl rfl, trivial⟩ (fun i i' hi => ?_) ?_
      · have hi1 := (List.getElem?_eq_some_iff.mp hi).1
        rw [List.length_range] at hi1
        have ei : i' = i := by
          rw [List.getElem?_range hi1] at hi
          exact (Option.some.inj hi).symm
        subst ei
        refine bd_for1 (k := 9) (as := List.range (prodI c).toNat) (enc := fun k => .int (k : Nat)) (G := fun j => [.non, .non, .dat (dI c), .dat (dK kin), .dat (dI tt), .dat (.list ((rowsOf c).map dI)), .dat (.list (ls.map dI)), .own (Lst ((barsOf c kin tt i' (prodI c).toNat ++ barsRow c kin tt i' j).map dP)), .dat (.int ((i' : Nat) : Int)), .non, .non, .non, .non, .non]) rfl PassesOwn.never (src_rng (t.free 63) ((pd_lenL (t.free 61) (nv 5 rfl)).eq (by rw [hn])) (by omega)) (pg_name (i := 9) sc_law.nd rfl (.inl rfl)) ⟨.inl rfl, .inl rfl, .inr rfl, .inr rfl, .inr rfl, .inr rfl, .inr rfl, .inr (by simp [barsRow]), .inr rfl, .inl rfl, .inl rfl, .inl rfl, .inl rfl, .inl rfl, trivial⟩ (fun j j' hj => ?_) ?_
        · have hj1 := (List.getElem?_eq_some_iff.mp hj).1
          rw [List.length_range] at hj1
          have ej : j' = j := by
            rw [List.getElem?_range hj1] at hj
            exact (Option.some.inj hj).symm
          subst ej
          have ri := slips_inR (n := ((i' : Nat) : Int)) hc.ge1
          have rj := slips_inR (n := ((j' : Nat) : Int)) hc.ge1
          have li := slips_len c ((i' : Nat) : Int)
          have lj := slips_len c ((j' : Nat) : Int)
          have pi : Pl c ((i' : Nat) : Int) := ⟨by omega, by omega⟩
          have pj : Pl c ((j' : Nat) : Int) := ⟨by omega, by omega⟩
          refine bd_set 10 sc_law.nd (pd_call (d := .int (boxSum c tt ((i' : Nat) : Int) ((j' : Nat) : Int))) (cal_L_box_sum t) hr (pa_d (nv 2 rfl) (pa_d (nv 4 rfl) (pa_d (pd_ixL (nv 5 rfl) (nv 8 rfl) (rows_at hi1)) (pa_d (pd_ixL (nv 5 rfl) (nv 9 rfl) (rows_at hj1)) pa_n)))) ⟨c, tt, _, _, hc, ht, ri, rj, rfl, rfl⟩ (fun d' ⟨c', t', a', b', _, _, _, _, h, h'⟩ => ?_)) ?_
          · injection h with h1 h2
            injection h2 with h2 h3
            injection h3 with h3 h4
            injection h4 with h4 _
            rw [h', ← dI_inj h1, ← dI_inj h2, ← dI_inj h3, ← dI_inj h4]; rfl
          refine bd_ifF (PTD.eq (pt_neI (pd_call (d := .int (boxSum c tt ((i' : Nat) : Int) ((j' : Nat) : Int))) (cal_box_sum t) hr (pa_d (nv 2 rfl) (pa_d (nv 4 rfl) (pa_d (pd_tup (pa_d (nv 8 rfl) (pa_d (nv 9 rfl) pa_n)) (by show 2 ≤ 100000; decide)) pa_n))) ⟨c, tt, _, _, hc, ht, pi, pj, rfl, rfl⟩ (fun d' ⟨c', t', a', b', _, _, _, _, h, h'⟩ => ?_)) (nv 10 rfl)) (by simp)) ?_
          · injection h with h1 h2
            injection h2 with h2 h3
            injection h3 with h3 _
            injection h3 with h3
            injection h3 with h3 h4
            injection h3 with h3
            injection h4 with h4 _
            injection h4 with h4
            simp only at h3 h4
            rw [h', ← dI_inj h1, ← dI_inj h2, ← h3, ← h4]
          refine bd_set (d := .bool (isB c kin tt ((i' : Nat) : Int) ((j' : Nat) : Int))) 11 sc_law.nd (PD.eq (pd_and (pd_neI (nv 10 rfl) pn_int) (fun _ => pd_one (pd_inD hr (pd_call (d := dI (unl c.length (slips c ((i' : Nat) : Int)) (slips c ((j' : Nat) : Int)))) (cal_L_unlike t) hr (pa_d (pd_ixL (nv 5 rfl) (nv 8 rfl) (rows_at hi1)) (pa_d (pd_ixL (nv 5 rfl) (nv 9 rfl) (rows_at hj1)) pa_n)) ⟨_, _, by omega, by omega, rfl, by rw [li]⟩ (fun d' ⟨a', b', _, _, h, h'⟩ => ?_)) (nv 6 rfl) (shaped_dI _) (shaped_K ls)))) ?_) ?_
          · obtain ⟨e1, e2⟩ := inj2I h
            rw [h', ← e1, ← e2, li]
          · rw [any_dI, isB, Bool.and_comm]
            congr 2
            exact decide_eq_decide.mpr hls.mem_iff
          refine bd_set (d := .bool (isB c kin tt ((i' : Nat) : Int) ((j' : Nat) : Int))) 12 sc_law.nd (pd_call (cal_is_box t) hr (pa_d (nv 2 rfl) (pa_d (nv 3 rfl) (pa_d (nv 4 rfl) (pa_d (pd_tup (pa_d (nv 8 rfl) (pa_d (nv 9 rfl) pa_n)) (by show 2 ≤ 100000; decide)) pa_n)))) ⟨c, kin, tt, _, _, hc, hk, ht, pi, pj, rfl, rfl⟩ (fun d' ⟨c', k', t', a', b', _, _, _, _, _, h, h'⟩ => ?_)) ?_
          · injection h with h1 h2
            injection h2 with h2 h3
            injection h3 with h3 h4
            injection h4 with h4 _
            injection h4 with h4
            injection h4 with h4 h5
            injection h4 with h4
            injection h5 with h5 _
            injection h5 with h5
            simp only at h4 h5
            rw [h', ← dI_inj h1, ← dK_inj h2, ← dI_inj h3, ← h4, ← h5]
          refine bd_ifF (PTD.eq (PW.pt (pw_o (k := false) (pt_notd (k := true) (pt_vd (pd_isi (t.free 58) (t.free 72) bt_bool (nv 12 rfl) kit_bb))) (fun _ => pw_o1 (pt_neB (nv 12 rfl) (nv 11 rfl))))) (by simp)) ?_
          have hbl : (barsOf c kin tt i' (prodI c).toNat ++ barsRow c kin tt i' j').length ≤ 1000 := by
            rw [List.length_append]
            have b1 := bars_len2 c kin tt (prodI c).toNat i'
            have b2 := bars_len c kin tt i' j'
            have b3 : i' * (prodI c).toNat ≤ 12 * 12 := Nat.mul_le_mul (by omega) (by omega)
            omega
          refine bd_one (b1_if (pt_vd (nv 11 rfl)) (fun hT => ?_) (fun hF => ?_))
          · refine bd_app (d := dP (((i' : Nat) : Int), ((j' : Nat) : Int))) 7 rfl (pd_tup (pa_d (nv 8 rfl) (pa_d (nv 9 rfl) pa_n)) (by show 2 ≤ 100000; decide)) (by rw [List.length_map]; omega) (bd_end ⟨.inl rfl, .inl rfl, .inr rfl, .inr rfl, .inr rfl, .inr rfl, .inr rfl, .inr ?_, .inr rfl, .inl rfl, .inl rfl, .inl rfl, .inl rfl, .inl rfl, trivial⟩)
            rw [barsRow_succ, if_pos hT, ← List.append_assoc, List.map_append]; rfl
          · refine bd_end ⟨.inl rfl, .inl rfl, .inr rfl, .inr rfl, .inr rfl, .inr rfl, .inr rfl, .inr ?_, .inr rfl, .inl rfl, .inl rfl, .inl rfl, .inl rfl, .inl rfl, trivial⟩
            rw [barsRow_succ, if_neg (by rw [hF]; simp), List.append_nil]
        · rw [List.length_range]
          refine bd_end ⟨.inl rfl, .inl rfl, .inr rfl, .inr rfl, .inr rfl, .inr rfl, .inr rfl, .inr ?_, .inl rfl, .inl rfl, .inl rfl, .inl rfl, .inl rfl, .inl rfl, trivial⟩
          rw [barsOf_succ]
      · rw [List.length_range]
        have hmb := fun q => mem_bars (c := c) (kin := kin) (tt := tt) (n := (prodI c).toNat) (q := q)
        have hbl : (barsOf c kin tt (prodI c).toNat (prodI c).toNat).length ≤ 1000 := by
          have b1 := bars_len2 c kin tt (prodI c).toNat (prodI c).toNat
          have b3 : (prodI c).toNat * (prodI c).toNat ≤ 12 * 12 := Nat.mul_le_mul (by omega) (by omega)
          omega
        have toPl : ∀ {i : Int}, (0 ≤ i ∧ i < ((prodI c).toNat : Int)) → Pl c i := fun {i} h => ⟨h.1, by omega⟩
        have ofPl : ∀ {i : Int}, Pl c i → (0 ≤ i ∧ i < ((prodI c).toNat : Int)) := fun {i} h => ⟨h.1, by have := h.2; omega⟩
        generalize barsOf c kin tt (prodI c).toNat (prodI c).toNat = bars at hmb hbl
        have hsym : ∀ q ∈ bars, (q.2, q.1) ∈ bars := fun q hq => by
          obtain ⟨h1, h2, h3⟩ := (hmb q).mp hq
          exact (hmb _).mpr ⟨h2, h1, by rw [← pl.sym _ _ (toPl h1) (toPl h2)]; exact h3⟩
        refine bd_freeze 7 rfl ?_
        have hsl := fun n => slips_len c n
        have bex : ∃ d, BoxRes c kin tt d := by
          cases hs : sorted (barred c kin (partsOf c tt)) with
          | nil => exact ⟨.none, .inl ⟨hs, rfl⟩⟩
          | cons p rest =>
            have hpm : p ∈ barred c kin (partsOf c tt) := (List.mergeSort_perm _ _).mem_iff.mp (by show p ∈ sorted _; rw [hs]; exact List.mem_cons_self)
            obtain ⟨l0, g1, g2⟩ := exists_least (kin := kin) _ (speak (slips c p.2)) (Nat.le_refl _) (by have := speak_mem (slips c p.2); rw [hsl, ← hkl] at this; exact this) (barred_meets hpm)
            exact ⟨_, .inr ⟨p, rest, l0, hs, g1, g2, rfl⟩⟩
        have hshares : ∀ {Γ : List Slot} {e1 e2 e3 : Expr} {p1 p2 : Pos}, True := fun {_ _ _ _ _ _} => trivial
        refine bd_setN (Se := BoxRes c kin tt) 13 sc_law.nd (pn_call (S' := fun ds => ds = [dI c, dK kin, dI tt]) (cal_box t) hr (pa_d (nv 2 rfl) (pa_d (nv 3 rfl) (pa_d (nv 4 rfl) pa_n))) (fun ds h => let ⟨d, hd⟩ := bex; ⟨d, c, kin, tt, hc, hk, ht, h, hd⟩) (fun ds d h ⟨c', k', t', _, _, _, h1, h2⟩ => ?_)) (fun d hd => ?_)
        · rw [h] at h1
          injection h1 with h3 h4
          injection h4 with h4 h5
          injection h5 with h5 _
          rw [dI_inj h3, dK_inj h4, dI_inj h5]; exact h2
        have sh2 : ∀ {ds : List PyData} {d : PyData}, ds = [dI c, dK kin, dI tt] → R_shares ds d → isN d = !(barred c kin (partsOf c tt)).isEmpty := fun {ds d} h ⟨c', k', t', _, _, _, h1, h2⟩ => by
          rw [h] at h1
          injection h1 with h3 h4
          injection h4 with h4 h5
          injection h5 with h5 _
          rw [dI_inj h3, dK_inj h4, dI_inj h5]; exact h2
        have sh1 : ∀ {ds : List PyData}, ds = [dI c, dK kin, dI tt] → ∃ d, R_shares ds d := fun {ds} h => by
          cases hb : (barred c kin (partsOf c tt)).isEmpty with
          | true => exact ⟨.bool true, c, kin, tt, hc, hk, ht, h, by rw [hb]; rfl⟩
          | false => exact ⟨.none, c, kin, tt, hc, hk, ht, h, by rw [hb]; rfl⟩
        have hperm : (sorted (barred c kin (partsOf c tt))).length = (barred c kin (partsOf c tt)).length := (List.mergeSort_perm _ _).length_eq
        refine bd_cons (M := fun G => bars ≠ [] ∧ G = [.non, .non, .dat (dI c), .dat (dK kin), .dat (dI tt), .dat (.list ((rowsOf c).map dI)), .dat (.list (ls.map dI)), .dat (.list (bars.map dP)), .non, .non, .non, .non, .non, .dat d]) (b1_if (k := bars.isEmpty) (PTD.eq (pt_eqD hr (nv 7 rfl) (PLD.pd (ds := []) (pl_lst pa_n (fun ds h => by rw [h]; simp))) (shaped_P bars) shaped_nil) (by rw [eqv_nil, List.isEmpty_map])) (fun hT => ?_) (fun hF => bd_end ⟨fun e => absurd (by rw [e]; rfl : bars.isEmpty = true) (by rw [hF]; simp), rfl⟩)) (fun G ⟨g0, g⟩ => ?_)
        · have hb0 : bars = [] := List.isEmpty_iff.mp hT
          have hs0 : sorted (barred c kin (partsOf c tt)) = [] := by
            cases hs : sorted (barred c kin (partsOf c tt)) with
            | nil => rfl
            | cons p rest =>
              exfalso
              have hpm : p ∈ barred c kin (partsOf c tt) := (List.mergeSort_perm _ _).mem_iff.mp (by show p ∈ sorted _; rw [hs]; exact List.mem_cons_self)
              obtain ⟨l0, g1, g2⟩ := exists_least (kin := kin) _ (speak (slips c p.2)) (Nat.le_refl _) (by have := speak_mem (slips c p.2); rw [hsl, ← hkl] at this; exact this) (barred_meets hpm)
              obtain ⟨q1, q2, q3⟩ := pl.some p rest l0 hs g1 g2
              have := (hmb (lineOf c l0 p.2, p.2)).mpr ⟨ofPl q1, ofPl q2, q3⟩
              rw [hb0] at this
              simp at this
          have hbn : barred c kin (partsOf c tt) = [] := by
            rw [hs0] at hperm
            exact List.length_eq_zero_iff.mp hperm.symm
          have hdn : d = .none := by
            rcases hd with ⟨_, h⟩ | ⟨p, rest, l, h, _⟩
            · exact h
            · rw [hs0] at h; cases h
          subst hdn
          refine bd_retd (PD.eq (pd_and (pd_isN (nv 13 rfl)) (fun _ => pd_one (pn_notN (k := false) (pn_call (S' := fun ds => ds = [dI c, dK kin, dI tt]) (cal_shares t) hr (pa_d (nv 2 rfl) (pa_d (nv 3 rfl) (pa_d (nv 4 rfl) pa_n))) (fun ds h => sh1 h) (fun ds d h h' => (sh2 h h').trans (by rw [hbn]; rfl)))))) rfl) rfl
        · subst g
          have hbn : barred c kin (partsOf c tt) ≠ [] := fun e => by
            cases hb : bars with
            | nil => exact g0 hb
            | cons q r =>
              have := (hmb q).mp (by rw [hb]; exact List.mem_cons_self)
              rw [pl.none e _ _ (toPl this.1) (toPl this.2.1)] at this
              cases this.2.2
          obtain ⟨q, hq1, hq2⟩ : ∃ q : Int × Int, d = dP q ∧ q ∈ bars := by
            rcases hd with ⟨h, _⟩ | ⟨p, rest, l, h, g1, g2, h'⟩
            · exfalso
              rw [h] at hperm
              exact hbn (List.length_eq_zero_iff.mp hperm.symm)
            · obtain ⟨q1, q2, q3⟩ := pl.some p rest l h g1 g2
              exact ⟨_, h', (hmb _).mpr ⟨ofPl q1, ofPl q2, q3⟩⟩
          subst hq1
          refine bd_ifF (PTD.eq (pt_notd (k := true) (pt_vd (PD.eq (pd_allC (g := fun q : Int × Int => decide ((q.2, q.1) ∈ bars)) (t.free 62) rfl (comp2 "_law_one" "_law_other" 8 9 (as := bars) (e1 := fun q => .int q.1) (e2 := fun q => .int q.2) (f := fun q => .bool (decide ((q.2, q.1) ∈ bars))) rfl sc_law.nd (src_L (nv 7 rfl)) (blkOk_by (N := N_law) (sc := defScope s_law) (by decide +kernel)) (by decide) (fun _ _ _ _ _ => pg_tup rfl (pgs_cons (pg_name (i := 8) sc_law.nd rfl (.inl rfl)) (pgs_cons (pg_name (i := 9) sc_law.nd rfl (.inl rfl)) pgs_nil))) (by omega)
            (fun q hq s H C cl fp => PD.eq (pd_inD hr (pd_tup (ds := [.int q.2, .int q.1]) (pa_d (nv 9 rfl) (pa_d (nv 8 rfl) pa_n)) (by show 2 ≤ 100000; decide)) (nv 7 rfl) (shaped_dP (q.2, q.1)) (shaped_P bars)) (by rw [show PyData.tuple [.int q.2, .int q.1] = dP (q.2, q.1) from rfl, any_dP])))) (by rw [List.all_eq_true.mpr fun q hq => decide_eq_true (hsym q hq)])))) rfl) ?_
          refine bd_retd (PD.eq (pd_and (pd_inD hr (nv 13 rfl) (nv 7 rfl) (shaped_dP q) (shaped_P bars)) (fun _ => pd_one (pn_isN (k := true) (pn_call (S' := fun ds => ds = [dI c, dK kin, dI tt]) (cal_shares t) hr (pa_d (nv 2 rfl) (pa_d (nv 3 rfl) (pa_d (nv 4 rfl) pa_n))) (fun ds h => sh1 h) (fun ds d h h' => (sh2 h h').trans (by
            cases hb : barred c kin (partsOf c tt) with
            | nil => exact absurd hb hbn
            | cons _ _ => rfl)))))) (by rw [any_dP, decide_eq_true hq2]; rfl)) rfl
    exact main _ Hf1 H1 s1 _ (fun G z => z.elim) (fun v d Hf' H' hd e po' dq => by subst hd; cases dq; exact q H')
end
end OC
set_option linter.all false
namespace OC
/-! ### rows and numbers -/
theorem slips_snoc (c : List Int) (s n : Int) : slips (c ++ [s]) n = slips c (n / s) ++ [n % s] := by
  unfold slips
  rw [List.reverse_append]
  show (n % s :: slR c.reverse (n / s)).reverse = _
  rw [List.reverse_cons]
theorem place_snoc {c r : List Int} (h : r.length = c.length) (s x : Int) : place (c ++ [s]) (r ++ [x]) = place c r * s + x := by
  unfold place
  rw [List.zip_append h, List.foldl_append]
  rfl
theorem snoc_ind {P : List Int → Prop} (h0 : P []) (hs : ∀ c s, P c → P (c ++ [s])) : ∀ c, P c := by
  have : ∀ n (c : List Int), c.length = n → P c := by
    intro n
    induction n with
    | zero => intro c h; rw [List.length_eq_zero_iff.mp h]; exact h0
    | succ n ih =>
      intro c h
      have hne : c ≠ [] := fun e => by rw [e] at h; simp at h
      rw [← List.dropLast_concat_getLast hne]
      exact hs _ _ (ih _ (by rw [List.length_dropLast]; omega))
  exact fun c => this _ c rfl
theorem slips_len' (c : List Int) : ∀ n : Int, (slips c n).length = c.length := by
  refine snoc_ind (P := fun c => ∀ n : Int, (slips c n).length = c.length) (fun n => rfl) (fun c s ih n => ?_) c
  rw [slips_snoc, List.length_append, List.length_append, ih]; rfl
theorem place_slips (c : List Int) : (∀ s ∈ c, 1 ≤ s) → ∀ n : Int, 0 ≤ n → n < prodI c → place c (slips c n) = n := by
  refine snoc_ind (P := fun c => (∀ s ∈ c, 1 ≤ s) → ∀ n : Int, 0 ≤ n → n < prodI c → place c (slips c n) = n) (fun _ n h0 h1 => ?_) (fun c s ih h n h0 h1 => ?_) c
  · have : prodI [] = 1 := rfl
    rw [this] at h1
    show (0 : Int) = n
    omega
  · have hs := h s (by simp)
    rw [prodI_snoc] at h1
    rw [slips_snoc, place_snoc (slips_len' c _), ih (fun x hx => h x (List.mem_append_left _ hx)) (n / s) (Int.ediv_nonneg h0 (by omega)) ((Int.ediv_lt_iff_lt_mul (by omega)).mpr h1)]
    exact Int.ediv_mul_add_emod n s
theorem inR_snoc {c : List Int} {s : Int} : ∀ {r : List Int}, inR (c ++ [s]) r → ∃ r' x, r = r' ++ [x] ∧ inR c r' ∧ 0 ≤ x ∧ x < s := by
  induction c with
  | nil =>
    intro r h
    match r, h with
    | [x], h => exact ⟨[], x, rfl, trivial, h.1⟩
    | x :: y :: r, h => exact h.2.elim
    | [], h => exact h.elim
  | cons s' c ih =>
    intro r h
    match r, h with
    | x :: r, h =>
      obtain ⟨r', z, h1, h2, h3⟩ := ih h.2
      exact ⟨x :: r', z, by rw [h1]; rfl, ⟨h.1, h2⟩, h3⟩
    | [], h => exact h.elim
theorem slips_place (c : List Int) : ∀ r : List Int, inR c r → slips c (place c r) = r := by
  refine snoc_ind (P := fun c => ∀ r : List Int, inR c r → slips c (place c r) = r) (fun r h => ?_) (fun c s ih r h => ?_) c
  · match r, h with
    | [], _ => rfl
    | _ :: _, h => exact h.elim
  · obtain ⟨r', x, rfl, h1, h2⟩ := inR_snoc h
    rw [place_snoc (inR_len h1), slips_snoc]
    have hs : 0 < s := by omega
    have e1 : (place c r' * s + x) / s = place c r' := by
      rw [Int.add_comm, Int.add_mul_ediv_right _ _ (by omega), Int.ediv_eq_zero_of_lt h2.1 h2.2, Int.zero_add]
    have e2 : (place c r' * s + x) % s = x := by
      rw [Int.add_comm, Int.add_mul_emod_self_right, Int.emod_eq_of_lt h2.1 h2.2]
    rw [e1, e2, ih r' h1]
theorem range_mul (p s : Nat) : List.range (p * s) = (List.range p).flatMap fun a => (List.range s).map fun k => a * s + k := by
  induction p with
  | zero => simp
  | succ p ih =>
    rw [Nat.succ_mul, List.range_add, List.range_succ, List.flatMap_append, ih]
    simp
theorem lawRows_eq (c : List Int) : (∀ s ∈ c, 1 ≤ s) → lawRows c = rowsOf c := by
  refine snoc_ind (P := fun c => (∀ s ∈ c, 1 ≤ s) → lawRows c = rowsOf c) (fun _ => rfl) (fun c s ih h => ?_) c
  have hs := h s (by simp)
  have h' : ∀ x ∈ c, 1 ≤ x := fun x hx => h x (List.mem_append_left _ hx)
  have hp := prodI_posL h'
  rw [lawRows_snoc, ih h']
  show rowsStep (rowsOf c) s = (List.range (prodI (c ++ [s])).toNat).map fun n => slips (c ++ [s]) (n : Nat)
  rw [prodI_snoc, Int.toNat_mul (by omega) (by omega), range_mul, List.map_flatMap]
  unfold rowsStep rowsOf
  rw [List.flatMap_map]
  congr 1
  funext a
  rw [List.map_map]
  refine List.map_congr_left fun k hk => ?_
  have hk' := List.mem_range.mp hk
  show slips c (a : Nat) ++ [((k : Nat) : Int)] = slips (c ++ [s]) ((a * s.toNat + k : Nat) : Int)
  have e : ((a * s.toNat + k : Nat) : Int) = (a : Int) * s + k := by
    rw [Int.natCast_add, Int.natCast_mul, Int.toNat_of_nonneg (by omega)]
  rw [slips_snoc, e]
  have e1 : ((a : Int) * s + k) / s = a := by
    rw [Int.add_comm, Int.add_mul_ediv_right _ _ (by omega), Int.ediv_eq_zero_of_lt (by omega) (by omega), Int.zero_add]
  have e2 : ((a : Int) * s + k) % s = k := by
    rw [Int.add_comm, Int.add_mul_emod_self_right, Int.emod_eq_of_lt (by omega) (by omega)]
  rw [e1, e2]
/-! ### sums over boxes, parts -/
def BS : List Int → List Int → (List Int → Int) → Int
  | x :: a, y :: b, T => BS a b (fun r => T (x :: r)) - if y = x then 0 else BS a b (fun r => T (y :: r))
  | _, _, T => T []
theorem BS_sub : ∀ (a b : List Int) (F G : List Int → Int), BS a b (fun r => F r - G r) = BS a b F - BS a b G
  | [], [], F, G => by simp [BS]
  | [], _ :: _, F, G => by simp [BS]
  | _ :: _, [], F, G => by simp [BS]
  | x :: a, y :: b, F, G => by
    simp only [BS]
    rw [BS_sub a b, BS_sub a b]
    split <;> omega
theorem BS_add (a b : List Int) (F G : List Int → Int) : BS a b (fun r => F r + G r) = BS a b F + BS a b G := by
  have h := BS_sub a b (fun r => F r + G r) G
  have e : (fun r => F r + G r - G r) = F := by funext r; omega
  rw [e] at h
  omega
def PTm (r : List Int) (T : List Int → Int) : Int := BS r (r.map fun _ => 0) T
theorem PTm_nil (T : List Int → Int) : PTm [] T = T [] := rfl
theorem PTm_zero (r : List Int) (T : List Int → Int) : PTm (0 :: r) T = PTm r (fun q => T (0 :: q)) := by
  unfold PTm
  simp [BS]
theorem PTm_cons {x : Int} (hx : x ≠ 0) (r : List Int) (T : List Int → Int) : PTm (x :: r) T = PTm r (fun q => T (x :: q)) - PTm r (fun q => T (0 :: q)) := by
  unfold PTm
  simp only [List.map_cons, BS]
  rw [if_neg (fun e => hx e.symm)]
theorem PTm_sub (r : List Int) (F G : List Int → Int) : PTm r (fun q => F q - G q) = PTm r F - PTm r G := BS_sub _ _ _ _
theorem sum_zero {α : Type} : ∀ f : List α, (f.map fun _ => (0 : Int)).sum = 0
  | [] => rfl
  | _ :: f => by rw [List.map_cons, List.sum_cons, sum_zero f]; rfl
theorem corn_sum (T : List Int → Int) : ∀ (a b : List Int) (f : List (List Int × Int)), a.length = b.length → (((a.zip b).foldl cornStep f).map fun q => q.2 * T q.1).sum = (f.map fun q => q.2 * BS a b (fun r => T (q.1 ++ r))).sum
  | [], [], f, _ => by simp [BS]
  | x :: a, y :: b, f, h => by
    have ih := corn_sum T a b
    rw [List.zip_cons_cons, List.foldl_cons, ih _ (by simpa using h)]
    unfold cornStep
    simp only [BS]
    rw [List.map_append, List.sum_append, List.map_map]
    have e0 : ∀ (g : List (List Int × Int)) (F G : List Int × Int → Int), (g.map fun q => F q - G q).sum = (g.map F).sum - (g.map G).sum := by
      intro g F G
      induction g with
      | nil => rfl
      | cons q g ih => simp only [List.map_cons, List.sum_cons, ih]; omega
    have e1 : (f.map fun q => q.2 * (BS a b (fun r => T (q.1 ++ x :: r)) - if y = x then 0 else BS a b (fun r => T (q.1 ++ y :: r)))).sum = (f.map fun q => q.2 * BS a b (fun r => T (q.1 ++ x :: r))).sum - (f.map fun q => q.2 * if y = x then 0 else BS a b (fun r => T (q.1 ++ y :: r))).sum := by
      rw [← e0]
      congr 1
      refine List.map_congr_left fun q _ => ?_
      rw [Int.mul_sub]
    rw [e1]
    have e2 : (f.map ((fun q : List Int × Int => q.2 * BS a b (fun r => T (q.1 ++ r))) ∘ fun q => (q.1 ++ [x], q.2))) = f.map fun q => q.2 * BS a b (fun r => T (q.1 ++ x :: r)) := by
      refine List.map_congr_left fun q _ => ?_
      simp
    have e3 : (((if y = x then [] else f.map fun q => (q.1 ++ [y], -q.2)) : List (List Int × Int)).map fun q => q.2 * BS a b (fun r => T (q.1 ++ r))).sum = -(f.map fun q => q.2 * if y = x then 0 else BS a b (fun r => T (q.1 ++ y :: r))).sum := by
      split
      · simp [sum_zero]
      · rw [List.map_map]
        have e4 := e0 f (fun _ => 0) (fun q => q.2 * BS a b (fun r => T (q.1 ++ y :: r)))
        have e5 : (f.map fun _ => (0 : Int)).sum = 0 := sum_zero f
        rw [e5, Int.zero_sub] at e4
        rw [← e4]
        congr 1
        refine List.map_congr_left fun q _ => ?_
        simp [Int.neg_mul]
    show (f.map ((fun q : List Int × Int => q.2 * BS a b (fun r => T (q.1 ++ r))) ∘ fun q => (q.1 ++ [x], q.2))).sum + _ = _
    rw [e2]
    have e6 : ∀ u v : Int, v = -u → ∀ w, w + v = w - u := fun u v h w => by omega
    exact e6 _ _ e3 _
  | [], _ :: _, _, h => by simp at h
  | _ :: _, [], _, h => by simp at h
end OC
set_option linter.all false
namespace OC
theorem BS_swap : ∀ a b : List Int, ∃ e : Int, (e = 1 ∨ e = -1) ∧ ∀ T, BS b a T = e * BS a b T
  | [], [] => ⟨1, .inl rfl, fun T => by simp [BS]⟩
  | [], _ :: _ => ⟨1, .inl rfl, fun T => by simp [BS]⟩
  | _ :: _, [] => ⟨1, .inl rfl, fun T => by simp [BS]⟩
  | x :: a, y :: b => by
    obtain ⟨e, he, ih⟩ := BS_swap a b
    by_cases h : x = y
    · subst h
      exact ⟨e, he, fun T => by simp only [BS, if_true]; rw [ih]; simp⟩
    · refine ⟨-e, by omega, fun T => ?_⟩
      simp only [BS]
      rw [if_neg h, if_neg (fun z => h z.symm), ih, ih, Int.mul_sub, Int.neg_mul, Int.neg_mul]
      omega
theorem BS_none : ∀ {c a b : List Int} {T : List Int → Int}, inR c a → inR c b → (∀ r, inR c r → (∀ k : Nat, a.getD k 0 ≠ b.getD k 0 → r.getD k 0 ≠ 0) → PTm r T = 0) → BS a b T = 0
  | [], [], [], T, _, _, h => h [] trivial fun k hk => absurd rfl hk
  | s :: c, x :: a, y :: b, T, ha, hb, h => by
    have cons : ∀ {z : Int} {r : List Int}, (0 ≤ z ∧ z < s) → inR c r → (∀ k : Nat, a.getD k 0 ≠ b.getD k 0 → r.getD k 0 ≠ 0) → (x ≠ y → z ≠ 0) → PTm (z :: r) T = 0 := fun {z r} hz hr hk h0 => h (z :: r) ⟨hz, hr⟩ fun k => by
      cases k with
      | zero => intro e; exact h0 e
      | succ k => intro e; exact hk k e
    have hs : 0 < s := by have := ha.1; omega
    by_cases e : x = y
    · subst e
      have e1 : BS (x :: a) (x :: b) T = BS a b (fun r => T (x :: r)) := by simp [BS]
      rw [e1]
      refine BS_none ha.2 hb.2 fun r hr hk => ?_
      have h0 := cons (z := 0) ⟨Int.le_refl 0, hs⟩ hr hk fun z => absurd rfl z
      have hx := cons (z := x) ha.1 hr hk fun z => absurd rfl z
      by_cases x0 : x = 0
      · rw [x0, PTm_zero] at hx; rw [x0]; exact hx
      · rw [PTm_cons x0] at hx
        rw [PTm_zero] at h0
        omega
    · have e1 : BS (x :: a) (y :: b) T = BS a b (fun r => T (x :: r) - T (y :: r)) := by
        rw [BS_sub]
        simp only [BS]
        rw [if_neg (fun z => e z.symm)]
      rw [e1]
      refine BS_none ha.2 hb.2 fun r hr hk => ?_
      rw [PTm_sub]
      have hz : ∀ z : Int, (0 ≤ z ∧ z < s) → PTm r (fun q => T (z :: q)) = PTm r (fun q => T (0 :: q)) := fun z hz => by
        by_cases z0 : z = 0
        · rw [z0]
        · have := cons hz hr hk fun _ => z0
          rw [PTm_cons z0] at this
          omega
      rw [hz x ha.1, hz y hb.1]
      omega
  | [], [], _ :: _, _, _, h, _ => h.elim
  | [], _ :: _, _, _, h, _, _ => h.elim
  | _ :: _, [], _, _, h, _, _ => h.elim
  | _ :: _, _ :: _, [], _, _, h, _ => h.elim
/-- a row with places made 0; a row that is another with places not of Z made 0 -/
def zeroP : (Nat → Bool) → List Int → List Int
  | _, [] => []
  | Z, x :: r => (if Z 0 = true then 0 else x) :: zeroP (fun k => Z (k + 1)) r
def SubZ : (Nat → Bool) → List Int → List Int → Prop
  | _, [], [] => True
  | Z, x' :: r', x :: r => (x' = x ∨ (Z 0 = false ∧ x' = 0)) ∧ SubZ (fun k => Z (k + 1)) r' r
  | _, _, _ => False
theorem SubZ.refl : ∀ {Z : Nat → Bool} {r : List Int}, SubZ Z r r
  | _, [] => trivial
  | _, _ :: _ => ⟨.inl rfl, SubZ.refl⟩
theorem BS_some : ∀ (r : List Int) (Z : Nat → Bool) (T : List Int → Int), (∀ k, k < r.length → Z k = true → r.getD k 0 ≠ 0) → (∀ r', SubZ Z r' r → r' ≠ r → PTm r' T = 0) → ∃ e : Int, (e = 1 ∨ e = -1) ∧ BS (zeroP Z r) r T = e * PTm r T
  | [], Z, T, _, _ => ⟨1, .inl rfl, by rw [PTm_nil, Int.one_mul]; rfl⟩
  | x :: r, Z, T, hZ, h => by
    have hZ' : ∀ k, k < r.length → Z (k + 1) = true → r.getD k 0 ≠ 0 := fun k hk hz => hZ (k + 1) (by simpa using hk) hz
    have h' : ∀ r', SubZ (fun k => Z (k + 1)) r' r → r' ≠ r → PTm (x :: r') T = 0 := fun r' hs hne => h (x :: r') ⟨.inl rfl, hs⟩ fun e => hne (List.cons.inj e).2
    by_cases z0 : Z 0 = true
    · have hx : x ≠ 0 := hZ 0 (by simp) z0
      obtain ⟨e, he, ih⟩ := BS_some r (fun k => Z (k + 1)) (fun q => T (x :: q) - T (0 :: q)) hZ' fun r' hs hne => by
        rw [PTm_sub, ← PTm_cons hx]; exact h' r' hs hne
      refine ⟨-e, by omega, ?_⟩
      have e1 : BS (zeroP Z (x :: r)) (x :: r) T = -(BS (zeroP (fun k => Z (k + 1)) r) r (fun q => T (x :: q) - T (0 :: q))) := by
        rw [BS_sub]
        simp only [zeroP, z0, if_true, BS]
        rw [if_neg hx]
        omega
      rw [e1, ih, PTm_sub, ← PTm_cons hx, Int.neg_mul]
    · have zf : Z 0 = false := by simpa using z0
      have e1 : BS (zeroP Z (x :: r)) (x :: r) T = BS (zeroP (fun k => Z (k + 1)) r) r (fun q => T (x :: q)) := by
        simp [zeroP, zf, BS]
      rw [e1]
      by_cases hx : x = 0
      · subst hx
        obtain ⟨e, he, ih⟩ := BS_some r (fun k => Z (k + 1)) (fun q => T (0 :: q)) hZ' fun r' hs hne => by
          rw [← PTm_zero]; exact h' r' hs hne
        exact ⟨e, he, by rw [ih, PTm_zero]⟩
      · obtain ⟨e, he, ih⟩ := BS_some r (fun k => Z (k + 1)) (fun q => T (x :: q) - T (0 :: q)) hZ' fun r' hs hne => by
          rw [PTm_sub, ← PTm_cons hx]; exact h' r' hs hne
        have h0 : ∀ r', SubZ (fun k => Z (k + 1)) r' r → PTm r' (fun q => T (0 :: q)) = 0 := fun r' hs => by
          rw [← PTm_zero]
          exact h (0 :: r') ⟨.inr ⟨zf, rfl⟩, hs⟩ fun e => hx (List.cons.inj e).1.symm
        obtain ⟨e2, he2, ih2⟩ := BS_some r (fun k => Z (k + 1)) (fun q => T (0 :: q)) hZ' fun r' hs _ => h0 r' hs
        rw [h0 r SubZ.refl, Int.mul_zero] at ih2
        refine ⟨e, he, ?_⟩
        rw [PTm_cons hx, ← PTm_sub, ← ih, BS_sub, ih2]
        omega
/-! ### the passes -/
def Dk (k : Nat) (T : List Int → Int) : List Int → Int := fun r => T r - if r.getD k 0 = 0 then 0 else T (r.set k 0)
theorem fold_tail (x : Int) : ∀ (ks : List Nat) (T : List Int → Int) (r : List Int), ((ks.map (· + 1)).foldl (fun T k => Dk k T) T) (x :: r) = (ks.foldl (fun T k => Dk k T) (fun q => T (x :: q))) r
  | [], _, _ => rfl
  | k :: ks, T, r => by
    rw [List.map_cons, List.foldl_cons, List.foldl_cons, fold_tail x ks]
    rfl
theorem fold_PT : ∀ (r : List Int) (T : List Int → Int), ((List.range r.length).foldl (fun T k => Dk k T) T) r = PTm r T
  | [], T => rfl
  | x :: r, T => by
    rw [List.length_cons, List.range_succ_eq_map, List.foldl_cons]
    have h := fold_tail x (List.range r.length) (Dk 0 T) r
    refine h.trans ?_
    rw [fold_PT r]
    by_cases hx : x = 0
    · subst hx
      rw [PTm_zero]
      have e : (fun q => Dk 0 T (0 :: q)) = fun q => T (0 :: q) := by
        funext q; simp [Dk]
      rw [e]
    · rw [PTm_cons hx, ← PTm_sub]
      have e : (fun q => Dk 0 T (x :: q)) = fun q => T (x :: q) - T (0 :: q) := by
        funext q; simp [Dk, hx]
      rw [e]
def Rep (c f : List Int) (T : List Int → Int) : Prop := f.length = (prodI c).toNat ∧ ∀ r, inR c r → f.getD (place c r).toNat 0 = T r
theorem zeroed_one {k : Nat} {r : List Int} : zeroed [((k : Nat) : Int)] r = r.set k 0 := by
  apply List.ext_getElem?
  intro i
  by_cases hi : i < r.length
  · rw [zeroed_get (List.getElem?_eq_getElem hi)]
    by_cases e : i = k
    · subst e
      rw [List.getElem?_set_self hi, if_pos (by simp)]
    · rw [List.getElem?_set_ne (Ne.symm e), if_neg (by simp; omega), List.getElem?_eq_getElem hi]
  · rw [List.getElem?_eq_none (by rw [zeroed_len]; omega), List.getElem?_eq_none (by rw [List.length_set]; omega)]
theorem getD_set_self {f : List Int} {n : Nat} {v : Int} (h : n < f.length) : (f.set n v).getD n 0 = v := by simp [List.getD, h]
theorem getD_set_ne {f : List Int} {n m : Nat} {v : Int} (h : n ≠ m) : (f.set n v).getD m 0 = f.getD m 0 := by simp [List.getD, List.getElem?_set_ne h]
theorem rep_pass {c f : List Int} {T : List Int → Int} (hc : ∀ s ∈ c, 1 ≤ s) {k : Nat} (hk : k < c.length) (h : Rep c f T) : Rep c (passN c k f) (Dk k T) := by
  have loop : ∀ n : Nat, n ≤ (prodI c).toNat → ((List.range n).foldl (passStep c k) f).length = (prodI c).toNat ∧ ∀ r, inR c r → ((List.range n).foldl (passStep c k) f).getD (place c r).toNat 0 = if place c r < n then Dk k T r else T r := by
    intro n
    induction n with
    | zero =>
      intro _
      refine ⟨h.1, fun r hr => ?_⟩
      have := place_range hc hr
      rw [if_neg (by omega)]
      exact h.2 r hr
    | succ n ih =>
      intro hn
      obtain ⟨l1, l2⟩ := ih (by omega)
      rw [List.range_succ, List.foldl_append]
      generalize (List.range n).foldl (passStep c k) f = g at l1 l2
      show (passStep c k g n).length = _ ∧ ∀ r, inR c r → (passStep c k g n).getD (place c r).toNat 0 = _
      have rn := slips_inR (n := ((n : Nat) : Int)) hc
      have pn := place_slips c hc ((n : Nat) : Int) (by omega) (by omega)
      have uniq : ∀ r, inR c r → place c r = n → r = slips c ((n : Nat) : Int) := fun r hr e => by rw [← e, slips_place c r hr]
      have lt : ∀ r, inR c r → place c r ≠ n → ((place c r < ((n + 1 : Nat) : Int)) = (place c r < (n : Int))) := fun r hr e => by
        apply propext
        constructor <;> intro <;> omega
      unfold passStep
      by_cases hz : (slips c ((n : Nat) : Int)).getD k 0 = 0
      · rw [if_pos hz]
        refine ⟨l1, fun r hr => ?_⟩
        rw [l2 r hr]
        by_cases e : place c r = n
        · have er := uniq r hr e
          rw [if_neg (by omega), if_pos (by omega), er]
          unfold Dk
          rw [if_pos hz, Int.sub_zero]
        · simp only [lt r hr e]
      · rw [if_neg hz]
        refine ⟨by rw [List.length_set]; exact l1, fun r hr => ?_⟩
        have hp := place_range hc hr
        by_cases e : place c r = n
        · have er := uniq r hr e
          rw [e, if_pos (by omega), Int.toNat_natCast, getD_set_self (by omega), er]
          have v1 := l2 _ rn
          rw [pn, if_neg (by omega), Int.toNat_natCast] at v1
          have r0 : inR c ((slips c ((n : Nat) : Int)).set k 0) := by
            rw [← zeroed_one]; exact zeroed_inR hc rn
          have v2 := l2 _ r0
          have hkl : k < (slips c ((n : Nat) : Int)).length := by rw [slips_len']; exact hk
          have d0 : Dk k T ((slips c ((n : Nat) : Int)).set k 0) = T ((slips c ((n : Nat) : Int)).set k 0) := by
            simp [Dk, hkl]
          rw [d0] at v2
          simp only [ite_self] at v2
          have el : lineOf c [((k : Nat) : Int)] ((n : Nat) : Int) = place c ((slips c ((n : Nat) : Int)).set k 0) := by
            rw [← zeroed_one]; rfl
          rw [el, v1, v2]
          unfold Dk
          rw [if_neg hz]
        · rw [getD_set_ne (by omega), l2 r hr]
          simp only [lt r hr e]
  obtain ⟨l1, l2⟩ := loop _ (Nat.le_refl _)
  refine ⟨l1, fun r hr => (l2 r hr).trans ?_⟩
  have := place_range hc hr
  rw [if_pos (by omega)]
theorem rep_parts {c t : List Int} {T : List Int → Int} (hc : ∀ s ∈ c, 1 ≤ s) (h : Rep c t T) : ∀ r, inR c r → (partsOf c t).getD (place c r).toNat 0 = PTm r T := by
  have fold : ∀ (ks : List Nat), (∀ k ∈ ks, k < c.length) → ∀ (f : List Int) (T : List Int → Int), Rep c f T → Rep c (ks.foldl (fun f k => passN c k f) f) (ks.foldl (fun T k => Dk k T) T) := by
    intro ks
    induction ks with
    | nil => intro _ f T h; exact h
    | cons k ks ih =>
      intro hk f T h
      rw [List.foldl_cons, List.foldl_cons]
      exact ih (fun j hj => hk j (List.mem_cons_of_mem _ hj)) _ _ (rep_pass hc (hk k List.mem_cons_self) h)
  intro r hr
  have := (fold (List.range c.length) (fun k hk => List.mem_range.mp hk) t T h).2 r hr
  rw [← fold_PT, inR_len hr]
  exact this
end OC
set_option linter.all false
namespace OC
def Tf (c t : List Int) : List Int → Int := fun r => at0 t (place c r)
theorem box_BS {c t : List Int} {i j : Int} : boxSum c t i j = BS (slips c i) (slips c j) (Tf c t) := by
  have h := corn_sum (Tf c t) (slips c i) (slips c j) [([], 1)] (by rw [slips_len', slips_len'])
  unfold boxSum corn
  refine h.trans ?_
  simp
theorem parts_PT {c t : List Int} (hc : ∀ s ∈ c, 1 ≤ s) (ht : TotOk c t) {r : List Int} (hr : inR c r) : (partsOf c t).getD (place c r).toNat 0 = PTm r (Tf c t) :=
  rep_parts hc ⟨ht, fun r hr => rfl⟩ r hr
theorem meets_mono {l l' : List Int} {kin : List (List Int)} (h : ∀ k ∈ l, k ∈ l') (hm : meetsAll l kin = true) : meetsAll l' kin = true := by
  unfold meetsAll at *
  rw [List.all_eq_true] at *
  intro o ho
  have := hm o ho
  unfold hasSome at *
  rw [List.any_eq_true] at *
  obtain ⟨k, h1, h2⟩ := this
  exact ⟨k, h k h1, h2⟩
/-- a row with a part and no taker is barred -/
theorem barred_in {c t : List Int} {kin : List (List Int)} (hc : ∀ s ∈ c, 1 ≤ s) (ht : TotOk c t) {r : List Int} (hr : inR c r) (hp : PTm r (Tf c t) ≠ 0) (hm : meetsAll (speak r) kin = true) : ((((speak r).length : Nat) : Int), place c r) ∈ barred c kin (partsOf c t) := by
  have pr := place_range hc hr
  have hl : (place c r).toNat < (partsOf c t).length := by
    rw [partsOf_len]
    have : t.length = (prodI c).toNat := ht
    omega
  have g := List.getElem?_eq_getElem hl
  have hv : (partsOf c t)[(place c r).toNat] = PTm r (Tf c t) := by
    rw [← parts_PT hc ht hr]
    simp [List.getD, hl]
  have e : (((place c r).toNat : Nat) : Int) = place c r := Int.toNat_of_nonneg pr.1
  have hix : (place c r, PTm r (Tf c t)) ∈ ix (partsOf c t) := by
    have := ix_get g
    rw [e, hv] at this
    exact List.mem_of_getElem? this
  refine List.mem_map.mpr ⟨_, List.mem_filter.mpr ⟨hix, ?_⟩, ?_⟩
  · simp only [slips_place c r hr, takers_nil, hm, Bool.and_true]
    simpa using hp
  · simp only [slips_place c r hr]
theorem barred_out {c t : List Int} {kin : List (List Int)} (hc : ∀ s ∈ c, 1 ≤ s) (ht : TotOk c t) {p : Int × Int} (h : p ∈ barred c kin (partsOf c t)) : Pl c p.2 ∧ p.1 = (((speak (slips c p.2)).length : Nat) : Int) ∧ PTm (slips c p.2) (Tf c t) ≠ 0 := by
  obtain ⟨q, h1, rfl⟩ := List.mem_map.mp h
  obtain ⟨h2, h3⟩ := List.mem_filter.mp h1
  rw [Bool.and_eq_true] at h3
  obtain ⟨i, hi⟩ := List.mem_iff_getElem?.mp h2
  obtain ⟨e1, e2⟩ := ix_get' hi
  have hlt := (List.getElem?_eq_some_iff.mp e2).1
  rw [partsOf_len] at hlt
  have htl : t.length = (prodI c).toNat := ht
  have hpl : Pl c q.1 := ⟨by omega, by omega⟩
  refine ⟨hpl, rfl, ?_⟩
  show PTm (slips c q.1) (Tf c t) ≠ 0
  rw [← parts_PT hc ht (slips_inR hc), place_slips c hc q.1 hpl.1 hpl.2, e1, Int.toNat_natCast]
  simp only [List.getD, e2, Option.getD_some]
  simpa using h3.1
/-! ### the rows of the least bar -/
theorem mem_unl {m : Nat} {a b : List Int} {k : Int} : k ∈ unl m a b ↔ ∃ i : Nat, i < m ∧ k = ((i : Nat) : Int) ∧ a.getD i 0 ≠ b.getD i 0 := by
  unfold unl
  simp only [List.mem_map, List.mem_filter, List.mem_range]
  constructor
  · rintro ⟨i, ⟨h1, h2⟩, rfl⟩
    exact ⟨i, h1, rfl, by simpa using h2⟩
  · rintro ⟨i, h1, rfl, h2⟩
    exact ⟨i, ⟨h1, by simpa using h2⟩, rfl⟩
theorem unl_comm (m : Nat) (a b : List Int) : unl m a b = unl m b a := by
  unfold unl
  congr 1
  refine List.filter_congr fun k _ => ?_
  congr 1
  exact decide_eq_decide.mpr ⟨fun h => h.symm, fun h => h.symm⟩
theorem lot_range : ∀ {m : Nat} {l : List Int}, l ∈ allLots m → ((List.range m).filter fun k => decide (((k : Nat) : Int) ∈ l)).map (fun k => ((k : Nat) : Int)) = l
  | 0, l, h => by
    have : l = [] := by simpa [allLots] using h
    rw [this]; rfl
  | m + 1, l, h => by
    rw [List.range_succ, List.filter_append, List.map_append]
    rcases List.mem_append.mp h with h | h
    · have hm : ((m : Nat) : Int) ∉ l := fun z => by have := allLots_rng h _ z; omega
      rw [lot_range h]
      simp [hm]
    · obtain ⟨l', h1, rfl⟩ := List.mem_map.mp h
      have e : ((List.range m).filter fun k => decide (((k : Nat) : Int) ∈ l' ++ [((m : Nat) : Int)])) = (List.range m).filter fun k => decide (((k : Nat) : Int) ∈ l') := by
        refine List.filter_congr fun k hk => ?_
        have := List.mem_range.mp hk
        refine decide_eq_decide.mpr ⟨fun z => ?_, fun z => List.mem_append_left _ z⟩
        rcases List.mem_append.mp z with z | z
        · exact z
        · have := List.mem_singleton.mp z; omega
      rw [e, lot_range h1]
      simp
theorem zeroP_get : ∀ {Z : Nat → Bool} {r : List Int} {i : Nat}, (zeroP Z r)[i]? = (r[i]?).map fun x => if Z i = true then 0 else x
  | _, [], i => by simp [zeroP]
  | Z, x :: r, 0 => by simp [zeroP]
  | Z, x :: r, i + 1 => by
    show (zeroP (fun k => Z (k + 1)) r)[i]? = (r[i]?).map _
    exact zeroP_get
theorem zeroed_P {l r : List Int} : zeroed l r = zeroP (fun k => decide (((k : Nat) : Int) ∈ l)) r := by
  apply List.ext_getElem?
  intro i
  rw [zeroP_get]
  by_cases h : i < r.length
  · rw [zeroed_get (List.getElem?_eq_getElem h), List.getElem?_eq_getElem h]
    simp
  · rw [List.getElem?_eq_none (by rw [zeroed_len]; omega), List.getElem?_eq_none (by omega)]
    rfl
theorem SubZ.inR : ∀ {Z : Nat → Bool} {c r r' : List Int}, SubZ Z r' r → inR c r → inR c r'
  | _, [], [], [], _, _ => trivial
  | Z, s :: c, x :: r, x' :: r', h, hr => by
    refine ⟨?_, SubZ.inR h.2 hr.2⟩
    rcases h.1 with e | ⟨_, e⟩
    · rw [e]; exact hr.1
    · rw [e]; have := hr.1; omega
  | _, [], [], _ :: _, h, _ => h.elim
  | _, [], _ :: _, _, _, h => h.elim
  | _, _ :: _, [], _, _, h => h.elim
  | _, _ :: _, _ :: _, [], h, _ => h.elim
theorem SubZ.get : ∀ {Z : Nat → Bool} {r r' : List Int} {k : Nat}, SubZ Z r' r → (r'.getD k 0 = r.getD k 0 ∨ (Z k = false ∧ r'.getD k 0 = 0))
  | _, [], [], k, _ => .inl rfl
  | Z, x :: r, x' :: r', 0, h => h.1
  | Z, x :: r, x' :: r', k + 1, h => SubZ.get (Z := fun k => Z (k + 1)) (k := k) h.2
  | _, [], _ :: _, _, h => h.elim
  | _, _ :: _, [], _, h => h.elim
theorem SubZ.ne : ∀ {Z : Nat → Bool} {r r' : List Int}, SubZ Z r' r → r' ≠ r → ∃ k, k < r.length ∧ r.getD k 0 ≠ 0 ∧ r'.getD k 0 = 0
  | _, [], [], _, h => absurd rfl h
  | Z, x :: r, x' :: r', h, hne => by
    by_cases e : x' = x
    · obtain ⟨k, h1, h2, h3⟩ := SubZ.ne h.2 fun z => hne (by rw [e, z])
      exact ⟨k + 1, by simpa using h1, h2, h3⟩
    · rcases h.1 with z | ⟨_, z⟩
      · exact absurd z e
      · exact ⟨0, by simp, fun z2 => e (z.trans z2.symm), z⟩
  | _, [], _ :: _, h, _ => h.elim
  | _, _ :: _, [], h, _ => h.elim
theorem filter_lt {α : Type} {p q : α → Bool} : ∀ {l : List α}, (∀ x ∈ l, p x = true → q x = true) → (∃ x ∈ l, q x = true ∧ p x = false) → (l.filter p).length < (l.filter q).length
  | [], _, h => by obtain ⟨x, h1, _⟩ := h; simp at h1
  | y :: l, hs, h => by
    have le : (l.filter p).length ≤ (l.filter q).length := by
      have e : l.filter p = (l.filter q).filter p := by
        rw [List.filter_filter]
        refine List.filter_congr fun x hx => ?_
        cases hp : p x with
        | false => rfl
        | true => rw [hs x (List.mem_cons_of_mem _ hx) hp]; rfl
      rw [e]
      exact List.length_filter_le _ _
    obtain ⟨x, h1, h2, h3⟩ := h
    rcases List.mem_cons.mp h1 with e | h1
    · subst e
      rw [List.filter_cons_of_pos h2, List.filter_cons_of_neg (by rw [h3]; simp), List.length_cons]
      omega
    · have ih := filter_lt (p := p) (q := q) (fun z hz => hs z (List.mem_cons_of_mem _ hz)) ⟨x, h1, h2, h3⟩
      cases hp : p y with
      | true =>
        rw [List.filter_cons_of_pos hp, List.filter_cons_of_pos (hs y List.mem_cons_self hp), List.length_cons, List.length_cons]
        omega
      | false =>
        rw [List.filter_cons_of_neg (by rw [hp]; simp)]
        cases hq : q y with
        | true => rw [List.filter_cons_of_pos hq, List.length_cons]; omega
        | false => rw [List.filter_cons_of_neg (by rw [hq]; simp)]; exact ih
theorem SubZ.len {Z : Nat → Bool} {r r' : List Int} (hl : r'.length = r.length) (h : SubZ Z r' r) (hne : r' ≠ r) : (speak r').length < (speak r).length := by
  rw [speak_eq, speak_eq, hl]
  obtain ⟨k, h1, h2, h3⟩ := h.ne hne
  refine filter_lt (fun x hx hp => ?_) ⟨((k : Nat) : Int), List.mem_map.mpr ⟨k, List.mem_range.mpr h1, rfl⟩, ?_, ?_⟩
  · rcases h.get (k := x.toNat) with e | ⟨_, e⟩
    · rw [← e]; exact hp
    · rw [e] at hp; simp at hp
  · rw [Int.toNat_natCast]; simpa using h2
  · rw [Int.toNat_natCast, h3]; rfl
/-- the first of the sorted is the least -/
theorem sorted_head {xs rest : List (Int × Int)} {p : Int × Int} (h : sorted xs = p :: rest) : ∀ q ∈ xs, p.1 ≤ q.1 := by
  have hle : PySem.W.dataLe false dP = fun a b : Int × Int => decide (a.1 < b.1 ∨ (a.1 = b.1 ∧ a.2 ≤ b.2)) := PySem.W.dataLe_ii Prod.fst Prod.snd
  have hs := List.pairwise_mergeSort (le := fun a b : Int × Int => decide (a.1 < b.1 ∨ (a.1 = b.1 ∧ a.2 ≤ b.2))) (by intro x y z h1 h2; simp only [decide_eq_true_eq] at *; omega) (by intro x y; simp only [Bool.or_eq_true, decide_eq_true_eq]; omega) xs
  have h' : xs.mergeSort (fun a b : Int × Int => decide (a.1 < b.1 ∨ (a.1 = b.1 ∧ a.2 ≤ b.2))) = p :: rest := by rw [← hle]; exact h
  intro q hq
  have hm : q ∈ p :: rest := by
    rw [← h']
    exact (List.mergeSort_perm _ _).mem_iff.mpr hq
  rw [h'] at hs
  rcases List.mem_cons.mp hm with e | hm
  · rw [e]; exact Int.le_refl _
  · have := (List.pairwise_cons.mp hs).1 q hm
    simp only [decide_eq_true_eq] at this
    omega
theorem plain (c : List Int) (kin : List (List Int)) (tt : List Int) (hc : ClubOk c) (hk : KinO c.length kin) (ht : TotOk c tt) : PL3 c kin tt where
  rows := lawRows_eq c hc.ge1
  none := fun hb i j hi hj => by
    unfold isB
    by_cases h : unl c.length (slips c i) (slips c j) ∈ leastOf kin
    · have hz : boxSum c tt i j = 0 := by
        rw [box_BS]
        refine BS_none (slips_inR hc.ge1) (slips_inR hc.ge1) fun r hr hcond => ?_
        by_cases hp : PTm r (Tf c tt) = 0
        · exact hp
        · exfalso
          have hin := barred_in (kin := kin) hc.ge1 ht hr hp (meets_mono (fun k hk' => ?_) (mem_leastOf h).2)
          · rw [hb] at hin; simp at hin
          · obtain ⟨x, h1, h2, h3⟩ := mem_unl.mp hk'
            exact mem_speak.mpr ⟨x, by rw [inR_len hr]; exact h1, h2, hcond x h3⟩
      rw [hz]; simp
    · rw [decide_eq_false h, Bool.false_and]
  some := fun p rest l hs hl hls => by
    have hpm : p ∈ barred c kin (partsOf c tt) := (List.mergeSort_perm _ _).mem_iff.mp (by show p ∈ sorted _; rw [hs]; exact List.mem_cons_self)
    have hmin := sorted_head hs
    obtain ⟨hpl, hp1, hpt⟩ := barred_out hc.ge1 ht hpm
    have hr := slips_inR (n := p.2) hc.ge1
    have hlr := line_range (c := c) (lot := l) (n := p.2) hc.ge1
    have hzr := zeroed_inR (lot := l) hc.ge1 hr
    have esl : slips c (lineOf c l p.2) = zeroed l (slips c p.2) := slips_place c _ hzr
    have hll := (mem_leastOf hl).1
    rw [hk.len] at hll
    refine ⟨⟨hlr.1, hlr.2⟩, hpl, ?_⟩
    have hsp : ∀ k : Nat, ((k : Nat) : Int) ∈ l → (slips c p.2).getD k 0 ≠ 0 := fun k hk' => by
      obtain ⟨x, h1, h2, h3⟩ := mem_speak.mp (hls _ hk')
      have : k = x := by omega
      rw [this]; exact h3
    have hun : unl c.length (slips c (lineOf c l p.2)) (slips c p.2) = l := by
      rw [esl]
      refine Eq.trans ?_ (lot_range hll)
      unfold unl
      congr 1
      refine List.filter_congr fun k hk' => ?_
      have hkl : k < (slips c p.2).length := by rw [slips_len']; exact List.mem_range.mp hk'
      have g := List.getElem?_eq_getElem hkl
      have e1 : (zeroed l (slips c p.2)).getD k 0 = if ((k : Nat) : Int) ∈ l then 0 else (slips c p.2).getD k 0 := by
        simp only [List.getD, zeroed_get g, g, Option.getD_some]
      rw [e1]
      by_cases hkm : ((k : Nat) : Int) ∈ l
      · rw [if_pos hkm, decide_eq_true hkm]
        have := hsp k hkm
        simp only [Bool.not_eq_true', decide_eq_false_iff_not]
        exact fun e => this e.symm
      · rw [if_neg hkm, decide_eq_false hkm]
        simp
    unfold isB
    rw [hun, decide_eq_true hl, Bool.true_and]
    have hbs := BS_some (slips c p.2) (fun k => decide (((k : Nat) : Int) ∈ l)) (Tf c tt) (fun k _ hz => hsp k (of_decide_eq_true hz)) fun r' hsub hne => by
      by_cases hp : PTm r' (Tf c tt) = 0
      · exact hp
      · exfalso
        have hr' := hsub.inR hr
        have hlen : r'.length = (slips c p.2).length := by rw [inR_len hr', inR_len hr]
        have hin := barred_in (kin := kin) hc.ge1 ht hr' hp (meets_mono (fun k hk' => ?_) (mem_leastOf hl).2)
        · have h1 := hmin _ hin
          have h2 := hsub.len hlen hne
          simp only at h1
          omega
        · obtain ⟨x, h1, h2, h3⟩ := mem_speak.mp (hls k hk')
          refine mem_speak.mpr ⟨x, by rw [hlen]; exact h1, h2, ?_⟩
          rcases hsub.get (k := x) with e | ⟨e, _⟩
          · rw [e]; exact h3
          · have : decide (((x : Nat) : Int) ∈ l) = true := decide_eq_true (by rw [← h2]; exact hk')
            rw [this] at e; cases e
    obtain ⟨e, he, hb⟩ := hbs
    have hne : boxSum c tt (lineOf c l p.2) p.2 ≠ 0 := by
      rw [box_BS, esl, zeroed_P, hb]
      rcases he with rfl | rfl
      · rw [Int.one_mul]; exact hpt
      · rw [Int.neg_mul, Int.one_mul]; omega
    simpa using hne
  sym := fun i j hi hj => by
    unfold isB
    rw [unl_comm]
    congr 2
    obtain ⟨e, he, hb⟩ := BS_swap (slips c i) (slips c j)
    have := hb (Tf c tt)
    rw [← box_BS, ← box_BS] at this
    refine decide_eq_decide.mpr ?_
    rcases he with rfl | rfl
    · rw [Int.one_mul] at this; rw [this]
    · rw [Int.neg_mul, Int.one_mul] at this; omega
end OC
set_option Elab.async false
set_option linter.all false
set_option maxRecDepth 100000
set_option maxHeartbeats 0
namespace OC
open PySem PySem.Spec PyProof.Rows L2
def spLaw (K : PySem.W.Frag) : Sp := fun vs H Q _ => ∃ (a : Addr) (ns : List Int), vs = [.ref a] ∧ SqL K H a (ns.map V.int) ∧ ns.length ≤ 63 ∧ ∀ H', Q (.bl true) H'
theorem facts {P : Program} {w : World} {K : PySem.W.Frag} {h : Heap} {mg : Str → Option Value} {f : Addr} (X : K.In h) (G : h.Ns mainGlobals mg) (hfa : mg ("law" : Str) = some (.ref f)) (c : He.SaysD fa fn K) :
    ∃ fd : FuncData, (∀ (s : Shared) (v : Value), BindsTo s fd ⟨[v], []⟩ [("_law_script", v)]) ∧ ∀ base : Heap, K.In base → base.Ns mainGlobals mg → FnOk P w K mg base CX0 9 f fd ["_law_script"] (spLaw K) := by
  have t : Top K mg := ⟨c, ⟨h, X, G⟩⟩
  obtain ⟨fd, F⟩ := c.def_ (d := d_law) 54 rfl
  have e : f = He.ga K "law" := by
    have := t.glo 54 (x := "law") rfl
    rw [hfa] at this
    injection this with this
    injection this
  subst e
  exact ⟨fd, fun s v => FunD.bindsA (ps := ["_law_script"]) F (fun _ _ _ _ _ _ us hl => match us, hl with | [_], _ => rfl) s [v] rfl, fun base _ _ => ok_law t plain F (spLaw K) fun vs H Q E h => h⟩
end OC
open PySem PySem.W PySem.Calls PyProof.Rows
theorem PySem.Challenge.cw_owncause_k66_whole_all_boxes_of_small_cl_holds : PySem.Challenge.rw_owncause_k66_whole_all_boxes_of_small_cl.Holds := by
  w_on; o_law
  refine HandSHeadRun.head_any (r := OC.R) (q := view OC.R.prog [67]) (H := OC.hk) (ob := OC.ob) (M := 4000) (loose := OC.loose) (d := HandSHeadRun.topDef OC.R.prog 67) (kwd := []) OC.ob_eq
    (by kernel_rfl) (fun s => by kernel_rfl) OC.run (by kernel_rfl) (by kernel_rfl) (by kernel_rfl) (by rfl) (by first | assumption | decide +kernel) (by decide +kernel) ⟨rfl, rfl, rfl, rfl, rfl, by decide +kernel⟩ ?hw ?hc
  case hw => w_witness2
  case hc =>
    refine L2.walk_ofE (l := PySem.Challenge.rw_owncause_k66_whole_all_boxes_of_small_cl) (n := 63) (k := 9) (x := "_law_script") (CX := L2.CX0) rfl (by decide) (by kernel_rfl) ⟨rfl, by decide, by decide⟩ ?F (fun _ _ _ _ z => z)
    intro w mg fa h Y G hmg0
    obtain ⟨K, KX, c⟩ := Y
    have hmg : mg ("law" : PySem.Str) = some (.ref fa) := by
      have e : (HandSHeadRun.topDef OC.R.prog 67).name = ("law" : PySem.Str) := by kernel_rfl
      rw [← e]
      exact hmg0
    obtain ⟨fd, hb, hF⟩ := OC.facts (P := (PySem.Challenge.rw_owncause_k66_whole_all_boxes_of_small_cl).prog) (w := w) KX G hmg c
    exact ⟨K, fd, OC.spLaw K, KX, hb, fun H a ns hl _ hS => ⟨a, ns, rfl, hS, hl, fun _ => rfl⟩, hF⟩

import PyProof.Rows.All
import Wide.All
import OpenK.AllK
import Wide.FinOn
import KE.KStateDown
import Lean
import HandS.ForMost
import HandS.ForExc
import HandS.Defaults
import HandS.Head0
import HandS.Head1
import HandS.Head2
import HandS.Head3
import HandS.HeadEnd
import HandS.HeadHook1
import HandS.HeadHook2
import HandS.HeadHook3
import HandS.HeadHook4
import PySem.Challenge.RW_windfigure_k87_whole_notes_told_by_notes
import HandS.Wide
import HandS.Gcd
import HandS.IsInst
import HandS.Style
import HandS.ExcOwn
import HandS.TupSets
import HandS.SetBool
import HandS.SortRule
import HandS.Iter
import HandS.Walk
import HandS.WordsExc
import KE.GoesEnum
import HandS.NoneIn
import HandS.More
import HandS.TryOnly
import HandS.Evl
import HandS.Ends
set_option Elab.async false
set_option linter.all false
set_option maxRecDepth 100000
set_option maxHeartbeats 0
namespace K87
open PySem PySem.Spec PyProof.Rows L2
def topS (i : Nat) : Stmt := PySem.Challenge.pw_windfigure_k87_whole_notes_told_by_notes.main.body.getD i (.Pass ⟨0, 0, 0, 0⟩)
abbrev s_is_whole : Stmt := topS 7
abbrev s_are_wholes : Stmt := topS 8
abbrev s_common_divisor : Stmt := topS 9
abbrev s_lowest : Stmt := topS 10
abbrev s_is_lowest : Stmt := topS 11
abbrev s_is_ratio : Stmt := topS 13
abbrev s_is_length : Stmt := topS 14
abbrev s_is_vector : Stmt := topS 17
abbrev s_vector_over : Stmt := topS 18
abbrev s_step_between : Stmt := topS 19
abbrev s_side_at : Stmt := topS 22
abbrev s_side_left : Stmt := topS 23
abbrev s_value_at : Stmt := topS 24
abbrev s_are_held : Stmt := topS 25
abbrev s_chain : Stmt := topS 26
abbrev s_is_left : Stmt := topS 27
abbrev s_hull : Stmt := topS 28
abbrev s_is_shape : Stmt := topS 29
abbrev s_next_corner : Stmt := topS 30
abbrev s_sides : Stmt := topS 31
abbrev s_has : Stmt := topS 32
abbrev s_within : Stmt := topS 33
abbrev s_is_sailed : Stmt := topS 35
abbrev s_check_figure : Stmt := topS 36
abbrev s_is_note : Stmt := topS 39
abbrev s_check_notes : Stmt := topS 40
abbrev s_noted : Stmt := topS 41
abbrev s_velocities_with : Stmt := topS 42
abbrev s_least : Stmt := topS 43
abbrev s_lets : Stmt := topS 44
abbrev s_check_some : Stmt := topS 45
abbrev s_word_with : Stmt := topS 46
abbrev s_told_beside : Stmt := topS 47
abbrev s_is_told : Stmt := topS 48
abbrev s_tells_all : Stmt := topS 49
abbrev s_w_mug : Stmt := topS 51
abbrev s_w_dip : Stmt := topS 52
abbrev s_w_pick : Stmt := topS 53
abbrev s_w_whole : Stmt := topS 54
abbrev s_w_gcd : Stmt := topS 55
abbrev s_w_ratio : Stmt := topS 56
abbrev s_w_spot : Stmt := topS 57
abbrev s_w_sum : Stmt := topS 58
abbrev s_w_anti : Stmt := topS 59
abbrev s_w_less : Stmt := topS 60
abbrev s_w_led : Stmt := topS 61
abbrev s_w_bend : Stmt := topS 62
abbrev s_w_hull : Stmt := topS 63
abbrev s_w_high : Stmt := topS 64
abbrev s_w_side : Stmt := topS 65
abbrev s_w_normals : Stmt := topS 66
abbrev s_w_sides : Stmt := topS 67
abbrev s_w_over : Stmt := topS 68
abbrev s_w_has : Stmt := topS 69
abbrev s_w_grown : Stmt := topS 70
abbrev s_w_point : Stmt := topS 71
abbrev s_w_frame : Stmt := topS 72
abbrev s_w_span : Stmt := topS 73
abbrev s_w_wide : Stmt := topS 74
abbrev s_w_between : Stmt := topS 75
abbrev s_w_log : Stmt := topS 76
abbrev s_w_pace : Stmt := topS 77
abbrev s_w_paces : Stmt := topS 78
abbrev s_w_least : Stmt := topS 79
abbrev s_w_is_open : Stmt := topS 80
abbrev s_w_bars : Stmt := topS 81
abbrev s_w_word_of : Stmt := topS 82
abbrev s_w_near : Stmt := topS 83
abbrev s_w_told : Stmt := topS 84
abbrev s_w_all_told : Stmt := topS 85
abbrev s_w_others : Stmt := topS 86
abbrev s_w_boat : Stmt := topS 87
abbrev s_w_right : Stmt := topS 88
abbrev s_law : Stmt := topS 89
theorem sc_is_whole : FnScope ["value"] ["value"] (defScope s_is_whole) := ⟨rfl, rfl, rfl, by decide +kernel, rfl, by decide +kernel, by decide +kernel⟩
theorem sc_are_wholes : FnScope ["value", "many", "number"] ["value", "many"] (defScope s_are_wholes) := ⟨rfl, rfl, rfl, by decide +kernel, rfl, by decide +kernel, by decide +kernel⟩
theorem sc_common_divisor : FnScope ["numbers", "found", "number"] ["numbers"] (defScope s_common_divisor) := ⟨rfl, rfl, rfl, by decide +kernel, rfl, by decide +kernel, by decide +kernel⟩
theorem sc_lowest : FnScope ["numbers", "divisor", "number"] ["numbers"] (defScope s_lowest) := ⟨rfl, rfl, rfl, by decide +kernel, rfl, by decide +kernel, by decide +kernel⟩
theorem sc_is_lowest : FnScope ["numbers"] ["numbers"] (defScope s_is_lowest) := ⟨rfl, rfl, rfl, by decide +kernel, rfl, by decide +kernel, by decide +kernel⟩
theorem sc_is_ratio : FnScope ["value"] ["value"] (defScope s_is_ratio) := ⟨rfl, rfl, rfl, by decide +kernel, rfl, by decide +kernel, by decide +kernel⟩
theorem sc_is_length : FnScope ["value"] ["value"] (defScope s_is_length) := ⟨rfl, rfl, rfl, by decide +kernel, rfl, by decide +kernel, by decide +kernel⟩
theorem sc_is_vector : FnScope ["value"] ["value"] (defScope s_is_vector) := ⟨rfl, rfl, rfl, by decide +kernel, rfl, by decide +kernel, by decide +kernel⟩
theorem sc_vector_over : FnScope ["one", "number"] ["one", "number"] (defScope s_vector_over) := ⟨rfl, rfl, rfl, by decide +kernel, rfl, by decide +kernel, by decide +kernel⟩
theorem sc_step_between : FnScope ["one", "two"] ["one", "two"] (defScope s_step_between) := ⟨rfl, rfl, rfl, by decide +kernel, rfl, by decide +kernel, by decide +kernel⟩
theorem sc_side_at : FnScope ["normal", "point", "a", "b", "x", "y", "w"] ["normal", "point"] (defScope s_side_at) := ⟨rfl, rfl, rfl, by decide +kernel, rfl, by decide +kernel, by decide +kernel⟩
theorem sc_side_left : FnScope ["one", "two", "u", "v"] ["one", "two"] (defScope s_side_left) := ⟨rfl, rfl, rfl, by decide +kernel, rfl, by decide +kernel, by decide +kernel⟩
theorem sc_value_at : FnScope ["side", "point"] ["side", "point"] (defScope s_value_at) := ⟨rfl, rfl, rfl, by decide +kernel, rfl, by decide +kernel, by decide +kernel⟩
theorem sc_are_held : FnScope ["borders", "point", "side"] ["borders", "point"] (defScope s_are_held) := ⟨rfl, rfl, rfl, by decide +kernel, rfl, by decide +kernel, by decide +kernel⟩
theorem sc_chain : FnScope ["rows", "found", "row"] ["rows"] (defScope s_chain) := ⟨rfl, rfl, rfl, by decide +kernel, rfl, by decide +kernel, by decide +kernel⟩
theorem sc_is_left : FnScope ["one", "two", "three"] ["one", "two", "three"] (defScope s_is_left) := ⟨rfl, rfl, rfl, by decide +kernel, rfl, by decide +kernel, by decide +kernel⟩
theorem sc_hull : FnScope ["points", "under", "point", "rows", "found", "x", "y", "w"] ["points"] (defScope s_hull) := ⟨rfl, rfl, rfl, by decide +kernel, rfl, by decide +kernel, by decide +kernel⟩
theorem sc_is_shape : FnScope ["value", "corner"] ["value"] (defScope s_is_shape) := ⟨rfl, rfl, rfl, by decide +kernel, rfl, by decide +kernel, by decide +kernel⟩
theorem sc_next_corner : FnScope ["polygon", "at"] ["polygon", "at"] (defScope s_next_corner) := ⟨rfl, rfl, rfl, by decide +kernel, rfl, by decide +kernel, by decide +kernel⟩
theorem sc_sides : FnScope ["polygon", "one", "two", "u", "v", "normal", "at", "corner"] ["polygon"] (defScope s_sides) := ⟨rfl, rfl, rfl, by decide +kernel, rfl, by decide +kernel, by decide +kernel⟩
theorem sc_has : FnScope ["polygon", "point"] ["polygon", "point"] (defScope s_has) := ⟨rfl, rfl, rfl, by decide +kernel, rfl, by decide +kernel, by decide +kernel⟩
theorem sc_within : FnScope ["polygon", "other", "borders", "corner"] ["polygon", "other"] (defScope s_within) := ⟨rfl, rfl, rfl, by decide +kernel, rfl, by decide +kernel, by decide +kernel⟩
theorem sc_is_sailed : FnScope ["value"] ["value"] (defScope s_is_sailed) := ⟨rfl, rfl, rfl, by decide +kernel, rfl, by decide +kernel, by decide +kernel⟩
theorem sc_check_figure : FnScope ["value"] ["value"] (defScope s_check_figure) := ⟨rfl, rfl, rfl, by decide +kernel, rfl, by decide +kernel, by decide +kernel⟩
theorem sc_is_note : FnScope ["value"] ["value"] (defScope s_is_note) := ⟨rfl, rfl, rfl, by decide +kernel, rfl, by decide +kernel, by decide +kernel⟩
theorem sc_check_notes : FnScope ["value", "at", "note"] ["value"] (defScope s_check_notes) := ⟨rfl, rfl, rfl, by decide +kernel, rfl, by decide +kernel, by decide +kernel⟩
theorem sc_noted : FnScope ["note"] ["note"] (defScope s_noted) := ⟨rfl, rfl, rfl, by decide +kernel, rfl, by decide +kernel, by decide +kernel⟩
theorem sc_velocities_with : FnScope ["notes", "word", "note"] ["notes", "word"] (defScope s_velocities_with) := ⟨rfl, rfl, rfl, by decide +kernel, rfl, by decide +kernel, by decide +kernel⟩
theorem sc_least : FnScope ["notes"] ["notes"] (defScope s_least) := ⟨rfl, rfl, rfl, by decide +kernel, rfl, by decide +kernel, by decide +kernel⟩
theorem sc_lets : FnScope ["polygon", "notes", "borders", "velocity"] ["polygon", "notes"] (defScope s_lets) := ⟨rfl, rfl, rfl, by decide +kernel, rfl, by decide +kernel, by decide +kernel⟩
theorem sc_check_some : FnScope ["notes"] ["notes"] (defScope s_check_some) := ⟨rfl, rfl, rfl, by decide +kernel, rfl, by decide +kernel, by decide +kernel⟩
theorem sc_word_with : FnScope ["notes", "polygon", "inner"] ["notes", "polygon"] (defScope s_word_with) := ⟨rfl, rfl, rfl, by decide +kernel, rfl, by decide +kernel, by decide +kernel⟩
theorem sc_told_beside : FnScope ["notes", "figure"] ["notes", "figure"] (defScope s_told_beside) := ⟨rfl, rfl, rfl, by decide +kernel, rfl, by decide +kernel, by decide +kernel⟩
theorem sc_is_told : FnScope ["notes", "note", "word"] ["notes", "note"] (defScope s_is_told) := ⟨rfl, rfl, rfl, by decide +kernel, rfl, by decide +kernel, by decide +kernel⟩
theorem sc_tells_all : FnScope ["notes", "others", "note"] ["notes", "others"] (defScope s_tells_all) := ⟨rfl, rfl, rfl, by decide +kernel, rfl, by decide +kernel, by decide +kernel⟩
theorem sc_w_mug : FnScope ["_law_script", "_law_lap", "_law_cell", "_law_blend", "_law_each"] ["_law_script", "_law_lap"] (defScope s_w_mug) := ⟨rfl, rfl, rfl, by decide +kernel, rfl, by decide +kernel, by decide +kernel⟩
theorem sc_w_dip : FnScope ["_law_mug_here", "_law_size", "_law_digit", "_law_factor"] ["_law_mug_here", "_law_size"] (defScope s_w_dip) := ⟨rfl, rfl, rfl, by decide +kernel, rfl, by decide +kernel, by decide +kernel⟩
theorem sc_w_pick : FnScope ["_law_mug_here", "_law_some"] ["_law_mug_here", "_law_some"] (defScope s_w_pick) := ⟨rfl, rfl, rfl, by decide +kernel, rfl, by decide +kernel, by decide +kernel⟩
theorem sc_w_whole : FnScope ["_law_mug_here", "_law_wide_here"] ["_law_mug_here", "_law_wide_here"] (defScope s_w_whole) := ⟨rfl, rfl, rfl, by decide +kernel, rfl, by decide +kernel, by decide +kernel⟩
theorem sc_w_gcd : FnScope ["_law_one", "_law_two"] ["_law_one", "_law_two"] (defScope s_w_gcd) := ⟨rfl, rfl, rfl, by decide +kernel, rfl, by decide +kernel, by decide +kernel⟩
theorem sc_w_ratio : FnScope ["_law_n", "_law_m", "_law_deep"] ["_law_n", "_law_m"] (defScope s_w_ratio) := ⟨rfl, rfl, rfl, by decide +kernel, rfl, by decide +kernel, by decide +kernel⟩
theorem sc_w_spot : FnScope ["_law_x", "_law_y", "_law_w", "_law_deep"] ["_law_x", "_law_y", "_law_w"] (defScope s_w_spot) := ⟨rfl, rfl, rfl, by decide +kernel, rfl, by decide +kernel, by decide +kernel⟩
theorem sc_w_sum : FnScope ["_law_p", "_law_q"] ["_law_p", "_law_q"] (defScope s_w_sum) := ⟨rfl, rfl, rfl, by decide +kernel, rfl, by decide +kernel, by decide +kernel⟩
theorem sc_w_anti : FnScope ["_law_p"] ["_law_p"] (defScope s_w_anti) := ⟨rfl, rfl, rfl, by decide +kernel, rfl, by decide +kernel, by decide +kernel⟩
theorem sc_w_less : FnScope ["_law_p", "_law_q"] ["_law_p", "_law_q"] (defScope s_w_less) := ⟨rfl, rfl, rfl, by decide +kernel, rfl, by decide +kernel, by decide +kernel⟩
theorem sc_w_led : FnScope ["_law_p", "_law_rate"] ["_law_p", "_law_rate"] (defScope s_w_led) := ⟨rfl, rfl, rfl, by decide +kernel, rfl, by decide +kernel, by decide +kernel⟩
theorem sc_w_bend : FnScope ["_law_one", "_law_two", "_law_three"] ["_law_one", "_law_two", "_law_three"] (defScope s_w_bend) := ⟨rfl, rfl, rfl, by decide +kernel, rfl, by decide +kernel, by decide +kernel⟩
theorem sc_w_hull : FnScope ["_law_some", "_law_deep", "_law_p", "_law_grid", "_law_found", "_law_row", "_law_chain", "_law_pair"] ["_law_some"] (defScope s_w_hull) := ⟨rfl, rfl, rfl, by decide +kernel, rfl, by decide +kernel, by decide +kernel⟩
theorem sc_w_high : FnScope ["_law_a", "_law_b", "_law_some", "_law_best", "_law_p", "_law_n"] ["_law_a", "_law_b", "_law_some"] (defScope s_w_high) := ⟨rfl, rfl, rfl, by decide +kernel, rfl, by decide +kernel, by decide +kernel⟩
theorem sc_w_side : FnScope ["_law_a", "_law_b", "_law_some", "_law_n", "_law_m", "_law_deep"] ["_law_a", "_law_b", "_law_some"] (defScope s_w_side) := ⟨rfl, rfl, rfl, by decide +kernel, rfl, by decide +kernel, by decide +kernel⟩
theorem sc_w_normals : FnScope ["_law_some", "_law_found", "_law_at", "_law_p", "_law_q", "_law_a", "_law_b"] ["_law_some"] (defScope s_w_normals) := ⟨rfl, rfl, rfl, by decide +kernel, rfl, by decide +kernel, by decide +kernel⟩
theorem sc_w_sides : FnScope ["_law_some", "_law_a", "_law_b"] ["_law_some"] (defScope s_w_sides) := ⟨rfl, rfl, rfl, by decide +kernel, rfl, by decide +kernel, by decide +kernel⟩
theorem sc_w_over : FnScope ["_law_side_here", "_law_p"] ["_law_side_here", "_law_p"] (defScope s_w_over) := ⟨rfl, rfl, rfl, by decide +kernel, rfl, by decide +kernel, by decide +kernel⟩
theorem sc_w_has : FnScope ["_law_some", "_law_p", "_law_side_here"] ["_law_some", "_law_p"] (defScope s_w_has) := ⟨rfl, rfl, rfl, by decide +kernel, rfl, by decide +kernel, by decide +kernel⟩
theorem sc_w_grown : FnScope ["_law_some", "_law_rate", "_law_p"] ["_law_some", "_law_rate"] (defScope s_w_grown) := ⟨rfl, rfl, rfl, by decide +kernel, rfl, by decide +kernel, by decide +kernel⟩
theorem sc_w_point : FnScope ["_law_mug_here", "_law_wide_here", "_law_w"] ["_law_mug_here", "_law_wide_here"] (defScope s_w_point) := ⟨rfl, rfl, rfl, by decide +kernel, rfl, by decide +kernel, by decide +kernel⟩
theorem sc_w_frame : FnScope ["_law_mug_here", "_law_wide_here", "_law_way", "_law_some", "_law_lap", "_law_found", "_law_p"] ["_law_mug_here", "_law_wide_here"] (defScope s_w_frame) := ⟨rfl, rfl, rfl, by decide +kernel, rfl, by decide +kernel, by decide +kernel⟩
theorem sc_w_span : FnScope ["_law_mug_here"] ["_law_mug_here"] (defScope s_w_span) := ⟨rfl, rfl, rfl, by decide +kernel, rfl, by decide +kernel, by decide +kernel⟩
theorem sc_w_wide : FnScope ["_law_mug_here"] ["_law_mug_here"] (defScope s_w_wide) := ⟨rfl, rfl, rfl, by decide +kernel, rfl, by decide +kernel, by decide +kernel⟩
theorem sc_w_between : FnScope ["_law_mug_here", "_law_some", "_law_rates", "_law_found", "_law_at", "_law_p"] ["_law_mug_here", "_law_some"] (defScope s_w_between) := ⟨rfl, rfl, rfl, by decide +kernel, rfl, by decide +kernel, by decide +kernel⟩
theorem sc_w_log : FnScope ["_law_mug_here", "_law_many", "_law_wide_here", "_law_found", "_law_past", "_law_far", "_law_lap", "_law_word", "_law_span_here", "_law_pace_here"] ["_law_mug_here", "_law_many", "_law_wide_here"] (defScope s_w_log) := ⟨rfl, rfl, rfl, by decide +kernel, rfl, by decide +kernel, by decide +kernel⟩
theorem sc_w_pace : FnScope ["_law_note"] ["_law_note"] (defScope s_w_pace) := ⟨rfl, rfl, rfl, by decide +kernel, rfl, by decide +kernel, by decide +kernel⟩
theorem sc_w_paces : FnScope ["_law_notes", "_law_word", "_law_note"] ["_law_notes", "_law_word"] (defScope s_w_paces) := ⟨rfl, rfl, rfl, by decide +kernel, rfl, by decide +kernel, by decide +kernel⟩
theorem sc_w_least : FnScope ["_law_notes"] ["_law_notes"] (defScope s_w_least) := ⟨rfl, rfl, rfl, by decide +kernel, rfl, by decide +kernel, by decide +kernel⟩
theorem sc_w_is_open : FnScope ["_law_notes", "_law_least_here", "_law_pace_here"] ["_law_notes"] (defScope s_w_is_open) := ⟨rfl, rfl, rfl, by decide +kernel, rfl, by decide +kernel, by decide +kernel⟩
theorem sc_w_bars : FnScope ["_law_notes", "_law_some", "_law_whole_here", "_law_pace_here"] ["_law_notes", "_law_some"] (defScope s_w_bars) := ⟨rfl, rfl, rfl, by decide +kernel, rfl, by decide +kernel, by decide +kernel⟩
theorem sc_w_word_of : FnScope ["_law_notes", "_law_pace_here"] ["_law_notes", "_law_pace_here"] (defScope s_w_word_of) := ⟨rfl, rfl, rfl, by decide +kernel, rfl, by decide +kernel, by decide +kernel⟩
theorem sc_w_near : FnScope ["_law_mug_here", "_law_notes", "_law_way", "_law_least_here", "_law_barred", "_law_pace_here", "_law_goal", "_law_found"] ["_law_mug_here", "_law_notes"] (defScope s_w_near) := ⟨rfl, rfl, rfl, by decide +kernel, rfl, by decide +kernel, by decide +kernel⟩
theorem sc_w_told : FnScope ["_law_notes", "_law_others_here", "_law_some", "_law_told_here"] ["_law_notes", "_law_others_here", "_law_some"] (defScope s_w_told) := ⟨rfl, rfl, rfl, by decide +kernel, rfl, by decide +kernel, by decide +kernel⟩
theorem sc_w_all_told : FnScope ["_law_notes", "_law_others_here", "_law_note"] ["_law_notes", "_law_others_here"] (defScope s_w_all_told) := ⟨rfl, rfl, rfl, by decide +kernel, rfl, by decide +kernel, by decide +kernel⟩
theorem sc_w_others : FnScope ["_law_mug_here", "_law_notes", "_law_wide_here", "_law_found", "_law_least_here", "_law_lap", "_law_way", "_law_span_here", "_law_note"] ["_law_mug_here", "_law_notes", "_law_wide_here"] (defScope s_w_others) := ⟨rfl, rfl, rfl, by decide +kernel, rfl, by decide +kernel, by decide +kernel⟩
theorem sc_w_boat : FnScope ["_law_mug_here", "_law_notes", "_law_wide_here", "_law_least_here", "_law_way", "_law_found", "_law_lap"] ["_law_mug_here", "_law_notes", "_law_wide_here"] (defScope s_w_boat) := ⟨rfl, rfl, rfl, by decide +kernel, rfl, by decide +kernel, by decide +kernel⟩
theorem sc_w_right : FnScope ["_law_mug_here", "_law_wide_here", "_law_notes", "_law_others_here", "_law_some", "_law_least_here", "_law_word", "_law_due", "_law_p"] ["_law_mug_here"] (defScope s_w_right) := ⟨rfl, rfl, rfl, by decide +kernel, rfl, by decide +kernel, by decide +kernel⟩
theorem sc_law : FnScope ["_law_script", "_law_lap"] ["_law_script"] (defScope s_law) := ⟨rfl, rfl, rfl, by decide +kernel, rfl, by decide +kernel, by decide +kernel⟩
def dd (x : Str) (s : Stmt) : He.DefD := ⟨(x, none), x, x, defArgs s, defBody s, defScope s, [], []⟩
def fn0 : List He.DefD := [dd "is_whole" s_is_whole, dd "are_wholes" s_are_wholes, dd "common_divisor" s_common_divisor, dd "lowest" s_lowest, dd "is_lowest" s_is_lowest, dd "is_ratio" s_is_ratio, dd "is_length" s_is_length, dd "is_vector" s_is_vector, dd "vector_over" s_vector_over, dd "step_between" s_step_between, dd "side_at" s_side_at, dd "side_left" s_side_left, dd "value_at" s_value_at, dd "are_held" s_are_held, dd "chain" s_chain, dd "is_left" s_is_left, dd "hull" s_hull, dd "is_shape" s_is_shape, dd "next_corner" s_next_corner, dd "sides" s_sides]
def fn1 : List He.DefD := [dd "has" s_has, dd "within" s_within, dd "is_sailed" s_is_sailed, dd "check_figure" s_check_figure, dd "is_note" s_is_note, dd "check_notes" s_check_notes, dd "noted" s_noted, dd "velocities_with" s_velocities_with, dd "least" s_least, dd "lets" s_lets, dd "check_some" s_check_some, dd "word_with" s_word_with, dd "told_beside" s_told_beside, dd "is_told" s_is_told, dd "tells_all" s_tells_all, dd "_law_mug" s_w_mug, dd "_law_dip" s_w_dip, dd "_law_pick" s_w_pick, dd "_law_whole" s_w_whole, dd "_law_gcd" s_w_gcd]
def fn2 : List He.DefD := [dd "_law_ratio" s_w_ratio, dd "_law_spot" s_w_spot, dd "_law_sum" s_w_sum, dd "_law_anti" s_w_anti, dd "_law_less" s_w_less, dd "_law_led" s_w_led, dd "_law_bend" s_w_bend, dd "_law_hull" s_w_hull, dd "_law_high" s_w_high, dd "_law_side" s_w_side, dd "_law_normals" s_w_normals, dd "_law_sides" s_w_sides, dd "_law_over" s_w_over, dd "_law_has" s_w_has, dd "_law_grown" s_w_grown, dd "_law_point" s_w_point, dd "_law_frame" s_w_frame, dd "_law_span" s_w_span, dd "_law_wide" s_w_wide, dd "_law_between" s_w_between]
def fn3 : List He.DefD := [dd "_law_log" s_w_log, dd "_law_pace" s_w_pace, dd "_law_paces" s_w_paces, dd "_law_least" s_w_least, dd "_law_is_open" s_w_is_open, dd "_law_bars" s_w_bars, dd "_law_word_of" s_w_word_of, dd "_law_near" s_w_near, dd "_law_told" s_w_told, dd "_law_all_told" s_w_all_told, dd "_law_others" s_w_others, dd "_law_boat" s_w_boat, dd "_law_right" s_w_right, dd "law" s_law]
def fnAll : List He.DefD := fn0 ++ (fn1 ++ (fn2 ++ (fn3)))
def nm0 : List PySem.Str := ["gcd", "lcm", "WindError", "InvalidFigure", "InvalidNotes", "NoFigureFits", "is_whole", "are_wholes", "common_divisor", "lowest", "is_lowest", "is_ratio", "is_length", "NOUGHT", "is_vector", "vector_over", "step_between", "ROUND", "side_at", "side_left", "value_at", "are_held", "chain", "is_left", "hull", "is_shape", "next_corner", "sides", "has", "within"]
def nm1 : List PySem.Str := ["is_sailed", "check_figure", "MOST_NOTES", "is_note", "check_notes", "noted", "velocities_with", "least", "lets", "check_some", "word_with", "told_beside", "is_told", "tells_all", "_law_mug", "_law_dip", "_law_pick", "_law_whole", "_law_gcd", "_law_ratio", "_law_spot", "_law_sum", "_law_anti", "_law_less", "_law_led", "_law_bend", "_law_hull", "_law_high", "_law_side", "_law_normals"]
def nm2 : List PySem.Str := ["_law_sides", "_law_over", "_law_has", "_law_grown", "_law_point", "_law_frame", "_law_span", "_law_wide", "_law_between", "_law_log", "_law_pace", "_law_paces", "_law_least", "_law_is_open", "_law_bars", "_law_word_of", "_law_near", "_law_told", "_law_all_told", "_law_others", "_law_boat", "_law_right"]
def nmAll : List PySem.Str := nm0 ++ (nm1 ++ (nm2))
def lawAt : Nat := 89
-- builtins: abs all any bool divmod enumerate int isinstance len list max min range repr set sorted str sum tuple
def fa0 : List He.Fa := [.glo "is_whole", .glo "are_wholes", .glo "common_divisor", .glo "lowest", .glo "is_lowest", .glo "is_ratio", .glo "is_length", .glo "is_vector", .glo "vector_over", .glo "step_between", .glo "side_at", .glo "side_left", .glo "value_at", .glo "are_held", .glo "chain", .glo "is_left", .glo "hull", .glo "is_shape", .glo "next_corner", .glo "sides"]
def fa1 : List He.Fa := [.glo "has", .glo "within", .glo "is_sailed", .glo "check_figure", .glo "is_note", .glo "check_notes", .glo "noted", .glo "velocities_with", .glo "least", .glo "lets", .glo "check_some", .glo "word_with", .glo "told_beside", .glo "is_told", .glo "tells_all", .glo "_law_mug", .glo "_law_dip", .glo "_law_pick", .glo "_law_whole", .glo "_law_gcd"]
def fa2 : List He.Fa := [.glo "_law_ratio", .glo "_law_spot", .glo "_law_sum", .glo "_law_anti", .glo "_law_less", .glo "_law_led", .glo "_law_bend", .glo "_law_hull", .glo "_law_high", .glo "_law_side", .glo "_law_normals", .glo "_law_sides", .glo "_law_over", .glo "_law_has", .glo "_law_grown", .glo "_law_point", .glo "_law_frame", .glo "_law_span", .glo "_law_wide", .glo "_law_between"]
def fa3 : List He.Fa := [.glo "_law_log", .glo "_law_pace", .glo "_law_paces", .glo "_law_least", .glo "_law_is_open", .glo "_law_bars", .glo "_law_word_of", .glo "_law_near", .glo "_law_told", .glo "_law_all_told", .glo "_law_others", .glo "_law_boat", .glo "_law_right", .glo "law", .free "abs", .free "all", .free "any", .free "bool", .free "divmod", .free "enumerate"]
def fa4 : List He.Fa := [.free "int", .free "isinstance", .free "len", .free "list", .free "max", .free "min", .free "range", .free "repr", .free "set", .free "sorted", .free "str", .free "sum", .free "tuple", .glo "NOUGHT", .glo "ROUND", .int "MOST_NOTES" 12, .glo "NoFigureFits", .exc "NoFigureFits", .exm "NoFigureFits" "NoFigureFits" true]
def faAll : List He.Fa := fa0 ++ (fa1 ++ (fa2 ++ (fa3 ++ (fa4))))
end K87
/-! The head: the facts that the top leaves, seen by a run in the kernel. -/
namespace K87
open PySem PySem.Spec PyProof.Rows L2 PySem.W PySem.Calls
abbrev R : PySem.W.OpenRow := PySem.W.OpenLaw.row PySem.Challenge.rw_windfigure_k87_whole_notes_told_by_notes
/-- the items of a tuple of the written part -/
def itT (K : PySem.W.Frag) (a : Addr) : Option (List Value) := match K.lookup a with
  | some ⟨.type c, _, .seq its _, _⟩ => if (decide (c = "tuple") && decide (its.size ≤ sizeLine)) = true then some its.toList else none
  | _ => none
def prB (K : PySem.W.Frag) (a : Addr) (i j : Int) : Bool := match itT K a with
  | some [.int x _, .int y _] => decide (x = i) && decide (y = j)
  | _ => false
def rndB (K : PySem.W.Frag) (a : Addr) : Bool := match itT K a with
  | some [.ref b, .ref c, .ref d, .ref e] => prB K b 1 0 && (prB K c 0 1 && (prB K d (-1) 0 && prB K e 0 (-1)))
  | _ => false
def exK (K : PySem.W.Frag) : Bool := decide (PySem.W.nsIn K mainGlobals "gcd" = some (some (.builtin "math.gcd"))) && (decide (PySem.W.nsIn K mainGlobals "lcm" = some (some (.builtin "math.lcm"))) && (He.tupB K "NOUGHT" [.int 0, .int 0, .int 1] && rndB K (He.ga K "ROUND")))
abbrev hk : PySem.W.Hook := He.hookX 3 faAll fnAll [] [] exK
def ob (s : PySem.W.SharedT) : He.AlX := He.obsX 3 faAll fnAll [] [] exK (HandSHeadRun.getT s)
theorem ob_eq (s : PySem.W.SharedT) : ob s = hk.obs s.abs := He.obsX_eq (HandSHeadRun.getT_eq s)
theorem runA (w : World) : HandSHeadRun.RunEqI R (PySem.W.view R.prog [89]) hk ob 6000 nmAll w := by
  unfold HandSHeadRun.RunEqI
  kernel_rfl
theorem itT_ok {K : PySem.W.Frag} {a : Addr} {l : List Value} (h : itT K a = some l) : ∃ (o : Obj) (its : Array Value) (n : Nat), K.lookup a = some o ∧ o.cls = .type "tuple" ∧ o.data = .seq its n ∧ its.size ≤ sizeLine ∧ its.toList = l := by
  unfold itT at h
  split at h
  · rename_i c od its n osl q
    split at h
    · rename_i k
      obtain ⟨k1, k2⟩ := Bool.and_eq_true_iff.mp k
      have k1 := of_decide_eq_true k1
      subst k1
      exact ⟨_, its, n, q, rfl, rfl, of_decide_eq_true k2, Option.some.inj h⟩
    · cases h
  · cases h
end K87
/-! K87, the mathematics, 1: pairs in order, the chain, what it keeps. -/
namespace K8
abbrev P2 := Int × Int
abbrev P3 := Int × Int × Int

/-! ### order -/
def lx (a b : P2) : Prop := a.1 < b.1 ∨ (a.1 = b.1 ∧ a.2 < b.2)
instance (a b : P2) : Decidable (lx a b) := by unfold lx; exact inferInstance
def crs (a b c : P2) : Int := (b.1 - a.1) * (c.2 - a.2) - (b.2 - a.2) * (c.1 - a.1)
def det (u v : P2) : Int := u.1 * v.2 - u.2 * v.1
def sb (a b : P2) : P2 := (a.1 - b.1, a.2 - b.2)

structure Od (lt : P2 → P2 → Prop) : Prop where
  irr : ∀ a, ¬ lt a a
  tr : ∀ a b c, lt a b → lt b c → lt a c
  tri : ∀ a b, lt a b ∨ a = b ∨ lt b a
  ang : ∀ p1 q1 p2 q2 p3 q3, lt p1 q1 → lt p2 q2 → lt p3 q3 → 0 ≤ det (sb q1 p1) (sb q2 p2) → 0 ≤ det (sb q2 p2) (sb q3 p3) → 0 ≤ det (sb q1 p1) (sb q3 p3)
  angs : ∀ p1 q1 p2 q2 p3 q3, lt p1 q1 → lt p2 q2 → lt p3 q3 → 0 < det (sb q1 p1) (sb q2 p2) → 0 ≤ det (sb q2 p2) (sb q3 p3) → 0 < det (sb q1 p1) (sb q3 p3)

theorem pair_ext {a b : P2} (h1 : a.1 = b.1) (h2 : a.2 = b.2) : a = b := Prod.ext h1 h2

theorem ang0 (ux uy vx vy wx wy : Int) (hu : 0 < ux ∨ (0 = ux ∧ 0 < uy)) (hv : 0 < vx ∨ (0 = vx ∧ 0 < vy)) (hw : 0 < wx ∨ (0 = wx ∧ 0 < wy))
    (h1 : 0 ≤ ux * vy - uy * vx) (h2 : 0 ≤ vx * wy - vy * wx) : 0 ≤ ux * wy - uy * wx := by
  rcases hv with hv | ⟨hv, hv'⟩
  · have e : vx * (ux * wy - uy * wx) = ux * (vx * wy - vy * wx) + wx * (ux * vy - uy * vx) := by grind
    have a := Int.mul_nonneg (show 0 ≤ ux by omega) h2
    have b := Int.mul_nonneg (show 0 ≤ wx by omega) h1
    exact Int.nonneg_of_mul_nonneg_right (show 0 ≤ vx * (ux * wy - uy * wx) by omega) hv
  · subst hv
    rw [Int.mul_zero, Int.sub_zero] at h1
    rw [Int.zero_mul, Int.zero_sub] at h2
    have w0 : wx = 0 := by
      rcases hw with q | q
      · have := Int.mul_pos hv' q
        omega
      · exact q.1.symm
    subst w0
    rw [Int.mul_zero, Int.sub_zero]
    refine Int.mul_nonneg ?_ ?_ <;> omega
theorem ang1 (ux uy vx vy wx wy : Int) (hu : 0 < ux ∨ (0 = ux ∧ 0 < uy)) (hv : 0 < vx ∨ (0 = vx ∧ 0 < vy)) (hw : 0 < wx ∨ (0 = wx ∧ 0 < wy))
    (h1 : 0 < ux * vy - uy * vx) (h2 : 0 ≤ vx * wy - vy * wx) : 0 < ux * wy - uy * wx := by
  rcases hv with hv | ⟨hv, hv'⟩
  · have e : vx * (ux * wy - uy * wx) = ux * (vx * wy - vy * wx) + wx * (ux * vy - uy * vx) := by grind
    have a := Int.mul_nonneg (show 0 ≤ ux by omega) h2
    refine Int.pos_of_mul_pos_right (show 0 < vx * (ux * wy - uy * wx) from ?_) hv
    rcases hw with q | ⟨q, q'⟩
    · have := Int.mul_pos q h1
      omega
    · subst q
      rcases hu with z | ⟨z, z'⟩
      · have := Int.mul_pos z (Int.mul_pos hv q')
        have e2 : ux * (vx * wy - vy * 0) = ux * (vx * wy) := by rw [Int.mul_zero, Int.sub_zero]
        omega
      · subst z
        have := Int.mul_pos z' hv
        omega
  · subst hv
    rw [Int.mul_zero, Int.sub_zero] at h1
    rw [Int.zero_mul, Int.zero_sub] at h2
    have w0 : wx = 0 := by
      rcases hw with q | q
      · have := Int.mul_pos hv' q
        omega
      · exact q.1.symm
    subst w0
    rw [Int.mul_zero, Int.sub_zero]
    have := Int.pos_of_mul_pos_left h1 hv'
    refine Int.mul_pos ?_ ?_ <;> omega

theorem od_lx : Od lx where
  irr := fun a h => by unfold lx at h; omega
  tr := fun a b c h1 h2 => by unfold lx at *; omega
  tri := fun a b => by
    by_cases h : a = b
    · exact .inr (.inl h)
    · have : ¬ (a.1 = b.1 ∧ a.2 = b.2) := fun q => h (pair_ext q.1 q.2)
      unfold lx
      omega
  ang := fun p1 q1 p2 q2 p3 q3 a b c h1 h2 => by
    unfold lx at *
    exact ang0 _ _ _ _ _ _ (by show 0 < q1.1 - p1.1 ∨ (0 = q1.1 - p1.1 ∧ 0 < q1.2 - p1.2); omega) (by show 0 < q2.1 - p2.1 ∨ (0 = q2.1 - p2.1 ∧ 0 < q2.2 - p2.2); omega) (by show 0 < q3.1 - p3.1 ∨ (0 = q3.1 - p3.1 ∧ 0 < q3.2 - p3.2); omega) h1 h2
  angs := fun p1 q1 p2 q2 p3 q3 a b c h1 h2 => by
    unfold lx at *
    exact ang1 _ _ _ _ _ _ (by show 0 < q1.1 - p1.1 ∨ (0 = q1.1 - p1.1 ∧ 0 < q1.2 - p1.2); omega) (by show 0 < q2.1 - p2.1 ∨ (0 = q2.1 - p2.1 ∧ 0 < q2.2 - p2.2); omega) (by show 0 < q3.1 - p3.1 ∨ (0 = q3.1 - p3.1 ∧ 0 < q3.2 - p3.2); omega) h1 h2
theorem det_flip (p q p' q' : P2) : det (sb q p) (sb q' p') = det (sb p q) (sb p' q') := by
  unfold det sb
  grind
/-- the other way round -/
def xl (a b : P2) : Prop := lx b a
theorem od_xl : Od xl where
  irr := fun a h => od_lx.irr a h
  tr := fun a b c h1 h2 => od_lx.tr c b a h2 h1
  tri := fun a b => by
    rcases od_lx.tri a b with h | h | h
    · exact .inr (.inr h)
    · exact .inr (.inl h)
    · exact .inl h
  ang := fun p1 q1 p2 q2 p3 q3 a b c h1 h2 => by
    rw [det_flip] at h1 h2 ⊢
    exact od_lx.ang q1 p1 q2 p2 q3 p3 a b c h1 h2
  angs := fun p1 q1 p2 q2 p3 q3 a b c h1 h2 => by
    rw [det_flip] at h1 h2 ⊢
    exact od_lx.angs q1 p1 q2 p2 q3 p3 a b c h1 h2

/-! ### the chain: a stack, its top first -/
def push : List P2 → P2 → List P2
  | [], c => [c]
  | [a], c => [c, a]
  | b :: a :: st, c => if 0 < crs a b c then c :: b :: a :: st else push (a :: st) c
def chR (rows : List P2) : List P2 := rows.foldl push []
def chn (rows : List P2) : List P2 := (chR rows).reverse

/-- each edge of a stack (from the lower one to the upper one) -/
def Eg (R : P2 → P2 → Prop) : List P2 → Prop
  | b :: a :: st => R a b ∧ Eg R (a :: st)
  | _ => True
/-- each turn of a stack is to the left -/
def Tn : List P2 → Prop
  | c :: b :: a :: st => 0 < crs a b c ∧ Tn (b :: a :: st)
  | _ => True
/-- what a stack keeps, R the pairs that it holds to its left -/
structure Cv (lt : P2 → P2 → Prop) (R st : List P2) : Prop where
  srt : st.Pairwise fun b a => lt a b
  sub : ∀ x ∈ st, x ∈ R
  egs : Eg (fun a b => ∀ r ∈ R, 0 ≤ crs a b r) st
  tns : Tn st
  bot : ∀ x, st.getLast? = some x → ∀ r ∈ R, x = r ∨ lt x r

theorem eg_tail {R : P2 → P2 → Prop} {b : P2} {st : List P2} (h : Eg R (b :: st)) : Eg R st := by
  cases st with
  | nil => trivial
  | cons a st => exact h.2
theorem tn_tail {b : P2} {st : List P2} (h : Tn (b :: st)) : Tn st := by
  cases st with
  | nil => trivial
  | cons a st =>
    cases st with
    | nil => trivial
    | cons z st => exact h.2
theorem eg_mono {R R' : P2 → P2 → Prop} : ∀ {st : List P2}, Eg R st → (∀ a b, a ∈ st → b ∈ st → R a b → R' a b) → Eg R' st
  | [], _, _ => trivial
  | [_], _, _ => trivial
  | b :: a :: st, h, f => ⟨f a b (by simp) (by simp) h.1, eg_mono h.2 fun x y hx hy => f x y (List.mem_cons_of_mem _ hx) (List.mem_cons_of_mem _ hy)⟩
theorem Cv.tail {lt : P2 → P2 → Prop} {R st : List P2} {b a : P2} (h : Cv lt R (b :: a :: st)) : Cv lt R (a :: st) :=
  ⟨(List.pairwise_cons.mp h.srt).2, fun x hx => h.sub x (List.mem_cons_of_mem _ hx), eg_tail h.egs, tn_tail h.tns, fun x hx => h.bot x (by rw [List.getLast?_cons_cons]; exact hx)⟩

theorem crs_aab (b c : P2) : crs b c b = 0 := by unfold crs; grind
theorem crs_aac (b c : P2) : crs b c c = 0 := by unfold crs; grind
theorem eg_and {R R' : P2 → P2 → Prop} : ∀ {st : List P2}, Eg R st → Eg R' st → Eg (fun a b => R a b ∧ R' a b) st
  | [], _, _ => trivial
  | [_], _, _ => trivial
  | _ :: _ :: _, h, k => ⟨⟨h.1, k.1⟩, eg_and h.2 k.2⟩
section
variable {lt : P2 → P2 → Prop} (O : Od lt)
include O
/-- popped, behind it -/
theorem lemA {a b c r : P2} (hab : lt a b) (hbc : lt b c) (hrc : lt r c) (h1 : 0 ≤ crs b c r) (h2 : ¬ 0 < crs a b c) : 0 ≤ crs a c r := by
  have q := O.ang r c b c a c hrc hbc (O.tr _ _ _ hab hbc)
    (by have e : det (sb c r) (sb c b) = crs b c r := by unfold det sb crs; grind
        omega)
    (by have e : det (sb c b) (sb c a) = - crs a b c := by unfold det sb crs; grind
        omega)
  have e : det (sb c r) (sb c a) = crs a c r := by unfold det sb crs; grind
  omega
/-- popped, ahead of it -/
theorem lemB {a b c r : P2} (hab : lt a b) (hac : lt a c) (har : lt a r) (h1 : 0 ≤ crs a b r) (h2 : ¬ 0 < crs a b c) : 0 ≤ crs a c r := by
  have q := O.ang a c a b a r hac hab har
    (by have e : det (sb c a) (sb b a) = - crs a b c := by unfold det sb crs; grind
        omega)
    (by have e : det (sb b a) (sb r a) = crs a b r := by unfold det sb crs; grind
        omega)
  have e : det (sb c a) (sb r a) = crs a c r := by unfold det sb crs; grind
  omega
/-- pushed, ahead of the last edge -/
theorem lemC {a b c r : P2} (hab : lt a b) (hbc : lt b c) (hrb : lt r b) (h1 : 0 ≤ crs a b r) (h2 : 0 ≤ crs a b c) : 0 ≤ crs b c r := by
  have q := O.ang r b a b b c hrb hab hbc
    (by have e : det (sb b r) (sb b a) = crs a b r := by unfold det sb crs; grind
        omega)
    (by have e : det (sb b a) (sb c b) = crs a b c := by unfold det sb crs; grind
        omega)
  have e : det (sb b r) (sb c b) = crs b c r := by unfold det sb crs; grind
  omega
/-- an older edge -/
theorem lemD {p q s c : P2} (hpq : lt p q) (hqs : lt q s) (hqc : lt q c) (h1 : 0 < crs p q s) (h2 : 0 ≤ crs q s c) : 0 ≤ crs p q c := by
  have z := O.ang p q q s q c hpq hqs hqc
    (by have e : det (sb q p) (sb s q) = crs p q s := by unfold det sb crs; grind
        omega)
    (by have e : det (sb s q) (sb c q) = crs q s c := by unfold det sb crs; grind
        omega)
  have e : det (sb q p) (sb c q) = crs p q c := by unfold det sb crs; grind
  omega
/-- all edges hold the new pair, if the last one does -/
theorem old_edges {c : P2} : ∀ {st : List P2} {b a : P2}, (b :: a :: st).Pairwise (fun b a => lt a b) → Tn (b :: a :: st) → (∀ x ∈ b :: a :: st, lt x c) → 0 ≤ crs a b c → Eg (fun a b => 0 ≤ crs a b c) (b :: a :: st)
  | [], _, _, _, _, _, h => ⟨h, trivial⟩
  | z :: st, b, a, hs, ht, hc, h => by
    have h1 := List.pairwise_cons.mp hs
    have h2 := List.pairwise_cons.mp h1.2
    exact ⟨h, old_edges h1.2 ht.2 (fun x hx => hc x (List.mem_cons_of_mem _ hx)) (lemD O (h2.1 z (by simp)) (h1.1 a (by simp)) (hc a (by simp)) ht.1 h)⟩

theorem push_cv {R : List P2} {c : P2} (hc : ∀ r ∈ R, lt r c) : ∀ {st : List P2} {b : P2}, Cv lt R (b :: st) → (∀ r ∈ R, b = r ∨ lt b r → 0 ≤ crs b c r) → Cv lt (c :: R) (push (b :: st) c) ∧ (push (b :: st) c).head? = some c
  | [], b, h, hT => by
    have hb : b ∈ R := h.sub b (by simp)
    refine ⟨⟨?_, ?_, ⟨?_, trivial⟩, trivial, ?_⟩, rfl⟩
    · show [c, b].Pairwise _
      simp [hc b hb]
    · intro x hx
      have hx' : x = c ∨ x = b := by simpa [push] using hx
      rcases hx' with e | e
      · rw [e]; simp
      · rw [e]; exact List.mem_cons_of_mem _ hb
    · intro r hr
      rcases List.mem_cons.mp hr with e | hr
      · rw [e, crs_aac]; omega
      · exact hT r hr (h.bot b rfl r hr)
    · intro x hx r hr
      have e : b = x := by
        have hx' : [c, b].getLast? = some x := hx
        simpa using hx'
      subst e
      rcases List.mem_cons.mp hr with e | hr
      · rw [e]; exact .inr (hc b hb)
      · exact h.bot b rfl r hr
  | a :: st, b, h, hT => by
    have hb : b ∈ R := h.sub b (by simp)
    have ha : a ∈ R := h.sub a (by simp)
    have hab : lt a b := (List.pairwise_cons.mp h.srt).1 a (by simp)
    have hbc := hc b hb
    show Cv lt (c :: R) (if 0 < crs a b c then c :: b :: a :: st else push (a :: st) c) ∧ (if 0 < crs a b c then c :: b :: a :: st else push (a :: st) c).head? = some c
    by_cases hl : 0 < crs a b c
    · rw [if_pos hl]
      have old := old_edges O h.srt h.tns (fun x hx => hc x (h.sub x hx)) (Int.le_of_lt hl)
      refine ⟨⟨?_, ?_, ⟨?_, ?_⟩, ⟨hl, h.tns⟩, ?_⟩, rfl⟩
      · exact List.pairwise_cons.mpr ⟨fun x hx => hc x (h.sub x hx), h.srt⟩
      · intro x hx
        rcases List.mem_cons.mp hx with e | hx
        · rw [e]; simp
        · exact List.mem_cons_of_mem _ (h.sub x hx)
      · intro r hr
        rcases List.mem_cons.mp hr with e | hr
        · rw [e, crs_aac]; omega
        · rcases O.tri b r with q | q | q
          · exact hT r hr (.inr q)
          · exact hT r hr (.inl q)
          · exact lemC O hab hbc q (h.egs.1 r hr) (Int.le_of_lt hl)
      · refine eg_mono (eg_and h.egs old) fun x y _ _ k r hr => ?_
        rcases List.mem_cons.mp hr with e | hr
        · rw [e]; exact k.2
        · exact k.1 r hr
      · intro x hx r hr
        have hx' : (b :: a :: st).getLast? = some x := (List.getLast?_cons_cons (a := c) (b := b) (l := a :: st)).symm.trans hx
        rcases List.mem_cons.mp hr with e | hr
        · rw [e]
          exact .inr (hc x (h.sub x (List.mem_of_getLast? hx')))
        · exact h.bot x hx' r hr
    · rw [if_neg hl]
      refine push_cv hc h.tail fun r hr q => ?_
      rcases q with q | q
      · rw [← q, crs_aab]; omega
      · rcases O.tri b r with z | z | z
        · exact lemA O hab hbc (hc r hr) (hT r hr (.inr z)) hl
        · exact lemA O hab hbc (hc r hr) (hT r hr (.inl z)) hl
        · exact lemB O hab (O.tr _ _ _ hab hbc) q (h.egs.1 r hr) hl

theorem chr_from : ∀ (rows : List P2) (R st : List P2) (b : P2), Cv lt R (b :: st) → (∀ r ∈ R, r = b ∨ lt r b) → rows.Pairwise lt → (∀ r ∈ R, ∀ x ∈ rows, lt r x) →
    Cv lt (rows.reverse ++ R) (rows.foldl push (b :: st)) ∧ ∃ t, (rows.foldl push (b :: st)).head? = some t ∧ ∀ r ∈ rows.reverse ++ R, r = t ∨ lt r t
  | [], R, st, b, h, ht, _, _ => ⟨h, b, rfl, ht⟩
  | c :: rows, R, st, b, h, ht, hp, hx => by
    have hp' := List.pairwise_cons.mp hp
    have hcR : ∀ r ∈ R, lt r c := fun r hr => hx r hr c (by simp)
    obtain ⟨k1, k2⟩ := push_cv O hcR h (fun r hr q => by
      have e : b = r := by
        rcases q with q | q
        · exact q
        · rcases ht r hr with z | z
          · exact z.symm
          · exact absurd (O.tr _ _ _ q z) (O.irr b)
      rw [← e, crs_aab]; omega)
    rw [List.foldl_cons]
    cases e : push (b :: st) c with
    | nil => rw [e] at k2; cases k2
    | cons d st' =>
      rw [e] at k1 k2
      have ed : d = c := by simpa using k2
      subst ed
      obtain ⟨q1, t, q2, q3⟩ := chr_from rows (d :: R) st' d k1 (fun r hr => by
        rcases List.mem_cons.mp hr with z | z
        · exact .inl z
        · exact .inr (hcR r z)) hp'.2 (fun r hr x hx' => by
        rcases List.mem_cons.mp hr with z | z
        · rw [z]; exact hp'.1 x hx'
        · exact hx r z x (List.mem_cons_of_mem _ hx'))
      have er : (d :: rows).reverse ++ R = rows.reverse ++ (d :: R) := by simp
      rw [er]
      exact ⟨q1, t, q2, q3⟩
/-- the chain of ascending rows -/
theorem chr_cv {rows : List P2} (hp : rows.Pairwise lt) (h0 : rows ≠ []) : Cv lt rows (chR rows) ∧ ∃ t, (chR rows).head? = some t ∧ ∀ r ∈ rows, r = t ∨ lt r t := by
  cases rows with
  | nil => exact absurd rfl h0
  | cons b rows =>
    have hp' := List.pairwise_cons.mp hp
    obtain ⟨k1, t, k2, k3⟩ := chr_from O rows [b] [] b ⟨by simp, by simp, trivial, trivial, fun x hx r hr => by
      have e : b = x := by simpa using hx
      have e2 : r = b := by simpa using hr
      rw [← e, e2]; exact .inl rfl⟩ (fun r hr => .inl (by simpa using hr)) hp'.2 (fun r hr x hx => by
      have e2 : r = b := by simpa using hr
      rw [e2]; exact hp'.1 x hx)
    have em : ∀ x, x ∈ b :: rows → x ∈ rows.reverse ++ [b] := fun x hx => by
      rcases List.mem_cons.mp hx with e | e
      · simp [e]
      · simp [e]
    have em' : ∀ x, x ∈ rows.reverse ++ [b] → x ∈ b :: rows := fun x hx => by
      rcases List.mem_append.mp hx with e | e
      · exact List.mem_cons_of_mem _ (List.mem_reverse.mp e)
      · simp at e; simp [e]
    refine ⟨⟨k1.srt, fun x hx => em' x (k1.sub x hx), eg_mono k1.egs fun _ _ _ _ k r hr => k r (em r hr), k1.tns, fun x hx r hr => k1.bot x hx r (em r hr)⟩, t, k2, fun r hr => k3 r (em r hr)⟩

/-! ### there is just one such chain -/
theorem cv_uniq {R : List P2} : ∀ {s1 s2 : List P2} {z : P2}, Cv lt R (z :: s1) → Cv lt R (z :: s2) → s1 = s2
  | [], [], _, _, _ => rfl
  | [], b :: s2, z, h1, h2 => by
    have hb := h2.sub b (by simp)
    have hbz := (List.pairwise_cons.mp h2.srt).1 b (by simp)
    rcases h1.bot z rfl b hb with e | e
    · rw [e] at hbz; exact absurd hbz (O.irr _)
    · exact absurd (O.tr _ _ _ e hbz) (O.irr _)
  | b :: s1, [], z, h1, h2 => by
    have hb := h1.sub b (by simp)
    have hbz := (List.pairwise_cons.mp h1.srt).1 b (by simp)
    rcases h2.bot z rfl b hb with e | e
    · rw [e] at hbz; exact absurd hbz (O.irr _)
    · exact absurd (O.tr _ _ _ e hbz) (O.irr _)
  | b1 :: s1, b2 :: s2, z, h1, h2 => by
    have m1 := h1.sub b1 (by simp)
    have m2 := h2.sub b2 (by simp)
    have l1 := (List.pairwise_cons.mp h1.srt).1 b1 (by simp)
    have l2 := (List.pairwise_cons.mp h2.srt).1 b2 (by simp)
    have key : ∀ {b1 b2 : P2} {s1 : List P2}, Cv lt R (z :: b1 :: s1) → b2 ∈ R → lt b2 z → lt b1 z → 0 ≤ crs b2 z b1 → ¬ lt b2 b1 := by
      intro b1 b2 s1 h1 m2 l2 l1 hc hlt
      have e0 := h1.egs.1 b2 m2
      have eq0 : crs b1 z b2 = - crs b2 z b1 := by unfold crs; grind
      cases s1 with
      | nil =>
        rcases h1.bot b1 rfl b2 m2 with e | e
        · rw [e] at hlt; exact absurd hlt (O.irr _)
        · exact absurd (O.tr _ _ _ e hlt) (O.irr _)
      | cons a1 s1 =>
        have t := h1.tns.1
        have g := h1.egs.2.1 b2 m2
        have la : lt a1 b1 := (List.pairwise_cons.mp (List.pairwise_cons.mp h1.srt).2).1 a1 (by simp)
        have q := O.angs a1 b1 b1 z b2 b1 la l1 hlt
          (by have e : det (sb b1 a1) (sb z b1) = crs a1 b1 z := by unfold det sb crs; grind
              omega)
          (by have e : det (sb z b1) (sb b1 b2) = - crs b1 z b2 := by unfold det sb crs; grind
              omega)
        have e : det (sb b1 a1) (sb b1 b2) = - crs a1 b1 b2 := by unfold det sb crs; grind
        omega
    have eb : b1 = b2 := by
      rcases O.tri b1 b2 with q | q | q
      · exact absurd q (key h2 m1 l1 l2 (h1.egs.1 b2 m2))
      · exact q
      · exact absurd q (key h1 m2 l2 l1 (h2.egs.1 b1 m1))
    subst eb
    rw [cv_uniq h1.tail h2.tail]

/-! ### the greatest value of a number along the pairs is at the chain -/
theorem push_max {f : P2 → Int} (hf : ∀ a b c, lt a b → lt b c → ¬ 0 < crs a b c → f b ≤ f a ∨ f b ≤ f c) {c : P2} : ∀ {st : List P2}, st.Pairwise (fun b a => lt a b) → (∀ x ∈ st, lt x c) → ∀ x ∈ c :: st, ∃ s ∈ push st c, f x ≤ f s
  | [], _, _, x, hx => ⟨x, hx, Int.le_refl _⟩
  | [a], _, _, x, hx => ⟨x, hx, Int.le_refl _⟩
  | b :: a :: st, hp, hc, x, hx => by
    show ∃ s ∈ (if 0 < crs a b c then c :: b :: a :: st else push (a :: st) c), f x ≤ f s
    by_cases hl : 0 < crs a b c
    · rw [if_pos hl]; exact ⟨x, hx, Int.le_refl _⟩
    · rw [if_neg hl]
      have h1 := List.pairwise_cons.mp hp
      have ih := push_max hf h1.2 (fun y hy => hc y (List.mem_cons_of_mem _ hy))
      have hb : x = b → ∃ s ∈ push (a :: st) c, f x ≤ f s := fun e => by
        subst e
        rcases hf a x c (h1.1 a (by simp)) (hc x (by simp)) hl with q | q
        · obtain ⟨s, hs, k⟩ := ih a (by simp)
          exact ⟨s, hs, Int.le_trans q k⟩
        · obtain ⟨s, hs, k⟩ := ih c (by simp)
          exact ⟨s, hs, Int.le_trans q k⟩
      rcases List.mem_cons.mp hx with e | hx
      · exact ih x (by simp [e])
      · rcases List.mem_cons.mp hx with e | hx
        · exact hb e
        · exact ih x (List.mem_cons_of_mem _ hx)
theorem chr_max_from {f : P2 → Int} (hf : ∀ a b c, lt a b → lt b c → ¬ 0 < crs a b c → f b ≤ f a ∨ f b ≤ f c) : ∀ (rows R st : List P2) (b : P2), Cv lt R (b :: st) → (∀ r ∈ R, r = b ∨ lt r b) → rows.Pairwise lt → (∀ r ∈ R, ∀ x ∈ rows, lt r x) →
    (∀ r ∈ R, ∃ s ∈ b :: st, f r ≤ f s) → ∀ r, r ∈ rows ∨ r ∈ R → ∃ s ∈ rows.foldl push (b :: st), f r ≤ f s
  | [], R, st, b, h, ht, _, _, hm, r, hr => by
    rcases hr with hr | hr
    · cases hr
    · exact hm r hr
  | c :: rows, R, st, b, h, ht, hp, hx, hm, r, hr => by
    have hp' := List.pairwise_cons.mp hp
    have hcR : ∀ r ∈ R, lt r c := fun r hr => hx r hr c (by simp)
    obtain ⟨k1, k2⟩ := push_cv O hcR h (fun r hr q => by
      have e : b = r := by
        rcases q with q | q
        · exact q
        · rcases ht r hr with z | z
          · exact z.symm
          · exact absurd (O.tr _ _ _ q z) (O.irr b)
      rw [← e, crs_aab]; omega)
    have pm := push_max O (lt := lt) hf (c := c) h.srt (fun x hx => hcR x (h.sub x hx))
    rw [List.foldl_cons]
    cases e : push (b :: st) c with
    | nil => rw [e] at k2; cases k2
    | cons d st' =>
      rw [e] at k1 k2 pm
      have ed : d = c := by simpa using k2
      subst ed
      refine chr_max_from hf rows (d :: R) st' d k1 (fun r hr => ?_) hp'.2 (fun r hr x hx' => ?_) (fun r hr => ?_) r ?_
      · rcases List.mem_cons.mp hr with z | z
        · exact .inl z
        · exact .inr (hcR r z)
      · rcases List.mem_cons.mp hr with z | z
        · rw [z]; exact hp'.1 x hx'
        · exact hx r z x (List.mem_cons_of_mem _ hx')
      · rcases List.mem_cons.mp hr with z | z
        · exact pm r (by simp [z])
        · obtain ⟨s, hs, k⟩ := hm r z
          obtain ⟨s', hs', k'⟩ := pm s (List.mem_cons_of_mem _ hs)
          exact ⟨s', hs', Int.le_trans k k'⟩
      · rcases hr with hr | hr
        · rcases List.mem_cons.mp hr with z | z
          · exact .inr (by simp [z])
          · exact .inl z
        · exact .inr (List.mem_cons_of_mem _ hr)
theorem chr_max {f : P2 → Int} (hf : ∀ a b c, lt a b → lt b c → ¬ 0 < crs a b c → f b ≤ f a ∨ f b ≤ f c) {rows : List P2} (hp : rows.Pairwise lt) : ∀ r ∈ rows, ∃ s ∈ chR rows, f r ≤ f s := by
  cases rows with
  | nil => intro r hr; cases hr
  | cons b rows =>
    have hp' := List.pairwise_cons.mp hp
    intro r hr
    refine chr_max_from O hf rows [b] [] b ⟨by simp, by simp, trivial, trivial, fun x hx r hr => ?_⟩ (fun r hr => .inl (by simpa using hr)) hp'.2 (fun r hr x hx => ?_) (fun r hr => ⟨r, hr, Int.le_refl _⟩) r ?_
    · have e : b = x := by simpa using hx
      have e2 : r = b := by simpa using hr
      rw [← e, e2]; exact .inl rfl
    · have e2 : r = b := by simpa using hr
      rw [e2]; exact hp'.1 x hx
    · rcases List.mem_cons.mp hr with z | z
      · exact .inr (by simp [z])
      · exact .inl z
end
theorem fun_lx (m n : Int) (hn : n ≤ 0) (a b c : P2) (h1 : lx a b) (h2 : lx b c) (h3 : ¬ 0 < crs a b c) : m * b.1 + n * b.2 ≤ m * a.1 + n * a.2 ∨ m * b.1 + n * b.2 ≤ m * c.1 + n * c.2 := by
  by_cases q : m * b.1 + n * b.2 ≤ m * a.1 + n * a.2
  · exact .inl q
  · by_cases q2 : m * b.1 + n * b.2 ≤ m * c.1 + n * c.2
    · exact .inr q2
    · exfalso
      have d1 : 0 < m * (b.1 - a.1) + n * (b.2 - a.2) := by
        have e : m * (b.1 - a.1) + n * (b.2 - a.2) = (m * b.1 + n * b.2) - (m * a.1 + n * a.2) := by grind
        omega
      have d2 : 0 < m * (b.1 - c.1) + n * (b.2 - c.2) := by
        have e : m * (b.1 - c.1) + n * (b.2 - c.2) = (m * b.1 + n * b.2) - (m * c.1 + n * c.2) := by grind
        omega
      have x1 : 0 ≤ b.1 - a.1 := by unfold lx at h1; omega
      have x2 : 0 ≤ c.1 - b.1 := by unfold lx at h2; omega
      have e : (c.1 - b.1) * (m * (b.1 - a.1) + n * (b.2 - a.2)) + (b.1 - a.1) * (m * (b.1 - c.1) + n * (b.2 - c.2)) = n * (- crs a b c) := by unfold crs; grind
      have p1 := Int.mul_nonneg x2 (Int.le_of_lt d1)
      have p2 := Int.mul_nonneg x1 (Int.le_of_lt d2)
      have p3 : n * (- crs a b c) ≤ 0 := Int.mul_nonpos_of_nonpos_of_nonneg hn (by omega)
      have z1 : (c.1 - b.1) * (m * (b.1 - a.1) + n * (b.2 - a.2)) = 0 := by omega
      have z2 : (b.1 - a.1) * (m * (b.1 - c.1) + n * (b.2 - c.2)) = 0 := by omega
      have y1 : c.1 - b.1 = 0 := by
        rcases Int.mul_eq_zero.mp z1 with k | k <;> omega
      have y2 : b.1 - a.1 = 0 := by
        rcases Int.mul_eq_zero.mp z2 with k | k <;> omega
      rw [y2, Int.mul_zero] at d1
      have y3 : 0 < b.2 - a.2 := by unfold lx at h1; omega
      have := Int.mul_nonpos_of_nonpos_of_nonneg hn (Int.le_of_lt y3)
      omega
theorem fun_xl (m n : Int) (hn : 0 ≤ n) (a b c : P2) (h1 : xl a b) (h2 : xl b c) (h3 : ¬ 0 < crs a b c) : m * b.1 + n * b.2 ≤ m * a.1 + n * a.2 ∨ m * b.1 + n * b.2 ≤ m * c.1 + n * c.2 := by
  have e : ∀ p : P2, m * p.1 + n * p.2 = - m * (- p.1) + (- n) * (- p.2) := fun p => by grind
  have q := fun_lx (-m) (-n) (by omega) (-a.1, -a.2) (-b.1, -b.2) (-c.1, -c.2) (by unfold xl lx at *; omega) (by unfold xl lx at *; omega) (by
    have z : crs (-a.1, -a.2) (-b.1, -b.2) (-c.1, -c.2) = crs a b c := by unfold crs; grind
    rw [z]; exact h3)
  rw [e a, e b, e c]
  exact q
end K8

/-! K87, the mathematics, 2: sorting without doubles, lowest terms, the hull, what holds. -/
namespace K8
/-! ### sorted, each once -/
def ins (a : P2) : List P2 → List P2
  | [] => [a]
  | b :: r => if a.1 < b.1 ∨ (a.1 = b.1 ∧ a.2 < b.2) then a :: b :: r else if a = b then b :: r else b :: ins a r
def srtD (l : List P2) : List P2 := l.foldr ins []
theorem mem_ins (a : P2) : ∀ (l : List P2) (x : P2), x ∈ ins a l ↔ x = a ∨ x ∈ l
  | [], x => by simp [ins]
  | b :: r, x => by
    unfold ins
    split
    · simp
    · split
      · rename_i h; subst h
        simp
      · rw [List.mem_cons, mem_ins a r x, List.mem_cons]
        constructor
        · rintro (h | h | h)
          · exact .inr (.inl h)
          · exact .inl h
          · exact .inr (.inr h)
        · rintro (h | h | h)
          · exact .inr (.inl h)
          · exact .inl h
          · exact .inr (.inr h)
theorem srt_ins (a : P2) : ∀ (l : List P2), l.Pairwise lx → (ins a l).Pairwise lx
  | [], _ => by simp [ins]
  | b :: r, h => by
    have h1 := List.pairwise_cons.mp h
    unfold ins
    split
    · rename_i hl
      exact List.pairwise_cons.mpr ⟨fun x hx => by
        rcases List.mem_cons.mp hx with e | e
        · rw [e]; exact hl
        · exact od_lx.tr _ _ _ hl (h1.1 x e), h⟩
    · rename_i hl
      split
      · exact h
      · rename_i hne
        refine List.pairwise_cons.mpr ⟨fun x hx => ?_, srt_ins a r h1.2⟩
        rcases (mem_ins a r x).mp hx with e | e
        · rw [e]
          rcases od_lx.tri a b with q | q | q
          · exact absurd q hl
          · exact absurd q hne
          · exact q
        · exact h1.1 x e
theorem mem_srtD : ∀ (l : List P2) (x : P2), x ∈ srtD l ↔ x ∈ l
  | [], x => by simp [srtD]
  | a :: l, x => by
    show x ∈ ins a (srtD l) ↔ _
    rw [mem_ins, mem_srtD l, List.mem_cons]
theorem srt_srtD : ∀ (l : List P2), (srtD l).Pairwise lx
  | [] => by simp [srtD]
  | a :: l => srt_ins a _ (srt_srtD l)
theorem srt_uniq : ∀ {l m : List P2}, l.Pairwise lx → m.Pairwise lx → (∀ x, x ∈ l ↔ x ∈ m) → l = m
  | [], [], _, _, _ => rfl
  | [], b :: m, _, _, h => absurd ((h b).mpr (by simp)) (by simp)
  | a :: l, [], _, _, h => absurd ((h a).mp (by simp)) (by simp)
  | a :: l, b :: m, hl, hm, h => by
    have l1 := List.pairwise_cons.mp hl
    have m1 := List.pairwise_cons.mp hm
    have e : a = b := by
      rcases List.mem_cons.mp ((h a).mp (by simp)) with q | q
      · exact q
      · rcases List.mem_cons.mp ((h b).mpr (by simp)) with z | z
        · exact z.symm
        · exact absurd (od_lx.tr _ _ _ (m1.1 a q) (l1.1 b z)) (od_lx.irr b)
    subst e
    rw [srt_uniq l1.2 m1.2 fun x => ?_]
    constructor
    · intro hx
      rcases List.mem_cons.mp ((h x).mp (List.mem_cons_of_mem _ hx)) with q | q
      · subst q; exact absurd (l1.1 x hx) (od_lx.irr x)
      · exact q
    · intro hx
      rcases List.mem_cons.mp ((h x).mpr (List.mem_cons_of_mem _ hx)) with q | q
      · subst q; exact absurd (m1.1 x hx) (od_lx.irr x)
      · exact q
theorem srtD_len : ∀ (l : List P2), (srtD l).length ≤ l.length
  | [] => Nat.le_refl _
  | a :: l => by
    have h : ∀ (m : List P2), (ins a m).length ≤ m.length + 1 := by
      intro m
      induction m with
      | nil => simp [ins]
      | cons b r ih =>
        unfold ins
        split
        · simp
        · split
          · simp
          · simp; omega
    have q := h (srtD l)
    have z := srtD_len l
    show (ins a (srtD l)).length ≤ l.length + 1
    omega

/-! ### lowest terms -/
def gcdL (ns : List Int) : Int := ns.foldl (fun g n => ((Nat.gcd g.natAbs n.natAbs : Nat) : Int)) 0
def gc (a b : Int) : Int := ((Nat.gcd a.natAbs b.natAbs : Nat) : Int)
def g3 (p : P3) : Int := gc (gc p.1 p.2.1) p.2.2
def low (p : P3) : P3 := (p.1 / g3 p, p.2.1 / g3 p, p.2.2 / g3 p)
def low2 (p : P2) : P2 := (p.1 / gc p.1 p.2, p.2 / gc p.1 p.2)
theorem gcdL3 (x y z : Int) : gcdL [x, y, z] = g3 (x, y, z) := by
  unfold gcdL g3 gc
  simp
theorem gcdL2 (x y : Int) : gcdL [x, y] = gc x y := by
  unfold gcdL gc
  simp
theorem gc_nn (a b : Int) : 0 ≤ gc a b := Int.natCast_nonneg _
theorem g3_nn (p : P3) : 0 ≤ g3 p := gc_nn _ _
theorem gc_l (a b : Int) : gc a b ∣ a := Int.natAbs_dvd_natAbs.mp (show (gc a b).natAbs ∣ a.natAbs from Nat.gcd_dvd_left _ _)
theorem gc_r (a b : Int) : gc a b ∣ b := Int.natAbs_dvd_natAbs.mp (show (gc a b).natAbs ∣ b.natAbs from Nat.gcd_dvd_right _ _)
theorem gc_pos_r {a b : Int} (h : b ≠ 0) : 0 < gc a b := by
  have : 0 < a.natAbs.gcd b.natAbs := Nat.gcd_pos_of_pos_right _ (Int.natAbs_pos.mpr h)
  unfold gc
  omega
theorem gc_pos_l {a b : Int} (h : a ≠ 0) : 0 < gc a b := by
  have : 0 < a.natAbs.gcd b.natAbs := Nat.gcd_pos_of_pos_left _ (Int.natAbs_pos.mpr h)
  unfold gc
  omega
theorem g3_1 (p : P3) : g3 p ∣ p.1 := Int.dvd_trans (gc_l _ _) (gc_l _ _)
theorem g3_2 (p : P3) : g3 p ∣ p.2.1 := Int.dvd_trans (gc_l _ _) (gc_r _ _)
theorem g3_3 (p : P3) : g3 p ∣ p.2.2 := gc_r _ _
theorem g3_pos {p : P3} (h : p.1 ≠ 0 ∨ p.2.1 ≠ 0 ∨ p.2.2 ≠ 0) : 0 < g3 p := by
  rcases h with h | h | h
  · have := gc_pos_l (b := p.2.1) h
    exact gc_pos_l (by omega)
  · have := gc_pos_r (a := p.1) h
    exact gc_pos_l (by omega)
  · exact gc_pos_r h
theorem gc_mul {k : Int} (hk : 0 ≤ k) (a b : Int) : gc (k * a) (k * b) = k * gc a b := by
  unfold gc
  rw [Int.natAbs_mul, Int.natAbs_mul, Nat.gcd_mul_left, Int.natCast_mul, Int.natAbs_of_nonneg hk]
theorem g3_mul {k : Int} (hk : 0 ≤ k) (p : P3) : g3 (k * p.1, k * p.2.1, k * p.2.2) = k * g3 p := by
  show gc (gc (k * p.1) (k * p.2.1)) (k * p.2.2) = k * gc (gc p.1 p.2.1) p.2.2
  rw [gc_mul hk, gc_mul hk]
theorem low_mul {k : Int} (hk : 0 < k) (p : P3) : low (k * p.1, k * p.2.1, k * p.2.2) = low p := by
  unfold low
  rw [g3_mul (Int.le_of_lt hk)]
  show (k * p.1 / (k * g3 p), k * p.2.1 / (k * g3 p), k * p.2.2 / (k * g3 p)) = _
  rw [Int.mul_ediv_mul_of_pos _ _ hk, Int.mul_ediv_mul_of_pos _ _ hk, Int.mul_ediv_mul_of_pos _ _ hk]
/-- a point in lowest terms -/
def Vp (p : P3) : Prop := 0 < p.2.2 ∧ g3 p = 1
theorem low_of {p : P3} (h : Vp p) : low p = p := by
  unfold low
  rw [h.2]
  simp
theorem low_eqs (p : P3) : (low p).1 * g3 p = p.1 ∧ (low p).2.1 * g3 p = p.2.1 ∧ (low p).2.2 * g3 p = p.2.2 :=
  ⟨Int.ediv_mul_cancel (g3_1 p), Int.ediv_mul_cancel (g3_2 p), Int.ediv_mul_cancel (g3_3 p)⟩
theorem low_vp {p : P3} (h : 0 < p.2.2) : Vp (low p) := by
  have g0 : 0 < g3 p := g3_pos (.inr (.inr (by omega)))
  obtain ⟨e1, e2, e3⟩ := low_eqs p
  refine ⟨?_, ?_⟩
  · rw [← e3] at h
    exact Int.pos_of_mul_pos_left h g0
  · have z := g3_mul (Int.le_of_lt g0) (low p)
    rw [Int.mul_comm _ (low p).1, Int.mul_comm _ (low p).2.1, Int.mul_comm _ (low p).2.2, e1, e2, e3] at z
    have z' : g3 p * 1 = g3 p * g3 (low p) := by rw [Int.mul_one]; exact z
    exact (Int.eq_of_mul_eq_mul_left (by omega) z').symm

/-! ### one grid for some points -/
def lcW (ps : List P3) : Int := ps.foldl (fun u p => ((Nat.lcm u.natAbs p.2.2.natAbs : Nat) : Int)) 1
def grd (u : Int) (p : P3) : P2 := (p.1 * (u / p.2.2), p.2.1 * (u / p.2.2))
theorem lcW_from : ∀ (ps : List P3) (u : Int), 0 < u → (∀ p ∈ ps, 0 < p.2.2) → 0 < ps.foldl (fun u p => ((Nat.lcm u.natAbs p.2.2.natAbs : Nat) : Int)) u ∧ u ∣ ps.foldl (fun u p => ((Nat.lcm u.natAbs p.2.2.natAbs : Nat) : Int)) u ∧
    (∀ p ∈ ps, p.2.2 ∣ ps.foldl (fun u p => ((Nat.lcm u.natAbs p.2.2.natAbs : Nat) : Int)) u) ∧ ∀ U : Int, u ∣ U → (∀ p ∈ ps, p.2.2 ∣ U) → ps.foldl (fun u p => ((Nat.lcm u.natAbs p.2.2.natAbs : Nat) : Int)) u ∣ U
  | [], u, h, _ => ⟨h, Int.dvd_refl _, (fun p hp => by cases hp), fun U hU _ => hU⟩
  | p :: ps, u, h, hp => by
    have hw := hp p (by simp)
    have c0 : 0 < ((Nat.lcm u.natAbs p.2.2.natAbs : Nat) : Int) := by
      have := Nat.lcm_pos (Int.natAbs_pos.mpr (show u ≠ 0 by omega)) (Int.natAbs_pos.mpr (show p.2.2 ≠ 0 by omega))
      omega
    obtain ⟨a1, a2, a3, a4⟩ := lcW_from ps _ c0 fun q hq => hp q (List.mem_cons_of_mem _ hq)
    have d1 : u ∣ ((Nat.lcm u.natAbs p.2.2.natAbs : Nat) : Int) := Int.natAbs_dvd_natAbs.mp (by simpa using Nat.dvd_lcm_left u.natAbs p.2.2.natAbs)
    have d2 : p.2.2 ∣ ((Nat.lcm u.natAbs p.2.2.natAbs : Nat) : Int) := Int.natAbs_dvd_natAbs.mp (by simpa using Nat.dvd_lcm_right u.natAbs p.2.2.natAbs)
    rw [List.foldl_cons]
    refine ⟨a1, Int.dvd_trans d1 a2, fun q hq => ?_, fun U hU hq => a4 U ?_ fun q hq' => hq q (List.mem_cons_of_mem _ hq')⟩
    · rcases List.mem_cons.mp hq with e | e
      · rw [e]; exact Int.dvd_trans d2 a2
      · exact a3 q e
    · have := Nat.lcm_dvd (Int.natAbs_dvd_natAbs.mpr hU) (Int.natAbs_dvd_natAbs.mpr (hq p (by simp)))
      exact Int.natAbs_dvd_natAbs.mp (by simpa using this)
theorem lcW_pos {ps : List P3} (h : ∀ p ∈ ps, 0 < p.2.2) : 0 < lcW ps := (lcW_from ps 1 (by decide) h).1
theorem lcW_dvd {ps : List P3} (h : ∀ p ∈ ps, 0 < p.2.2) : ∀ p ∈ ps, p.2.2 ∣ lcW ps := (lcW_from ps 1 (by decide) h).2.2.1
theorem lcW_least {ps : List P3} (h : ∀ p ∈ ps, 0 < p.2.2) {U : Int} (hU : ∀ p ∈ ps, p.2.2 ∣ U) : lcW ps ∣ U := (lcW_from ps 1 (by decide) h).2.2.2 U (Int.one_dvd U) hU
/-- g is p on the grid u -/
structure Scl (u : Int) (p : P3) (g : P2) : Prop where
  w : 0 < p.2.2
  x : p.1 * u = g.1 * p.2.2
  y : p.2.1 * u = g.2 * p.2.2
theorem scl_grd {u : Int} {p : P3} (h : 0 < p.2.2) (d : p.2.2 ∣ u) : Scl u p (grd u p) := by
  have e : u / p.2.2 * p.2.2 = u := Int.ediv_mul_cancel d
  refine ⟨h, ?_, ?_⟩
  · show p.1 * u = p.1 * (u / p.2.2) * p.2.2
    rw [Int.mul_assoc, e]
  · show p.2.1 * u = p.2.1 * (u / p.2.2) * p.2.2
    rw [Int.mul_assoc, e]
theorem scl_low {u : Int} (hu : 0 < u) (g : P2) : Scl u (low (g.1, g.2, u)) g := by
  obtain ⟨e1, e2, e3⟩ := low_eqs (g.1, g.2, u)
  have hv := low_vp (p := (g.1, g.2, u)) hu
  have e1' : (low (g.1, g.2, u)).1 * g3 (g.1, g.2, u) = g.1 := e1
  have e2' : (low (g.1, g.2, u)).2.1 * g3 (g.1, g.2, u) = g.2 := e2
  have e3' : (low (g.1, g.2, u)).2.2 * g3 (g.1, g.2, u) = u := e3
  refine ⟨hv.1, ?_, ?_⟩
  · generalize low (g.1, g.2, u) = l at *
    generalize g3 (g.1, g.2, u) = k at *
    rw [← e1', ← e3']
    grind
  · generalize low (g.1, g.2, u) = l at *
    generalize g3 (g.1, g.2, u) = k at *
    rw [← e2', ← e3']
    grind
theorem low_grd {u : Int} {p : P3} (hv : Vp p) (hu : 0 < u) (d : p.2.2 ∣ u) : low ((grd u p).1, (grd u p).2, u) = p := by
  have e : u / p.2.2 * p.2.2 = u := Int.ediv_mul_cancel d
  have k0 : 0 < u / p.2.2 := by
    rw [← e] at hu
    exact Int.pos_of_mul_pos_left hu hv.1
  have q := low_mul k0 p
  rw [low_of hv, e, Int.mul_comm _ p.1, Int.mul_comm _ p.2.1] at q
  exact q

/-! ### the hull -/
def hulG (rows : List P2) : List P2 := if rows.length = 1 then rows else (chn rows).dropLast ++ (chn rows.reverse).dropLast
def hul (ps : List P3) : List P3 := (hulG (srtD (ps.map (grd (lcW ps))))).map fun g => low (g.1, g.2, lcW ps)

theorem dropLast_rev_cons {α : Type} (z : α) (l : List α) : ((z :: l).reverse).dropLast = l.reverse := by
  rw [List.reverse_cons, List.dropLast_concat]

/-- rows of two or more: both chains as stacks, their ends -/
theorem two_chains {rows : List P2} (hp : rows.Pairwise lx) (h2 : 2 ≤ rows.length) : ∃ (f z : P2) (s t : List P2), chR rows = z :: s ∧ chR rows.reverse = f :: t ∧ Cv lx rows (z :: s) ∧ Cv xl rows (f :: t) ∧ lx f z ∧ f ∈ rows ∧ z ∈ rows ∧
    (z :: s).getLast? = some f ∧ (f :: t).getLast? = some z ∧ (∀ r ∈ rows, r = z ∨ lx r z) ∧ ∀ r ∈ rows, r = f ∨ lx f r := by
  have h0 : rows ≠ [] := by intro e; rw [e] at h2; simp at h2
  have h0' : rows.reverse ≠ [] := by simpa using h0
  have hp' : rows.reverse.Pairwise xl := List.pairwise_reverse.mpr hp
  obtain ⟨c1, z, e1, m1⟩ := chr_cv od_lx hp h0
  obtain ⟨c2, f, e2, m2⟩ := chr_cv od_xl hp' h0'
  cases q1 : chR rows with
  | nil => rw [q1] at e1; cases e1
  | cons z' s =>
    rw [q1] at e1 c1
    have e : z' = z := by simpa using e1
    subst e
    cases q2 : chR rows.reverse with
    | nil => rw [q2] at e2; cases e2
    | cons f' t =>
      rw [q2] at e2 c2
      have e : f' = f := by simpa using e2
      subst e
      have c2' : Cv xl rows (f' :: t) := ⟨c2.srt, fun x hx => List.mem_reverse.mp (c2.sub x hx), eg_mono c2.egs fun _ _ _ _ k r hr => k r (List.mem_reverse.mpr hr), c2.tns, fun x hx r hr => c2.bot x hx r (List.mem_reverse.mpr hr)⟩
      have hz : z' ∈ rows := c1.sub z' (by simp)
      have hf : f' ∈ rows := c2'.sub f' (by simp)
      have m2' : ∀ r ∈ rows, r = f' ∨ lx f' r := fun r hr => m2 r (List.mem_reverse.mpr hr)
      have hfz : lx f' z' := by
        rcases m1 f' hf with e | e
        · exfalso
          -- all rows are one pair
          have all : ∀ r ∈ rows, r = z' := fun r hr => by
            rcases m1 r hr with k | k
            · exact k
            · rcases m2' r hr with k2 | k2
              · rw [k2, e]
              · rw [e] at k2
                exact absurd (od_lx.tr _ _ _ k k2) (od_lx.irr r)
          match rows, h2, hp, all with
          | a :: b :: r, _, hp, all =>
            have k := (List.pairwise_cons.mp hp).1 b (by simp)
            rw [all a (by simp), all b (by simp)] at k
            exact od_lx.irr _ k
        · exact e
      obtain ⟨l1, hl1⟩ : ∃ l1, (z' :: s).getLast? = some l1 := by
        cases q : (z' :: s).getLast? with
        | none => simp at q
        | some x => exact ⟨x, rfl⟩
      obtain ⟨l2, hl2⟩ : ∃ l2, (f' :: t).getLast? = some l2 := by
        cases q : (f' :: t).getLast? with
        | none => simp at q
        | some x => exact ⟨x, rfl⟩
      have el1 : l1 = f' := by
        rcases c1.bot l1 hl1 f' hf with k | k
        · exact k
        · rcases m2' l1 (c1.sub l1 (List.mem_of_getLast? hl1)) with k2 | k2
          · exact k2
          · exact absurd (od_lx.tr _ _ _ k k2) (od_lx.irr _)
      have el2 : l2 = z' := by
        rcases c2'.bot l2 hl2 z' hz with k | k
        · exact k
        · rcases m1 l2 (c2'.sub l2 (List.mem_of_getLast? hl2)) with k2 | k2
          · exact k2
          · have k' : lx z' l2 := k
            exact absurd (od_lx.tr _ _ _ k' k2) (od_lx.irr _)
      rw [el1] at hl1
      rw [el2] at hl2
      exact ⟨f', z', s, t, rfl, rfl, c1, c2', hfz, hf, hz, hl1, hl2, m1, m2'⟩
theorem hulG_two {rows : List P2} {f z : P2} {s t : List P2} (h2 : 2 ≤ rows.length) (e1 : chR rows = z :: s) (e2 : chR rows.reverse = f :: t) : hulG rows = s.reverse ++ t.reverse := by
  unfold hulG chn
  rw [if_neg (by omega), e1, e2, dropLast_rev_cons, dropLast_rev_cons]
theorem last_mem {α : Type} {z f : α} {s : List α} (h : (z :: s).getLast? = some f) (hne : f ≠ z) : f ∈ s := by
  cases s with
  | nil => simp at h; exact absurd h.symm hne
  | cons a s =>
    rw [List.getLast?_cons_cons] at h
    exact List.mem_of_getLast? h
theorem lx_ne {a b : P2} (h : lx a b) : a ≠ b := fun e => od_lx.irr b (e ▸ h)

/-- the hull's pairs are rows -/
theorem hulG_sub {rows : List P2} (hp : rows.Pairwise lx) : ∀ x ∈ hulG rows, x ∈ rows := by
  by_cases h1 : rows.length = 1
  · unfold hulG; rw [if_pos h1]; exact fun x hx => hx
  · by_cases h0 : rows = []
    · subst h0
      intro x hx
      simp [hulG, chn, chR] at hx
    · have h2 : 2 ≤ rows.length := by
        have := List.length_pos_iff.mpr h0
        omega
      obtain ⟨f, z, s, t, e1, e2, c1, c2, _⟩ := two_chains hp h2
      rw [hulG_two h2 e1 e2]
      intro x hx
      rcases List.mem_append.mp hx with k | k
      · exact c1.sub x (List.mem_cons_of_mem _ (List.mem_reverse.mp k))
      · exact c2.sub x (List.mem_cons_of_mem _ (List.mem_reverse.mp k))
theorem hulG_ne {rows : List P2} (hp : rows.Pairwise lx) (h0 : rows ≠ []) : hulG rows ≠ [] := by
  by_cases h1 : rows.length = 1
  · unfold hulG; rw [if_pos h1]; exact h0
  · have h2 : 2 ≤ rows.length := by
      have := List.length_pos_iff.mpr h0
      omega
    obtain ⟨f, z, s, t, e1, e2, c1, c2, hfz, hf, hz, hl1, hl2, _⟩ := two_chains hp h2
    rw [hulG_two h2 e1 e2]
    have m := last_mem hl1 (lx_ne hfz)
    intro e
    have : f ∈ s.reverse ++ t.reverse := List.mem_append_left _ (List.mem_reverse.mpr m)
    rw [e] at this
    cases this
/-- the hull of the hull's pairs is the hull -/
theorem hulG_again {rows : List P2} (hp : rows.Pairwise lx) (h0 : rows ≠ []) : hulG (srtD (hulG rows)) = hulG rows := by
  by_cases h1 : rows.length = 1
  · have e : hulG rows = rows := by unfold hulG; rw [if_pos h1]
    rw [e, srt_uniq (srt_srtD rows) hp (mem_srtD rows), e]
  · have h2 : 2 ≤ rows.length := by
      have := List.length_pos_iff.mpr h0
      omega
    obtain ⟨f, z, s, t, e1, e2, c1, c2, hfz, hf, hz, hl1, hl2, m1, m2⟩ := two_chains hp h2
    have eG := hulG_two h2 e1 e2
    have mf : f ∈ hulG rows := by
      rw [eG]; exact List.mem_append_left _ (List.mem_reverse.mpr (last_mem hl1 (lx_ne hfz)))
    have mz : z ∈ hulG rows := by
      rw [eG]; exact List.mem_append_right _ (List.mem_reverse.mpr (last_mem hl2 (lx_ne hfz).symm))
    have hR := srt_srtD (hulG rows)
    have mR := mem_srtD (hulG rows)
    have sub : ∀ x ∈ srtD (hulG rows), x ∈ rows := fun x hx => hulG_sub hp x ((mR x).mp hx)
    generalize srtD (hulG rows) = R' at hR mR sub ⊢
    have h2' : 2 ≤ R'.length := by
      match R', (mR f).mpr mf, (mR z).mpr mz with
      | [a], k1, k2 =>
        simp at k1 k2
        exact absurd (k1.trans k2.symm) (lx_ne hfz)
      | _ :: _ :: _, _, _ => simp
    obtain ⟨f', z', s', t', e1', e2', c1', c2', _, hf', hz', _, _, m1', m2'⟩ := two_chains hR h2'
    have ez : z' = z := by
      rcases m1 z' (sub z' hz') with k | k
      · exact k
      · rcases m1' z ((mR z).mpr mz) with k2 | k2
        · exact k2.symm
        · exact absurd (od_lx.tr _ _ _ k k2) (od_lx.irr _)
    have ef : f' = f := by
      rcases m2 f' (sub f' hf') with k | k
      · exact k
      · rcases m2' f ((mR f).mpr mf) with k2 | k2
        · exact k2.symm
        · exact absurd (od_lx.tr _ _ _ k k2) (od_lx.irr _)
    subst ez
    subst ef
    have restrict : ∀ {lt : P2 → P2 → Prop} {st : List P2}, Cv lt rows st → (∀ x ∈ st, x ∈ hulG rows) → Cv lt R' st := fun c hs =>
      ⟨c.srt, fun x hx => (mR x).mpr (hs x hx), eg_mono c.egs fun _ _ _ _ k r hr => k r (sub r hr), c.tns, fun x hx r hr => c.bot x hx r (sub r hr)⟩
    have r1 := restrict c1 fun x hx => by
      rcases List.mem_cons.mp hx with k | k
      · rw [k]; exact mz
      · rw [eG]; exact List.mem_append_left _ (List.mem_reverse.mpr k)
    have r2 := restrict c2 fun x hx => by
      rcases List.mem_cons.mp hx with k | k
      · rw [k]; exact mf
      · rw [eG]; exact List.mem_append_right _ (List.mem_reverse.mpr k)
    have es := cv_uniq od_lx c1' r1
    have et := cv_uniq od_xl c2' r2
    subst es
    subst et
    rw [eG, hulG_two h2' e1' e2']
end K8

/-! K87, the mathematics, 3: sides, what holds, the hull's laws. -/
namespace K8
def hold (n : P2) (c p : P3) : Prop := (n.1 * p.1 + n.2 * p.2.1) * c.2.2 ≤ (n.1 * c.1 + n.2 * c.2.1) * p.2.2
instance (n : P2) (c p : P3) : Decidable (hold n c p) := by unfold hold; exact inferInstance
def stp (a b : P3) : P2 := (b.1 * a.2.2 - a.1 * b.2.2, b.2.1 * a.2.2 - a.2.1 * b.2.2)
def nrm (a b : P3) : P2 := ((stp a b).2, -(stp a b).1)
def nxt (S : List P3) (i : Nat) : P3 := if i + 1 < S.length then S.getD (i + 1) (0, 0, 1) else S.getD 0 (0, 0, 1)
def edR (S : List P3) : List (P2 × P3) := (List.range S.length).map fun i => (nrm (S.getD i (0, 0, 1)) (nxt S i), S.getD i (0, 0, 1))
def sdR (S : List P3) : List (P2 × P3) :=
  match S with
  | [p] => [((1, 0), p), ((0, 1), p), ((-1, 0), p), ((0, -1), p)]
  | [p, q] => [(((stp p q).2, -(stp p q).1), p), (((stp p q).1, (stp p q).2), q), ((-(stp p q).2, (stp p q).1), q), ((-(stp p q).1, -(stp p q).2), p)]
  | S => edR S
def hasB (S : List P3) (p : P3) : Bool := (sdR S).all fun e => decide (hold e.1 e.2 p)
/-- a polygon whose sides hold all its corners -/
structure Cnv (S : List P3) : Prop where
  ne : S ≠ []
  vp : ∀ p ∈ S, Vp p
  sd : ∀ e ∈ sdR S, e.1 ≠ (0, 0) ∧ e.2 ∈ S ∧ ∀ s ∈ S, hold e.1 e.2 s

theorem le_of_mul_le {a b k : Int} (hk : 0 < k) (h : a * k ≤ b * k) : a ≤ b := Int.le_of_mul_le_mul_right h hk
theorem hold_grid {u : Int} (hu : 0 < u) {n : P2} {c p : P3} {gc gp : P2} (hc : Scl u c gc) (hp : Scl u p gp) : hold n c p ↔ n.1 * gp.1 + n.2 * gp.2 ≤ n.1 * gc.1 + n.2 * gc.2 := by
  have k0 : 0 < c.2.2 * p.2.2 := Int.mul_pos hc.w hp.w
  have e1 : (n.1 * p.1 + n.2 * p.2.1) * c.2.2 * u = (n.1 * gp.1 + n.2 * gp.2) * (c.2.2 * p.2.2) := by
    have a := hp.x
    have b := hp.y
    calc (n.1 * p.1 + n.2 * p.2.1) * c.2.2 * u = (n.1 * (p.1 * u) + n.2 * (p.2.1 * u)) * c.2.2 := by grind
      _ = _ := by rw [a, b]; grind
  have e2 : (n.1 * c.1 + n.2 * c.2.1) * p.2.2 * u = (n.1 * gc.1 + n.2 * gc.2) * (c.2.2 * p.2.2) := by
    have a := hc.x
    have b := hc.y
    calc (n.1 * c.1 + n.2 * c.2.1) * p.2.2 * u = (n.1 * (c.1 * u) + n.2 * (c.2.1 * u)) * p.2.2 := by grind
      _ = _ := by rw [a, b]; grind
  unfold hold
  constructor
  · intro h
    have q := Int.mul_le_mul_of_nonneg_right h (Int.le_of_lt hu)
    rw [e1, e2] at q
    exact le_of_mul_le k0 q
  · intro h
    have q := Int.mul_le_mul_of_nonneg_right h (Int.le_of_lt k0)
    rw [← e1, ← e2] at q
    exact le_of_mul_le hu q
theorem stp_grid {u : Int} {a b : P3} {ga gb : P2} (ha : Scl u a ga) (hb : Scl u b gb) : u * (stp a b).1 = (a.2.2 * b.2.2) * (gb.1 - ga.1) ∧ u * (stp a b).2 = (a.2.2 * b.2.2) * (gb.2 - ga.2) := by
  have x1 := ha.x
  have y1 := ha.y
  have x2 := hb.x
  have y2 := hb.y
  unfold stp
  constructor
  · calc u * (b.1 * a.2.2 - a.1 * b.2.2) = (b.1 * u) * a.2.2 - (a.1 * u) * b.2.2 := by grind
      _ = _ := by rw [x1, x2]; grind
  · calc u * (b.2.1 * a.2.2 - a.2.1 * b.2.2) = (b.2.1 * u) * a.2.2 - (a.2.1 * u) * b.2.2 := by grind
      _ = _ := by rw [y1, y2]; grind
/-- a multiple of the step that is above 0 -/
theorem mul_form {u k s d x y : Int} (hu : 0 < u) (hk : 0 < k) (e : u * s = k * d) : (0 ≤ s ↔ 0 ≤ d) := by
  constructor
  · intro h
    have q := Int.mul_nonneg (Int.le_of_lt hu) h
    rw [e] at q
    exact Int.nonneg_of_mul_nonneg_right q hk
  · intro h
    have q := Int.mul_nonneg (Int.le_of_lt hk) h
    rw [← e] at q
    exact Int.nonneg_of_mul_nonneg_right q hu
theorem hold_lin {u : Int} (hu : 0 < u) {a b c p : P3} {ga gb gc gp : P2} (ha : Scl u a ga) (hb : Scl u b gb) (hc : Scl u c gc) (hp : Scl u p gp) (i j k l : Int) :
    hold (i * (stp a b).1 + j * (stp a b).2, k * (stp a b).1 + l * (stp a b).2) c p ↔
      0 ≤ (i * (gb.1 - ga.1) + j * (gb.2 - ga.2)) * (gc.1 - gp.1) + (k * (gb.1 - ga.1) + l * (gb.2 - ga.2)) * (gc.2 - gp.2) := by
  rw [hold_grid hu hc hp]
  obtain ⟨e1, e2⟩ := stp_grid ha hb
  have k0 : 0 < a.2.2 * b.2.2 := Int.mul_pos ha.w hb.w
  generalize a.2.2 * b.2.2 = w at *
  generalize (stp a b).1 = s1 at *
  generalize (stp a b).2 = s2 at *
  have q := mul_form (x := 0) (y := 0) hu k0 (s := (i * s1 + j * s2) * (gc.1 - gp.1) + (k * s1 + l * s2) * (gc.2 - gp.2)) (d := (i * (gb.1 - ga.1) + j * (gb.2 - ga.2)) * (gc.1 - gp.1) + (k * (gb.1 - ga.1) + l * (gb.2 - ga.2)) * (gc.2 - gp.2))
    (by calc u * ((i * s1 + j * s2) * (gc.1 - gp.1) + (k * s1 + l * s2) * (gc.2 - gp.2)) = (i * (u * s1) + j * (u * s2)) * (gc.1 - gp.1) + (k * (u * s1) + l * (u * s2)) * (gc.2 - gp.2) := by grind
          _ = _ := by rw [e1, e2]; grind)
  rw [← q]
  have e : (i * s1 + j * s2) * (gc.1 - gp.1) + (k * s1 + l * s2) * (gc.2 - gp.2) = ((i * s1 + j * s2) * gc.1 + (k * s1 + l * s2) * gc.2) - ((i * s1 + j * s2) * gp.1 + (k * s1 + l * s2) * gp.2) := by grind
  show (i * s1 + j * s2) * gp.1 + (k * s1 + l * s2) * gp.2 ≤ (i * s1 + j * s2) * gc.1 + (k * s1 + l * s2) * gc.2 ↔ _
  rw [e]
  omega
theorem hold_nrm {u : Int} (hu : 0 < u) {a b p : P3} {ga gb gp : P2} (ha : Scl u a ga) (hb : Scl u b gb) (hp : Scl u p gp) : hold (nrm a b) a p ↔ 0 ≤ crs ga gb gp := by
  have q := hold_lin hu ha hb ha hp 0 1 (-1) 0
  have e : (0 * (stp a b).1 + 1 * (stp a b).2, -1 * (stp a b).1 + 0 * (stp a b).2) = nrm a b := by
    unfold nrm
    congr 1 <;> grind
  rw [e] at q
  rw [q]
  have e2 : (0 * (gb.1 - ga.1) + 1 * (gb.2 - ga.2)) * (ga.1 - gp.1) + (-1 * (gb.1 - ga.1) + 0 * (gb.2 - ga.2)) * (ga.2 - gp.2) = crs ga gb gp := by unfold crs; grind
  rw [e2]
theorem stp_ne {u : Int} (hu : 0 < u) {a b : P3} {ga gb : P2} (ha : Scl u a ga) (hb : Scl u b gb) (h : ga ≠ gb) : (stp a b).1 ≠ 0 ∨ (stp a b).2 ≠ 0 := by
  obtain ⟨e1, e2⟩ := stp_grid ha hb
  have k0 : 0 < a.2.2 * b.2.2 := Int.mul_pos ha.w hb.w
  by_cases h1 : (stp a b).1 = 0
  · by_cases h2 : (stp a b).2 = 0
    · rw [h1, Int.mul_zero] at e1
      rw [h2, Int.mul_zero] at e2
      have d1 : gb.1 - ga.1 = 0 := by
        rcases Int.mul_eq_zero.mp e1.symm with k | k <;> omega
      have d2 : gb.2 - ga.2 = 0 := by
        rcases Int.mul_eq_zero.mp e2.symm with k | k <;> omega
      exact absurd (pair_ext (show ga.1 = gb.1 by omega) (show ga.2 = gb.2 by omega)) h
    · exact .inr h2
  · exact .inl h1

/-! ### cyclic edges -/
def Fw (R : P2 → P2 → Prop) : List P2 → Prop
  | a :: b :: l => R a b ∧ Fw R (b :: l)
  | _ => True
theorem fw_app {R : P2 → P2 → Prop} {x : P2} : ∀ {l1 l2 : List P2}, Fw R (l1 ++ [x]) → Fw R (x :: l2) → Fw R (l1 ++ x :: l2)
  | [], _, _, h => h
  | [a], _, h1, h2 => ⟨h1.1, h2⟩
  | a :: b :: l1, l2, h1, h2 => ⟨h1.1, fw_app (l1 := b :: l1) h1.2 h2⟩
theorem fw_rev {R : P2 → P2 → Prop} : ∀ {st : List P2}, Eg R st → Fw R st.reverse
  | [], _ => trivial
  | [_], _ => trivial
  | b :: a :: st, h => by
    have ih := fw_rev (st := a :: st) h.2
    rw [List.reverse_cons]
    rw [List.reverse_cons] at ih ⊢
    rw [List.append_assoc]
    exact fw_app ih ⟨h.1, trivial⟩
theorem fw_get {R : P2 → P2 → Prop} : ∀ {l : List P2} {i : Nat}, Fw R l → (h : i + 1 < l.length) → R (l[i]'(by omega)) l[i + 1]
  | [], _, _, h => by simp at h
  | [_], _, _, h => by simp at h
  | a :: b :: l, 0, hf, _ => hf.1
  | a :: b :: l, i + 1, hf, h => fw_get (l := b :: l) (i := i) hf.2 (by simpa using h)
theorem eg_srt {lt : P2 → P2 → Prop} : ∀ {st : List P2}, st.Pairwise (fun b a => lt a b) → Eg lt st
  | [], _ => trivial
  | [_], _ => trivial
  | b :: a :: st, h => ⟨(List.pairwise_cons.mp h).1 a (by simp), eg_srt (List.pairwise_cons.mp h).2⟩

theorem sq_nn (x : Int) : 0 ≤ x * x := by
  rcases Int.le_total 0 x with h | h
  · exact Int.mul_nonneg h h
  · exact Int.mul_nonneg_of_nonpos_of_nonpos h h
theorem dot_nn {D e : P2} (hD : 0 < D.1 ∨ (0 = D.1 ∧ 0 < D.2)) (he : 0 < e.1 ∨ (0 = e.1 ∧ 0 ≤ e.2)) (h : D.1 * e.2 - D.2 * e.1 = 0) : 0 ≤ D.1 * e.1 + D.2 * e.2 := by
  rcases hD with q | ⟨q, q'⟩
  · have z : D.1 * (D.1 * e.1 + D.2 * e.2) = (D.1 * D.1 + D.2 * D.2) * e.1 := by
      calc D.1 * (D.1 * e.1 + D.2 * e.2) = D.1 * D.1 * e.1 + D.2 * (D.1 * e.2) := by grind
        _ = _ := by rw [show D.1 * e.2 = D.2 * e.1 by omega]; grind
    have p : 0 ≤ (D.1 * D.1 + D.2 * D.2) * e.1 := by
      refine Int.mul_nonneg ?_ (by omega)
      have a := sq_nn D.1
      have b := sq_nn D.2
      omega
    rw [← z] at p
    exact Int.nonneg_of_mul_nonneg_right p q
  · rw [← q, Int.zero_mul, Int.zero_sub] at h
    rw [← q, Int.zero_mul, Int.zero_add]
    have e1 : e.1 = 0 := by
      rcases Int.mul_eq_zero.mp (show D.2 * e.1 = 0 by omega) with k | k <;> omega
    exact Int.mul_nonneg (by omega) (by omega)

/-- all that the grid's hull tells, for its points S and all points of the grid's rows -/
structure Hl (u : Int) (rows G : List P2) : Prop where
  gn : G ≠ []
  gs : ∀ g ∈ G, g ∈ rows
  one : ∀ g, G = [g] → ∀ r ∈ rows, r = g
  two : ∀ a b, G = [a, b] → lx a b ∧ ∀ r ∈ rows, crs a b r = 0 ∧ (r = a ∨ lx a r) ∧ (r = b ∨ lx r b)
  many : 3 ≤ G.length → ∀ i, i < G.length → ∀ a b, G[i]? = some a → (G ++ G.take 1)[i + 1]? = some b → a ≠ b ∧ ∀ r ∈ rows, 0 ≤ crs a b r
  sup : ∀ m n : Int, ∀ r ∈ rows, ∃ g ∈ G, m * r.1 + n * r.2 ≤ m * g.1 + n * g.2

theorem hulG_hl (u : Int) {rows : List P2} (hp : rows.Pairwise lx) (h0 : rows ≠ []) : Hl u rows (hulG rows) := by
  by_cases h1 : rows.length = 1
  · have e : hulG rows = rows := by unfold hulG; rw [if_pos h1]
    rw [e]
    obtain ⟨g, rfl⟩ := List.length_eq_one_iff.mp h1
    refine ⟨h0, fun x hx => hx, fun x hx r hr => ?_, fun a b hx => by simp at hx, fun h => by simp at h, fun m n r hr => ⟨r, hr, Int.le_refl _⟩⟩
    have e1 : g = x := by simpa using hx
    have e2 : r = g := by simpa using hr
    rw [e2, e1]
  · have h2 : 2 ≤ rows.length := by
      have := List.length_pos_iff.mpr h0
      omega
    obtain ⟨f, z, s, t, e1, e2, c1, c2, hfz, hf, hz, hl1, hl2, m1, m2⟩ := two_chains hp h2
    have eG := hulG_two h2 e1 e2
    have mf := last_mem hl1 (lx_ne hfz)
    have mz := last_mem hl2 (lx_ne hfz).symm
    -- the lists' ends
    obtain ⟨s0, es⟩ : ∃ s0, s.reverse = f :: s0 := by
      have q : s.reverse.head? = some f := by
        rw [List.head?_reverse]
        cases s with
        | nil => cases mf
        | cons a s => rw [List.getLast?_cons_cons] at hl1; exact hl1
      cases e : s.reverse with
      | nil => rw [e] at q; cases q
      | cons a l => rw [e] at q; have : a = f := by simpa using q
                    exact ⟨l, by rw [this]⟩
    obtain ⟨t0, et⟩ : ∃ t0, t.reverse = z :: t0 := by
      have q : t.reverse.head? = some z := by
        rw [List.head?_reverse]
        cases t with
        | nil => cases mz
        | cons a t => rw [List.getLast?_cons_cons] at hl2; exact hl2
      cases e : t.reverse with
      | nil => rw [e] at q; cases q
      | cons a l => rw [e] at q; have : a = z := by simpa using q
                    exact ⟨l, by rw [this]⟩
    have ls : 0 < s.length := List.length_pos_of_mem mf
    have lt' : 0 < t.length := List.length_pos_of_mem mz
    have eg1 : Eg (fun a b => a ≠ b ∧ ∀ r ∈ rows, 0 ≤ crs a b r) (z :: s) := eg_mono (eg_and (eg_srt c1.srt) c1.egs) fun a b _ _ k => ⟨lx_ne k.1, k.2⟩
    have eg2 : Eg (fun a b => a ≠ b ∧ ∀ r ∈ rows, 0 ≤ crs a b r) (f :: t) := eg_mono (eg_and (eg_srt c2.srt) c2.egs) fun a b _ _ k => ⟨(lx_ne k.1).symm, k.2⟩
    have w1 := fw_rev eg1
    have w2 := fw_rev eg2
    rw [List.reverse_cons] at w1 w2
    have w : Fw (fun a b => a ≠ b ∧ ∀ r ∈ rows, 0 ≤ crs a b r) (s.reverse ++ (t.reverse ++ [f])) := by
      rw [et, List.cons_append]
      refine fw_app w1 ?_
      rw [et, List.cons_append] at w2
      exact w2
    have small : s.length + t.length ≤ 2 → s = [f] ∧ t = [z] ∧ ∀ r ∈ rows, crs f z r = 0 := fun hlen => by
      have l1 : s.length = 1 := by omega
      have l2 : t.length = 1 := by omega
      obtain ⟨a, rfl⟩ := List.length_eq_one_iff.mp l1
      obtain ⟨b, rfl⟩ := List.length_eq_one_iff.mp l2
      have ea : f = a := by simpa using mf
      have eb : z = b := by simpa using mz
      subst ea
      subst eb
      refine ⟨rfl, rfl, fun r hr => ?_⟩
      have k1 := c1.egs.1 r hr
      have k2 := c2.egs.1 r hr
      have ek : crs z f r = - crs f z r := by unfold crs; grind
      omega
    rw [eG]
    refine ⟨?_, ?_, ?_, ?_, ?_, ?_⟩
    · rw [es]; simp
    · intro g hg
      rw [← eG] at hg
      exact hulG_sub hp g hg
    · intro g e
      have l := congrArg List.length e
      simp at l
      omega
    · intro a b e
      have l := congrArg List.length e
      simp at l
      obtain ⟨q1, q2, q3⟩ := small (by omega)
      rw [q1, q2] at e
      simp at e
      obtain ⟨rfl, rfl⟩ := e
      exact ⟨hfz, fun r hr => ⟨q3 r hr, m2 r hr, m1 r hr⟩⟩
    · intro h3 i hi a b ha hb
      have et1 : (s.reverse ++ t.reverse).take 1 = [f] := by rw [es]; simp
      rw [et1, List.append_assoc] at hb
      obtain ⟨j1, k1⟩ := List.getElem?_eq_some_iff.mp hb
      have q := fw_get (i := i) w (by simpa using j1)
      have ha' : (s.reverse ++ (t.reverse ++ [f]))[i]? = some a := by
        rw [← List.append_assoc, List.getElem?_append_left hi]
        exact ha
      obtain ⟨j2, k2⟩ := List.getElem?_eq_some_iff.mp ha'
      rw [k1, k2] at q
      exact q
    · intro m n r hr
      by_cases hn : n ≤ 0
      · obtain ⟨g, hg, k⟩ := chr_max od_lx (fun_lx m n hn) hp r hr
        refine ⟨g, ?_, k⟩
        rw [e1] at hg
        rcases List.mem_cons.mp hg with e | e
        · rw [e]; exact List.mem_append_right _ (List.mem_reverse.mpr mz)
        · exact List.mem_append_left _ (List.mem_reverse.mpr e)
      · obtain ⟨g, hg, k⟩ := chr_max od_xl (fun_xl m n (by omega)) (List.pairwise_reverse.mpr hp) r (List.mem_reverse.mpr hr)
        refine ⟨g, ?_, k⟩
        rw [e2] at hg
        rcases List.mem_cons.mp hg with e | e
        · rw [e]; exact List.mem_append_left _ (List.mem_reverse.mpr mf)
        · exact List.mem_append_right _ (List.mem_reverse.mpr e)
end K8

/-! K87, the mathematics, 4: the hull's laws for points. -/
namespace K8
theorem sdR_many {S : List P3} (h : 3 ≤ S.length) : sdR S = edR S := by
  match S, h with
  | _ :: _ :: _ :: _, _ => rfl
theorem getD_map_low {G : List P2} {F : P2 → P3} {i : Nat} (h : i < G.length) (d : P3) : (G.map F).getD i d = F G[i] := by
  rw [List.getD_eq_getElem?_getD, List.getElem?_map, List.getElem?_eq_getElem h]
  rfl
/-- each side of the points of the grid's hull -/
theorem sides_hold {u : Int} (hu : 0 < u) {rows G : List P2} (h : Hl u rows G) {F : P2 → P3} (hF : ∀ g ∈ G, Scl u (F g) g) : ∀ e ∈ sdR (G.map F), e.1 ≠ (0, 0) ∧ e.2 ∈ G.map F ∧ ∀ p gp, Scl u p gp → gp ∈ rows → hold e.1 e.2 p := by
  match G, h, hF with
  | [], h, _ => exact absurd rfl h.gn
  | [g], h, hF =>
    intro e he
    have hg := hF g (by simp)
    have he' : e ∈ [(((1, 0) : P2), F g), ((0, 1), F g), ((-1, 0), F g), ((0, -1), F g)] := he
    have key : ∀ n : P2, ∀ p gp, Scl u p gp → gp ∈ rows → hold n (F g) p := fun n p gp hp hr => by
      rw [hold_grid hu hg hp, h.one g rfl gp hr]
      exact Int.le_refl _
    simp only [List.mem_cons, List.not_mem_nil, or_false] at he'
    rcases he' with e1 | e1 | e1 | e1 <;> subst e1 <;> exact ⟨(fun z => by simp at z), by simp, key _⟩
  | [a, b], h, hF =>
    intro e he
    have ha := hF a (by simp)
    have hb := hF b (by simp)
    obtain ⟨hl, hr⟩ := h.two a b rfl
    have ne := stp_ne hu ha hb (lx_ne hl)
    have he' : e ∈ [(((stp (F a) (F b)).2, -(stp (F a) (F b)).1), F a), (((stp (F a) (F b)).1, (stp (F a) (F b)).2), F b), ((-(stp (F a) (F b)).2, (stp (F a) (F b)).1), F b), ((-(stp (F a) (F b)).1, -(stp (F a) (F b)).2), F a)] := he
    have dD : 0 < b.1 - a.1 ∨ (0 = b.1 - a.1 ∧ 0 < b.2 - a.2) := by unfold lx at hl; omega
    have ne2 : ∀ x y : Int, (x ≠ 0 ∨ y ≠ 0) → ((x, y) : P2) ≠ (0, 0) := fun x y q z => by
      have z1 : x = 0 := congrArg Prod.fst z
      have z2 : y = 0 := congrArg Prod.snd z
      omega
    simp only [List.mem_cons, List.not_mem_nil, or_false] at he'
    rcases he' with e1 | e1 | e1 | e1 <;> subst e1
    · refine ⟨ne2 _ _ (by omega), by simp, fun p gp hp hrr => ?_⟩
      have q := hold_lin hu ha hb ha hp 0 1 (-1) 0
      simp only [Int.zero_mul, Int.one_mul, Int.zero_add, Int.add_zero, Int.neg_mul] at q
      rw [q]
      have k := (hr gp hrr).1
      have e : (b.2 - a.2) * (a.1 - gp.1) + -(b.1 - a.1) * (a.2 - gp.2) = crs a b gp := by unfold crs; grind
      first | omega | (rw [← Int.neg_mul]; omega)
    · refine ⟨ne2 _ _ (by omega), by simp, fun p gp hp hrr => ?_⟩
      have q := hold_lin hu ha hb hb hp 1 0 0 1
      simp only [Int.zero_mul, Int.one_mul, Int.zero_add, Int.add_zero, Int.neg_mul] at q
      rw [q]
      obtain ⟨k, k1, k2⟩ := hr gp hrr
      refine dot_nn (D := (b.1 - a.1, b.2 - a.2)) (e := (b.1 - gp.1, b.2 - gp.2)) dD ?_ ?_
      · show 0 < b.1 - gp.1 ∨ (0 = b.1 - gp.1 ∧ 0 ≤ b.2 - gp.2)
        rcases k2 with k2 | k2
        · rw [k2]; right; constructor <;> omega
        · unfold lx at k2; omega
      · show (b.1 - a.1) * (b.2 - gp.2) - (b.2 - a.2) * (b.1 - gp.1) = 0
        have e : (b.1 - a.1) * (b.2 - gp.2) - (b.2 - a.2) * (b.1 - gp.1) = - crs a b gp := by unfold crs; grind
        omega
    · refine ⟨ne2 _ _ (by omega), by simp, fun p gp hp hrr => ?_⟩
      have q := hold_lin hu ha hb hb hp 0 (-1) 1 0
      simp only [Int.zero_mul, Int.one_mul, Int.zero_add, Int.add_zero, Int.neg_mul] at q
      rw [q]
      have k := (hr gp hrr).1
      have e : -((b.2 - a.2) * (b.1 - gp.1)) + (b.1 - a.1) * (b.2 - gp.2) = - crs a b gp := by unfold crs; grind
      first | omega | (rw [← Int.neg_mul] at e; omega)
    · refine ⟨ne2 _ _ (by omega), by simp, fun p gp hp hrr => ?_⟩
      have q := hold_lin hu ha hb ha hp (-1) 0 0 (-1)
      simp only [Int.zero_mul, Int.one_mul, Int.zero_add, Int.add_zero, Int.neg_mul] at q
      rw [q]
      obtain ⟨k, k1, k2⟩ := hr gp hrr
      have z := dot_nn (D := (b.1 - a.1, b.2 - a.2)) (e := (gp.1 - a.1, gp.2 - a.2)) dD (by
        show 0 < gp.1 - a.1 ∨ (0 = gp.1 - a.1 ∧ 0 ≤ gp.2 - a.2)
        rcases k1 with k1 | k1
        · rw [k1]; right; constructor <;> omega
        · unfold lx at k1; omega) k
      have z' : 0 ≤ (b.1 - a.1) * (gp.1 - a.1) + (b.2 - a.2) * (gp.2 - a.2) := z
      have e : -((b.1 - a.1) * (a.1 - gp.1)) + -((b.2 - a.2) * (a.2 - gp.2)) = (b.1 - a.1) * (gp.1 - a.1) + (b.2 - a.2) * (gp.2 - a.2) := by grind
      omega
  | g0 :: g1 :: g2 :: G', h, hF =>
    generalize eG : g0 :: g1 :: g2 :: G' = G at h hF ⊢
    have h3 : 3 ≤ G.length := by rw [← eG]; simp
    intro e he
    rw [sdR_many (by rw [List.length_map]; exact h3)] at he
    obtain ⟨i, hi, rfl⟩ := List.mem_map.mp he
    have hi' : i < G.length := by simpa using List.mem_range.mp hi
    have e1 : (G.map F).getD i (0, 0, 1) = F G[i] := getD_map_low hi' _
    obtain ⟨b, hb⟩ : ∃ b, (G ++ G.take 1)[i + 1]? = some b := by
      have : i + 1 < (G ++ G.take 1).length := by rw [List.length_append, List.length_take]; omega
      exact ⟨_, List.getElem?_eq_getElem this⟩
    have e2 : nxt (G.map F) i = F b := by
      unfold nxt
      rw [List.length_map]
      by_cases hl : i + 1 < G.length
      · rw [if_pos hl, getD_map_low hl]
        rw [List.getElem?_append_left hl, List.getElem?_eq_getElem hl] at hb
        rw [Option.some.inj hb]
      · rw [if_neg hl, getD_map_low (by omega)]
        rw [List.getElem?_append_right (by omega)] at hb
        have ez : i + 1 - G.length = 0 := by omega
        rw [ez, List.getElem?_take] at hb
        rw [if_pos (by omega), List.getElem?_eq_getElem (by omega)] at hb
        rw [Option.some.inj hb]
    obtain ⟨hne, hrs⟩ := h.many h3 i hi' G[i] b (List.getElem?_eq_getElem hi') hb
    have mb : b ∈ G := by
      rcases List.mem_append.mp (List.mem_of_getElem? hb) with k | k
      · exact k
      · exact List.mem_of_mem_take k
    have sa := hF G[i] (List.getElem_mem hi')
    have sb := hF b mb
    show nrm ((G.map F).getD i (0, 0, 1)) (nxt (G.map F) i) ≠ (0, 0) ∧ (G.map F).getD i (0, 0, 1) ∈ G.map F ∧ ∀ p gp, Scl u p gp → gp ∈ rows → hold (nrm ((G.map F).getD i (0, 0, 1)) (nxt (G.map F) i)) ((G.map F).getD i (0, 0, 1)) p
    rw [e1, e2]
    refine ⟨fun z => ?_, List.mem_map_of_mem (List.getElem_mem hi'), fun p gp hp hr => (hold_nrm hu sa sb hp).mpr (hrs gp hr)⟩
    have z1 : (stp (F G[i]) (F b)).2 = 0 := congrArg Prod.fst z
    have z2 : -(stp (F G[i]) (F b)).1 = 0 := congrArg Prod.snd z
    rcases stp_ne hu sa sb hne with k | k <;> omega

/-! ### the hull of points -/
section
variable {ps : List P3} (h0 : ps ≠ []) (hv : ∀ p ∈ ps, Vp p)
include h0 hv
theorem hul_facts : 0 < lcW ps ∧ (srtD (ps.map (grd (lcW ps)))).Pairwise lx ∧ srtD (ps.map (grd (lcW ps))) ≠ [] ∧ Hl (lcW ps) (srtD (ps.map (grd (lcW ps)))) (hulG (srtD (ps.map (grd (lcW ps))))) ∧ ∀ p ∈ ps, Scl (lcW ps) p (grd (lcW ps) p) ∧ grd (lcW ps) p ∈ srtD (ps.map (grd (lcW ps))) := by
  have hw : ∀ p ∈ ps, 0 < p.2.2 := fun p hp => (hv p hp).1
  have hr := srt_srtD (ps.map (grd (lcW ps)))
  have mem : ∀ p ∈ ps, grd (lcW ps) p ∈ srtD (ps.map (grd (lcW ps))) := fun p hp => (mem_srtD _ _).mpr (List.mem_map_of_mem hp)
  have hne : srtD (ps.map (grd (lcW ps))) ≠ [] := by
    intro e
    cases ps with
    | nil => exact h0 rfl
    | cons p ps =>
      have := mem p (by simp)
      rw [e] at this
      cases this
  exact ⟨lcW_pos hw, hr, hne, hulG_hl _ hr hne, fun p hp => ⟨scl_grd (hw p hp) (lcW_dvd hw p hp), mem p hp⟩⟩
/-- its corners are some of the points -/
theorem hul_sub : ∀ s ∈ hul ps, s ∈ ps := by
  obtain ⟨u0, hr, hne, hl, hp⟩ := hul_facts h0 hv
  intro s hs
  obtain ⟨g, hg, rfl⟩ := List.mem_map.mp hs
  have := (mem_srtD _ _).mp (hl.gs g hg)
  obtain ⟨p, hp', rfl⟩ := List.mem_map.mp this
  rw [low_grd (hv p hp') u0 (lcW_dvd (fun p hp => (hv p hp).1) p hp')]
  exact hp'
theorem hul_ne : hul ps ≠ [] := by
  obtain ⟨u0, hr, hne, hl, hp⟩ := hul_facts h0 hv
  unfold hul
  intro e
  exact hl.gn (List.map_eq_nil_iff.mp e)
theorem hul_sides : ∀ e ∈ sdR (hul ps), e.1 ≠ (0, 0) ∧ e.2 ∈ hul ps ∧ ∀ p ∈ ps, hold e.1 e.2 p := by
  obtain ⟨u0, hr, hne, hl, hp⟩ := hul_facts h0 hv
  intro e he
  obtain ⟨a, b, c⟩ := sides_hold u0 hl (F := fun g => low (g.1, g.2, lcW ps)) (fun g _ => scl_low u0 g) e he
  exact ⟨a, b, fun p hp' => c p _ (hp p hp').1 (hp p hp').2⟩
theorem hul_cnv : Cnv (hul ps) := ⟨hul_ne h0 hv, fun s hs => hv s (hul_sub h0 hv s hs), fun e he => by
  obtain ⟨a, b, c⟩ := hul_sides h0 hv e he
  exact ⟨a, b, fun s hs => c s (hul_sub h0 hv s hs)⟩⟩
/-- it holds the points -/
theorem hul_has : ∀ p ∈ ps, hasB (hul ps) p = true := fun p hp => List.all_eq_true.mpr fun e he => decide_eq_true ((hul_sides h0 hv e he).2.2 p hp)
/-- the greatest value of a number along the points is at a corner -/
theorem hul_sup (n : P2) : ∀ p ∈ ps, ∃ s ∈ hul ps, hold n s p := by
  obtain ⟨u0, hr, hne, hl, hp⟩ := hul_facts h0 hv
  intro p hp'
  obtain ⟨g, hg, k⟩ := hl.sup n.1 n.2 _ (hp p hp').2
  exact ⟨_, List.mem_map_of_mem hg, (hold_grid u0 (scl_low u0 g) (hp p hp').1).mpr k⟩
end
theorem srtD_mulk {k : Int} (hk : 0 < k) (l : List P2) : srtD (l.map fun g => (k * g.1, k * g.2)) = (srtD l).map fun g => (k * g.1, k * g.2) := by
  refine srt_uniq (srt_srtD _) ?_ fun x => ?_
  · refine List.pairwise_map.mpr ((srt_srtD l).imp fun {a b} h => ?_)
    unfold lx at *
    rcases h with h | ⟨h1, h2⟩
    · exact .inl (Int.mul_lt_mul_of_pos_left h hk)
    · exact .inr ⟨by show k * a.1 = k * b.1; rw [h1], Int.mul_lt_mul_of_pos_left h2 hk⟩
  · rw [mem_srtD, List.mem_map, List.mem_map]
    constructor
    · rintro ⟨g, hg, e⟩
      exact ⟨g, (mem_srtD l g).mpr hg, e⟩
    · rintro ⟨g, hg, e⟩
      exact ⟨g, (mem_srtD l g).mp hg, e⟩
theorem crs_mulk (k : Int) (a b c : P2) : crs (k * a.1, k * a.2) (k * b.1, k * b.2) (k * c.1, k * c.2) = (k * k) * crs a b c := by unfold crs; grind
theorem push_mulk {k : Int} (hk : 0 < k) (c : P2) : ∀ st : List P2, push (st.map fun g => (k * g.1, k * g.2)) (k * c.1, k * c.2) = (push st c).map fun g => (k * g.1, k * g.2)
  | [] => rfl
  | [a] => rfl
  | b :: a :: st => by
    have ih := push_mulk hk c (a :: st)
    show (if 0 < crs (k * a.1, k * a.2) (k * b.1, k * b.2) (k * c.1, k * c.2) then _ else push ((a :: st).map fun g => (k * g.1, k * g.2)) (k * c.1, k * c.2)) = (if 0 < crs a b c then c :: b :: a :: st else push (a :: st) c).map _
    rw [crs_mulk, ih]
    have kk : 0 < k * k := Int.mul_pos hk hk
    by_cases h : 0 < crs a b c
    · rw [if_pos h, if_pos (Int.mul_pos kk h)]
      rfl
    · rw [if_neg h, if_neg (fun q => h (Int.pos_of_mul_pos_right q kk))]
theorem chR_mulk {k : Int} (hk : 0 < k) (rows : List P2) : chR (rows.map fun g => (k * g.1, k * g.2)) = (chR rows).map fun g => (k * g.1, k * g.2) := by
  have key : ∀ (rows st : List P2), (rows.map fun g => (k * g.1, k * g.2)).foldl push (st.map fun g => (k * g.1, k * g.2)) = (rows.foldl push st).map fun g => (k * g.1, k * g.2) := by
    intro rows
    induction rows with
    | nil => intro st; rfl
    | cons c rows ih =>
      intro st
      rw [List.map_cons, List.foldl_cons, List.foldl_cons, push_mulk hk, ih]
  exact key rows []
theorem hulG_mulk {k : Int} (hk : 0 < k) (rows : List P2) : hulG (rows.map fun g => (k * g.1, k * g.2)) = (hulG rows).map fun g => (k * g.1, k * g.2) := by
  unfold hulG chn
  rw [List.length_map]
  by_cases h : rows.length = 1
  · rw [if_pos h, if_pos h]
  · rw [if_neg h, if_neg h, ← List.map_reverse, chR_mulk hk, chR_mulk hk, ← List.map_reverse, ← List.map_reverse, List.map_append, List.map_dropLast, List.map_dropLast]
/-- the hull of the hull's corners is the hull -/
theorem hul_again {ps : List P3} (h0 : ps ≠ []) (hv : ∀ p ∈ ps, Vp p) : hul (hul ps) = hul ps := by
  obtain ⟨u0, hr, hne, hl, hp⟩ := hul_facts h0 hv
  have cn := hul_cnv h0 hv
  generalize eu : lcW ps = u at *
  generalize eG : hulG (srtD (ps.map (grd u))) = G at *
  have eS : hul ps = G.map fun g => low (g.1, g.2, u) := by unfold hul; rw [eu, eG]
  have again : hulG (srtD G) = G := by rw [← eG]; exact hulG_again hr hne
  rw [eS] at cn ⊢
  have hw : ∀ s ∈ G.map (fun g => low (g.1, g.2, u)), 0 < s.2.2 := fun s hs => (cn.vp s hs).1
  generalize eu' : lcW (G.map fun g => low (g.1, g.2, u)) = u'
  have u0' : 0 < u' := by rw [← eu']; exact lcW_pos hw
  have dv : ∀ s ∈ G.map (fun g => low (g.1, g.2, u)), s.2.2 ∣ u' := by rw [← eu']; exact lcW_dvd hw
  have du : u' ∣ u := by
    rw [← eu']
    refine lcW_least hw fun s hs => ?_
    obtain ⟨g, hg, rfl⟩ := List.mem_map.mp hs
    exact ⟨g3 (g.1, g.2, u), (low_eqs (g.1, g.2, u)).2.2.symm⟩
  obtain ⟨k, ek⟩ := du
  have k0 : 0 < k := by rw [ek] at u0; exact Int.pos_of_mul_pos_right u0 u0'
  have eg : ((G.map fun g => low (g.1, g.2, u)).map (grd u')).map (fun g => (k * g.1, k * g.2)) = G := by
    rw [List.map_map, List.map_map]
    refine (List.map_congr_left (g := id) fun g hg => ?_).trans (List.map_id G)
    have sc := scl_low u0 g
    have sg := scl_grd (u := u') (hw _ (List.mem_map_of_mem hg)) (dv _ (List.mem_map_of_mem hg))
    show (k * (grd u' (low (g.1, g.2, u))).1, k * (grd u' (low (g.1, g.2, u))).2) = g
    generalize low (g.1, g.2, u) = s at sc sg
    have a1 := sc.x
    have a2 := sc.y
    have b1 := sg.x
    have b2 := sg.y
    have w0 := sc.w
    refine pair_ext ?_ ?_
    · refine Int.eq_of_mul_eq_mul_right (show s.2.2 ≠ 0 by omega) ?_
      show k * (grd u' s).1 * s.2.2 = g.1 * s.2.2
      rw [← a1, ek, Int.mul_assoc, ← b1]
      grind
    · refine Int.eq_of_mul_eq_mul_right (show s.2.2 ≠ 0 by omega) ?_
      show k * (grd u' s).2 * s.2.2 = g.2 * s.2.2
      rw [← a2, ek, Int.mul_assoc, ← b2]
      grind
  have e1 : (hulG (srtD ((G.map fun g => low (g.1, g.2, u)).map (grd u')))).map (fun g => (k * g.1, k * g.2)) = G := by
    rw [← hulG_mulk k0, ← srtD_mulk k0, eg, again]
  have e2 : hul (G.map fun g => low (g.1, g.2, u)) = (hulG (srtD ((G.map fun g => low (g.1, g.2, u)).map (grd u')))).map fun g => low (g.1, g.2, u') := by
    unfold hul
    rw [eu']
  rw [e2]
  generalize hulG (srtD ((G.map fun g => low (g.1, g.2, u)).map (grd u'))) = X at e1 ⊢
  rw [← e1, List.map_map]
  refine List.map_congr_left fun g _ => ?_
  show low (g.1, g.2, u') = low (k * g.1, k * g.2, u)
  rw [ek, Int.mul_comm u' k]
  exact (low_mul k0 (g.1, g.2, u')).symm
/-- points that are not on one line: an area -/
theorem hul_area {ps : List P3} (hv : ∀ p ∈ ps, Vp p) {a b c : P2} (ha : (a.1, a.2, 1) ∈ ps) (hb : (b.1, b.2, 1) ∈ ps) (hc : (c.1, c.2, 1) ∈ ps) (h : crs a b c ≠ 0) : 2 < (hul ps).length := by
  have h0 : ps ≠ [] := by intro e; rw [e] at ha; cases ha
  obtain ⟨u0, hr, hne, hl, hp⟩ := hul_facts h0 hv
  have em : ∀ x : P2, (x.1, x.2, 1) ∈ ps → grd (lcW ps) (x.1, x.2, 1) = (lcW ps * x.1, lcW ps * x.2) := fun x _ => by
    unfold grd
    show (x.1 * (lcW ps / 1), x.2 * (lcW ps / 1)) = _
    rw [Int.ediv_one, Int.mul_comm, Int.mul_comm x.2]
  have ra := (hp _ ha).2
  have rb := (hp _ hb).2
  have rc := (hp _ hc).2
  rw [em a ha] at ra
  rw [em b hb] at rb
  rw [em c hc] at rc
  have hz : crs (lcW ps * a.1, lcW ps * a.2) (lcW ps * b.1, lcW ps * b.2) (lcW ps * c.1, lcW ps * c.2) ≠ 0 := by
    rw [crs_mulk]
    intro q
    rcases Int.mul_eq_zero.mp q with k | k
    · rcases Int.mul_eq_zero.mp k with k | k <;> omega
    · exact h k
  have el : (hul ps).length = (hulG (srtD (ps.map (grd (lcW ps))))).length := by unfold hul; rw [List.length_map]
  rw [el]
  generalize hulG (srtD (ps.map (grd (lcW ps)))) = G at hl ⊢
  generalize (lcW ps * a.1, lcW ps * a.2) = a' at *
  generalize (lcW ps * b.1, lcW ps * b.2) = b' at *
  generalize (lcW ps * c.1, lcW ps * c.2) = c' at *
  match G, hl with
  | [], hl => exact absurd rfl hl.gn
  | [g], hl =>
    have e1 := hl.one g rfl _ ra
    have e2 := hl.one g rfl _ rb
    have e3 := hl.one g rfl _ rc
    exact absurd (by rw [e1, e2, e3]; unfold crs; grind) hz
  | [f, z], hl =>
    exfalso
    obtain ⟨hfz, hrr⟩ := hl.two f z rfl
    have k1 := (hrr _ ra).1
    have k2 := (hrr _ rb).1
    have k3 := (hrr _ rc).1
    have m1 : (z.1 - f.1) * crs a' b' c' = 0 := by
      have e : (z.1 - f.1) * crs a' b' c' = (b'.1 - a'.1) * (crs f z c' - crs f z a') - (c'.1 - a'.1) * (crs f z b' - crs f z a') := by unfold crs; grind
      rw [e, k1, k2, k3]; grind
    have m2 : (z.2 - f.2) * crs a' b' c' = 0 := by
      have e : (z.2 - f.2) * crs a' b' c' = (b'.2 - a'.2) * (crs f z c' - crs f z a') - (c'.2 - a'.2) * (crs f z b' - crs f z a') := by unfold crs; grind
      rw [e, k1, k2, k3]; grind
    have d1 : z.1 - f.1 = 0 := by
      rcases Int.mul_eq_zero.mp m1 with k | k
      · exact k
      · exact absurd k hz
    have d2 : z.2 - f.2 = 0 := by
      rcases Int.mul_eq_zero.mp m2 with k | k
      · exact k
      · exact absurd k hz
    exact lx_ne hfz (pair_ext (by omega) (by omega))
  | _ :: _ :: _ :: _, _ => simp
theorem push_len (c : P2) : ∀ st : List P2, (push st c).length ≤ st.length + 1
  | [] => by simp [push]
  | [a] => by simp [push]
  | b :: a :: st => by
    have ih := push_len c (a :: st)
    unfold push
    split
    · simp
    · simp at ih ⊢
      omega
theorem chR_len (rows : List P2) : (chR rows).length ≤ rows.length := by
  have key : ∀ (rows st : List P2), (rows.foldl push st).length ≤ rows.length + st.length := by
    intro rows
    induction rows with
    | nil => intro st; simp
    | cons c rows ih =>
      intro st
      have a := ih (push st c)
      have b := push_len c st
      rw [List.foldl_cons, List.length_cons]
      omega
  exact key rows []
theorem hul_len (ps : List P3) : (hul ps).length ≤ 2 * ps.length := by
  have a := srtD_len (ps.map (grd (lcW ps)))
  rw [List.length_map] at a
  unfold hul
  rw [List.length_map]
  generalize srtD (ps.map (grd (lcW ps))) = rows at a ⊢
  unfold hulG chn
  split
  · omega
  · have b := chR_len rows
    have c := chR_len rows.reverse
    rw [List.length_reverse] at c
    rw [List.length_append, List.length_dropLast, List.length_dropLast, List.length_reverse, List.length_reverse]
    omega
end K8
namespace K87
open PySem PySem.Spec PyProof.Rows L2 K8
/-! ### what a value stands for, in a heap -/
abbrev Rel (α : Type) := Hp → V → α → Prop
section
variable {α β : Type} {K : PySem.W.Frag}
/-- the tuples stay -/
def TK (K : PySem.W.Frag) (H H' : Hp) : Prop := ∀ a xs, SqT K H a xs → SqT K H' a xs
theorem TK.refl (H : Hp) : TK K H H := fun _ _ h => h
theorem TK.trans {H H1 H2 : Hp} (a : TK K H H1) (b : TK K H1 H2) : TK K H H2 := fun x y h => b x y (a x y h)
theorem sm_tk {H H' : Hp} (e : Same H H') : TK K H H' := fun a xs h => by
  rcases h with (h | ⟨o, h⟩) | h
  · exact .inl (.inl (e _ _ h))
  · exact .inl (.inr ⟨o, e _ _ h⟩)
  · exact .inr h
/-- all but the list at m stays -/
def Km (m : Addr) (H H' : Hp) : Prop := ∀ b o, b ≠ m → H b = some o → H' b = some o
theorem Km.refl (m : Addr) (H : Hp) : Km m H H := fun _ _ _ h => h
theorem Km.trans {m : Addr} {H H1 H2 : Hp} (a : Km m H H1) (b : Km m H1 H2) : Km m H H2 := fun x o n h => b x o n (a x o n h)
theorem sm_km {m : Addr} {H H' : Hp} (e : Same H H') : Km m H H' := fun b o _ h => e b o h
theorem km_tk {m : Addr} {H H' : Hp} {xs : List V} (e : Km m H H') (h : H m = some (.lst xs)) : TK K H H' := fun a ys q => by
  rcases q with (q | ⟨o, q⟩) | q
  · exact .inl (.inl (e _ _ (fun z => by rw [z, h] at q; cases q) q))
  · exact .inl (.inr ⟨o, e _ _ (fun z => by rw [z, h] at q; cases q) q⟩)
  · exact .inr q
theorem same_new {H : Hp} {p : Addr} {o : HO} (h : H p = none) : Same H (upd H p o) := fun b x e => by
  rw [upd_ne (ne_of_none e h)]
  exact e
/-- told of tuples alone -/
class MonoT (K : PySem.W.Frag) (R : Rel α) : Prop where
  up : ∀ {H H' : Hp} {v : V} {x : α}, TK K H H' → R H v x → R H' v x
/-- told of tuples and lists -/
class MonoS (R : Rel α) : Prop where
  up : ∀ {H H' : Hp} {v : V} {x : α}, Same H H' → R H v x → R H' v x
def Ri : Rel Int := fun _ v i => v = .int i
def Rb : Rel Bool := fun _ v b => v = .bl b
def Rs : Rel Str := fun _ v s => v = .str s
def Rn : Rel Unit := fun _ v _ => v = .non
def Pr (K : PySem.W.Frag) : Rel P2 := fun H v p => ∃ a, v = .ref a ∧ SqT K H a [.int p.1, .int p.2]
def Pt (K : PySem.W.Frag) : Rel P3 := fun H v p => ∃ a, v = .ref a ∧ SqT K H a [.int p.1, .int p.2.1, .int p.2.2]
def Tl (K : PySem.W.Frag) (R : Rel α) : Rel (List α) := fun H v xs => ∃ a vs, v = .ref a ∧ SqT K H a vs ∧ Paired (R H) vs xs
def Ll (K : PySem.W.Frag) (R : Rel α) : Rel (List α) := fun H v xs => ∃ a vs, v = .ref a ∧ SqL K H a vs ∧ Paired (R H) vs xs
theorem paired_up {R S : V → α → Prop} {vs : List V} {xs : List α} (h : Paired R vs xs) (f : ∀ v x, R v x → S v x) : Paired S vs xs := Paired.mapP h f
instance : MonoT K Ri := ⟨fun _ h => h⟩
instance : MonoT K Rb := ⟨fun _ h => h⟩
instance : MonoT K Rs := ⟨fun _ h => h⟩
instance : MonoT K Rn := ⟨fun _ h => h⟩
instance : MonoT K (Pr K) := ⟨fun k ⟨a, e, h⟩ => ⟨a, e, k _ _ h⟩⟩
instance : MonoT K (Pt K) := ⟨fun k ⟨a, e, h⟩ => ⟨a, e, k _ _ h⟩⟩
instance {R : Rel α} [m : MonoT K R] : MonoT K (Tl K R) := ⟨fun k ⟨a, vs, e, h, p⟩ => ⟨a, vs, e, k _ _ h, paired_up p fun _ _ q => m.up k q⟩⟩
instance : MonoS Ri := ⟨fun _ h => h⟩
instance : MonoS Rb := ⟨fun _ h => h⟩
instance : MonoS Rs := ⟨fun _ h => h⟩
instance : MonoS Rn := ⟨fun _ h => h⟩
instance : MonoS (Pr K) := ⟨fun s ⟨a, e, h⟩ => ⟨a, e, sm_tk s _ _ h⟩⟩
instance : MonoS (Pt K) := ⟨fun s ⟨a, e, h⟩ => ⟨a, e, sm_tk s _ _ h⟩⟩
instance {R : Rel α} [m : MonoS R] : MonoS (Tl K R) := ⟨fun s ⟨a, vs, e, h, p⟩ => ⟨a, vs, e, sm_tk s _ _ h, paired_up p fun _ _ q => m.up s q⟩⟩
instance {R : Rel α} [m : MonoS R] : MonoS (Ll K R) := ⟨fun s ⟨a, vs, e, h, p⟩ => ⟨a, vs, e, s.seq h, paired_up p fun _ _ q => m.up s q⟩⟩
theorem up_s {R : Rel α} [m : MonoS R] {H H' : Hp} {v : V} {x : α} (s : Same H H') (h : R H v x) : R H' v x := m.up s h
theorem up_t {R : Rel α} [m : MonoT K R] {H H' : Hp} {v : V} {x : α} (s : TK K H H') (h : R H v x) : R H' v x := m.up s h
theorem pr_new {H : Hp} {p : Addr} {i j : Int} (h : H p = some (.tup [.int i, .int j])) : Pr K H (.ref p) (i, j) := ⟨p, rfl, SqT.of h⟩
theorem pt_new {H : Hp} {p : Addr} {i j k : Int} (h : H p = some (.tup [.int i, .int j, .int k])) : Pt K H (.ref p) (i, j, k) := ⟨p, rfl, SqT.of h⟩
theorem tl_new {R : Rel α} {H : Hp} {p : Addr} {vs : List V} {xs : List α} (h : H p = some (.tup vs)) (q : Paired (R H) vs xs) : Tl K R H (.ref p) xs := ⟨p, vs, rfl, SqT.of h, q⟩
theorem ll_new {R : Rel α} {H : Hp} {p : Addr} {vs : List V} {xs : List α} (h : H p = some (.lst vs)) (q : Paired (R H) vs xs) : Ll K R H (.ref p) xs := ⟨p, vs, rfl, SqL.of h, q⟩
theorem paired_at {R : V → α → Prop} : ∀ {vs : List V} {xs : List α} {i : Nat} {x : α}, Paired R vs xs → xs[i]? = some x → ∃ v, vs[i]? = some v ∧ R v x
  | _, _, _, _, .nil, e => by simp at e
  | _, _, 0, _, .cons h _, e => by
    simp at e
    subst e
    exact ⟨_, rfl, h⟩
  | _, _, i + 1, _, .cons _ t, e => paired_at (i := i) t (by simpa using e)
theorem paired_at2 {R : V → α → Prop} : ∀ {vs : List V} {xs : List α} {i : Nat} {v : V}, Paired R vs xs → vs[i]? = some v → ∃ x, xs[i]? = some x ∧ R v x
  | _, _, _, _, .nil, e => by simp at e
  | _, _, 0, _, .cons h _, e => by
    simp at e
    subst e
    exact ⟨_, rfl, h⟩
  | _, _, i + 1, _, .cons _ t, e => paired_at2 (i := i) t (by simpa using e)
theorem paired_snoc {R : V → α → Prop} : ∀ {vs : List V} {xs : List α} {v : V} {x : α}, Paired R vs xs → R v x → Paired R (vs ++ [v]) (xs ++ [x])
  | _, _, _, _, .nil, h => .cons h .nil
  | _, _, _, _, .cons r t, h => .cons r (paired_snoc t h)
theorem paired_app {R : V → α → Prop} : ∀ {vs ws : List V} {xs ys : List α}, Paired R vs xs → Paired R ws ys → Paired R (vs ++ ws) (xs ++ ys)
  | _, _, _, _, .nil, h => h
  | _, _, _, _, .cons r t, h => .cons r (paired_app t h)
end

/-! ### the size of numbers -/
def Sm (n : Nat) (i : Int) : Prop := i.natAbs < 2 ^ n
theorem sm_up {n m : Nat} {i : Int} (h : Sm n i) (k : n ≤ m) : Sm m i := Nat.lt_of_lt_of_le h (Nat.pow_le_pow_right (by decide) k)
theorem sm_mul {n m : Nat} {i j : Int} (h : Sm n i) (k : Sm m j) : Sm (n + m) (i * j) := by
  unfold Sm at *
  rw [Int.natAbs_mul, Nat.pow_add]
  exact Nat.mul_lt_mul'' h k
theorem sm_add {n m : Nat} {i j : Int} (h : Sm n i) (k : Sm m j) : Sm (n + m + 1) (i + j) := by
  have a := sm_up h (Nat.le_add_right n m)
  have b := sm_up k (Nat.le_add_left m n)
  unfold Sm at *
  have := Int.natAbs_add_le i j
  rw [Nat.pow_succ]
  omega
theorem sm_neg {n : Nat} {i : Int} (h : Sm n i) : Sm n (-i) := by
  unfold Sm at *
  rw [Int.natAbs_neg]
  exact h
theorem sm_sub {n m : Nat} {i j : Int} (h : Sm n i) (k : Sm m j) : Sm (n + m + 1) (i - j) := by
  rw [Int.sub_eq_add_neg]
  exact sm_add h (sm_neg k)
theorem sm_add1 {n : Nat} {i j : Int} (h : Sm n i) (k : Sm n j) : Sm (n + 1) (i + j) := by
  unfold Sm at *
  have := Int.natAbs_add_le i j
  rw [Nat.pow_succ]
  omega
theorem sm_sub1 {n : Nat} {i j : Int} (h : Sm n i) (k : Sm n j) : Sm (n + 1) (i - j) := by
  rw [Int.sub_eq_add_neg]
  exact sm_add1 h (sm_neg k)
theorem sm_dvd {n : Nat} {i j : Int} (h : Sm n i) (h0 : i ≠ 0) (d : j ∣ i) : Sm n j := by
  unfold Sm at *
  exact Nat.lt_of_le_of_lt (Nat.le_of_dvd (Int.natAbs_pos.mpr h0) (Int.natAbs_dvd_natAbs.mpr d)) h
theorem sm_div {n : Nat} {i j : Int} (h : Sm n i) (h0 : 0 < j) : Sm n (i / j) := by
  unfold Sm at *
  have : (i / j).natAbs ≤ i.natAbs := Int.natAbs_ediv_le_natAbs i j
  omega
theorem sm_mod {n : Nat} {i j : Int} (h : Sm n j) (h0 : 0 < j) : Sm n (i % j) := by
  unfold Sm at *
  have a := Int.emod_nonneg i (show j ≠ 0 by omega)
  have b := Int.emod_lt_of_pos i h0
  omega
theorem sm_le {n : Nat} {i j : Int} (h : Sm n j) (h0 : 0 ≤ i) (k : i ≤ j) : Sm n i := by
  unfold Sm at *
  omega
theorem cmulw {i j : Int} {a b : Nat} (ha : Sm a i) (hb : Sm b j) (h : a + b + 2 ≤ 1000000) : CMulW i j := wide_mul (a := a + 1) (b := b + 1) (sm_up ha (Nat.le_succ _)) (sm_up hb (Nat.le_succ _)) (Nat.succ_pos _) (Nat.succ_pos _) (by omega)
theorem cdivw {i j : Int} {b : Nat} (h : 0 < j) (hb : Sm b j) (h9 : b + 1 ≤ 9000) : CDivW i j := wide_div (b := b + 1) h (sm_up hb (Nat.le_succ _)) (Nat.succ_pos _) h9
/-- a point's numbers -/
structure Bd (n : Nat) (p : P3) : Prop where
  x : Sm n p.1
  y : Sm n p.2.1
  w : Sm n p.2.2
structure Bq (n : Nat) (p : P2) : Prop where
  x : Sm n p.1
  y : Sm n p.2

/-! ### steps of a reading -/
section
variable {α β γ : Type} {K : PySem.W.Frag} {σ : L2.St} {H : Hp} {Q : VK} {v x y : V} {ta tb te tx : TE} {t u : TT} {r : R2} {D : Ends} {ts tu : TS} {g : TG} {gs : TGs} {tas : TA} {QT : Bool → Hp → Prop} {QA : List V → Hp → Prop} {QS : L2.St → Hp → Prop}
theorem x_var {i : Nat} (e : σ[i]? = some (some v)) (h : Q v H) : tVar i σ H Q := ⟨v, e, h⟩
theorem x_c (h : Q v H) : tC v σ H Q := h
theorem x_op (h : ta σ H fun x H1 => tb σ H1 fun y H2 => r x y H2 Q) : tOp r ta tb σ H Q := h
theorem x_un {r : V → Hp → VK → Prop} (h : ta σ H fun x H1 => r x H1 Q) : tUn r ta σ H Q := h
theorem x_I0 {f : Int → Int → V} {i j : Int} (h : Q (f i j) H) : rI0 f (.int i) (.int j) H Q := ⟨i, j, rfl, rfl, h⟩
theorem x_I {C : Int → Int → Prop} {f : Int → Int → V} {i j : Int} (c : C i j) (h : Q (f i j) H) : rI C f (.int i) (.int j) H Q := ⟨i, j, rfl, rfl, c, h⟩
theorem x_U {f : Int → V} {i : Int} (h : Q (f i) H) : rU f (.int i) H Q := ⟨i, rfl, h⟩
theorem x_eqI {i j : Int} (h : Q (.bl (decide (i = j))) H) : rEq (.int i) (.int j) H Q := ⟨rfl, by
  have e : decide (V.int i = V.int j) = decide (i = j) := by simp
  rw [e]; exact h⟩
theorem x_neI {i j : Int} (h : Q (.bl (!decide (i = j))) H) : rNe (.int i) (.int j) H Q := ⟨rfl, by
  have e : decide (V.int i = V.int j) = decide (i = j) := by simp
  rw [e]; exact h⟩
theorem x_eqS {i j : Str} (h : Q (.bl (decide (i = j))) H) : rEq (.str i) (.str j) H Q := ⟨rfl, by
  have e : decide (V.str i = V.str j) = decide (i = j) := by simp
  rw [e]; exact h⟩
theorem x_neS {i j : Str} (h : Q (.bl (!decide (i = j))) H) : rNe (.str i) (.str j) H Q := ⟨rfl, by
  have e : decide (V.str i = V.str j) = decide (i = j) := by simp
  rw [e]; exact h⟩
/-- items of a pair, a point -/
theorem x_pt0 {p : P3} (h : Pt K H v p) (q : Q (.int p.1) H) : rIxT K v (.int 0) H Q := by
  obtain ⟨a, rfl, h⟩ := h
  exact ⟨a, _, 0, _, rfl, rfl, h, rfl, q⟩
theorem x_pt1 {p : P3} (h : Pt K H v p) (q : Q (.int p.2.1) H) : rIxT K v (.int 1) H Q := by
  obtain ⟨a, rfl, h⟩ := h
  exact ⟨a, _, 1, _, rfl, rfl, h, rfl, q⟩
theorem x_pt2 {p : P3} (h : Pt K H v p) (q : Q (.int p.2.2) H) : rIxT K v (.int 2) H Q := by
  obtain ⟨a, rfl, h⟩ := h
  exact ⟨a, _, 2, _, rfl, rfl, h, rfl, q⟩
theorem x_pr0 {p : P2} (h : Pr K H v p) (q : Q (.int p.1) H) : rIxT K v (.int 0) H Q := by
  obtain ⟨a, rfl, h⟩ := h
  exact ⟨a, _, 0, _, rfl, rfl, h, rfl, q⟩
theorem x_pr1 {p : P2} (h : Pr K H v p) (q : Q (.int p.2) H) : rIxT K v (.int 1) H Q := by
  obtain ⟨a, rfl, h⟩ := h
  exact ⟨a, _, 1, _, rfl, rfl, h, rfl, q⟩
/-- an item of a tuple, of a list, by its place -/
theorem x_ixT {R : Rel α} {xs : List α} {i : Nat} {z : α} (h : Tl K R H v xs) (e : xs[i]? = some z) (q : ∀ u, R H u z → Q u H) : rIxT K v (.int (i : Int)) H Q := by
  obtain ⟨a, vs, rfl, h, p⟩ := h
  obtain ⟨u, eu, hu⟩ := paired_at p e
  exact ⟨a, vs, _, u, rfl, rfl, h, atI_nat eu, q u hu⟩
theorem x_ixL {R : Rel α} {xs : List α} {i : Nat} {z : α} (h : Ll K R H v xs) (e : xs[i]? = some z) (q : ∀ u, R H u z → Q u H) : rIxL K v (.int (i : Int)) H Q := by
  obtain ⟨a, vs, rfl, h, p⟩ := h
  obtain ⟨u, eu, hu⟩ := paired_at p e
  exact ⟨a, vs, _, u, rfl, rfl, h, atI_nat eu, q u hu⟩
/-- arguments, displays -/
theorem x_nil (h : QA [] H) : tNil σ H QA := h
theorem x_cons (h : ta σ H fun x H1 => tas σ H1 fun xs H2 => QA (x :: xs) H2) : tCons ta tas σ H QA := h
theorem x_tup (h : tas σ H fun xs H1 => xs.length ≤ sizeLine ∧ ∀ p, H1 p = none → Q (.ref p) (upd H1 p (.tup xs))) : tTup tas σ H Q := h
theorem x_lst (h : tas σ H fun xs H1 => xs.length ≤ sizeLine ∧ ∀ p, H1 p = none → Q (.ref p) (upd H1 p (.lst xs))) : tLst tas σ H Q := h
theorem sz_ok {n : Nat} (h : n ≤ 100000) : n ≤ sizeLine := Nat.le_trans h (by decide)
theorem sz_lt' {n : Nat} (h : n < 100000) : n < sizeLine := Nat.lt_of_lt_of_le h (by decide)
/-- a new object, the heap without its form -/
theorem x_new {o : HO} (h : ∀ p H2, H p = none → Same H H2 → H2 p = some o → Q (.ref p) H2) : ∀ p, H p = none → Q (.ref p) (upd H p o) := fun p hp => h p _ hp (same_new hp) upd_same
theorem x_newT {xs : List V} (hl : xs.length ≤ 100000) (h : ∀ p H2, H p = none → Same H H2 → H2 p = some (.tup xs) → Q (.ref p) H2) : xs.length ≤ sizeLine ∧ ∀ p, H p = none → Q (.ref p) (upd H p (.tup xs)) := ⟨sz_ok hl, x_new h⟩
theorem x_newL {xs : List V} (hl : xs.length ≤ 100000) (h : ∀ p H2, H p = none → Same H H2 → H2 p = some (.lst xs) → Q (.ref p) H2) : xs.length ≤ sizeLine ∧ ∀ p, H p = none → Q (.ref p) (upd H p (.lst xs)) := ⟨sz_ok hl, x_new h⟩
/-- tests -/
theorem x_test (h : te σ H fun x H' => ∃ k, x = .bl k ∧ QT k H') : tTest te σ H QT := h
theorem x_B (h : te σ H fun x H' => ∃ k, x = .bl k ∧ QT k H') : tB te σ H QT := h
theorem x_bl {b : Bool} (h : QT b H) : ∃ k, V.bl b = .bl k ∧ QT k H := ⟨b, rfl, h⟩
theorem x_and (h : t σ H fun c H1 => (c = true → u σ H1 QT) ∧ (c = false → QT false H1)) (m : ∀ {A B : Bool → Hp → Prop}, (∀ b H, A b H → B b H) → t σ H A → t σ H B) : tAnd t u σ H QT := by
  show t σ H fun c H1 => if c = true then u σ H1 QT else QT false H1
  refine m (fun b H1 k => ?_) h
  cases b with
  | true => rw [if_pos rfl]; exact k.1 rfl
  | false => rw [if_neg (by decide)]; exact k.2 rfl
theorem x_andT (h : t σ H fun c H1 => if c = true then u σ H1 QT else QT false H1) : tAnd t u σ H QT := h
theorem x_orT (h : t σ H fun c H1 => if c = true then QT true H1 else u σ H1 QT) : tOr t u σ H QT := h
theorem x_notT (h : t σ H fun c H1 => QT (!c) H1) : tNot t σ H QT := h
theorem x_andV (h : ta σ H fun x H1 => ∃ c, x = .bl c ∧ if c = true then tb σ H1 Q else Q (.bl false) H1) : tAndV ta tb σ H Q := h
theorem x_orV (h : ta σ H fun x H1 => ∃ c, x = .bl c ∧ if c = true then Q (.bl true) H1 else tb σ H1 Q) : tOrV ta tb σ H Q := h
theorem x_notV (h : ta σ H fun x H1 => ∃ c, x = .bl c ∧ Q (.bl (!c)) H1) : tNotV ta σ H Q := h
theorem x_if (h : t σ H fun c H1 => if c = true then ta σ H1 Q else tb σ H1 Q) : tIf t ta tb σ H Q := h
theorem x_ifS (h : t σ H fun b H1 => if b = true then ts D σ H1 else tu D σ H1) : tIfS t ts tu D σ H := h
theorem x_ite {b : Bool} {A B : Prop} (h1 : b = true → A) (h2 : b = false → B) : if b = true then A else B := by
  cases b with
  | true => rw [if_pos rfl]; exact h1 rfl
  | false => rw [if_neg (by decide)]; exact h2 rfl
/-- statements -/
theorem x_seq (h : ts { D with nx := tu D } σ H) : tSeq ts tu D σ H := h
theorem x_next (h : D.nx σ H) : tNext D σ H := h
theorem x_asg (h : te σ H fun x H1 => g x σ H1 D.nx) : tAsg te g D σ H := h
theorem x_ret (h : te σ H D.rt) : tRet te D σ H := h
theorem x_drop (h : te σ H fun _ H1 => D.nx σ H1) : tDrop te D σ H := h
theorem x_gn {i : Nat} (h : QS (σ.set i (some v)) H) : gName i v σ H QS := h
theorem x_gpr {p : P2} {g1 g2 : TG} (h : Pr K H v p) (q : g1 (.int p.1) σ H fun σ' H' => g2 (.int p.2) σ' H' QS) : gTup K 2 (gCons g1 (gCons g2 gNil)) v σ H QS := by
  obtain ⟨a, rfl, h⟩ := h
  exact ⟨a, _, rfl, h, rfl, _, _, rfl, (by
    have e : (fun (σ' : L2.St) (H' : Hp) => gCons g2 gNil [V.int p.2] σ' H' QS) = fun σ' H' => g2 (.int p.2) σ' H' QS := by
      funext σ' H'
      unfold gCons gNil
      apply propext
      constructor
      · rintro ⟨v, r, e, k⟩
        injection e with e1 e2
        subst e1
        subst e2
        have e3 : (fun (σ'' : L2.St) (H'' : Hp) => ([] : List V) = [] ∧ QS σ'' H'') = QS := by
          funext s h
          exact propext ⟨fun z => z.2, fun z => ⟨rfl, z⟩⟩
        rw [e3] at k
        exact k
      · intro k
        refine ⟨_, _, rfl, ?_⟩
        have e3 : (fun (σ'' : L2.St) (H'' : Hp) => ([] : List V) = [] ∧ QS σ'' H'') = QS := by
          funext s h
          exact propext ⟨fun z => z.2, fun z => ⟨rfl, z⟩⟩
        rw [e3]
        exact k
    rw [e]
    exact q)⟩
end
end K87
namespace K87
open PySem PySem.Spec PyProof.Rows L2 K8
/-! ### defs by their promises -/
structure OkD (P : Program) (w : World) (K : PySem.W.Frag) (mg : Str → Option Value) (base : Heap) (CX : CXT) (k : Nat) (x : Str) (ps : List Str) (sp : Sp) : Prop where
  ex : ∃ (f : Addr) (fd : FuncData), mg x = some (.ref f) ∧ PySem.W.keepIn K (.ref f) = true ∧ Binds K fd ps [] ∧ FnOk P w K mg base CX k f fd ps sp
def tCallO (sp : Sp) (E : XK) (t : TA) : TE := fun σ H Q => t σ H fun vs H1 => sp vs H1 Q E
theorem callO_eq (sp : Sp) (E : XK) (t : TA) : tCall sp [] E t = tCallO sp E t := by
  funext σ H Q
  unfold tCall tCallO
  congr 1
  funext vs H1
  rw [List.append_nil]
section
variable {X : Cx} {k : Nat} {sp : Sp} {ps : List Str} {x : Str} {p pos : Pos} {e : Expr} {es : List Expr} {t : TA} {CX : CXT} {E : XK}
theorem pe_callO (O : OkD X.prog X.w X.K X.mg X.base CX0 k x ps sp) (hr : Room k X.A) (hg : Gl X x) (ha : PA X (e :: es) t) (hdb : (x == ("__debug__" : Str)) = false := by decide)
    (he : starEach (e :: es) X.env = (false, eval e X.env) :: starEach es X.env := by rfl) (hpl : (backTo pos (starEach es X.env)).any (·.1) = false := by rfl) :
    PE X (.Call (.Name x p) (e :: es) [] pos) (tCallO sp E0 t) := by
  obtain ⟨f, fd, hm, hk, hb, F⟩ := O.ex
  rw [← callO_eq]
  exact pe_call F hr hg hm hk hb .nil pass0 ha hdb he hpl
theorem x_callO {σ : L2.St} {H : Hp} {Q : VK} (h : t σ H fun vs H1 => sp vs H1 Q E) : tCallO sp E t σ H Q := h
end
section
variable {α β γ δ : Type} {H : Hp} {Q : VK} {E : XK} {v1 v2 v3 : V} {x1 : α} {x2 : β} {x3 : γ}
def sp1 (R1 : Rel α) (pre : α → Prop) (R : Rel δ) (f : α → δ) : Sp := fun vs H Q _ => ∃ v1 x1, vs = [v1] ∧ R1 H v1 x1 ∧ pre x1 ∧ ∀ H' v, Same H H' → R H' v (f x1) → Q v H'
def sp2 (R1 : Rel α) (R2 : Rel β) (pre : α → β → Prop) (R : Rel δ) (f : α → β → δ) : Sp := fun vs H Q _ => ∃ v1 v2 x1 x2, vs = [v1, v2] ∧ R1 H v1 x1 ∧ R2 H v2 x2 ∧ pre x1 x2 ∧ ∀ H' v, Same H H' → R H' v (f x1 x2) → Q v H'
def sp3 (R1 : Rel α) (R2 : Rel β) (R3 : Rel γ) (pre : α → β → γ → Prop) (R : Rel δ) (f : α → β → γ → δ) : Sp := fun vs H Q _ => ∃ v1 v2 v3 x1 x2 x3, vs = [v1, v2, v3] ∧ R1 H v1 x1 ∧ R2 H v2 x2 ∧ R3 H v3 x3 ∧ pre x1 x2 x3 ∧ ∀ H' v, Same H H' → R H' v (f x1 x2 x3) → Q v H'
theorem x_sp1 {R1 : Rel α} {pre : α → Prop} {R : Rel δ} {f : α → δ} (h1 : R1 H v1 x1) (hp : pre x1) (h : ∀ H' v, Same H H' → R H' v (f x1) → Q v H') : sp1 R1 pre R f [v1] H Q E := ⟨v1, x1, rfl, h1, hp, h⟩
theorem x_sp2 {R1 : Rel α} {R2 : Rel β} {pre : α → β → Prop} {R : Rel δ} {f : α → β → δ} (h1 : R1 H v1 x1) (h2 : R2 H v2 x2) (hp : pre x1 x2) (h : ∀ H' v, Same H H' → R H' v (f x1 x2) → Q v H') : sp2 R1 R2 pre R f [v1, v2] H Q E := ⟨v1, v2, x1, x2, rfl, h1, h2, hp, h⟩
theorem x_sp3 {R1 : Rel α} {R2 : Rel β} {R3 : Rel γ} {pre : α → β → γ → Prop} {R : Rel δ} {f : α → β → γ → δ} (h1 : R1 H v1 x1) (h2 : R2 H v2 x2) (h3 : R3 H v3 x3) (hp : pre x1 x2 x3) (h : ∀ H' v, Same H H' → R H' v (f x1 x2 x3) → Q v H') : sp3 R1 R2 R3 pre R f [v1, v2, v3] H Q E :=
  ⟨v1, v2, v3, x1, x2, x3, rfl, h1, h2, h3, hp, h⟩
theorem len1 {R1 : Rel α} {pre : α → Prop} {R : Rel δ} {f : α → δ} {vs : List V} (h : sp1 R1 pre R f vs H Q E) : vs.length = 1 := by
  obtain ⟨_, _, rfl, _⟩ := h
  rfl
theorem len2 {R1 : Rel α} {R2 : Rel β} {pre : α → β → Prop} {R : Rel δ} {f : α → β → δ} {vs : List V} (h : sp2 R1 R2 pre R f vs H Q E) : vs.length = 2 := by
  obtain ⟨_, _, _, _, rfl, _⟩ := h
  rfl
theorem len3 {R1 : Rel α} {R2 : Rel β} {R3 : Rel γ} {pre : α → β → γ → Prop} {R : Rel δ} {f : α → β → γ → δ} {vs : List V} (h : sp3 R1 R2 R3 pre R f vs H Q E) : vs.length = 3 := by
  obtain ⟨_, _, _, _, _, _, rfl, _⟩ := h
  rfl
end
/-- no condition -/
abbrev any1 {α : Type} : α → Prop := fun _ => True
abbrev any2 {α β : Type} : α → β → Prop := fun _ _ => True
abbrev any3 {α β γ : Type} : α → β → γ → Prop := fun _ _ _ => True
/-- what the top has of the built-in names and tables -/
structure Tx (K : PySem.W.Frag) (mg : Str → Option Value) : Prop where
  abs : mg "abs" = none
  all : mg "all" = none
  any : mg "any" = none
  divmod : mg "divmod" = none
  enumerate : mg "enumerate" = none
  int : mg "int" = none
  bool : mg "bool" = none
  isinstance : mg "isinstance" = none
  len : mg "len" = none
  list : mg "list" = none
  max : mg "max" = none
  min : mg "min" = none
  range : mg "range" = none
  repr : mg "repr" = none
  set : mg "set" = none
  sorted : mg "sorted" = none
  str : mg "str" = none
  sum : mg "sum" = none
  tuple : mg "tuple" = none
  gcd : mg "gcd" = some (.builtin "math.gcd")
  lcm : mg "lcm" = some (.builtin "math.lcm")
abbrev FnP (K : PySem.W.Frag) (x : Str) (st : Stmt) (f : Addr) (fd : FuncData) : Prop := FunD K x x (defArgs st) (defBody st) (defScope st) [] [] f fd
/-- a def's promise from its body -/
theorem okd_of {P : Program} {w : World} {K : PySem.W.Frag} {mg : Str → Option Value} {base : Heap} {CX : CXT} {k : Nat} {x : Str} {ps : List Str} {sp : Sp} {st : Stmt} {f : Addr} {fd : FuncData} (F : FnP K x st f fd) (g : mg x = some (.ref f))
    (b : Binds K fd ps []) (O : FnOk P w K mg base CX k f fd ps sp) : OkD P w K mg base CX k x ps sp := ⟨f, fd, g, F.kp, b, O⟩
end K87
/-! Own rules over the layer: lcm of great ints, enumerate of a tuple, a set comprehension of tuples of ints. -/
namespace K87
open PySem PySem.Spec PyProof.Rows L2
section
variable {X : Cx}
/-! ### lcm -/
def rLcm : List V → Hp → VK → Prop := fun vs H Q => ∃ a b : Int, vs = [.int a, .int b] ∧ Sm 9000 a ∧ Sm 9000 b ∧ Q (.int ((Nat.lcm a.natAbs b.natAbs : Nat) : Int)) H
theorem cr_lcmW : CallR X (.builtin "math.lcm") rLcm := by
  intro pins s σ H vs us Q I r h
  obtain ⟨a, b, rfl, ha, hb, q⟩ := h
  obtain ⟨t, u, rfl⟩ := Vals.int2 r
  have la : a.natAbs.log2 < 9000 := PySem.Flt.log2_lt_of (by decide) ha
  have lb : b.natAbs.log2 < 9000 := PySem.Flt.log2_lt_of (by decide) hb
  have l1 : (max 1 a.natAbs).log2 < 9000 := by
    rcases Nat.le_total 1 a.natAbs with z | z
    · rw [Nat.max_eq_right z]; exact la
    · rw [Nat.max_eq_left z]; decide
  have l2 : (max a.natAbs b.natAbs).log2 < 9000 := by
    rcases Nat.le_total a.natAbs b.natAbs with z | z
    · rw [Nat.max_eq_right z]; exact lb
    · rw [Nat.max_eq_left z]; exact la
  have e1 : Nat.lcm 1 a.natAbs = a.natAbs := by simp [Nat.lcm]
  have g := PySem.W.mg_run_lcm a t b u (by omega) (by omega) (by
    rw [e1]
    have hl : a.natAbs.lcm b.natAbs < 2 ^ 18000 := by
      have z : a.natAbs.lcm b.natAbs ≤ a.natAbs * b.natAbs := by
        unfold Nat.lcm
        exact Nat.div_le_self _ _
      have z2 : a.natAbs * b.natAbs < 2 ^ 9000 * 2 ^ 9000 := Nat.mul_lt_mul'' ha hb
      rw [← Nat.pow_add] at z2
      exact Nat.lt_of_le_of_lt z z2
    have := PySem.Flt.log2_lt_of (by decide) hl
    have hb : bitsLine = 134217728 := by decide
    show ((a.natAbs.lcm b.natAbs : Nat) : Int).natAbs.log2 < bitsLine
    rw [Int.natAbs_natCast, hb]
    omega)
  rw [e1] at g
  exact call_function_meets PySem.W.MGF.kind_lcm PySem.W.MGF.plain_lcm PySem.W.MGF.entry_lcm (PySem.W.MGF.args_lcm _ _) g.meets ⟨.int _, H, I.tok _, ⟨_, rfl⟩, q⟩
end

/-! ### enumerate of a tuple -/
set_option maxHeartbeats 4000000 in
theorem enum_new1 {v : Value} {o : Obj} {G : Heap → Prop} (B : Begins v o G) :
    Meets (Builtin.«enumerate.__new__» ⟨[.type "enumerate", v], []⟩) (fun _ R s => G s.heap ∧
      R (.ok (.ret (.ref (s.heap.push o).objs.size))) { s with heap := (s.heap.push o).push { cls := .type "enumerate", data := .fields #[.none, .bool false, .ref s.heap.objs.size, rawInt 0, .none, .none] } }) :=
  .of_wp fun prog w A R s h => by
    obtain ⟨hp, g, d, tk, os⟩ := s
    obtain ⟨hG, hR⟩ := h
    have hsub := sub_enumerate
    have q0 : ∀ {A' : Around} {E : Value → Shared → Prop} {Q : Value → Shared → Prop}, Q (.ref hp.objs.size) ⟨hp.push o, g, d, tk, os⟩ → wpAny (model prog w) A' (pyIter v) Q E ⟨hp, g, d, tk, os⟩ :=
      fun q => B.iter prog w _ _ ⟨hp, g, d, tk, os⟩ _ hG q
    wp_walk using q0
    refine wpAny_stack_any fun st => wpAny_pure ?_
    split
    · rename_i c _ _ _ _ _
      cases (c == Value.type "enumerate") <;> (wp_walk using q0; exact ⟨_, rfl, hR⟩)
    · wp_walk using q0
      exact ⟨_, rfl, hR⟩
theorem enum_begins1 {prog : Program} {w : World} {A : Around} {E : Value → Shared → Prop} {s : Shared} {v : Value} {o : Obj} {G : Heap → Prop} {Q : Value → Shared → Prop} (B : Begins v o G) (hG : G s.heap)
    (h : ∀ h', IsEnum h' (s.heap.objs.size + 1) s.heap.objs.size 0 .none → h'.get? s.heap.objs.size = some o → (∀ b u, s.heap.get? b = some u → h'.get? b = some u) → Q (.ref (s.heap.objs.size + 1)) { s with heap := h' }) :
    wpAny (model prog w) A (call (.type "enumerate") [v]) Q E s := by
  refine callType_new F.called_enumerate (by decide) (F.typeCall_enumerate_1 _) (F.newCall_enumerate_1 _) (fun obj => F.args_object_init_2 obj _) F.entry_enumerate_new (enum_new1 B) ⟨hG, ?_⟩
  have z1 : (s.heap.push o).objs.size = s.heap.objs.size + 1 := Heap.size_push ..
  show _ ∧ _
  rw [z1]
  generalize hE : ({ cls := .type "enumerate", data := .fields #[.none, .bool false, .ref s.heap.objs.size, rawInt 0, .none, .none] } : Obj) = oe
  have g1 : ((s.heap.push o).push oe).get? (s.heap.objs.size + 1) = some oe := by
    rw [← z1]
    exact Heap.get?_push_size (s.heap.push o) (by rw [← hE]; rfl)
  have g2 : IsEnum ((s.heap.push o).push oe) (s.heap.objs.size + 1) s.heap.objs.size 0 .none := by
    have z := g1
    rw [← hE] at z ⊢
    exact z
  exact ⟨⟨_, g1, by rw [← hE]⟩, h _ g2 (Heap.get?_push_of_some _ (Heap.get?_push_size _ B.free)) fun b u x => Heap.get?_push_of_some _ (Heap.get?_push_of_some _ x)⟩
/-- the tuple at a, each item in a new pair with its place -/
def Ien (K : PySem.W.Frag) (a : Addr) : It where
  go := fun i H => ∃ (xs : List V) (x : V), SqT K H a xs ∧ xs[i]? = some x
  yld := fun i H v H' => ∃ (T : Addr) (x : V), v = .ref T ∧ H T = none ∧ H' = upd H T (.tup [.int (i : Nat), x]) ∧ ∀ xs, SqT K H a xs → xs[i]? = some x
  stop := fun i H => ∃ xs : List V, SqT K H a xs ∧ xs.length ≤ i
theorem turn_en {P : Program} {w : World} {K : PySem.W.Frag} {elts : List Expr} {kk : Nat} {tpos : Pos} (a e it : Addr) :
    Turn P w K (.Tuple elts kk tpos) (Ien K a) [e, it] e (fun i h => ((∃ old, IsEnum h e it ((i : Nat) : Int) old) ∧ h.IsTupleIter it a i) ∧ e ≠ it ∧ a ≠ it ∧ a ≠ e) where
  mem := List.mem_cons_self
  obj := by
    rintro i h ⟨⟨⟨old, he⟩, o, ho, _, hd⟩, _⟩ b hb
    rcases List.mem_cons.mp hb with rfl | hb
    · exact ⟨_, he, fun v q => nomatch q⟩
    · rw [List.mem_singleton.mp hb]
      exact ⟨o, ho, fun v q => by rw [hd] at q; cases q⟩
  keep := by
    rintro i h h' ⟨⟨⟨old, he⟩, hi⟩, n⟩ k
    exact ⟨⟨⟨old, k e (by simp) _ he⟩, hi.at fun o q => k it (by simp) o q⟩, n⟩
  item := by
    intro X hP hw hK hc i pins s σ H E I hf st hg
    subst hP hw hK
    obtain ⟨⟨⟨old, he⟩, hit⟩, hne, ha1, ha2⟩ := st
    obtain ⟨xs, x, hq, hx⟩ := hg
    obtain ⟨its, rv, tp, hz⟩ := I.tuple hq
    obtain ⟨u, hu, ru⟩ := rv.get hx
    have lit : i < its.toArray.size := by
      have := (List.getElem?_eq_some_iff.mp hu).1
      simpa using this
    have hh : X.A.in1.handled = none := by simp [I.ok.hd hc]
    have le : e < s.heap.objs.size := Heap.lt_size he
    have lt : it < s.heap.objs.size := by
      obtain ⟨o, q, _⟩ := hit
      exact Heap.lt_size q
    have la : a < s.heap.objs.size := by
      obtain ⟨o, q, _⟩ := tp
      exact Heap.lt_size q
    have Dr := Draws.tuple (prog := X.prog) (w := X.w) hh it a ha1 its.toArray
    refine wpAny_pyNext_enum_itemC Dr he ⟨hit, tp⟩ lit hne (by simp [hne, ha2.symm]) fun y h' tk hy ho st' hT hsz hk => ?_
    have ey : y = u := by
      have z : its[i]? = some y := by simpa using hy
      rw [hu] at z
      exact (Option.some.inj z).symm
    subst ey
    refine ⟨_, rfl, wpAny_letOwnedTupleGo_enum (s := { s with heap := h', toks := tk + 1 }) ho fun h'' he' sb => ?_⟩
    have hT2 : h''.get? s.heap.objs.size = some { cls := .type "tuple", data := .seq #[.int i tk, y] } := (sb.2 _ (Nat.ne_of_gt le)).trans hT
    have new : ObjOk X.prog X.w (upd H s.heap.objs.size (.tup [.int (i : Nat), x])) h'' s.heap.objs.size (.tup [.int (i : Nat), x]) :=
      ⟨by show 2 ≤ sizeLine; decide, [.int i tk, y], .cons ⟨_, rfl⟩ (.cons ru .nil), ⟨_, hT2, rfl, _, rfl⟩⟩
    have J : Inv X pins σ (upd H s.heap.objs.size (.tup [.int (i : Nat), x])) { s with heap := h'', toks := tk + 1 } :=
      I.turnedNew (ch := [e, it]) (fun b ob hb q => (sb.2 b (fun z => hb (by simp [z]))).trans (hk b ob (fun z => hb (by simp [z])) (fun z => hb (by simp [z])) q)) hf (Nat.le_refl _) new
    refine ⟨.ref s.heap.objs.size, _, J, rfl, ⟨_, x, rfl, I.hok.fresh (Nat.le_refl _), rfl, fun ys hys => by rw [I.tuple_inj hys hq]; exact hx⟩, ⟨⟨⟨y, ?_⟩, st'.1.at fun o q => (sb.2 it (Ne.symm hne)).trans q⟩, hne, ha1, ha2⟩, fun b hb => ?_⟩
    · have e1 : ((i + 1 : Nat) : Int) = (i : Int) + 1 := by omega
      rw [e1]
      exact he'
    · have hb' : b < s.heap.objs.size := by
        rcases List.mem_cons.mp hb with z | z
        · rw [z]; exact le
        · rw [List.mem_singleton.mp z]; exact lt
      rw [upd_ne (Nat.ne_of_lt hb')]
      exact (hf b hb).1
  done := by
    intro X hP hw hK hc i pins s σ H E I hf st hg
    subst hP hw hK
    obtain ⟨⟨⟨old, he⟩, hit⟩, hne, ha1, ha2⟩ := st
    obtain ⟨xs, hq, hx⟩ := hg
    obtain ⟨its, rv, tp, hz⟩ := I.tuple hq
    obtain ⟨f0, f1, f2, f3, f4, f5⟩ := hf it (by simp)
    have hh : X.A.in1.handled = none := by simp [I.ok.hd hc]
    have hl := rv.length
    have hT : s.TypeIs (.ref e) "enumerate" := ⟨_, he, rfl⟩
    unfold pyNext
    refine wpAny_bind (wpAny_attempt (wpAny_callSpecial?_slot (name := Str.ofString "__next__") hT F.slot_enumerate_next (wpAny_call_entry F.slot_enumerate_next hT F.entry_enumerate_next ?_ (F.args_enumerate_next_1 _))))
    show wpAny _ _ (field (.ref e) 2 >>= _) _ _ _
    refine wpAny_bind (wpAny_field he rfl (x := .ref it) rfl ?_)
    refine wpAny_bind (wpAny_nextOf_tuple_end hh hit tp (by simp; omega) fun h' y hb hy => ?_)
    obtain ⟨o, ho, hcl⟩ := hy
    refine wpAny_bind (wpAny_isInstance (T := "StopIteration") (b := true) ⟨o, ho, hcl⟩ isSubtype_stop ?_)
    exact wpAny_pure ⟨rfl, I.turned (t' := s.toks) (fun b u n q => hb b u n q) f0 f1 f3 f4 f5⟩
  self := fun A i s Q E st h => by
    obtain ⟨⟨⟨old, he⟩, _⟩, _⟩ := st
    exact wpAny_pyIter_enum he h
def iEn (K : PySem.W.Frag) (ta : TA) : TI := fun σ H R => ta σ H fun vs H1 => ∃ a xs, vs = [.ref a] ∧ SqT K H1 a xs ∧ R (Ien K a) H1
theorem pi_en {X : Cx} {e : Expr} {ta : TA} {p pos tpos : Pos} {elts : List Expr} {kk : Nat} (hg : Gl X "enumerate") (hm : X.mg "enumerate" = none) (ha : PA X [e] ta) (hs : starEach [e] X.env = [(false, eval e X.env)] := by rfl) :
    PI X (.Tuple elts kk tpos) (.Call (.Name "enumerate" p) [e] [] pos) (iEn X.K ta) := by
  refine ⟨fun pins s σ H R I h => ?_⟩
  refine Call_ (ld_blt I hg hm boot_enumerate (PyProof.Rows.callWith_type1 (thn (ha.run pos pins s σ H _ I h) fun us s1 hu => ?_) hs rfl))
  obtain ⟨vs, H1, I1, r1, a, xs, rfl, hq, q⟩ := hu
  rw [Vals.ref1 r1]
  obtain ⟨its, rv, tp, hz⟩ := I1.tuple hq
  have la : a < s1.heap.objs.size := by
    obtain ⟨o, z, _⟩ := tp
    exact Heap.lt_size z
  refine enum_begins1 (begins_tuple a its.toArray) tp fun h' he hit hk => wpAny_pyIter_enum he ?_
  have I2 : Inv X pins σ H1 { s1 with heap := h' } := I1.kept (t' := s1.toks) hk
  refine ⟨s1.heap.objs.size + 1, [s1.heap.objs.size + 1, s1.heap.objs.size], _, _, H1, rfl, I2, turn_en a (s1.heap.objs.size + 1) s1.heap.objs.size, ⟨⟨⟨.none, he⟩, ⟨_, hit, rfl, rfl⟩⟩, Nat.succ_ne_self _, Nat.ne_of_lt la, Nat.ne_of_lt (Nat.lt_succ_of_lt la)⟩, fun b hb => ?_, q⟩
  have hle : s1.heap.objs.size ≤ b := by
    rcases List.mem_cons.mp hb with z | z
    · rw [z]; exact Nat.le_succ _
    · rw [List.mem_singleton.mp z]; exact Nat.le_refl _
  exact I1.fpOk hle (I1.hok.fresh hle)
theorem walk_en {K : PySem.W.Frag} {a : Addr} {xs : List V} : Walk (Ien K a) xs.length (fun H => SqT K H a xs) (YPair (fun i => some (.int (i : Nat))) (fun i => xs[i]?)) := by
  refine ⟨fun i _ hi q => ⟨xs, xs[i], q, by simp [hi]⟩, fun _ q => ⟨xs, q, Nat.le_refl _⟩, fun i H v H' _ q y => ?_⟩
  obtain ⟨T, x, h1, h2, h3, h4⟩ := y
  exact ⟨T, .int (i : Nat), x, h1, h2, h3, rfl, h4 xs q⟩
end K87
/-! Own rules over the layer: a set comprehension of tuples of ints, sorted of a set of pairs. -/
namespace K87
open PySem PySem.Spec PyProof.Rows L2
theorem perm_map_back {α β : Type} (f : α → β) {l m : List β} (h : l.Perm m) : ∀ L : List α, m = L.map f → ∃ L' : List α, l = L'.map f ∧ L'.Perm L := by
  induction h with
  | nil =>
    intro L e
    have : L = [] := by
      cases L with
      | nil => rfl
      | cons _ _ => cases e
    exact ⟨[], rfl, by rw [this]⟩
  | @cons x l1 l2 _ ih =>
    intro L e
    cases L with
    | nil => cases e
    | cons y L =>
      rw [List.map_cons] at e
      injection e with e1 e2
      obtain ⟨L', h1, h2⟩ := ih L e2
      exact ⟨y :: L', by rw [List.map_cons, ← e1, h1], h2.cons y⟩
  | swap x y l1 =>
    intro L e
    cases L with
    | nil => cases e
    | cons u L =>
      cases L with
      | nil => cases e
      | cons v L =>
        simp only [List.map_cons] at e
        injection e with e1 e2
        injection e2 with e2 e3
        exact ⟨v :: u :: L, by simp only [List.map_cons]; rw [← e1, ← e2, ← e3], List.Perm.swap u v L⟩
  | trans _ _ ih1 ih2 =>
    intro L e
    obtain ⟨L1, h1, h2⟩ := ih2 L e
    obtain ⟨L2', h3, h4⟩ := ih1 L1 h1
    exact ⟨L2', h3, h4.trans h2⟩
/-- the two ints of a key -/
def kp (k : List Int) : Int × Int := (k.getD 0 0, k.getD 1 0)
section
variable {P : Program} {w : World} {A : Around} {E : Value → Shared → Prop} {s : Shared}
theorem pair_of {h : Heap} {b : Addr} {k : List Int} (x : IsT P w h k b) (hl : k.length = 2) : Srt.IsPair h (.ref b) (kp k).1 (kp k).2 := by
  obtain ⟨o, items, n, ho, hc, hd, hi⟩ := x
  match k, hl with
  | [i, j], _ =>
    have z := ints_of_items hi
    cases e : items.toList with
    | nil => rw [e] at z; cases z
    | cons u r =>
      rw [e] at z
      cases z with
      | cons i t z =>
        cases z with
        | cons j t' z =>
          cases z
          refine ⟨b, o, t, t', n, rfl, ho, hc, ?_⟩
          have e2 : items = #[.int i t, .int j t'] := by
            rw [← Array.toArray_toList (xs := items), e]
          rw [hd, e2]
          rfl
/-- sorted of a set of pairs of ints -/
theorem sorted_setP {a : Addr} {L : List (Addr × List Int)} {es : Array (Int × Value)} {ep : Nat} {t : SetTable} {Q : Value → Shared → Prop} (R : SetTR P w s.heap a L es ep t) (hh : A.handled = none) (h2 : ∀ p ∈ L, p.2.length = 2)
    (hQ : ∀ s' d (out : List Value) (c : Nat) (L' : List (Addr × List Int)), (∀ b o, s.heap.get? b = some o → s'.heap.get? b = some o) → s'.gens = s.gens → s'.os = s.os → s.heap.objs.size ≤ d →
      s'.heap.get? d = some (seqObj "list" out.toArray c) → out = L'.map (fun q => Value.ref q.1) → L'.Perm L → L'.Pairwise (fun q r => SrtO.lexB (kp r.2) (kp q.2) = false) → Q (.ref d) s') :
    wpAny (model P w) A (call (.builtin "sorted") [.ref a]) Q E s := by
  obtain ⟨o, ho, hex, hd⟩ := R.ob
  have few := R.few
  refine Calls.call_function_entry kind_sorted plain_sorted entry_sorted (args_sorted1 _) ?_
  unfold Builtin.«sorted»
  refine wpAny_bind (m := checkCount "sorted" 1 1 _) (wpAny_pure ?_)
  refine wpAny_bind (collect_set (A := A.in1) hh ⟨o, ho, hex.1, hd⟩ R.fits (by have := R.size; unfold scanBound; omega) R.tab.ris R.led fun s1 vs k1 hz g1 o1 pm => ?_)
  have em : es.toList.map (·.2) = L.map fun q => Value.ref q.1 := by
    rw [R.rows]
    unfold rowsOf
    rw [List.map_map] <;> rfl
  rw [em] at pm
  obtain ⟨L1, e1, pL1⟩ := perm_map_back _ pm L rfl
  have lv : vs.length < 64 := by rw [pm.length_eq, List.length_map]; exact few
  have hvz : vs.length ≤ sizeLine := by rw [sizeLine_eq]; omega
  refine wpAny_bind (wpAny_newList ?_ hvz)
  -- the key of a value: by the addresses of the rows
  have hL1 : (s1.heap.push (seqObj "list" vs.toArray 0)).get? s1.heap.objs.size = some (seqObj "list" vs.toArray 0) := Heap.get?_push_size _ rfl
  have tup : ∀ q ∈ L, IsT P w (s1.heap.push (seqObj "list" vs.toArray 0)) q.2 q.1 := fun q hq => isT_keep (R.tup q hq) fun b u e => Heap.get?_push_of_some _ (k1 b u e)
  let kv : Value → Int × Int := fun v => kp (TS.intsOf (s1.heap.push (seqObj "list" vs.toArray 0)) v)
  have kv_of : ∀ q ∈ L, kv (.ref q.1) = kp q.2 := fun q hq => by
    show kp (TS.intsOf _ (.ref q.1)) = kp q.2
    rw [(tupInts_of (P := P) (w := w) (tup q hq)).ints]
  have prs : ∀ v ∈ vs, Srt.IsPair (s1.heap.push (seqObj "list" vs.toArray 0)) v (kv v).1 (kv v).2 := fun v hv => by
    obtain ⟨q, hq, e⟩ := List.mem_map.mp (pm.mem_iff.mp hv)
    have e : Value.ref q.1 = v := e
    rw [← e, kv_of q hq]
    exact pair_of (tup q hq) (h2 q hq)
  refine wpAny_bind (wpAny_holding (wpAny_call_entry (s := { s1 with heap := s1.heap.push (seqObj "list" vs.toArray 0) }) slot_list_sort ⟨_, hL1, rfl⟩ entry_list_sort
    (SrtO.list_sort_ord (s := { s1 with heap := s1.heap.push (seqObj "list" vs.toArray 0) }) (SrtO.swo_lex kv) hL1 hvz (fun h2' => SrtO.pairs_sortableO (s := { s1 with heap := s1.heap.push (seqObj "list" vs.toArray 0) }) (by omega) prs fun o' e => ?_) fun out hs hb => ⟨_, rfl, ?_⟩) (args_list_sort _)))
  · have e' : some o' = some (seqObj "list" vs.toArray 0) := e.symm.trans hL1
    cases e'
    intro c
    exact absurd (Value.type.inj c) (by decide)
  · obtain ⟨c, hc⟩ := sortedHeap_at (vs := vs) (out := out.toArray) hL1
    obtain ⟨L', e', p'⟩ := perm_map_back _ (hb.perm.trans (by rw [e1])) L1 rfl
    refine wpAny_pure ⟨_, rfl, hQ _ s1.heap.objs.size out c L' (fun b u e => ?_) g1 o1 hz hc e' (p'.trans pL1) ?_⟩
    · have q := k1 b u e
      have hlt := Heap.lt_size q
      show (sortedHeap (s1.heap.push (seqObj "list" vs.toArray 0)) s1.heap.objs.size vs out.toArray).get? b = some u
      rw [sortedHeap_old (Nat.ne_of_lt hlt) (by rw [size_push']; exact Nat.lt_succ_of_lt hlt)]
      exact Heap.get?_push_of_some _ q
    · have hs' : (L'.map fun q => Value.ref q.1).Pairwise (fun x y => SrtO.lexB (kv y) (kv x) = false) := by
        rw [← e']
        exact hs
      refine List.Pairwise.imp_of_mem (fun {q r} hq hr h => ?_) (List.pairwise_map.mp hs')
      have mq := (p'.trans pL1).mem_iff.mp hq
      have mr := (p'.trans pL1).mem_iff.mp hr
      rw [← kv_of q mq, ← kv_of r mr]
      exact h
end
def rSortP (K : PySem.W.Frag) (P : Program) (w : World) : List V → Hp → VK → Prop := fun vs H Q => ∃ (a : Addr) (L : List (Addr × List Int)), vs = [V.ref a] ∧ H a = some (SetTO P w a L) ∧ (∀ p ∈ L, SqT K H p.1 (p.2.map V.int)) ∧ (∀ p ∈ L, p.2.length = 2) ∧
  ∀ (L' : List (Addr × List Int)) (d : Addr), L'.Perm L → (L'.map (·.2)).Nodup → L'.length < 64 → L'.Pairwise (fun q r => SrtO.lexB (kp r.2) (kp q.2) = false) → H d = none → Q (.ref d) (upd H d (.lst (L'.map fun q => V.ref q.1)))
section
variable {X : Cx}
theorem cr_sortP (hc : X.calm = true) : CallR X (.builtin "sorted") (rSortP X.K X.prog X.w) := by
  intro pins s σ H vs us Q I r h
  obtain ⟨a, L, rfl, ha, hk, h2, q⟩ := h
  have R0 : SetT0 X.prog X.w s.heap a L := (I.hok a _ ha).1
  obtain ⟨es, ep, t, R⟩ := R0.full fun p hp => I.isT (hk p hp)
  rw [Vals.ref1 r]
  refine sorted_setP R (I.ok.hd hc) h2 fun s' d out c L' k g o hd hg hout pm pw => ?_
  have few : L'.length < 64 := by rw [pm.length_eq]; exact R.few
  have hn : H d = none := I.hok.fresh hd
  have J : Inv X pins σ (upd H d (.lst (L'.map fun q => V.ref q.1))) { s with heap := s'.heap, gens := s'.gens, drawn := s'.drawn, toks := s'.toks } :=
    I.call (ch := []) (Un.laid k hd hn) (I.hok.laid k hd ⟨by rw [List.length_map, sizeLine_eq]; omega, out, c, by rw [hout]; exact vals_of_refs L', hg⟩) (by rw [g]; exact I.bare) (fun _ z => nomatch z)
  have e : s' = { s with heap := s'.heap, gens := s'.gens, drawn := s'.drawn, toks := s'.toks } := by
    cases s'
    cases s
    cases o
    rfl
  rw [e]
  exact ⟨.ref d, _, J, rfl, q L' d pm ((pm.map (·.2)).nodup_iff.mpr R.nd) few pw hn⟩
/-! ### a set comprehension of tuples of ints -/
/-- D.add of a tuple of ints -/
theorem addT_ok {pins : List (Addr × Obj)} {σ : L2.St} {H : Hp} {s : Shared} {E : Value → Shared → Prop} {D x : Addr} {k : List Int} {L : List (Addr × List Int)} {Q : Value → Shared → Prop} (I : Inv X pins σ H s) (hu : X.A.units + 1 < cLine)
    (hD : H D = some (SetTO X.prog X.w D L)) (hL : ∀ p ∈ L, SqT X.K H p.1 (p.2.map V.int)) (hx : SqT X.K H x (k.map V.int)) (few : L.length + 1 < 64)
    (h : ∀ L' s', (k ∈ L.map (·.2) → L' = L) → (k ∉ L.map (·.2) → L'.Perm ((x, k) :: L)) → Inv X pins σ (upd H D (SetTO X.prog X.w D L')) s' → Q .none s') :
    wpAny (model X.prog X.w) X.A (call (.builtin "set.add") [.ref D, .ref x]) Q E s := by
  have R0 : SetT0 X.prog X.w s.heap D L := (I.hok D _ hD).1
  obtain ⟨es, ep, t, R⟩ := R0.full fun p hp => I.isT (hL p hp)
  obtain ⟨o, ho, hex, hd⟩ := R.ob
  have hT : s.TypeIs (.ref D) "set" := ⟨o, ho, hex.1⟩
  have hxT := I.isT hx
  refine wpAny_call_entry PySem.F.slot_set_add hT PySem.F.entry_set_add ?_ (PySem.F.args_set_add_2 _ _)
  unfold Builtin.«set.add» Builtin.Frozenset.oneOther
  simp only [List.isEmpty_nil, bind_assoc]
  unfold Builtin.Frozenset.addrOf setAdd
  refine wpAny_bind (wpAny_pure ?_)
  try dsimp only
  refine wpAny_bind (wpAny_pure ?_)
  try dsimp only
  refine wpAny_bind (wpAny_holding ?_)
  refine wpAny_bind (wpAny_pyHash_tuple (by simp; omega) hxT ?_)
  refine add_at (s := { s with toks := s.toks + (k.length + 1) }) R hxT (by simp; omega) few fun b h' L' es' ep' t' sb R' c1 c2 => ?_
  show wpAny _ _ (ret Value.none) _ _ _
  have R0' := R'.t0
  have he : ∃ u, h'.get? D = some u := by
    obtain ⟨u, hu', _⟩ := R'.ob
    exact ⟨u, hu'⟩
  exact wpAny_pure ⟨_, rfl, h L' _ c1 c2 (I.write (e := D) (t' := s.toks + (k.length + 1)) (by rw [hD]; trivial) (.inl rfl) (fun b u hb hu' => (sb.2 b hb).trans hu') he (setTO_new R0'))⟩
end
end K87
/-! Own rules over the layer: {elt for target in iter}, elt a tuple of ints. -/
namespace K87
open PySem PySem.Spec PyProof.Rows L2
/-- D the new set; a turn lays a tuple of ints x, its key k, in it -/
def tSt (P : Program) (w : World) (K : PySem.W.Frag) (wi : TI) (g : TG) (te : TE) (vs : List Nat) : TE := fun σ H Q => wi σ H fun J H1 => ∀ D, H1 D = none → ∃ W : Nat → Nat → Hp → Prop, (∃ m, W 0 m (upd H1 D (SetTO P w D []))) ∧ ∀ i m H, W i m H →
  (J.stop i H ∧ Q (.ref D) H) ∨ (J.go i H ∧ ∃ Nx : Hp → Prop, (∀ H', Nx H' → ∃ m', m' < m ∧ W (i + 1) m' H') ∧ ∀ x H', J.yld i H x H' → g x (wipe σ vs) H' fun σ2 H2 => wipe σ2 vs = wipe σ vs ∧
    te σ2 H2 fun y H4 => ∃ (b : Addr) (k : List Int) (L : List (Addr × List Int)), y = .ref b ∧ SqT K H4 b (k.map V.int) ∧ H4 D = some (SetTO P w D L) ∧ (∀ p ∈ L, SqT K H4 p.1 (p.2.map V.int)) ∧ L.length + 1 < 64 ∧
      ∀ L' : List (Addr × List Int), (k ∈ L.map (·.2) → L' = L) → (k ∉ L.map (·.2) → L'.Perm ((b, k) :: L)) → Nx (upd H4 D (SetTO P w D L')))
section
variable {X : Cx}
theorem pe_st {elt tg iter : Expr} {scope : Scope} {own : List (PySem.Str × Nat)} {pos : Pos} {wi : TI} {g : TG} {te : TE} (hc : X.calm = true) (hu : X.A.units + 1 < cLine) (hN : X.N.Nodup) (hi : PI X tg iter wi) (ok : BlkOk X.N X.env.scope scope own)
    (hg : ∀ (s : Shared) (H : Hp) (C : Addr) (cl : List (PySem.Str × Addr)) (fp : List Addr), PG (X.blk s H scope (compEnvC scope cl C X.env) fp) tg g)
    (he : ∀ (s : Shared) (H : Hp) (C : Addr) (cl : List (PySem.Str × Addr)) (fp : List Addr), PE (X.blk s H scope (compEnvC scope cl C X.env) fp) elt te) (hs : ∀ x, foldedSetIterable iter X.env x = pure x := by intro _; rfl) :
    PE X (.SetComp elt [⟨tg, iter, [], 0⟩] scope pos) (tSt X.prog X.w X.K wi g te (own.map (·.2))) := by
  refine ⟨fun pins s σ H Q I h => ?_⟩
  rw [PpSet.eval_SetComp]
  have caps : ∀ y ∈ scope.names, y.2 = .free → ∃ c, X.env.cells.lookup y.1 = some c := fun y hy e => (ok.free y hy e).elim (fun k => I.ok.has _ (.inl k)) fun k => I.ok.has _ (.inr k)
  refine wpAny_comprehension_free (use := none) rfl hs (closure_ok caps) ok.kind (fun y hy e => by rw [ok.uniq y hy, e]) (thn (hi.run pins s σ H _ I h) fun xv s1 hx => thn hx fun itv s2 h2 => ?_)
  obtain ⟨it, fp, tn, J, H2, rfl, I2, T, st2, f2, q⟩ := h2
  refine PpSet.newSet_ok (newEnv_comp ?_)
  generalize eD : s2.heap.objs.size = D
  have nD : H2 D = none := I2.hok.fresh (Nat.le_of_eq eD)
  obtain ⟨W, ⟨m0, w0⟩, turn⟩ := q D nD
  -- behind the new set
  generalize e3 : ({ s2 with heap := s2.heap.push { cls := .type "set", dict := none, data := .set #[] 0 (.fresh 0 0 (!X.w.params.followText "set-order")) } } : Shared) = s3
  have eh3 : s3.heap = s2.heap.push { cls := .type "set", dict := none, data := .set #[] 0 (.fresh 0 0 (!X.w.params.followText "set-order")) } := by rw [← e3]
  generalize eH3 : upd H2 D (SetTO X.prog X.w D []) = H3 at w0
  have I3 : Inv X pins σ H3 s3 := by
    rw [← e3, ← eH3]
    refine I2.laid (t' := s2.toks) (fun b o z => Heap.get?_push_of_some _ z) (Nat.le_of_eq eD) (setTO_new (SetTR.t0 (setTR_fresh ?_)))
    rw [← eD]
    exact Heap.get?_push_size _ rfl
  have ft : ∀ b ∈ fp, b < s2.heap.objs.size := fun b hb => by
    obtain ⟨o, z, _⟩ := T.obj _ _ st2 b hb
    exact Heap.lt_size z
  have f3 : ∀ b ∈ fp, FpOk X pins H3 b ∧ b < s3.heap.objs.size := fun b hb => by
    have hlt := ft b hb
    refine ⟨⟨?_, (f2 b hb).2⟩, by rw [eh3, Heap.size_push]; exact Nat.lt_succ_of_lt hlt⟩
    rw [← eH3, upd_ne (by rw [← eD]; exact Nat.ne_of_lt hlt)]
    exact (f2 b hb).1
  have n3 : ∀ b ∈ fp, H3 b = none := fun b hb => (f3 b hb).1.1
  have st3 : tn 0 s3.heap := T.keep _ _ _ st2 fun b _ o z => by rw [eh3]; exact Heap.get?_push_of_some _ z
  have IB := block_start I3 ok hN f3
  have pg := hg s3 H3 s3.heap.objs.size (cellsFrom (s3.heap.objs.size + 1) scope.names (cloFrom X.env.cells scope.names [])) fp
  have pe := he s3 H3 s3.heap.objs.size (cellsFrom (s3.heap.objs.size + 1) scope.names (cloFrom X.env.cells scope.names [])) fp
  show codeAny _ _ (.compStart (.SetComp elt [⟨tg, iter, [], 0⟩] scope pos) 0 (.ref it) (.ref D) (compEnvC scope (cellsFrom (s3.heap.objs.size + 1) scope.names (cloFrom X.env.cells scope.names [])) s3.heap.objs.size X.env))
    (compPost (model X.prog X.w) X.A X.xe none (EP X pins σ Q) (.ref D) s3.heap.objs.size) { s3 with heap := pushCells (s3.heap.push { cls := .type "dict", data := .dict #[] }) scope.names }
  generalize ece : compEnvC scope (cellsFrom (s3.heap.objs.size + 1) scope.names (cloFrom X.env.cells scope.names [])) s3.heap.objs.size X.env = ce at IB pg pe ⊢
  have eL : ce.locals = s3.heap.objs.size := by rw [← ece]; rfl
  generalize e4 : ({ s3 with heap := pushCells (s3.heap.push { cls := .type "dict", data := .dict #[] }) scope.names } : Shared) = s4 at IB ⊢
  have st4 : tn 0 s4.heap := T.keep _ _ _ st3 fun b _ o z => by rw [← e4]; exact pushCells_keeps _ _ _ _ (Heap.get?_push_of_some _ z)
  have foot : ∀ {σ' : L2.St} {H' : Hp} {s' : Shared}, Inv (X.blk s3 H3 scope ce fp) [] σ' H' s' → (∀ b ∈ fp, H' b = none) → ∀ b ∈ fp, FpOk (X.blk s3 H3 scope ce fp) [] H' b := fun {σ' H' s'} I' hn b hb =>
    ⟨hn b hb, (I'.ok.exf b hb).1, I'.ok.exfs b hb, .inl hb, fun x c z => (I'.ok.exf b hb).2 x c z, fun p hp => absurd (show p ∈ ([] : List (Addr × Obj)) ++ [] from hp) (by simp)⟩
  refine PpSet.codeAny_compStart_set ?loop (T.self X.A 0 _ _ _ st4 ?loop)
  refine PpSet.compLoopS_any (fun n s' => ∃ i H', Inv (X.blk s3 H3 scope ce fp) [] (wipe σ (own.map (·.2))) H' s' ∧ tn i s'.heap ∧ (∀ b ∈ fp, H' b = none) ∧ W i n H') ?_ m0 ⟨0, H3, IB, st4, n3, w0⟩
  rintro n s5 ⟨i, H5, I5, st5, n5, w5⟩
  rcases turn i n H5 w5 with ⟨stop, qq⟩ | ⟨go, Nx, hNx, step⟩
  · refine thnF (T.done (X.blk s3 H3 scope ce fp) rfl rfl rfl hc i [] s5 _ H5 (fun _ _ => False) I5 (foot I5 n5) st5 stop) fun r s6 ⟨hr, I6⟩ => ?_
    subst hr
    have I7 : Inv X pins σ H5 s6 := I3.call' (ch := fp) I6.os I6.base I6.hok I6.bare fun b hb => ⟨(f3 b hb).1.2.2.2.1, (f3 b hb).1.2.1, (f3 b hb).1.2.2.2.2.1, (f3 b hb).1.2.2.2.2.2⟩
    have nC : H5 s3.heap.objs.size = none := by
      have z : H5 ce.locals = none := I6.free
      rw [eL] at z
      exact z
    obtain ⟨m, hn, _⟩ := I6.loc
    have hn : s6.heap.Ns ce.locals m := hn
    rw [eL] at hn
    obtain ⟨g0, g1, g2, g3, g4, g5⟩ := I3.fpOk (Nat.le_refl _) nC
    refine ⟨m, hn, fun h'' sb => ?_⟩
    exact ⟨.ref D, H5, I7.turned (t' := s6.toks) (fun b o hb z => (sb.2 b hb).trans z) g0 g1 g3 g4 g5, rfl, qq⟩
  · refine thnF (T.item (X.blk s3 H3 scope ce fp) rfl rfl rfl hc i [] s5 _ H5 (fun _ _ => False) I5 (foot I5 n5) st5 go) fun r s6 ⟨u, hr, h6⟩ => ?_
    subst hr
    refine thnF h6 fun _ s7 ⟨x, H7, I7, r7, y7, st7, n7⟩ => ?_
    have P7 := I7.pinned (foot I7 n7) (T.obj _ _ st7)
    refine thnF (pg.run _ s7 _ H7 x u _ P7 r7 (step x H7 y7)) fun _ s8 ⟨σ8, H8, I8, hw8, q8⟩ => ?_
    refine wpAny_tests_nil ?_
    rw [if_pos rfl]
    refine thnF (pe.run _ s8 σ8 H8 _ I8 q8) fun z s10 ⟨yv, H10, I10, r10, b, k, L, ey, hb, hD, hL, few, nx⟩ => ?_
    subst ey
    cases (show z = Value.ref b from r10)
    refine addT_ok (X := X.blk s3 H3 scope ce fp) I10 hu hD hL hb few fun L' s11 c1 c2 I11 => ?_
    obtain ⟨m', hm, w'⟩ := hNx _ (nx L' c1 c2)
    have pin' : ∀ b ∈ fp, ∀ o, s7.heap.get? b = some o → s11.heap.get? b = some o ∧ (upd H10 D (SetTO X.prog X.w D L')) b = none := fun b hb o z =>
      have y := I11.pin (b, o) (List.mem_append_right _ (List.mem_append_right _ (mem_pinsAt hb z)))
      ⟨y.1, y.2.1⟩
    have hl : (wipe σ (own.map (·.2))).length = σ8.length := by rw [← hw8, wipe_length]
    refine ⟨m', hm, i + 1, _, (I11.unpinned (pins := [])).weak hl (fun j v z => ?_), T.keep _ _ _ st7 fun b hb o z => (pin' b hb o z).1, fun b hb => ?_, w'⟩
    · rw [← hw8] at z
      exact (wipe_some z).1
    · obtain ⟨o, z, _⟩ := T.obj _ _ st7 b hb
      exact (pin' b hb o z).2
end
end K87
/-! Further steps of a reading: built-ins, unpacking, comprehensions, walks. -/
namespace K87
open PySem PySem.Spec PyProof.Rows L2 K8
section
variable {α β γ : Type} {K : PySem.W.Frag} {σ : L2.St} {H : Hp} {Q : VK} {v x y : V} {ta tb te tx : TE} {t u : TT} {r : R2} {D : Ends} {ts tu : TS} {g : TG} {gs : TGs} {tas : TA} {QT : Bool → Hp → Prop} {QA : List V → Hp → Prop} {QS : L2.St → Hp → Prop}
/-! ### the heaps that a part leaves behind -/
/-- all but the list at m stays, and the tuples -/
structure Mk (K : PySem.W.Frag) (m : Addr) (H H' : Hp) : Prop where
  km : Km m H H'
  tk : TK K H H'
theorem Mk.refl (m : Addr) (H : Hp) : Mk K m H H := ⟨Km.refl m H, TK.refl H⟩
theorem Mk.trans {m : Addr} {H H1 H2 : Hp} (a : Mk K m H H1) (b : Mk K m H1 H2) : Mk K m H H2 := ⟨a.km.trans b.km, a.tk.trans b.tk⟩
theorem sm_mk {m : Addr} {H H' : Hp} (e : Same H H') : Mk K m H H' := ⟨sm_km e, sm_tk e⟩
theorem tk_new {H H1 : Hp} {D : Addr} {o : HO} (h : TK K H H1) (e : H D = none) : TK K H (upd H1 D o) := fun a xs q => by
  have q1 := h a xs q
  by_cases ha : a = D
  · subst ha
    rcases q with (q | ⟨o', q⟩) | q
    · rw [e] at q; cases q
    · rw [e] at q; cases q
    · exact .inr q
  · rcases q1 with (q1 | ⟨o', q1⟩) | q1
    · exact .inl (.inl (by rw [upd_ne ha]; exact q1))
    · exact .inl (.inr ⟨o', by rw [upd_ne ha]; exact q1⟩)
    · exact .inr q1
theorem same_upd {H H1 : Hp} {D : Addr} {o : HO} (h : Same H H1) (e : H D = none) : Same H (upd H1 D o) := fun b x q => by
  rw [upd_ne (ne_of_none q e)]
  exact h b x q
theorem same_trans {H H1 H2 : Hp} (a : Same H H1) (b : Same H1 H2) : Same H H2 := fun x o e => b x o (a x o e)
theorem same_refl (H : Hp) : Same H H := fun _ _ e => e
theorem km_upd {m : Addr} {H H1 : Hp} {D : Addr} {o : HO} (h : Km m H H1) (e : H D = none) : Km m H (upd H1 D o) := fun b x n q => by
  rw [upd_ne (ne_of_none q e)]
  exact h b x n q
/-- a way of heaps, with what stays true (G), from a heap H0 on -/
structure EOk (K : PySem.W.Frag) (E : Hp → Hp → Prop) (G : Hp → Prop) (H0 : Hp) : Prop where
  refl : ∀ H, E H H
  trans : ∀ {H H1 H2}, E H H1 → E H1 H2 → E H H2
  tk : ∀ {H H1}, E H H1 → TK K H H1
  sm : ∀ {H H1}, Same H H1 → E H H1
  keep : ∀ {D H H1 o}, H0 D = none → E H H1 → H D = some o → H1 D = some o
  new : ∀ {D H o}, H0 D = none → E H0 H → E H0 (upd H D o)
  gnew : ∀ {D H o}, H0 D = none → G H → G (upd H D o)
theorem eok_same (H0 : Hp) : EOk K Same (fun _ => True) H0 := ⟨same_refl, same_trans, sm_tk, id, fun _ e h => e _ _ h, fun e h => same_upd h e, fun _ _ => trivial⟩
/-- the mug: a list at m -/
theorem eok_mug {m : Addr} {H0 : Hp} {F : HO → Prop} {o0 : HO} (h0 : H0 m = some o0) : EOk K (Mk K m) (fun H => ∃ o, H m = some o ∧ F o) H0 :=
  ⟨Mk.refl m, Mk.trans, fun e => e.tk, sm_mk, fun e k h => k.km _ _ (fun z => by rw [z, h0] at e; cases e) h, fun e k => ⟨km_upd k.km e, tk_new k.tk e⟩, fun {D H o} e ⟨o', h, f⟩ => ⟨o', by rw [upd_ne (ne_of_none h0 e)]; exact h, f⟩⟩
/-! ### built-ins -/
theorem x_CB {r : List V → Hp → VK → Prop} (h : tas σ H fun vs H1 => r vs H1 Q) : tCB r tas σ H Q := h
/-- the built-ins' rules under names -/
def rLenQ (K : PySem.W.Frag) : List V → Hp → VK → Prop := fun xs H Q => ∃ (p : Addr) (ys : List V), xs = [V.ref p] ∧ (SqL K H p ys ∨ SqT K H p ys) ∧ Q (.int ys.length) H
def rListQ (K : PySem.W.Frag) : List V → Hp → VK → Prop := fun xs H Q => ∃ (p : Addr) (ys : List V), xs = [V.ref p] ∧ (SqL K H p ys ∨ SqT K H p ys) ∧ ∀ l, H l = none → Q (.ref l) (upd H l (.lst ys))
def rTupQ (K : PySem.W.Frag) : List V → Hp → VK → Prop := fun xs H Q => ∃ (p : Addr) (ys : List V), xs = [V.ref p] ∧ ((SqL K H p ys ∧ ∀ l, H l = none → Q (.ref l) (upd H l (.tup ys))) ∨ (SqT K H p ys ∧ Q (.ref p) H))
def rIntQ : List V → Hp → VK → Prop := fun xs H Q => (∃ i, xs = [V.int i] ∧ Q (.int i) H) ∨ ∃ k, xs = [V.bl k] ∧ Q (.int (if k then 1 else 0)) H
def rAbsQ : List V → Hp → VK → Prop := fun xs H Q => ∃ i, xs = [V.int i] ∧ Q (.int (if i < 0 then -i else i)) H
def rMax2 : List V → Hp → VK → Prop := fun xs H Q => ∃ i j, xs = [V.int i, V.int j] ∧ Q (.int (if j > i then j else i)) H
def rMin2 : List V → Hp → VK → Prop := fun xs H Q => ∃ i j, xs = [V.int i, V.int j] ∧ Q (.int (if j < i then j else i)) H
def rDmQ : List V → Hp → VK → Prop := fun xs H Q => ∃ i j, xs = [V.int i, V.int j] ∧ CDiv i j ∧ ∀ p, H p = none → Q (.ref p) (upd H p (.tup [.int (i / j), .int (i % j)]))
theorem cq_len {X : Cx} : CallR X (.builtin "len") (rLenQ X.K) := call_len_seq
theorem cq_list {X : Cx} : CallR X (.type "list") (rListQ X.K) := call_list_of
theorem cq_tuple {X : Cx} : CallR X (.type "tuple") (rTupQ X.K) := call_tuple_of
theorem cq_int {X : Cx} : CallR X (.type "int") rIntQ := call_int1
theorem cq_abs {X : Cx} : CallR X (.builtin "abs") rAbsQ := call_abs
theorem cq_max {X : Cx} (hc : X.calm = true) : CallR X (.builtin "max") rMax2 := call_max2 hc
theorem cq_min {X : Cx} (hc : X.calm = true) : CallR X (.builtin "min") rMin2 := call_min2 hc
theorem cq_divmod {X : Cx} : CallR X (.builtin "divmod") rDmQ := call_divmod
theorem x_lenT {R : Rel α} {xs : List α} (h : Tl K R H v xs) (q : Q (.int xs.length) H) : rLenQ K [v] H Q := by
  obtain ⟨a, vs, rfl, s, p⟩ := h
  exact ⟨a, vs, rfl, .inr s, by rw [p.length]; exact q⟩
theorem x_lenL {R : Rel α} {xs : List α} (h : Ll K R H v xs) (q : Q (.int xs.length) H) : rLenQ K [v] H Q := by
  obtain ⟨a, vs, rfl, s, p⟩ := h
  exact ⟨a, vs, rfl, .inl s, by rw [p.length]; exact q⟩
theorem x_listT {R : Rel α} [MonoT K R] {xs : List α} (h : Tl K R H v xs) (q : ∀ H' u, Same H H' → (∃ p vs, u = .ref p ∧ H p = none ∧ H' p = some (.lst vs) ∧ Paired (R H') vs xs) → Q u H') : rListQ K [v] H Q := by
  obtain ⟨a, vs, rfl, s, p⟩ := h
  exact ⟨a, vs, rfl, .inr s, fun l hl => q _ _ (same_new hl) ⟨l, vs, rfl, hl, upd_same, paired_up p fun u z (k : R H u z) => up_t (K := K) (R := R) (sm_tk (same_new hl)) k⟩⟩
theorem x_tupT {R : Rel α} {xs : List α} (h : Tl K R H v xs) (q : Q v H) : rTupQ K [v] H Q := by
  obtain ⟨a, vs, rfl, s, p⟩ := h
  exact ⟨a, vs, rfl, .inr ⟨s, q⟩⟩
theorem x_tupL {R : Rel α} [MonoT K R] {xs : List α} (h : Ll K R H v xs) (q : ∀ H' u, Same H H' → Tl K R H' u xs → Q u H') : rTupQ K [v] H Q := by
  obtain ⟨a, vs, rfl, s, p⟩ := h
  exact ⟨a, vs, rfl, .inl ⟨s, fun l hl => q _ _ (same_new hl) ⟨l, vs, rfl, SqT.of upd_same, paired_up p fun u z (k : R H u z) => up_t (K := K) (R := R) (sm_tk (same_new hl)) k⟩⟩⟩
theorem paired_bl {vs : List V} {bs : List Bool} (h : Paired (Rb H) vs bs) : vs = bs.map V.bl := by
  induction h with
  | nil => rfl
  | cons r _ ih =>
    cases (show _ = _ from r)
    rw [List.map_cons, ih]
theorem paired_int {vs : List V} {bs : List Int} (h : Paired (Ri H) vs bs) : vs = bs.map V.int := by
  induction h with
  | nil => rfl
  | cons r _ ih =>
    cases (show _ = _ from r)
    rw [List.map_cons, ih]
theorem paired_of_int (H : Hp) : ∀ (bs : List Int), Paired (Ri H) (bs.map V.int) bs
  | [] => .nil
  | b :: bs => .cons rfl (paired_of_int H bs)
theorem paired_of_bl (H : Hp) : ∀ (bs : List Bool), Paired (Rb H) (bs.map V.bl) bs
  | [] => .nil
  | b :: bs => .cons rfl (paired_of_bl H bs)
theorem x_all {bs : List Bool} (h : Ll K Rb H v bs) (q : Q (.bl (bs.all id)) H) : rAll K [v] H Q := by
  obtain ⟨a, vs, rfl, s, p⟩ := h
  rw [paired_bl p] at s
  exact ⟨a, bs, rfl, s, q⟩
theorem x_any {bs : List Bool} (h : Ll K Rb H v bs) (q : Q (.bl (bs.any id)) H) : rAny K [v] H Q := by
  obtain ⟨a, vs, rfl, s, p⟩ := h
  rw [paired_bl p] at s
  exact ⟨a, bs, rfl, s, q⟩
theorem x_sum {bs : List Int} (h : Ll K Ri H v bs) (q : Q (.int bs.sum) H) : rSum K [v] H Q := by
  obtain ⟨a, vs, rfl, s, p⟩ := h
  rw [paired_int p] at s
  exact ⟨a, bs, rfl, s, q⟩
theorem x_max {bs : List Int} (h : Ll K Ri H v bs) (h0 : bs ≠ []) (q : ∀ m, m ∈ bs → (∀ y, y ∈ bs → y ≤ m) → Q (.int m) H) : rMax K [v] H Q := by
  obtain ⟨a, vs, rfl, s, p⟩ := h
  rw [paired_int p] at s
  exact ⟨a, bs, rfl, s, List.length_pos_iff.mpr h0, q⟩
theorem inV_bl (b : Bool) (bs : List Bool) : inV (.bl b) (bs.map V.bl) = bs.contains b := by
  unfold inV
  rw [List.any_map]
  induction bs with
  | nil => rfl
  | cons x xs ih =>
    rw [List.any_cons, List.contains_cons, ih]
    congr 1
    cases x <;> cases b <;> rfl
theorem flat_bl (bs : List Bool) : (bs.map V.bl).all flatV = true := by
  rw [List.all_map, List.all_eq_true]
  intro _ _
  rfl
theorem x_inB {neg : Bool} {b : Bool} {bs : List Bool} (h : Ll K Rb H v bs) (q : Q (.bl (if neg then !bs.contains b else bs.contains b)) H) : rIn K neg (.bl b) v H Q := by
  obtain ⟨a, vs, rfl, s, p⟩ := h
  rw [paired_bl p] at s
  exact ⟨a, _, rfl, .inl s, rfl, flat_bl bs, by rw [inV_bl]; exact q⟩
theorem x_int1 {i : Int} (q : Q (.int i) H) : rIntQ [.int i] H Q := .inl ⟨i, rfl, q⟩
theorem x_abs {i : Int} (q : Q (.int (i.natAbs : Int)) H) : rAbsQ [.int i] H Q := ⟨i, rfl, by
  have e : (if i < 0 then -i else i) = (i.natAbs : Int) := by split <;> omega
  rw [e]; exact q⟩
theorem x_max2 {i j : Int} (q : Q (.int (max i j)) H) : rMax2 [.int i, .int j] H Q := ⟨i, j, rfl, by
  have e : (if j > i then j else i) = max i j := by split <;> omega
  rw [e]; exact q⟩
theorem x_min2 {i j : Int} (q : Q (.int (min i j)) H) : rMin2 [.int i, .int j] H Q := ⟨i, j, rfl, by
  have e : (if j < i then j else i) = min i j := by split <;> omega
  rw [e]; exact q⟩
theorem x_divmod {i j : Int} (c : CDiv i j) (q : ∀ p H', H p = none → Same H H' → H' p = some (.tup [.int (i / j), .int (i % j)]) → Q (.ref p) H') : rDmQ [.int i, .int j] H Q :=
  ⟨i, j, rfl, c, fun p hp => q p _ hp (same_new hp) upd_same⟩
theorem x_gcd {i j : Int} (q : Q (.int (gc i j)) H) : rGcd [.int i, .int j] H Q := ⟨i, j, rfl, q⟩
theorem x_lcm {i j : Int} (hi : Sm 9000 i) (hj : Sm 9000 j) (q : Q (.int ((Nat.lcm i.natAbs j.natAbs : Nat) : Int)) H) : rLcm [.int i, .int j] H Q := ⟨i, j, rfl, hi, hj, q⟩
/-- isinstance of an int, a text, a tuple -/
theorem x_isi {n : String} {tv : Value} {b : Bool} (ty : TyX K H v tv) (e : PySem.W.kitOne K tv (.type n) = some b) (q : Q (.bl b) H) : rIsi K [v, .ty n] H Q := ⟨v, .ty n, tv, .type n, b, rfl, .ty n, ty, e, q⟩
theorem kit_ib : PySem.W.kitOne K (.type "int") (.type "bool") = some false := by rfl
theorem tyx_tup {a : Addr} {xs : List V} (h : SqT K H a xs) : TyX K H (.ref a) (.type "tuple") := by
  rcases h with (h | ⟨o, h⟩) | h
  · exact .base (.tup h)
  · exact .fTuple h
  · obtain ⟨o, its, n, ho, hc, _⟩ := h
    exact .kTuple ho hc
/-! ### unpacking -/
theorem x_gcons {gg : TG} {gu : TGs} {vs : List V} (h : gg v σ H fun σ' H' => gu vs σ' H' QS) : gCons gg gu (v :: vs) σ H QS := ⟨v, vs, rfl, h⟩
theorem x_gnil (h : QS σ H) : gNil [] σ H QS := ⟨rfl, h⟩
theorem x_gpt {p : P3} (h : Pt K H v p) (q : gs [.int p.1, .int p.2.1, .int p.2.2] σ H QS) : gTup K 3 gs v σ H QS := by
  obtain ⟨a, rfl, h⟩ := h
  exact ⟨a, _, rfl, h, rfl, q⟩
theorem x_gpr' {p : P2} (h : Pr K H v p) (q : gs [.int p.1, .int p.2] σ H QS) : gTup K 2 gs v σ H QS := by
  obtain ⟨a, rfl, h⟩ := h
  exact ⟨a, _, rfl, h, rfl, q⟩
theorem x_gtl2 {R : Rel α} {p q : α} (h : Tl K R H v [p, q]) (k : ∀ v1 v2, R H v1 p → R H v2 q → gs [v1, v2] σ H QS) : gTup K 2 gs v σ H QS := by
  obtain ⟨a, vs, rfl, h, pr⟩ := h
  cases pr with
  | cons r1 pr =>
    cases pr with
    | cons r2 pr =>
      cases pr
      exact ⟨a, _, rfl, h, rfl, k _ _ r1 r2⟩
theorem x_gnew {n : Nat} {p : Addr} {vs : List V} (h : H p = some (.tup vs)) (hl : vs.length = n) (q : gs vs σ H QS) : gTup K n gs (.ref p) σ H QS := ⟨p, vs, rfl, SqT.of h, hl, q⟩
theorem x_par {i j : Nat} {ta : TA} {D : Ends} (h : ta σ H fun vs H1 => ∃ v w, vs = [v, w] ∧ D.nx ((σ.set i (some v)).set j (some w)) H1) : tPar i j ta D σ H := h
theorem x_par2 {v w : V} {i j : Nat} (h : QS ((σ.set i (some v)).set j (some w)) H) : ∃ a b, [v, w] = [a, b] ∧ QS ((σ.set i (some a)).set j (some b)) H := ⟨v, w, rfl, h⟩
end
/-! ### comprehensions, walks -/
section
variable {α β : Type} {K : PySem.W.Frag} {σ : L2.St} {H H0 H1 : Hp} {Q : VK} {v : V} {ta : TE} {tas : TA} {te : TE} {g : TG} {tt : TT} {tb : TS} {D : Ends} {sl : List Nat} {E : Hp → Hp → Prop} {G : Hp → Prop} {wi : TI}
def lcK (g : TG) (tt : TT) (te : TE) (sl : List Nat) (σ : L2.St) (Q : VK) : It → Hp → Prop := fun J H1 => ∀ D, H1 D = none → ∃ W : Nat → Nat → Hp → Prop, (∃ m, W 0 m (upd H1 D (.lst []))) ∧ ∀ i m H, W i m H →
  (J.stop i H ∧ Q (.ref D) H) ∨ (J.go i H ∧ ∃ Nx : Hp → Prop, (∀ H', Nx H' → ∃ m', m' < m ∧ W (i + 1) m' H') ∧ ∀ x H', J.yld i H x H' → g x (wipe σ sl) H' fun σ2 H2 => wipe σ2 sl = wipe σ sl ∧ tt σ2 H2 fun b H3 =>
    if b = true then te σ2 H3 fun y H4 => ∃ acc, H4 D = some (.lst acc) ∧ acc.length < sizeLine ∧ Nx (upd H4 D (.lst (acc ++ [y]))) else Nx H3)
theorem x_lc0 (h : wi σ H (lcK g tt te sl σ Q)) : tLc wi g tt te sl σ H Q := h
def forK (g : TG) (tb : TS) (D : Ends) (σ : L2.St) : It → Hp → Prop := fun J H1 => ∃ W : Nat → Nat → L2.St → Hp → Prop, (∃ m, W 0 m σ H1) ∧ ∀ i m σ H, W i m σ H →
  (J.stop i H ∧ D.nx σ H) ∨ (J.go i H ∧ ∃ N : L2.St → Hp → Prop, (∀ σ' H', N σ' H' → ∃ m', m' < m ∧ W (i + 1) m' σ' H') ∧ ∀ x H', J.yld i H x H' → g x σ H' fun σ2 H2 => tb { D with nx := N, ct := N, bk := D.nx } σ2 H2)
theorem x_for0 (h : wi σ H (forK g tb D σ)) : tFor wi g tb D σ H := h
theorem x_iT {R : It → Hp → Prop} (h : ta σ H fun x H1 => ∃ a, x = .ref a ∧ (∃ xs, SqT K H1 a xs) ∧ R (Itt K a) H1) : iTup K ta σ H R := h
theorem x_iL {R : It → Hp → Prop} (h : ta σ H fun x H1 => ∃ a, x = .ref a ∧ (∃ xs, SqL K H1 a xs) ∧ R (Itl K a) H1) : iList K ta σ H R := h
theorem x_iR {R : It → Hp → Prop} (h : tas σ H fun vs H1 => ∃ j : Int, vs = [.int j] ∧ -(2 ^ 62) ≤ j ∧ j < 2 ^ 62 ∧ R (Itr 0 j.toNat) H1) : iRng1 tas σ H R := h
theorem x_iE {R : It → Hp → Prop} (h : tas σ H fun vs H1 => ∃ a xs, vs = [.ref a] ∧ SqT K H1 a xs ∧ R (Ien K a) H1) : iEn K tas σ H R := h
/-- the general comprehension: over any walk, its i-th turn told by Y and by what it adds -/
theorem lc_walk {J : It} {n : Nat} {GW : Hp → Prop} {Y : Nat → Hp → V → Hp → Prop} (w : Walk J n GW Y) (S : Rel β) [MonoT K S] (T : Nat → Option β → Prop) (ok : EOk K E G H1) (hn : n ≤ 100000) (hg : G H1) (hw : ∀ H, E H1 H → GW H)
    (hy : ∀ i H x H', Y i H x H' → Same H H') (hgs : ∀ {H H'}, Same H H' → G H → G H')
    (hs : ∀ i x H H' (QY : VK) (QN : Hp → Prop), i < n → E H1 H' → G H' → Y i H x H' → (∀ y H4 z, E H' H4 → G H4 → S H4 y z → T i (some z) → QY y H4) → (∀ H3, E H' H3 → G H3 → T i none → QN H3) →
      g x (wipe σ sl) H' fun σ2 H2 => wipe σ2 sl = wipe σ sl ∧ tt σ2 H2 fun b H3 => if b = true then te σ2 H3 QY else QN H3)
    (hd : ∀ H' v (zs : List (Option β)), E H1 H' → G H' → zs.length = n → (∀ i, i < n → ∃ z, zs[i]? = some z ∧ T i z) → (∃ D vs, v = .ref D ∧ H1 D = none ∧ H' D = some (.lst vs) ∧ Paired (S H') vs (zs.filterMap id)) → Q v H') : lcK g tt te sl σ Q J H1 := by
  intro D hD
  refine ⟨fun i m H => m = n - i ∧ i ≤ n ∧ E H1 H ∧ G H ∧ ∃ (zs : List (Option β)) (acc : List V), zs.length = i ∧ (∀ j, j < i → ∃ z, zs[j]? = some z ∧ T j z) ∧ H D = some (.lst acc) ∧ Paired (S H) acc (zs.filterMap id), ⟨n, by simp, Nat.zero_le _, ok.new hD (ok.refl _), ok.gnew hD hg, [], [], rfl, fun j hj => absurd hj (Nat.not_lt_zero _), upd_same, .nil⟩, ?_⟩
  rintro i m H ⟨rfl, hi, hE, hG, zs, acc, hz, hT, hA, hP⟩
  by_cases hlt : i < n
  · refine .inr ⟨w.goes i H hlt (hw H hE), fun H' => i + 1 ≤ n ∧ E H1 H' ∧ G H' ∧ ∃ (zs : List (Option β)) (acc : List V), zs.length = i + 1 ∧ (∀ j, j < i + 1 → ∃ z, zs[j]? = some z ∧ T j z) ∧ H' D = some (.lst acc) ∧ Paired (S H') acc (zs.filterMap id), fun H' p' => ⟨n - (i + 1), by omega, rfl, p'⟩, fun x H' y => ?_⟩
    have y := w.yields i H x H' hlt (hw H hE) y
    have sy := hy i H x H' y
    have hE' : E H1 H' := ok.trans hE (ok.sm sy)
    have hA' : H' D = some (.lst acc) := sy _ _ hA
    have la : acc.length ≤ i := by
      rw [hP.length]
      exact Nat.le_trans (List.length_filterMap_le ..) (Nat.le_of_eq hz)
    have snoc : ∀ (o : Option β), T i o → ∀ j, j < i + 1 → ∃ z, (zs ++ [o])[j]? = some z ∧ T j z := fun o ho j hj => by
      by_cases hji : j < i
      · obtain ⟨z, e1, e2⟩ := hT j hji
        exact ⟨z, by rw [List.getElem?_append_left (by omega)]; exact e1, e2⟩
      · have : j = i := by omega
        subst this
        exact ⟨o, by rw [List.getElem?_append_right (by omega), hz]; simp, ho⟩
    refine hs i x H H' _ _ hlt hE' (hgs sy hG) y (fun y4 H4 z e4 g4 s4 t4 => ?_) fun H3 e3 g3 t3 => ?_
    · have hA4 : H4 D = some (.lst acc) := ok.keep hD e4 hA'
      have tk4 : TK K H (upd H4 D (.lst (acc ++ [y4]))) := (sm_tk sy).trans ((ok.tk e4).trans (km_tk (fun b o n h => by rw [upd_ne n]; exact h) hA4))
      have tk5 : TK K H4 (upd H4 D (.lst (acc ++ [y4]))) := km_tk (m := D) (fun b o n h => by rw [upd_ne n]; exact h) hA4
      refine ⟨acc, hA4, sz_lt' (by omega), hlt, ok.new hD (ok.trans hE' e4), ok.gnew hD g4, zs ++ [some z], acc ++ [y4], by simp [hz], snoc _ t4, upd_same, ?_⟩
      rw [List.filterMap_append]
      exact paired_snoc (paired_up hP fun u z' (k : S H u z') => up_t (K := K) (R := S) tk4 k) (up_t (K := K) (R := S) tk5 s4)
    · refine ⟨hlt, ok.trans hE' e3, g3, zs ++ [none], acc, by simp [hz], snoc _ t3, ok.keep hD e3 hA', ?_⟩
      rw [List.filterMap_append]
      have : ([none] : List (Option β)).filterMap id = [] := rfl
      rw [this, List.append_nil]
      exact paired_up hP fun u z' (k : S H u z') => up_t (K := K) (R := S) ((sm_tk sy).trans (ok.tk e3)) k
  · have e : i = n := by omega
    subst e
    exact .inl ⟨w.stops H (hw H hE), hd H _ zs hE hG hz hT ⟨D, acc, rfl, hD, hA, hP⟩⟩
/-- a new list's value -/
def Nl (K : PySem.W.Frag) (R : Rel α) (H0 H : Hp) (v : V) (xs : List α) : Prop := ∃ D vs, v = .ref D ∧ H0 D = none ∧ H D = some (.lst vs) ∧ Paired (R H) vs xs
theorem Nl.ll {R : Rel α} {xs : List α} (h : Nl K R H0 H v xs) : Ll K R H v xs := by
  obtain ⟨D, vs, rfl, _, h, p⟩ := h
  exact ⟨D, vs, rfl, SqL.of h, p⟩
theorem fm_map {f : α → β} {p : α → Bool} : ∀ {xs : List α} {zs : List (Option β)}, zs.length = xs.length → (∀ i, i < xs.length → ∃ z, zs[i]? = some z ∧ ∀ x, xs[i]? = some x → z = if p x = true then some (f x) else none) → zs.filterMap id = (xs.filter p).map f
  | [], zs, e, _ => by
    have : zs = [] := List.eq_nil_of_length_eq_zero e
    rw [this]; rfl
  | x :: xs, [], e, _ => by cases e
  | x :: xs, z :: zs, e, h => by
    obtain ⟨z', e1, e2⟩ := h 0 (Nat.succ_pos _)
    have e3 := e2 x rfl
    cases e1
    have ih := fm_map (f := f) (p := p) (xs := xs) (zs := zs) (Nat.succ.inj e) fun i hi => by
      obtain ⟨z', e1, e2⟩ := h (i + 1) (Nat.succ_lt_succ hi)
      exact ⟨z', by simpa using e1, fun x hx => e2 x (by simpa using hx)⟩
    rw [List.filterMap_cons, ih, e3]
    by_cases hp : p x = true
    · simp [hp]
    · simp [hp]
theorem yat_same {ys : List V} : ∀ i H x H', YAt ys i H x H' → Same H H' := fun i H x H' y => by rw [y.1]; exact same_refl H
/-- [f x for x in a tuple if p x], nothing else touched -/
theorem lc_TF {R : Rel α} [MonoT K R] {xs : List α} (S : Rel β) [MonoT K S] (f : α → β) (p : α → Bool) (h : Tl K R H v xs) (hn : xs.length ≤ 100000)
    (hs : ∀ (i : Nat) x u H' (QY : VK) (QN : Hp → Prop), xs[i]? = some x → Same H H' → R H' u x → (p x = true → ∀ y H4, Same H' H4 → S H4 y (f x) → QY y H4) → (p x = false → ∀ H3, Same H' H3 → QN H3) →
      g u (wipe σ sl) H' fun σ2 H2 => wipe σ2 sl = wipe σ sl ∧ tt σ2 H2 fun b H3 => if b = true then te σ2 H3 QY else QN H3)
    (hd : ∀ H' v', Same H H' → Nl K S H H' v' ((xs.filter p).map f) → Q v' H') : ∃ a, v = .ref a ∧ (∃ ys, SqT K H a ys) ∧ lcK g tt te sl σ Q (Itt K a) H := by
  obtain ⟨a, ys, rfl, s, pr⟩ := h
  have hl := pr.length
  refine ⟨a, rfl, ⟨ys, s⟩, lc_walk (K := K) walk_tup S (fun i z => ∀ x, xs[i]? = some x → z = if p x = true then some (f x) else none) (eok_same H) (by omega) trivial (fun H' e => sm_tk e _ _ s) yat_same (fun _ _ => trivial) (fun i x H2 H3 QY QN hi e3 _ y qy qn => ?_) fun H' v' zs e _ hz hT hv => ?_⟩
  · obtain ⟨rfl, hx⟩ := y
    obtain ⟨z, hz, rz⟩ := paired_at2 pr hx
    refine hs i z x H3 QY QN hz e3 (up_t (K := K) (R := R) (sm_tk e3) rz) (fun hp y4 H4 e4 s4 => qy y4 H4 (f z) e4 trivial s4 fun x' hx' => ?_) fun hp H4 e4 => qn H4 e4 trivial fun x' hx' => ?_
    · rw [hz] at hx'
      cases hx'
      rw [if_pos hp]
    · rw [hz] at hx'
      cases hx'
      rw [if_neg (by rw [hp]; decide)]
  · refine hd H' v' e ?_
    rw [fm_map (f := f) (p := p) (by omega) (fun i hi => hT i (by omega))] at hv
    exact hv
/-- [f x for x in a tuple] -/
theorem lc_T {R : Rel α} [MonoT K R] {xs : List α} (S : Rel β) [MonoT K S] (f : α → β) (h : Tl K R H v xs) (hn : xs.length ≤ 100000)
    (hs : ∀ (i : Nat) x u H' (QY : VK), xs[i]? = some x → Same H H' → R H' u x → (∀ y H4, Same H' H4 → S H4 y (f x) → QY y H4) → g u (wipe σ sl) H' fun σ2 H2 => wipe σ2 sl = wipe σ sl ∧ te σ2 H2 QY)
    (hd : ∀ H' v', Same H H' → Nl K S H H' v' (xs.map f) → Q v' H') : ∃ a, v = .ref a ∧ (∃ ys, SqT K H a ys) ∧ lcK g tYes te sl σ Q (Itt K a) H :=
  lc_TF S f (fun _ => true) h hn (fun i x u H' QY QN e s r q _ => hs i x u H' QY e s r (q rfl)) fun H' v' s n => hd H' v' s (by rw [List.filter_eq_self.mpr (fun _ _ => rfl)] at n; exact n)
/-- [f x for x in a list] -/
theorem lc_L {R : Rel α} [MonoT K R] {xs : List α} (S : Rel β) [MonoT K S] (f : α → β) (h : Ll K R H v xs) (hn : xs.length ≤ 100000)
    (hs : ∀ (i : Nat) x u H' (QY : VK), xs[i]? = some x → Same H H' → R H' u x → (∀ y H4, Same H' H4 → S H4 y (f x) → QY y H4) → g u (wipe σ sl) H' fun σ2 H2 => wipe σ2 sl = wipe σ sl ∧ te σ2 H2 QY)
    (hd : ∀ H' v', Same H H' → Nl K S H H' v' (xs.map f) → Q v' H') : ∃ a, v = .ref a ∧ (∃ ys, SqL K H a ys) ∧ lcK g tYes te sl σ Q (Itl K a) H := by
  obtain ⟨a, ys, rfl, s, pr⟩ := h
  have hl := pr.length
  refine ⟨a, rfl, ⟨ys, s⟩, lc_walk (K := K) walk_list S (fun i z => ∀ x, xs[i]? = some x → z = if (fun _ => true) x = true then some (f x) else none) (eok_same H) (by omega) trivial (fun H' e => e.seq s) yat_same (fun _ _ => trivial) (fun i x H2 H3 QY QN hi e3 _ y qy qn => ?_) fun H' v' zs e _ hz hT hv => ?_⟩
  · obtain ⟨rfl, hx⟩ := y
    obtain ⟨z, hz, rz⟩ := paired_at2 pr hx
    refine hs i z x H3 QY hz e3 (up_t (K := K) (R := R) (sm_tk e3) rz) (fun y4 H4 e4 s4 => qy y4 H4 (f z) e4 trivial s4 fun x' hx' => ?_)
    rw [hz] at hx'
    cases hx'
    rw [if_pos rfl]
  · refine hd H' v' e ?_
    have := fm_map (f := f) (p := fun _ => true) (xs := xs) (by omega) (fun i hi => hT i (by omega))
    rw [this, List.filter_eq_self.mpr (fun _ _ => rfl)] at hv
    exact hv
theorem fm_all {P : β → Prop} : ∀ {n : Nat} {zs : List (Option β)}, zs.length = n → (∀ i, i < n → ∃ z, zs[i]? = some z ∧ ∃ y, z = some y ∧ P y) → (zs.filterMap id).length = n ∧ ∀ y ∈ zs.filterMap id, P y
  | 0, zs, e, _ => by
    have : zs = [] := List.eq_nil_of_length_eq_zero e
    subst this
    exact ⟨rfl, fun _ h => by cases h⟩
  | n + 1, [], e, _ => by cases e
  | n + 1, z :: zs, e, h => by
    obtain ⟨z', e1, y, rfl, py⟩ := h 0 (Nat.succ_pos _)
    cases e1
    obtain ⟨h1, h2⟩ := fm_all (P := P) (n := n) (zs := zs) (Nat.succ.inj e) fun i hi => by
      obtain ⟨z', e1, e2⟩ := h (i + 1) (Nat.succ_lt_succ hi)
      exact ⟨z', by simpa using e1, e2⟩
    rw [List.filterMap_cons]
    refine ⟨by simp [h1], fun y' hy' => ?_⟩
    rcases List.mem_cons.mp hy' with r | r
    · rw [r]; exact py
    · exact h2 y' r
/-- [draw for _ in range(n)], each touching the mug at m; F: what is true of the mug's list -/
theorem lc_RM {m : Addr} {F : HO → Prop} {n : Nat} {o0 : HO} (S : Rel β) [MonoT K S] (P : β → Prop) (hm : H m = some o0) (f0 : F o0) (hn : n ≤ 100000)
    (hs : ∀ (i : Nat) H' o' (QY : VK), i < n → Mk K m H H' → H' m = some o' → F o' → (∀ y H4 o4 z, Mk K m H' H4 → H4 m = some o4 → F o4 → S H4 y z → P z → QY y H4) → g (.int (i : Nat)) (wipe σ sl) H' fun σ2 H2 => wipe σ2 sl = wipe σ sl ∧ te σ2 H2 QY)
    (hd : ∀ H' v' o' zs, Mk K m H H' → H' m = some o' → F o' → zs.length = n → (∀ z ∈ zs, P z) → Nl K S H H' v' zs → Q v' H') : ∃ j : Int, [V.int (n : Int)] = [.int j] ∧ -(2 ^ 62) ≤ j ∧ j < 2 ^ 62 ∧ lcK g tYes te sl σ Q (Itr 0 j.toNat) H := by
  refine ⟨n, rfl, by omega, by omega, ?_⟩
  rw [Int.toNat_natCast]
  refine lc_walk (K := K) walk_range S (fun i z => ∃ y, z = some y ∧ P y) (eok_mug (F := F) hm) hn ⟨o0, hm, f0⟩ (fun _ _ => trivial) (fun i H x H' y => by rw [y.1]; exact same_refl H) (fun s ⟨o, h, f⟩ => ⟨o, s _ _ h, f⟩) (fun i x H2 H3 QY QN hi e3 g3 y qy qn => ?_) fun H' v' zs e gg hz hT hv => ?_
  · obtain ⟨o3, hm3, f3⟩ := g3
    obtain ⟨_, rfl⟩ := y
    have z : (0 : Int) + (i : Nat) = (i : Nat) := by omega
    show g (V.int (0 + (i : Nat))) _ _ _
    rw [z]
    exact hs i H3 o3 QY hi e3 hm3 f3 fun y4 H4 o4 z e4 h4 f4 s4 p4 => qy y4 H4 z e4 ⟨o4, h4, f4⟩ s4 ⟨z, rfl, p4⟩
  · obtain ⟨o', h', f'⟩ := gg
    obtain ⟨l1, l2⟩ := fm_all hz hT
    exact hd H' v' o' _ e h' f' l1 l2 hv
/-- [draw for x in a tuple] -/
theorem lc_TM {R : Rel α} [MonoT K R] {xs : List α} {m : Addr} {F : HO → Prop} {o0 : HO} (S : Rel β) [MonoT K S] (P : β → Prop) (h : Tl K R H v xs) (hm : H m = some o0) (f0 : F o0) (hn : xs.length ≤ 100000)
    (hs : ∀ (i : Nat) x u H' o' (QY : VK), xs[i]? = some x → R H' u x → Mk K m H H' → H' m = some o' → F o' → (∀ y H4 o4 z, Mk K m H' H4 → H4 m = some o4 → F o4 → S H4 y z → P z → QY y H4) → g u (wipe σ sl) H' fun σ2 H2 => wipe σ2 sl = wipe σ sl ∧ te σ2 H2 QY)
    (hd : ∀ H' v' o' zs, Mk K m H H' → H' m = some o' → F o' → zs.length = xs.length → (∀ z ∈ zs, P z) → Nl K S H H' v' zs → Q v' H') : ∃ a, v = .ref a ∧ (∃ ys, SqT K H a ys) ∧ lcK g tYes te sl σ Q (Itt K a) H := by
  obtain ⟨a, ys, rfl, s, pr⟩ := h
  have hl := pr.length
  refine ⟨a, rfl, ⟨ys, s⟩, lc_walk (K := K) walk_tup S (fun i z => ∃ y, z = some y ∧ P y) (eok_mug (F := F) hm) (by omega) ⟨o0, hm, f0⟩ (fun H' e => e.tk _ _ s) yat_same (fun s ⟨o, h, f⟩ => ⟨o, s _ _ h, f⟩) (fun i x H2 H3 QY QN hi e3 g3 y qy qn => ?_) fun H' v' zs e gg hz hT hv => ?_⟩
  · obtain ⟨o3, hm3, f3⟩ := g3
    obtain ⟨rfl, hx⟩ := y
    obtain ⟨z, hz, rz⟩ := paired_at2 pr hx
    exact hs i z x H3 o3 QY hz (up_t (K := K) (R := R) e3.tk rz) e3 hm3 f3 fun y4 H4 o4 z e4 h4 f4 s4 p4 => qy y4 H4 z e4 ⟨o4, h4, f4⟩ s4 ⟨z, rfl, p4⟩
  · obtain ⟨o', h', f'⟩ := gg
    obtain ⟨l1, l2⟩ := fm_all hz hT
    exact hd H' v' o' _ e h' f' (by omega) l2 hv
/-- for x in a tuple -/
theorem fk_T {R : Rel α} {xs : List α} (h : Tl K R H v xs) (Pv : Nat → L2.St → Hp → Prop) (h0 : Pv 0 σ H) (hk : ∀ i σ' H', Pv i σ' H' → TK K H H')
    (hs : ∀ (i : Nat) x u σ' H', xs[i]? = some x → R H u x → Pv i σ' H' → g u σ' H' fun σ2 H2 => tb { D with nx := Pv (i + 1), ct := Pv (i + 1), bk := D.nx } σ2 H2) (hd : ∀ σ' H', Pv xs.length σ' H' → D.nx σ' H') : ∃ a, v = .ref a ∧ (∃ ys, SqT K H a ys) ∧ forK g tb D σ (Itt K a) H := by
  obtain ⟨a, ys, rfl, s, pr⟩ := h
  have hl := pr.length
  refine ⟨a, rfl, ⟨ys, s⟩, for_tup (xs := ys) Pv h0 (fun i σ' H' _ p => hk i σ' H' p a ys s) (fun i x σ' H' hx p => ?_) fun σ' H' p => hd σ' H' (by rw [← hl]; exact p)⟩
  obtain ⟨z, hz, rz⟩ := paired_at2 pr hx
  exact hs i z x σ' H' hz rz p
/-- for x in a list that stays -/
theorem fk_L {R : Rel α} {xs : List α} (h : Ll K R H v xs) (Pv : Nat → L2.St → Hp → Prop) (h0 : Pv 0 σ H) (hk : ∀ i σ' H' a ys, Pv i σ' H' → v = .ref a → SqL K H a ys → SqL K H' a ys)
    (hs : ∀ (i : Nat) x u σ' H', xs[i]? = some x → R H u x → Pv i σ' H' → g u σ' H' fun σ2 H2 => tb { D with nx := Pv (i + 1), ct := Pv (i + 1), bk := D.nx } σ2 H2) (hd : ∀ σ' H', Pv xs.length σ' H' → D.nx σ' H') : ∃ a, v = .ref a ∧ (∃ ys, SqL K H a ys) ∧ forK g tb D σ (Itl K a) H := by
  obtain ⟨a, ys, rfl, s, pr⟩ := h
  have hl := pr.length
  refine ⟨a, rfl, ⟨ys, s⟩, for_list (xs := ys) Pv h0 (fun i σ' H' _ p => hk i σ' H' a ys p rfl s) (fun i x σ' H' hx p => ?_) fun σ' H' p => hd σ' H' (by rw [← hl]; exact p)⟩
  obtain ⟨z, hz, rz⟩ := paired_at2 pr hx
  exact hs i z x σ' H' hz rz p
/-- for i in range(n) -/
theorem fk_R {n : Nat} (hn : n ≤ 100000) (Pv : Nat → L2.St → Hp → Prop) (h0 : Pv 0 σ H)
    (hs : ∀ (i : Nat) σ' H', i < n → Pv i σ' H' → g (.int (i : Nat)) σ' H' fun σ2 H2 => tb { D with nx := Pv (i + 1), ct := Pv (i + 1), bk := D.nx } σ2 H2) (hd : ∀ σ' H', Pv n σ' H' → D.nx σ' H') : ∃ j : Int, [V.int (n : Int)] = [.int j] ∧ -(2 ^ 62) ≤ j ∧ j < 2 ^ 62 ∧ forK g tb D σ (Itr 0 j.toNat) H := by
  refine ⟨n, rfl, by omega, by omega, ?_⟩
  rw [Int.toNat_natCast]
  refine for_range Pv h0 (fun i σ' H' hi p => ?_) hd
  have z : (0 : Int) + (i : Nat) = (i : Nat) := by omega
  rw [z]
  exact hs i σ' H' hi p
/-- for i, x in enumerate(a tuple) -/
theorem fk_E {R : Rel α} {xs : List α} (h : Tl K R H v xs) (Pv : Nat → L2.St → Hp → Prop) (h0 : Pv 0 σ H) (hk : ∀ i σ' H', Pv i σ' H' → TK K H H')
    (hs : ∀ (i : Nat) x u p σ' H' H2, xs[i]? = some x → R H u x → Pv i σ' H' → Same H' H2 → H2 p = some (.tup [.int (i : Nat), u]) → g (.ref p) σ' H2 fun σ2 H2 => tb { D with nx := Pv (i + 1), ct := Pv (i + 1), bk := D.nx } σ2 H2) (hd : ∀ σ' H', Pv xs.length σ' H' → D.nx σ' H') :
    ∃ a ys, [v] = [V.ref a] ∧ SqT K H a ys ∧ forK g tb D σ (Ien K a) H := by
  obtain ⟨a, ys, rfl, s, pr⟩ := h
  have hl := pr.length
  refine ⟨a, ys, rfl, s, for_it walk_en Pv h0 (fun i σ' H' _ p => hk i σ' H' p a ys s) (fun i x σ' H' H2 hi p y => ?_) fun σ' H' p => hd σ' H' (by rw [← hl]; exact p)⟩
  obtain ⟨T, x', y', rfl, hT, rfl, e1, e2⟩ := y
  cases e1
  obtain ⟨z, hz, rz⟩ := paired_at2 pr e2
  exact hs i z y' T σ' H' _ hz rz p (same_new hT) upd_same
/-- [f i x for i, x in enumerate(a tuple)] -/
theorem lc_E {R : Rel α} [MonoT K R] {xs : List α} (S : Rel β) [MonoT K S] (f : Nat → α → β) (h : Tl K R H v xs) (hn : xs.length ≤ 100000)
    (hs : ∀ (i : Nat) x u p H' (QY : VK), xs[i]? = some x → Same H H' → R H' u x → H' p = some (.tup [.int (i : Nat), u]) → (∀ y H4, Same H' H4 → S H4 y (f i x) → QY y H4) → g (.ref p) (wipe σ sl) H' fun σ2 H2 => wipe σ2 sl = wipe σ sl ∧ te σ2 H2 QY)
    (hd : ∀ H' v', Same H H' → Nl K S H H' v' (xs.mapIdx f) → Q v' H') : ∃ a ys, [v] = [V.ref a] ∧ SqT K H a ys ∧ lcK g tYes te sl σ Q (Ien K a) H := by
  obtain ⟨a, ys, rfl, s, pr⟩ := h
  have hl := pr.length
  refine ⟨a, ys, rfl, s, lc_walk (K := K) walk_en S (fun i z => ∀ x, xs[i]? = some x → z = some (f i x)) (eok_same H) (by omega) trivial (fun H' e => sm_tk e _ _ s) (fun i H x H' y => by obtain ⟨T, x', y', rfl, hT, rfl, _⟩ := y; exact same_new hT) (fun _ _ => trivial) (fun i x H2 H3 QY QN hi e3 _ y qy qn => ?_) fun H' v' zs e _ hz hT hv => ?_⟩
  · obtain ⟨T, x', y', rfl, hT, rfl, e1, e2⟩ := y
    cases e1
    obtain ⟨z, hz, rz⟩ := paired_at2 pr e2
    refine hs i z y' T _ QY hz e3 (up_t (K := K) (R := R) (sm_tk e3) rz) upd_same (fun y4 H4 e4 s4 => qy y4 H4 (f i z) e4 trivial s4 fun x' hx' => ?_)
    rw [hz] at hx'
    cases hx'
    rfl
  · refine hd H' v' e ?_
    have key : zs.filterMap id = xs.mapIdx f := by
      have z1 : zs = (xs.mapIdx f).map some := by
        apply List.ext_getElem?
        intro i
        by_cases hi : i < xs.length
        · obtain ⟨z, e1, e2⟩ := hT i (by omega)
          rw [e1, e2 xs[i] (by simp [hi])]
          simp [hi]
        · rw [List.getElem?_eq_none (by omega), List.getElem?_eq_none (by simp; omega)]
      rw [z1]
      simp
    rw [key] at hv
    exact hv
end
end K87
/-! The relations and words of the promises. -/
namespace K87
open PySem PySem.Spec PyProof.Rows L2 K8
instance (n : Nat) (i : Int) : Decidable (Sm n i) := by unfold Sm; exact inferInstance
/-- a note: its word, its velocity, its time -/
abbrev Nte := Str × P3 × P2
section
variable {α β γ δ : Type} {K : PySem.W.Frag} {σ : L2.St} {H : Hp} {Q : VK} {v v1 v2 v3 x y : V} {E : XK} {x1 : α} {x2 : β} {x3 : γ}
def Nt (K : PySem.W.Frag) : Rel Nte := fun H v n => ∃ a b c, v = .ref a ∧ SqT K H a [.str n.1, b, c] ∧ Pt K H b n.2.1 ∧ Pr K H c n.2.2
instance : MonoT K (Nt K) := ⟨fun k ⟨a, b, c, e, h, p, q⟩ => ⟨a, b, c, e, k _ _ h, MonoT.up (K := K) (R := Pt K) k p, MonoT.up (K := K) (R := Pr K) k q⟩⟩
instance : MonoS (Nt K) := ⟨fun s h => MonoT.up (K := K) (R := Nt K) (sm_tk s) h⟩
/-- a list of the heap -/
def Hs (K : PySem.W.Frag) (R : Rel α) : Rel (List α) := fun H v xs => ∃ a vs, v = .ref a ∧ H a = some (.lst vs) ∧ Paired (R H) vs xs
instance {R : Rel α} [m : MonoS R] : MonoS (Hs K R) := ⟨fun s ⟨a, vs, e, h, p⟩ => ⟨a, vs, e, s _ _ h, paired_up p fun _ _ q => m.up s q⟩⟩
theorem Hs.ll {R : Rel α} {xs : List α} (h : Hs K R H v xs) : Ll K R H v xs := by
  obtain ⟨D, vs, rfl, h, p⟩ := h
  exact ⟨D, vs, rfl, SqL.of h, p⟩
theorem Nl.hs {H0 : Hp} {R : Rel α} {xs : List α} (h : Nl K R H0 H v xs) : Hs K R H v xs := by
  obtain ⟨D, vs, rfl, _, h, p⟩ := h
  exact ⟨D, vs, rfl, h, p⟩
/-- a list or a tuple -/
def Sq (K : PySem.W.Frag) (R : Rel α) : Rel (List α) := fun H v xs => Tl K R H v xs ∨ Ll K R H v xs
instance {R : Rel α} [m : MonoS R] : MonoS (Sq K R) := ⟨fun s h => h.imp (MonoS.up (R := Tl K R) s) (MonoS.up (R := Ll K R) s)⟩
/-- its length -/
def Ln (K : PySem.W.Frag) (H : Hp) (v : V) (n : Nat) : Prop := ∃ a vs, v = .ref a ∧ (SqL K H a vs ∨ SqT K H a vs) ∧ vs.length = n
theorem Ln.tl {R : Rel α} {xs : List α} (h : Tl K R H v xs) : Ln K H v xs.length := by
  obtain ⟨a, vs, e, s, p⟩ := h
  exact ⟨a, vs, e, .inr s, p.length⟩
theorem Ln.ll {R : Rel α} {xs : List α} (h : Ll K R H v xs) : Ln K H v xs.length := by
  obtain ⟨a, vs, e, s, p⟩ := h
  exact ⟨a, vs, e, .inl s, p.length⟩
theorem Ln.hs {R : Rel α} {xs : List α} (h : Hs K R H v xs) : Ln K H v xs.length := Ln.ll h.ll
theorem Ln.nl {H0 : Hp} {R : Rel α} {xs : List α} (h : Nl K R H0 H v xs) : Ln K H v xs.length := Ln.ll h.ll
theorem Ln.up {H' : Hp} {n : Nat} (s : Same H' H) (h : Ln K H' v n) : Ln K H v n := by
  obtain ⟨a, vs, e, k, l⟩ := h
  exact ⟨a, vs, e, k.imp (fun z => s.seq z) (fun z => sm_tk s _ _ z), l⟩
theorem x_ln {n : Nat} (h : Ln K H v n) (q : Q (.int (n : Int)) H) : rLenQ K [v] H Q := by
  obtain ⟨a, vs, rfl, s, rfl⟩ := h
  exact ⟨a, vs, rfl, s, q⟩
theorem pt_tl {p : P3} (h : Pt K H v p) : Tl K Ri H v [p.1, p.2.1, p.2.2] := by
  obtain ⟨a, rfl, h⟩ := h
  exact ⟨a, _, rfl, h, .cons rfl (.cons rfl (.cons rfl .nil))⟩
theorem pr_tl {p : P2} (h : Pr K H v p) : Tl K Ri H v [p.1, p.2] := by
  obtain ⟨a, rfl, h⟩ := h
  exact ⟨a, _, rfl, h, .cons rfl (.cons rfl .nil)⟩
theorem tl_pt {a b c : Int} (h : Tl K Ri H v [a, b, c]) : Pt K H v (a, b, c) := by
  obtain ⟨d, vs, rfl, h, p⟩ := h
  rw [paired_int p] at h
  exact ⟨d, rfl, h⟩
theorem tl_pr {a b : Int} (h : Tl K Ri H v [a, b]) : Pr K H v (a, b) := by
  obtain ⟨d, vs, rfl, h, p⟩ := h
  rw [paired_int p] at h
  exact ⟨d, rfl, h⟩
theorem x_nt0 {n : Nte} (h : Nt K H v n) (q : Q (.str n.1) H) : rIxT K v (.int 0) H Q := by
  obtain ⟨a, b, c, rfl, h, _⟩ := h
  exact ⟨a, _, 0, _, rfl, rfl, h, rfl, q⟩
theorem x_nt1 {n : Nte} (h : Nt K H v n) (q : ∀ u, Pt K H u n.2.1 → Q u H) : rIxT K v (.int 1) H Q := by
  obtain ⟨a, b, c, rfl, h, p, _⟩ := h
  exact ⟨a, _, 1, _, rfl, rfl, h, rfl, q _ p⟩
theorem x_nt2 {n : Nte} (h : Nt K H v n) (q : ∀ u, Pr K H u n.2.2 → Q u H) : rIxT K v (.int 2) H Q := by
  obtain ⟨a, b, c, rfl, h, _, p⟩ := h
  exact ⟨a, _, 2, _, rfl, rfl, h, rfl, q _ p⟩
/-- .. that end in a plain value -/
theorem x_spi1 {R1 : Rel α} {pre : α → Prop} {f : α → Int} (h1 : R1 H v1 x1) (h : ∀ H', Same H H' → Q (V.int (f x1)) H') (hp : pre x1) : sp1 R1 pre Ri f [v1] H Q E :=
  ⟨v1, x1, rfl, h1, hp, fun H' v s r => by cases r; exact h H' s⟩
theorem x_spi2 {R1 : Rel α} {R2 : Rel β} {pre : α → β → Prop} {f : α → β → Int} (h1 : R1 H v1 x1) (h2 : R2 H v2 x2) (h : ∀ H', Same H H' → Q (V.int (f x1 x2)) H') (hp : pre x1 x2) : sp2 R1 R2 pre Ri f [v1, v2] H Q E :=
  ⟨v1, v2, x1, x2, rfl, h1, h2, hp, fun H' v s r => by cases r; exact h H' s⟩
theorem x_spi3 {R1 : Rel α} {R2 : Rel β} {R3 : Rel γ} {pre : α → β → γ → Prop} {f : α → β → γ → Int} (h1 : R1 H v1 x1) (h2 : R2 H v2 x2) (h3 : R3 H v3 x3) (h : ∀ H', Same H H' → Q (V.int (f x1 x2 x3)) H') (hp : pre x1 x2 x3) : sp3 R1 R2 R3 pre Ri f [v1, v2, v3] H Q E :=
  ⟨v1, v2, v3, x1, x2, x3, rfl, h1, h2, h3, hp, fun H' v s r => by cases r; exact h H' s⟩
theorem x_spb1 {R1 : Rel α} {pre : α → Prop} {f : α → Bool} (h1 : R1 H v1 x1) (h : ∀ H', Same H H' → Q (V.bl (f x1)) H') (hp : pre x1) : sp1 R1 pre Rb f [v1] H Q E :=
  ⟨v1, x1, rfl, h1, hp, fun H' v s r => by cases r; exact h H' s⟩
theorem x_spb2 {R1 : Rel α} {R2 : Rel β} {pre : α → β → Prop} {f : α → β → Bool} (h1 : R1 H v1 x1) (h2 : R2 H v2 x2) (h : ∀ H', Same H H' → Q (V.bl (f x1 x2)) H') (hp : pre x1 x2) : sp2 R1 R2 pre Rb f [v1, v2] H Q E :=
  ⟨v1, v2, x1, x2, rfl, h1, h2, hp, fun H' v s r => by cases r; exact h H' s⟩
theorem x_spb3 {R1 : Rel α} {R2 : Rel β} {R3 : Rel γ} {pre : α → β → γ → Prop} {f : α → β → γ → Bool} (h1 : R1 H v1 x1) (h2 : R2 H v2 x2) (h3 : R3 H v3 x3) (h : ∀ H', Same H H' → Q (V.bl (f x1 x2 x3)) H') (hp : pre x1 x2 x3) : sp3 R1 R2 R3 pre Rb f [v1, v2, v3] H Q E :=
  ⟨v1, v2, v3, x1, x2, x3, rfl, h1, h2, h3, hp, fun H' v s r => by cases r; exact h H' s⟩
theorem x_sps1 {R1 : Rel α} {pre : α → Prop} {f : α → Str} (h1 : R1 H v1 x1) (h : ∀ H', Same H H' → Q (V.str (f x1)) H') (hp : pre x1) : sp1 R1 pre Rs f [v1] H Q E :=
  ⟨v1, x1, rfl, h1, hp, fun H' v s r => by cases r; exact h H' s⟩
theorem x_sps2 {R1 : Rel α} {R2 : Rel β} {pre : α → β → Prop} {f : α → β → Str} (h1 : R1 H v1 x1) (h2 : R2 H v2 x2) (h : ∀ H', Same H H' → Q (V.str (f x1 x2)) H') (hp : pre x1 x2) : sp2 R1 R2 pre Rs f [v1, v2] H Q E :=
  ⟨v1, v2, x1, x2, rfl, h1, h2, hp, fun H' v s r => by cases r; exact h H' s⟩
theorem x_sps3 {R1 : Rel α} {R2 : Rel β} {R3 : Rel γ} {pre : α → β → γ → Prop} {f : α → β → γ → Str} (h1 : R1 H v1 x1) (h2 : R2 H v2 x2) (h3 : R3 H v3 x3) (h : ∀ H', Same H H' → Q (V.str (f x1 x2 x3)) H') (hp : pre x1 x2 x3) : sp3 R1 R2 R3 pre Rs f [v1, v2, v3] H Q E :=
  ⟨v1, v2, v3, x1, x2, x3, rfl, h1, h2, h3, hp, fun H' v s r => by cases r; exact h H' s⟩
theorem x_spn1 {R1 : Rel α} {pre : α → Prop} {f : α → Unit} (h1 : R1 H v1 x1) (h : ∀ H', Same H H' → Q V.non H') (hp : pre x1) : sp1 R1 pre Rn f [v1] H Q E :=
  ⟨v1, x1, rfl, h1, hp, fun H' v s r => by cases r; exact h H' s⟩
theorem x_spn2 {R1 : Rel α} {R2 : Rel β} {pre : α → β → Prop} {f : α → β → Unit} (h1 : R1 H v1 x1) (h2 : R2 H v2 x2) (h : ∀ H', Same H H' → Q V.non H') (hp : pre x1 x2) : sp2 R1 R2 pre Rn f [v1, v2] H Q E :=
  ⟨v1, v2, x1, x2, rfl, h1, h2, hp, fun H' v s r => by cases r; exact h H' s⟩
theorem x_spn3 {R1 : Rel α} {R2 : Rel β} {R3 : Rel γ} {pre : α → β → γ → Prop} {f : α → β → γ → Unit} (h1 : R1 H v1 x1) (h2 : R2 H v2 x2) (h3 : R3 H v3 x3) (h : ∀ H', Same H H' → Q V.non H') (hp : pre x1 x2 x3) : sp3 R1 R2 R3 pre Rn f [v1, v2, v3] H Q E :=
  ⟨v1, v2, v3, x1, x2, x3, rfl, h1, h2, h3, hp, fun H' v s r => by cases r; exact h H' s⟩
theorem x_exT {A B : Prop} (h : A) : ∃ c, V.bl true = V.bl c ∧ if c = true then A else B := ⟨true, rfl, by rw [if_pos rfl]; exact h⟩
theorem x_exF {A B : Prop} (h : B) : ∃ c, V.bl false = V.bl c ∧ if c = true then A else B := ⟨false, rfl, by rw [if_neg (by decide)]; exact h⟩
theorem x_exB {b : Bool} {A B : Prop} (h1 : b = true → A) (h2 : b = false → B) : ∃ c, V.bl b = V.bl c ∧ if c = true then A else B := ⟨b, rfl, x_ite h1 h2⟩
theorem x_exG {b : Bool} {F : Bool → Prop} (h : F b) : ∃ k, V.bl b = V.bl k ∧ F k := ⟨b, rfl, h⟩
theorem x_ifNT {A B : Prop} (h : B) : if (!true) = true then A else B := by rw [if_neg (by decide)]; exact h
theorem x_ifNF {A B : Prop} (h : A) : if (!false) = true then A else B := by rw [if_pos (by decide)]; exact h
theorem x_ifT {A B : Prop} (h : A) : if true = true then A else B := by rw [if_pos rfl]; exact h
theorem x_ifF {A B : Prop} (h : B) : if false = true then A else B := by rw [if_neg (by decide)]; exact h
/-- a new object at any free place -/
def atR (Q : VK) (o : HO) (H : Hp) : Prop := ∀ p, H p = none → Q (.ref p) (upd H p o)
theorem x_tupW {tas : TA} (h : tas σ H fun xs H1 => xs.length ≤ sizeLine ∧ atR Q (.tup xs) H1) : tTup tas σ H Q := h
theorem x_lstW {tas : TA} (h : tas σ H fun xs H1 => xs.length ≤ sizeLine ∧ atR Q (.lst xs) H1) : tLst tas σ H Q := h
theorem x_at {xs : List V} {o : HO} (hl : xs.length ≤ 100000) (h : ∀ p H2, H p = none → Same H H2 → H2 p = some o → Q (.ref p) H2) : xs.length ≤ sizeLine ∧ atR Q o H := ⟨sz_ok hl, x_new h⟩
/-- the promises, the condition last -/
theorem x_spr1 {R1 : Rel α} {pre : α → Prop} {R : Rel δ} {f : α → δ} (h1 : R1 H v1 x1) (h : ∀ H' v, Same H H' → R H' v (f x1) → Q v H') (hp : pre x1) : sp1 R1 pre R f [v1] H Q E := ⟨v1, x1, rfl, h1, hp, h⟩
theorem x_spr2 {R1 : Rel α} {R2 : Rel β} {pre : α → β → Prop} {R : Rel δ} {f : α → β → δ} (h1 : R1 H v1 x1) (h2 : R2 H v2 x2) (h : ∀ H' v, Same H H' → R H' v (f x1 x2) → Q v H') (hp : pre x1 x2) : sp2 R1 R2 pre R f [v1, v2] H Q E := ⟨v1, v2, x1, x2, rfl, h1, h2, hp, h⟩
theorem x_spr3 {R1 : Rel α} {R2 : Rel β} {R3 : Rel γ} {pre : α → β → γ → Prop} {R : Rel δ} {f : α → β → γ → δ} (h1 : R1 H v1 x1) (h2 : R2 H v2 x2) (h3 : R3 H v3 x3) (h : ∀ H' v, Same H H' → R H' v (f x1 x2 x3) → Q v H') (hp : pre x1 x2 x3) : sp3 R1 R2 R3 pre R f [v1, v2, v3] H Q E :=
  ⟨v1, v2, v3, x1, x2, x3, rfl, h1, h2, h3, hp, h⟩
end
/-- what the top has of the built-in names and tables -/
structure Ty (K : PySem.W.Frag) (mg : Str → Option Value) (nA rA : Addr) : Prop extends Tx K mg where
  nought : mg "NOUGHT" = some (.ref nA)
  noughtT : ∀ H, Pt K H (.ref nA) (0, 0, 1)
  round : mg "ROUND" = some (.ref rA)
  roundT : ∀ H, Tl K (Pr K) H (.ref rA) [(1, 0), (0, 1), (-1, 0), (0, -1)]
  most : ∃ t, mg "MOST_NOTES" = some (.int 12 t)
theorem cx_K {CX : CXT} {P : Program} {w : World} {K : PySem.W.Frag} {mg : Str → Option Value} {base : Heap} {N : List Str} {x : Str} {sc : Scope} {f : Addr} {cdv : Value} {A : Around} {outer : List Env} {s : Shared} {H : Hp} {E : XK} : (cxOf CX P w K mg base N x sc f cdv A outer s H E).K = K := rfl
theorem cxn_K {CX : CXT} {P : Program} {w : World} {K : PySem.W.Frag} {mg : Str → Option Value} {base : Heap} {N : List Str} {x : Str} {sc : Scope} {f : Addr} {cdv : Value} {A : Around} {outer : List Env} {s : Shared} {H : Hp} {E : XK} : (cxOf CX P w K mg base N x sc f cdv A outer s H E).nox.K = K := rfl
theorem cxn_P {CX : CXT} {P : Program} {w : World} {K : PySem.W.Frag} {mg : Str → Option Value} {base : Heap} {N : List Str} {x : Str} {sc : Scope} {f : Addr} {cdv : Value} {A : Around} {outer : List Env} {s : Shared} {H : Hp} {E : XK} : (cxOf CX P w K mg base N x sc f cdv A outer s H E).nox.prog = P := rfl
theorem cxn_w {CX : CXT} {P : Program} {w : World} {K : PySem.W.Frag} {mg : Str → Option Value} {base : Heap} {N : List Str} {x : Str} {sc : Scope} {f : Addr} {cdv : Value} {A : Around} {outer : List Env} {s : Shared} {H : Hp} {E : XK} : (cxOf CX P w K mg base N x sc f cdv A outer s H E).nox.w = w := rfl
theorem bt_abs : bootBuiltins "abs" = some (.builtin "abs") := PyProof.Rows.boot_abs
theorem bt_all : bootBuiltins "all" = some (.builtin "all") := PyProof.Rows.boot_all
theorem bt_any : bootBuiltins "any" = some (.builtin "any") := PyProof.Rows.boot_any
theorem bt_divmod : bootBuiltins "divmod" = some (.builtin "divmod") := PyProof.Rows.boot_divmod
theorem bt_isinstance : bootBuiltins "isinstance" = some (.builtin "isinstance") := PyProof.Rows.boot_isinstance
theorem bt_len : bootBuiltins "len" = some (.builtin "len") := by decide +kernel
theorem bt_max : bootBuiltins "max" = some (.builtin "max") := PyProof.Rows.boot_max
theorem bt_min : bootBuiltins "min" = some (.builtin "min") := PyProof.Rows.boot_min
theorem bt_repr : bootBuiltins "repr" = some (.builtin "repr") := PyProof.Rows.boot_repr
theorem bt_sorted : bootBuiltins "sorted" = some (.builtin "sorted") := PyProof.Rows.boot_sorted
theorem bt_sum : bootBuiltins "sum" = some (.builtin "sum") := PyProof.Rows.boot_sum
theorem bt_int : bootBuiltins "int" = some (.type "int") := PyProof.Rows.boot_int
theorem bt_bool : bootBuiltins "bool" = some (.type "bool") := PyProof.Rows.boot_bool
theorem bt_str : bootBuiltins "str" = some (.type "str") := PyProof.Rows.boot_str
theorem bt_list : bootBuiltins "list" = some (.type "list") := PyProof.Rows.boot_list
theorem bt_tuple : bootBuiltins "tuple" = some (.type "tuple") := PyProof.Rows.boot_tuple
theorem bt_set : bootBuiltins "set" = some (.type "set") := PyProof.Rows.boot_set
/-! ### what the defs compute -/
def sid (n : P2) (c : P3) : P3 := low (n.1 * c.2.2, n.2 * c.2.2, n.1 * c.1 + n.2 * c.2.1)
def vl (s p : P3) : Int := s.1 * p.1 + s.2.1 * p.2.1 - s.2.2 * p.2.2
def pac (n : Nte) : P3 := low (n.2.1.1 * n.2.2.2, n.2.1.2.1 * n.2.2.2, n.2.1.2.2 * n.2.2.1)
def ledP (p : P3) (r : P2) : P3 := low (p.1 * r.1, p.2.1 * r.1, p.2.2 * r.2)
def sumP (p q : P3) : P3 := low (p.1 * q.2.2 + q.1 * p.2.2, p.2.1 * q.2.2 + q.2.1 * p.2.2, p.2.2 * q.2.2)
def anti (p : P3) : P3 := (0 - p.1, 0 - p.2.1, p.2.2)
/-- one number that all lowest wholes divide, of few bits -/
def Lc (B : Nat) (ps : List P3) : Prop := ∃ U : Int, 0 < U ∧ Sm B U ∧ ∀ p ∈ ps, p.2.2 ∣ U
/-- points that a hull is asked of -/
structure HP (ps : List P3) : Prop where
  ne : ps ≠ []
  vp : ∀ p ∈ ps, Vp p
  bd : ∀ p ∈ ps, Bd 1000 p
  lc : Lc 4000 ps
  few : ps.length ≤ 60
/-- a polygon that sides are asked of -/
structure Pg (S : List P3) : Prop where
  cnv : Cnv S
  bd : ∀ p ∈ S, Bd 1000 p
  few : S.length ≤ 1000
/-- a figure -/
structure Fig (S : List P3) : Prop where
  hp : HP S
  fix : hul S = S
  two : 2 < S.length
  nou : hasB S (0, 0, 1) = true
structure NtV (n : Nte) : Prop where
  wd : n.1 = "made" ∨ n.1 = "barred"
  vp : Vp n.2.1
  bd : Bd 900 n.2.1
  t1 : 0 < n.2.2.1
  t2 : 0 < n.2.2.2
  tg : gc n.2.2.1 n.2.2.2 = 1
  tb : Bq 10 n.2.2
def pacs (ns : List Nte) (w : Str) : List P3 := (ns.filter fun n => decide (n.1 = w)).map pac
def lea (ns : List Nte) : List P3 := hul ((0, 0, 1) :: pacs ns "made")
/-- the first notes -/
structure Wn (ns : List Nte) : Prop where
  nv : ∀ n ∈ ns, NtV n
  bd : ∀ n ∈ ns, Bd 40 (pac n)
  few : ns.length ≤ 6
/-- other notes -/
structure On (ns : List Nte) : Prop where
  nv : ∀ n ∈ ns, NtV n
  few : ns.length ≤ 12
def opn (ns : List Nte) : Bool := !(pacs ns "barred").any (hasB (lea ns))
def brs (ns : List Nte) (P : List P3) : Bool := (pacs ns "barred").any (hasB (hul (lea ns ++ P)))
def wrd (ns : List Nte) (P : List P3) : Str := if P.all (hasB (lea ns)) = true then "sure" else if brs ns P = true then "never" else "open"
def due (n : Nte) : Str := if n.1 = "made" then "sure" else "never"
def tld (ns : List Nte) (n : Nte) : Bool := decide (wrd ns [pac n] = due n)
end K87
/-! Lists that change, slices, while, the set of pairs. -/
namespace K87
open PySem PySem.Spec PyProof.Rows L2 K8
section
variable {α β γ δ : Type} {P : Program} {w : World} {K : PySem.W.Frag} {σ : L2.St} {H H0 H1 : Hp} {Q : VK} {v v1 v2 v3 x y : V} {E : XK} {ta te : TE} {tas : TA} {tb : TS} {c : TT} {D : Ends} {g : TG} {sl : List Nat} {wi : TI}
/-! ### slices, joined lists -/
theorem x_sl {r : V → Option Int → Option Int → Hp → VK → Prop} {tl th : TO} (h : te σ H fun x H1 => tl σ H1 fun l H2 => th σ H2 fun u H3 => r x l u H3 Q) : tSl r te tl th σ H Q := h
theorem x_np {QO : Option Int → Hp → Prop} (h : QO none H) : tNoPart σ H QO := h
theorem x_pt {QO : Option Int → Hp → Prop} (h : ta σ H fun x H1 => ∃ i, x = .int i ∧ QO (some i) H1) : tPart ta σ H QO := h
theorem x_exI {B : Int → Prop} {i : Int} (h : B i) : ∃ j, V.int i = .int j ∧ B j := ⟨i, rfl, h⟩
theorem cut_m1 (vs : List V) : cutV vs none (some (-1)) = vs.dropLast := by
  unfold cutV
  have e1 : HT.sIx vs.length 0 none = 0 := rfl
  have e2 : HT.sIx vs.length vs.length (some (-1)) = vs.length - 1 := by
    show (if (-1 : Int) < 0 then ((-1 : Int) + (vs.length : Int)).toNat else min (-1 : Int).toNat vs.length) = vs.length - 1
    rw [if_pos (by decide)]
    omega
  rw [e1, e2, List.drop_zero, Nat.sub_zero, List.dropLast_eq_take]
theorem paired_dropLast {R : V → α → Prop} : ∀ {vs : List V} {xs : List α}, Paired R vs xs → Paired R vs.dropLast xs.dropLast
  | _, _, .nil => .nil
  | _, _, .cons r .nil => .nil
  | _, _, .cons r (.cons r2 t) => by
    rw [List.dropLast_cons₂, List.dropLast_cons₂]
    exact .cons r (paired_dropLast (.cons r2 t))
theorem paired_rev {R : V → α → Prop} {vs : List V} {xs : List α} (h : Paired R vs xs) : Paired R vs.reverse xs.reverse := by
  induction h with
  | nil => exact .nil
  | cons r _ ih =>
    rw [List.reverse_cons, List.reverse_cons]
    exact paired_snoc ih r
theorem x_cutm1 {R : Rel α} [MonoT K R] {xs : List α} (h : Ll K R H v xs) (q : ∀ H' u, Same H H' → Hs K R H' u xs.dropLast → Q u H') : rSlL K v none (some (-1)) H Q := by
  obtain ⟨a, vs, rfl, s, p⟩ := h
  refine ⟨a, vs, rfl, s, fun l hl => q _ _ (same_new hl) ⟨l, _, rfl, upd_same, ?_⟩⟩
  rw [cut_m1]
  exact paired_up (paired_dropLast p) fun u z (k : R H u z) => up_t (K := K) (R := R) (sm_tk (same_new hl)) k
def rRevQ (K : PySem.W.Frag) (x : V) (H : Hp) (Q : VK) : Prop := ∃ a xs, x = .ref a ∧ SqL K H a xs ∧ ∀ p, H p = none → Q (.ref p) (upd H p (.lst xs.reverse))
theorem x_rev0 (h : te σ H fun x H1 => rRevQ K x H1 Q) : tRevL K te σ H Q := h
theorem x_rev {R : Rel α} [MonoT K R] {xs : List α} (h : Ll K R H v xs) (q : ∀ H' u, Same H H' → Hs K R H' u xs.reverse → Q u H') : rRevQ K v H Q := by
  obtain ⟨a, vs, rfl, s, p⟩ := h
  exact ⟨a, vs, rfl, s, fun l hl => q _ _ (same_new hl) ⟨l, _, rfl, upd_same, paired_up (paired_rev p) fun u z (k : R H u z) => up_t (K := K) (R := R) (sm_tk (same_new hl)) k⟩⟩
theorem x_cat {R : Rel α} [MonoT K R] {xs ys : List α} (hx : Hs K R H v1 xs) (hy : Hs K R H v2 ys) (hl : xs.length + ys.length ≤ 100000) (q : ∀ H' u, Same H H' → Nl K R H H' u (xs ++ ys) → Q u H') : rCat v1 v2 H Q := by
  obtain ⟨a, vs, rfl, s, p⟩ := hx
  obtain ⟨b, ws, rfl, s2, p2⟩ := hy
  refine ⟨a, b, vs, ws, rfl, rfl, s, s2, sz_ok (by rw [p.length, p2.length]; exact hl), fun l hl => q _ _ (same_new hl) ⟨l, _, rfl, hl, upd_same, ?_⟩⟩
  exact paired_app (paired_up p fun u z (k : R H u z) => up_t (K := K) (R := R) (sm_tk (same_new hl)) k) (paired_up p2 fun u z (k : R H u z) => up_t (K := K) (R := R) (sm_tk (same_new hl)) k)
theorem x_cutp {xs : List P2} (h : Ll K (Pr K) H v xs) (q : ∀ H' u, Same H H' → Hs K (Pr K) H' u xs.dropLast → Q u H') : rSlL K v none (some (-1)) H Q := x_cutm1 h q
theorem x_revp {xs : List P2} (h : Ll K (Pr K) H v xs) (q : ∀ H' u, Same H H' → Hs K (Pr K) H' u xs.reverse → Q u H') : rRevQ K v H Q := x_rev h q
/-! ### append, pop -/
theorem x_bm {r : V → List V → Hp → VK → Prop} (h : ta σ H fun x H1 => tyV K "list" x H1 ∧ tas σ H1 fun xs H2 => r x xs H2 Q) : tBM K "list" r ta tas σ H Q := h
theorem x_bm0 {r : V → List V → Hp → VK → Prop} (h : ta σ H fun x H1 => tyV K "list" x H1 ∧ r x [] H1 Q) : tBM0 K "list" r ta σ H Q := h
theorem x_tyl {l : Addr} {xs : List V} {B : Prop} (h : H l = some (.lst xs)) (k : B) : tyV K "list" (.ref l) H ∧ B := ⟨.inl ⟨rfl, _, SqL.of h⟩, k⟩
theorem mk_set {l : Addr} {xs ys : List V} (h : H l = some (.lst xs)) : Mk K l H (upd H l (.lst ys)) := ⟨fun b o n q => by rw [upd_ne n]; exact q, km_tk (m := l) (fun b o n q => by rw [upd_ne n]; exact q) h⟩
theorem x_app {l : Addr} {xs : List V} (h : H l = some (.lst xs)) (hl : xs.length < 100000) (q : ∀ H', Mk K l H H' → H' l = some (.lst (xs ++ [y])) → Q .non H') : rAppend (.ref l) [y] H Q :=
  ⟨l, xs, y, rfl, rfl, h, sz_lt' hl, q _ (mk_set h) upd_same⟩
theorem x_pop {l : Addr} {xs : List V} (h : H l = some (.lst (xs ++ [y]))) (q : ∀ H', Mk K l H H' → H' l = some (.lst xs) → Q y H') : rPop (.ref l) [] H Q :=
  ⟨l, _, y, rfl, rfl, h, by simp, q _ (by rw [List.dropLast_concat]; exact mk_set h) (by rw [List.dropLast_concat]; exact upd_same)⟩
theorem mk_keep {l m : Addr} {o : HO} (k : Mk K l H H1) (h : H m = some o) (n : m ≠ l) : H1 m = some o := k.km _ _ n h
theorem atI_m1 {vs : List V} {a : V} : atI (vs ++ [a]) (-1) = some a := atI_last vs a
theorem atI_m2 {vs : List V} {a b : V} : atI (vs ++ [a] ++ [b]) (-2) = some a := by
  have hl : (vs ++ [a] ++ [b]).length = vs.length + 2 := by simp
  have e : ixN (vs ++ [a] ++ [b]).length (-2) = some vs.length := by
    unfold ixN
    rw [hl, if_neg (by decide), if_pos (by omega)]
    congr 1
    omega
  unfold atI
  rw [e]
  simp
theorem x_ixm1 {l : Addr} {vs : List V} {a : V} (h : H l = some (.lst (vs ++ [a]))) (q : Q a H) : rIxL K (.ref l) (.int (-1)) H Q := ⟨l, _, -1, a, rfl, rfl, SqL.of h, atI_m1, q⟩
theorem x_ixm2 {l : Addr} {vs : List V} {a b : V} (h : H l = some (.lst (vs ++ [a] ++ [b]))) (q : Q a H) : rIxL K (.ref l) (.int (-2)) H Q := ⟨l, _, -2, a, rfl, rfl, SqL.of h, atI_m2, q⟩
theorem paired_last {R : V → α → Prop} {vs : List V} {xs : List α} {x : α} (h : Paired R vs (xs ++ [x])) : ∃ ws w, vs = ws ++ [w] ∧ Paired R ws xs ∧ R w x := by
  have h2 := paired_rev h
  have e0 : (xs ++ [x]).reverse = x :: xs.reverse := by simp
  rw [e0] at h2
  cases e : vs.reverse with
  | nil => rw [e] at h2; cases h2
  | cons w ws =>
    rw [e] at h2
    cases h2 with
    | cons r t =>
      refine ⟨ws.reverse, w, by rw [← List.reverse_cons, ← e, List.reverse_reverse], ?_, r⟩
      have t2 := paired_rev t
      rw [List.reverse_reverse] at t2
      exact t2
/-! ### while -/
theorem x_while (Pv : Nat → L2.St → Hp → Prop) (m0 : Nat) (h0 : Pv m0 σ H) (hs : ∀ m σ H, Pv m σ H → c σ H fun b H1 => if b = true then ∃ N : L2.St → Hp → Prop, (∀ σ' H', N σ' H' → ∃ m', m' < m ∧ Pv m' σ' H') ∧ tb { D with nx := N, ct := N, bk := D.nx } σ H1 else D.nx σ H1) : tWhile c tb D σ H := ⟨Pv, ⟨m0, h0⟩, hs⟩
/-- for x in a list that stays -/
theorem fk_Ls {R : Rel α} {xs : List α} {a : Addr} {ys : List V} (s : SqL K H a ys) (pr : Paired (R H) ys xs) (Pv : Nat → L2.St → Hp → Prop) (h0 : Pv 0 σ H) (hk : ∀ i σ' H', Pv i σ' H' → SqL K H' a ys)
    (hs : ∀ (i : Nat) x u σ' H', xs[i]? = some x → R H u x → Pv i σ' H' → g u σ' H' fun σ2 H2 => tb { D with nx := Pv (i + 1), ct := Pv (i + 1), bk := D.nx } σ2 H2) (hd : ∀ σ' H', Pv xs.length σ' H' → D.nx σ' H') : ∃ a', V.ref a = .ref a' ∧ (∃ ys, SqL K H a' ys) ∧ forK g tb D σ (Itl K a') H := by
  have hl := pr.length
  refine ⟨a, rfl, ⟨ys, s⟩, for_list (xs := ys) Pv h0 (fun i σ' H' _ p => hk i σ' H' p) (fun i x σ' H' hx p => ?_) fun σ' H' p => hd σ' H' (by rw [← hl]; exact p)⟩
  obtain ⟨z, hz, rz⟩ := paired_at2 pr hx
  exact hs i z x σ' H' hz rz p
theorem sql_km {l a : Addr} {ys : List V} (h : SqL K H0 a ys) (e : H0 l = none) (s : Same H0 H) (k : Km l H H1) : SqL K H1 a ys := by
  rcases h with (h | ⟨o, h⟩) | h
  · have n : a ≠ l := fun z => by rw [z, e] at h; cases h
    exact .inl (.inl (k _ _ n (s _ _ h)))
  · have n : a ≠ l := fun z => by rw [z, e] at h; cases h
    exact .inl (.inr ⟨o, k _ _ n (s _ _ h)⟩)
  · exact .inr h
/-! ### the set of pairs -/
def IsSet (P : Program) (w : World) (K : PySem.W.Frag) (H : Hp) (v : V) (ps : List P2) : Prop := ∃ (a : Addr) (L : List (Addr × List Int)), v = .ref a ∧ H a = some (SetTO P w a L) ∧ (∀ p ∈ L, SqT K H p.1 (p.2.map V.int)) ∧ (∀ p ∈ L, p.2.length = 2) ∧ ∀ z, z ∈ L.map (fun p => kp p.2) ↔ z ∈ ps
theorem kp_of {k : List Int} (h : k.length = 2) : k = [(kp k).1, (kp k).2] := by
  match k, h with
  | [i, j], _ => rfl
theorem paired_keys {H' : Hp} : ∀ {L : List (Addr × List Int)}, (∀ p ∈ L, SqT K H' p.1 (p.2.map V.int)) → (∀ p ∈ L, p.2.length = 2) → Paired (Pr K H') (L.map fun q => V.ref q.1) (L.map fun q => kp q.2)
  | [], _, _ => .nil
  | p :: L, h1, h2 => by
    refine .cons ⟨p.1, rfl, ?_⟩ (paired_keys (fun q hq => h1 q (List.mem_cons_of_mem _ hq)) fun q hq => h2 q (List.mem_cons_of_mem _ hq))
    have z := h1 p List.mem_cons_self
    rw [kp_of (h2 p List.mem_cons_self)] at z
    exact z
theorem x_sorted {ps : List P2} (h : IsSet P w K H v ps) (q : ∀ H' u, Same H H' → Hs K (Pr K) H' u (srtD ps) → Q u H') : rSortP K P w [v] H Q := by
  obtain ⟨a, L, rfl, ha, hk, h2, hm⟩ := h
  refine ⟨a, L, rfl, ha, hk, h2, fun L' d pm nd few pw hd => q _ _ (same_new hd) ⟨d, _, rfl, upd_same, ?_⟩⟩
  have h2' : ∀ p ∈ L', p.2.length = 2 := fun p hp => h2 p (pm.mem_iff.mp hp)
  have e : L'.map (fun q => kp q.2) = srtD ps := by
    refine srt_uniq ?_ (srt_srtD ps) fun x => ?_
    · rw [List.pairwise_map]
      have nd' := List.pairwise_map.mp nd
      refine List.Pairwise.imp_of_mem (fun {q r} hq hr h => ?_) (List.Pairwise.and pw nd')
      obtain ⟨h1, hne⟩ := h
      have hne' : kp q.2 ≠ kp r.2 := fun z => hne (by rw [kp_of (h2' q hq), kp_of (h2' r hr), z])
      have nl : ¬ ((kp r.2).1 < (kp q.2).1 ∨ ((kp r.2).1 = (kp q.2).1 ∧ (kp r.2).2 < (kp q.2).2)) := fun z => by
        rw [SrtO.lexB_iff.mpr z] at h1
        cases h1
      have hne2 : ¬ ((kp q.2).1 = (kp r.2).1 ∧ (kp q.2).2 = (kp r.2).2) := fun z => hne' (Prod.ext z.1 z.2)
      unfold lx
      omega
    · rw [mem_srtD, ← hm]
      exact (pm.map _).mem_iff
  rw [← e]
  exact paired_keys (fun p hp => sm_tk (same_new hd) _ _ (hk p (pm.mem_iff.mp hp))) h2'
def stK (P : Program) (w : World) (K : PySem.W.Frag) (g : TG) (te : TE) (vs : List Nat) (σ : L2.St) (Q : VK) : It → Hp → Prop := fun J H1 => ∀ D, H1 D = none → ∃ W : Nat → Nat → Hp → Prop, (∃ m, W 0 m (upd H1 D (SetTO P w D []))) ∧ ∀ i m H, W i m H →
  (J.stop i H ∧ Q (.ref D) H) ∨ (J.go i H ∧ ∃ Nx : Hp → Prop, (∀ H', Nx H' → ∃ m', m' < m ∧ W (i + 1) m' H') ∧ ∀ x H', J.yld i H x H' → g x (wipe σ vs) H' fun σ2 H2 => wipe σ2 vs = wipe σ vs ∧
    te σ2 H2 fun y H4 => ∃ (b : Addr) (k : List Int) (L : List (Addr × List Int)), y = .ref b ∧ SqT K H4 b (k.map V.int) ∧ H4 D = some (SetTO P w D L) ∧ (∀ p ∈ L, SqT K H4 p.1 (p.2.map V.int)) ∧ L.length + 1 < 64 ∧
      ∀ L' : List (Addr × List Int), (k ∈ L.map (·.2) → L' = L) → (k ∉ L.map (·.2) → L'.Perm ((b, k) :: L)) → Nx (upd H4 D (SetTO P w D L')))
theorem x_st0 (h : wi σ H (stK P w K g te sl σ Q)) : tSt P w K wi g te sl σ H Q := h
theorem tk_set {D : Addr} {o o' : HO} (h : H D = some o) (n : ∀ xs, o ≠ .tup xs) (n2 : ∀ b xs, o ≠ .frz b (.tup xs)) : TK K H (upd H D o') := fun a xs q => by
  rcases q with (q | ⟨b, q⟩) | q
  · exact .inl (.inl (by rw [upd_ne (fun z => by rw [z, h] at q; exact n xs (Option.some.inj q))]; exact q))
  · exact .inl (.inr ⟨b, by rw [upd_ne (fun z => by rw [z, h] at q; exact n2 b xs (Option.some.inj q))]; exact q⟩)
  · exact .inr q
theorem st_L {xs : List P3} (f : P3 → P2) (h : Ll K (Pt K) H v xs) (hn : xs.length ≤ 60)
    (hs : ∀ (i : Nat) x u H' (QY : VK), xs[i]? = some x → Same H H' → Pt K H' u x → (∀ y H4, Same H' H4 → Pr K H4 y (f x) → QY y H4) → g u (wipe σ sl) H' fun σ2 H2 => wipe σ2 sl = wipe σ sl ∧ te σ2 H2 QY)
    (hd : ∀ H' v', Same H H' → IsSet P w K H' v' (xs.map f) → Q v' H') : ∃ a, v = .ref a ∧ (∃ ys, SqL K H a ys) ∧ stK P w K g te sl σ Q (Itl K a) H := by
  obtain ⟨a, ys, rfl, s, pr⟩ := h
  have hl := pr.length
  refine ⟨a, rfl, ⟨ys, s⟩, fun D hD => ?_⟩
  refine ⟨fun i m H' => m = ys.length - i ∧ i ≤ ys.length ∧ Same H H' ∧ ∃ L : List (Addr × List Int), H' D = some (SetTO P w D L) ∧ (∀ p ∈ L, SqT K H' p.1 (p.2.map V.int)) ∧ (∀ p ∈ L, p.2.length = 2) ∧ L.length ≤ i ∧ ∀ z : P2, z ∈ L.map (fun p : Addr × List Int => kp p.2) ↔ z ∈ (xs.take i).map f,
    ⟨ys.length, by omega, Nat.zero_le _, same_upd (same_refl H) hD, [], upd_same, (by intro p hp; cases hp), (by intro p hp; cases hp), Nat.le_refl _, (by intro z; simp)⟩, ?_⟩
  rintro i m H' ⟨rfl, hi, hE, L, hA, hT, h2, hL, hm⟩
  have sH' := hE.seq s
  by_cases hlt : i < ys.length
  · refine .inr ⟨walk_list.goes i H' hlt sH', fun H' => i + 1 ≤ ys.length ∧ Same H H' ∧ ∃ L : List (Addr × List Int), H' D = some (SetTO P w D L) ∧ (∀ p ∈ L, SqT K H' p.1 (p.2.map V.int)) ∧ (∀ p ∈ L, p.2.length = 2) ∧ L.length ≤ i + 1 ∧ ∀ z : P2, z ∈ L.map (fun p : Addr × List Int => kp p.2) ↔ z ∈ (xs.take (i + 1)).map f, fun H2 p => ⟨ys.length - (i + 1), by omega, rfl, p⟩, fun x H2 y => ?_⟩
    obtain ⟨rfl, hx⟩ := walk_list.yields i H' x H2 hlt sH' y
    obtain ⟨z, hz, rz⟩ := paired_at2 pr hx
    refine hs i z x _ _ hz hE (up_t (K := K) (R := Pt K) (sm_tk hE) rz) fun y4 H4 e4 p4 => ?_
    obtain ⟨b, rfl, hb⟩ := p4
    have hA4 := e4 _ _ hA
    refine ⟨b, [(f z).1, (f z).2], L, rfl, hb, hA4, fun p hp => sm_tk e4 _ _ (hT p hp), by omega, fun L' c1 c2 => ⟨hlt, same_upd (same_trans hE e4) hD, L', upd_same, ?_⟩⟩
    have tk : ∀ L'', TK K H4 (upd H4 D (SetTO P w D L'')) := fun L'' => tk_set hA4 (fun xs e => by cases e) fun b xs e => by cases e
    have tx : (xs.take (i + 1)).map f = (xs.take i).map f ++ [f z] := by
      rw [List.take_add_one, hz, List.map_append]
      rfl
    by_cases hk : [(f z).1, (f z).2] ∈ L.map (·.2)
    · rw [c1 hk]
      refine ⟨fun p hp => tk _ _ _ (sm_tk e4 _ _ (hT p hp)), h2, by omega, fun t => ?_⟩
      rw [hm, tx, List.mem_append, List.mem_singleton]
      refine ⟨.inl, fun k => k.elim id fun e => ?_⟩
      rw [e, ← hm]
      obtain ⟨p, hp, ep⟩ := List.mem_map.mp hk
      exact List.mem_map.mpr ⟨p, hp, by rw [ep]; rfl⟩
    · have pm := c2 hk
      refine ⟨fun p hp => ?_, fun p hp => ?_, ?_, fun t => ?_⟩
      · rcases List.mem_cons.mp (pm.mem_iff.mp hp) with e | e
        · rw [e]; exact tk _ _ _ hb
        · exact tk _ _ _ (sm_tk e4 _ _ (hT p e))
      · rcases List.mem_cons.mp (pm.mem_iff.mp hp) with e | e
        · rw [e]; rfl
        · exact h2 p e
      · rw [pm.length_eq, List.length_cons]; omega
      · rw [(pm.map fun p => kp p.2).mem_iff, List.map_cons, List.mem_cons, hm, tx, List.mem_append, List.mem_singleton]
        exact Or.comm
  · have e : i = ys.length := by omega
    subst e
    refine .inl ⟨walk_list.stops H' sH', hd H' _ hE ⟨D, L, rfl, hA, hT, h2, fun z => ?_⟩⟩
    rw [hm, hl, List.take_length]
/-- set(a list of pairs) -/
theorem keys_of {H' : Hp} : ∀ {vs : List V} {ps : List P2}, Paired (Pr K H') vs ps → ∃ ks : List (Addr × List Int), vs = ks.map (fun p => V.ref p.1) ∧ (∀ p ∈ ks, SqT K H' p.1 (p.2.map V.int)) ∧ (∀ p ∈ ks, p.2.length = 2) ∧ ks.map (fun p => kp p.2) = ps
  | _, _, .nil => ⟨[], rfl, (by intro p hp; cases hp), (by intro p hp; cases hp), rfl⟩
  | _, _, @Paired.cons _ _ _ _ p _ _ r t => by
    obtain ⟨ks, h1, h2, h3, h4⟩ := keys_of t
    obtain ⟨a, e, ha⟩ := r
    refine ⟨(a, [p.1, p.2]) :: ks, by rw [List.map_cons, ← h1, e], fun q hq => ?_, fun q hq => ?_, by rw [List.map_cons, h4]; rfl⟩
    · rcases List.mem_cons.mp hq with z | z
      · rw [z]; exact ha
      · exact h2 q z
    · rcases List.mem_cons.mp hq with z | z
      · rw [z]; rfl
      · exact h3 q z
theorem x_setof {ps : List P2} (h : Ll K (Pr K) H v ps) (hn : ps.length < 64) (q : ∀ H' u, Same H H' → IsSet P w K H' u ps → Q u H') : rSetOfT K P w [v] H Q := by
  obtain ⟨l, vs, rfl, s, p⟩ := h
  obtain ⟨ks, rfl, h2, h3, h4⟩ := keys_of p
  have hl : ks.length = ps.length := by rw [← h4, List.length_map]
  refine ⟨l, ks, rfl, s, h2, by omega, fun a L ha hs hk => q _ _ (same_new ha) ⟨a, L, rfl, upd_same, fun p hp => sm_tk (same_new ha) _ _ (h2 p (hs p hp)), fun p hp => h3 p (hs p hp), fun z => ?_⟩⟩
  rw [← h4]
  constructor
  · intro hz
    obtain ⟨p, hp, e⟩ := List.mem_map.mp hz
    exact List.mem_map.mpr ⟨p, hs p hp, e⟩
  · intro hz
    obtain ⟨p, hp, e⟩ := List.mem_map.mp hz
    obtain ⟨p', hp', e'⟩ := List.mem_map.mp (hk p hp)
    exact List.mem_map.mpr ⟨p', hp', by rw [e']; exact e⟩
end
end K87
/-! An own error made without arguments, calls of defs that may raise, a call by keywords alone. -/
namespace K87
open PySem PySem.Spec PyProof.Rows L2 K8
section
variable {X : Cx} {k : Nat} {sp : Sp} {ps ks : List Str} {x : Str} {p pos : Pos} {e : Expr} {es : List Expr} {t tk : TA} {E : XK}
/-- X() -/
theorem pmk_own0 {C : Addr} {bmB : List Value} {B newId initId : String} (F : ExcBaseFacts B newId initId bmB) (q : PySem.W.excIn X.K C bmB newId = true) (gC : X.mg x = some (.ref C)) (kC : PySem.W.keepIn X.K (.ref C) = true) (r : Raises X (.ref C)) (hg : Gl X x)
    (hdb : (x == ("__debug__" : Str)) = false := by decide) : PMk X (.Call (.Name x p) [] [] pos) (fun _ H Q => Q (.ref C) none H) := by
  intro pins s0 σ0 H0 Q0 I0 h0
  refine wpAny_Call_Name_kw (ld_glob I0 hg gC ?_ hdb)
  refine PySem.W.callWith_K0 I0.kIn kC ?_
  show wpAny _ _ (call (.ref C) []) _ _ _
  obtain ⟨bm, N, nm, qn, bs, hdct, sn, sub, ab, col, dd, a0, a1, a2, a3, a5, mN, c1, c2, c3, T⟩ := exc_obj I0.kIn q
  exact wpAny_call_exc_subT F T c1 c2 c3 (fun h' a hm => mk_of I0 hm r h0 (I0.hok.gone hm.new)) (Nat.zero_le _)
/-- a call of a def that may raise, its wish the caller's -/
theorem pe_callE (O : OkD X.prog X.w X.K X.mg X.base (CX X.prog X.w) k x ps sp) (hr : Room k X.A) (hg : Gl X x) (hx : Passes (CX X.prog X.w) X E) (ha : PA X (e :: es) t) (hdb : (x == ("__debug__" : Str)) = false := by decide)
    (he : starEach (e :: es) X.env = (false, eval e X.env) :: starEach es X.env := by rfl) (hpl : (backTo pos (starEach es X.env)).any (·.1) = false := by rfl) :
    PE X (.Call (.Name x p) (e :: es) [] pos) (tCallO sp E t) := by
  obtain ⟨f, fd, hm, hk, hb, F⟩ := O.ex
  rw [← callO_eq]
  exact pe_call F hr hg hm hk hb .nil hx ha hdb he hpl
/-- .. in a try -/
theorem pe_callT {W : WX} (O : OkD X.prog X.w X.K X.mg X.base (CX X.prog X.w) k x ps sp) (hr : Room k X.A) (hg : Gl X x) (hx : Takes X W) (ha : PA X (e :: es) t) (hdb : (x == ("__debug__" : Str)) = false := by decide)
    (he : starEach (e :: es) X.env = (false, eval e X.env) :: starEach es X.env := by rfl) (hpl : (backTo pos (starEach es X.env)).any (·.1) = false := by rfl) :
    PE X (.Call (.Name x p) (e :: es) [] pos) (tCallS sp (WE W) t) := by
  obtain ⟨f, fd, hm, hk, hb, F⟩ := O.ex
  exact pe_callS F hr hg hm hk hb (fun σ => passAt hx σ) ha hdb he hpl
theorem pass_no : Passes (CX X.prog X.w) X E0 := fun _ _ _ _ _ _ _ c => by
  obtain ⟨_, _, _, _, _, _, _, _, _, _, _, _, z⟩ := c
  exact z.elim
theorem x_callS {W : WX} {σ : L2.St} {H : Hp} {Q : VK} (h : t σ H fun vs H1 => sp vs H1 Q (WE W σ)) : tCallS sp (WE W) t σ H Q := h
/-- f(k = v, ..), no positional argument -/
theorem pe_call0K {CX' : CXT} {f : Addr} {fd : FuncData} {kws : List Keyword} {g : List Value → List Value → List Value} {gV : List V → List V → List V} (F : FnOk X.prog X.w X.K X.mg X.base CX' k f fd ps sp) (hr : Room k X.A) (hg : Gl X x) (hm : X.mg x = some (.ref f)) (hk : PySem.W.keepIn X.K (.ref f) = true)
    (hb : KBinds X.K fd ps ks g gV) (hx : Passes CX' X E) (hkw : PK X kws tk) (a1 : (backToKw pos (keywordEach kws X.env)).all (·.1.isSome) = true := by rfl) (a2 : (backToKw pos (keywordEach kws X.env)).filterMap (·.1) = ks := by rfl)
    (hdb : (x == ("__debug__" : Str)) = false := by decide) (a3 : ((backTo pos (starEach [] X.env)).any (·.1) || (backToKw pos (keywordEach kws X.env)).any (·.1.isNone)) = false := by rfl) :
    PE X (.Call (.Name x p) [] kws pos) (tCallK sp gV E tNil tk) := by
  refine ⟨fun pins s0 σ0 H0 Q0 I0 h0 => ?_⟩
  refine wpAny_Call_Name_kw (ld_glob I0 hg hm ?_ hdb)
  refine PySem.W.callWith_KW0 (h₀ := X.base) I0.ok.mod.kin hk a1 ?_ a3
  refine thn (hkw.run pos pins s0 σ0 H0 _ I0 h0) fun ws s2 ⟨zs, H2, I2, rz, q2⟩ => ⟨I2.kIn, ?_⟩
  rw [a2]
  exact run_fnk (us := []) F hr hb hx I2 .nil rz q2
/-- two keywords in the other order -/
def swp {α : Type} : List α → List α → List α
  | [], [a, b] => [b, a]
  | _, _ => []
theorem swp_len {α : Type} {us ws : List α} (h : (swp us ws).length = 2) : us = [] ∧ ∃ a b, ws = [a, b] := by
  match us, ws, h with
  | [], [a, b], _ => exact ⟨rfl, a, b, rfl⟩
  | [], [], h => cases h
  | [], [_], h => cases h
  | [], _ :: _ :: _ :: _, h => cases h
  | _ :: _, _, h => cases h
theorem swp_rel {vs : List V} {us : List Value} {zs : List V} {ws : List Value} (r : Vals vs us) (z : Vals zs ws) : Vals (swp vs zs) (swp us ws) := by
  cases r with
  | cons _ _ =>
    cases z <;> exact .nil
  | nil =>
    cases z with
    | nil => exact .nil
    | cons z1 z =>
      cases z with
      | nil => exact .nil
      | cons z2 z =>
        cases z with
        | nil => exact .cons z2 (.cons z1 .nil)
        | cons _ _ => exact .nil
end
/-- the facts of the own error -/
structure Tn (K : PySem.W.Frag) (mg : Str → Option Value) (cA : Addr) : Prop where
  g : mg "NoFigureFits" = some (.ref cA)
  x : PySem.W.excIn K cA [.type "ValueError", .type "Exception", .type "BaseException", .type "object"] "ValueError.__new__" = true
  k : PySem.W.keepIn K (.ref cA) = true
  b : PySem.W.subIn K (.ref cA) (.type "BaseException") = some true
  t : PySem.W.typeIn K (.ref cA) = some (.type "type")
  e : PySem.W.exmOne K (.ref cA) (.ref cA) = some true
end K87
/-! The mug that the law draws from. -/
namespace K87
open PySem PySem.Spec PyProof.Rows L2 K8
/-- a mug's list: what is left of the number, the blend, the count -/
def MugF (o : HO) : Prop := ∃ c b k : Int, o = .lst [.int c, .int b, .int k] ∧ 0 ≤ c ∧ 0 ≤ b ∧ b < 2147483543
section
variable {α β : Type} {K : PySem.W.Frag} {σ : L2.St} {H H' : Hp} {Q : VK} {v : V} {E : XK} {m : Addr} {o : HO} {a b c : V} {to ti : TE} {t : TSet} {QS : L2.St → Hp → Prop} {QH : Hp → Prop}
theorem up_k {R : Rel α} [MonoT K R] {x : α} (s : Mk K m H H') (h : R H v x) : R H' v x := up_t s.tk h
theorem up_kPr {x : P2} (s : Mk K m H H') (h : Pr K H v x) : Pr K H' v x := up_t s.tk h
theorem up_kPt {x : P3} (s : Mk K m H H') (h : Pt K H v x) : Pt K H' v x := up_t s.tk h
theorem up_kNt {x : Nte} (s : Mk K m H H') (h : Nt K H v x) : Nt K H' v x := up_t s.tk h
theorem up_kTp {x : List P3} (s : Mk K m H H') (h : Tl K (Pt K) H v x) : Tl K (Pt K) H' v x := up_t (R := Tl K (Pt K)) s.tk h
theorem up_kTn {x : List Nte} (s : Mk K m H H') (h : Tl K (Nt K) H v x) : Tl K (Nt K) H' v x := up_t (R := Tl K (Nt K)) s.tk h
theorem hm_up (s : Same H H') (h : H m = some o) : H' m = some o := s _ _ h
theorem Ln.sq {R : Rel α} {xs : List α} (h : Sq K R H v xs) : Ln K H v xs.length := h.elim Ln.tl Ln.ll
theorem x_gsub (h : to σ H fun o H1 => ti σ H1 fun i H2 => t o i v H2 fun H3 => QS σ H3) : gSub to ti t v σ H QS := h
theorem x_ml0 (h : H m = some (.lst [a, b, c])) (q : Q a H) : rIxL K (.ref m) (.int 0) H Q := ⟨m, _, 0, a, rfl, rfl, SqL.of h, rfl, q⟩
theorem x_ml1 (h : H m = some (.lst [a, b, c])) (q : Q b H) : rIxL K (.ref m) (.int 1) H Q := ⟨m, _, 1, b, rfl, rfl, SqL.of h, rfl, q⟩
theorem x_ml2 (h : H m = some (.lst [a, b, c])) (q : Q c H) : rIxL K (.ref m) (.int 2) H Q := ⟨m, _, 2, c, rfl, rfl, SqL.of h, rfl, q⟩
theorem x_set0 (h : H m = some (.lst [a, b, c])) (q : ∀ H', Mk K m H H' → H' m = some (.lst [v, b, c]) → QH H') : rSetL (.ref m) (.int 0) v H QH := ⟨m, _, 0, 0, rfl, rfl, h, rfl, q _ (mk_set h) upd_same⟩
theorem x_set1 (h : H m = some (.lst [a, b, c])) (q : ∀ H', Mk K m H H' → H' m = some (.lst [a, v, c]) → QH H') : rSetL (.ref m) (.int 1) v H QH := ⟨m, _, 1, 1, rfl, rfl, h, rfl, q _ (mk_set h) upd_same⟩
theorem x_set2 (h : H m = some (.lst [a, b, c])) (q : ∀ H', Mk K m H H' → H' m = some (.lst [a, b, v]) → QH H') : rSetL (.ref m) (.int 2) v H QH := ⟨m, _, 2, 2, rfl, rfl, h, rfl, q _ (mk_set h) upd_same⟩
/-- a tuple, or a list other than the mug -/
def Sqm (K : PySem.W.Frag) (m : Addr) (R : Rel β) : Rel (List β) := fun H v xs => Tl K R H v xs ∨ ∃ l vs, v = .ref l ∧ l ≠ m ∧ H l = some (.lst vs) ∧ Paired (R H) vs xs
theorem Sqm.up {R : Rel β} [i : MonoT K R] {xs : List β} (k : Mk K m H H') (h : Sqm K m R H v xs) : Sqm K m R H' v xs := by
  rcases h with h | ⟨l, vs, e, n, h, p⟩
  · exact .inl (up_k (K := K) (R := Tl K R) k h)
  · exact .inr ⟨l, vs, e, n, k.km _ _ n h, paired_up p fun u z (q : R H u z) => up_k (K := K) (R := R) k q⟩
theorem Sqm.sq {R : Rel β} {xs : List β} (h : Sqm K m R H v xs) : Sq K R H v xs := by
  rcases h with h | ⟨l, vs, rfl, n, h, p⟩
  · exact .inl h
  · exact .inr ⟨l, vs, rfl, SqL.of h, p⟩
theorem Ln.sqm {R : Rel β} {xs : List β} (h : Sqm K m R H v xs) : Ln K H v xs.length := Ln.sq h.sq
/-- what a draw ends in -/
def Drw (K : PySem.W.Frag) (m : Addr) (H : Hp) (R : Rel β) (P : β → Prop) (Q : VK) : Prop := ∀ H' v o' x, Mk K m H H' → H' m = some o' → MugF o' → R H' v x → P x → Q v H'
end
def pr_w_dip (K : PySem.W.Frag) : Sp := fun vs H Q _ => ∃ m o n, vs = [.ref m, .int n] ∧ H m = some o ∧ MugF o ∧ (0 < n ∧ n ≤ 100000) ∧ Drw K m H Ri (fun d => 0 ≤ d ∧ d < n) Q
def pr_w_pick (K : PySem.W.Frag) : Sp := fun vs H Q _ => ∃ (β : Type) (R : Rel β) (xs : List β) (m : Addr) (o : HO) (v : V), MonoT K R ∧ vs = [.ref m, v] ∧ H m = some o ∧ MugF o ∧ Sqm K m R H v xs ∧ Drw K m H R (fun x => x ∈ xs) Q ∧ xs ≠ [] ∧ xs.length ≤ 1000
def pr_w_whole (K : PySem.W.Frag) : Sp := fun vs H Q _ => ∃ m o n, vs = [.ref m, .int n] ∧ H m = some o ∧ MugF o ∧ (0 ≤ n ∧ n ≤ 1000) ∧ Drw K m H Ri (fun d => -n ≤ d ∧ d ≤ n) Q
def SpanP (r : P2) : Prop := 0 < r.1 ∧ 0 < r.2 ∧ gc r.1 r.2 = 1 ∧ Bq 3 r
def pr_w_span (K : PySem.W.Frag) : Sp := fun vs H Q _ => ∃ m o, vs = [.ref m] ∧ H m = some o ∧ MugF o ∧ Drw K m H (Pr K) SpanP Q
def pr_w_wide (K : PySem.W.Frag) : Sp := fun vs H Q _ => ∃ m o, vs = [.ref m] ∧ H m = some o ∧ MugF o ∧ Drw K m H Ri (fun d => 1 ≤ d ∧ d ≤ 90) Q
def PtP (n : Nat) (p : P3) : Prop := Vp p ∧ Bd n p
def pr_w_point (K : PySem.W.Frag) : Sp := fun vs H Q _ => ∃ m o n, vs = [.ref m, .int n] ∧ H m = some o ∧ MugF o ∧ (0 ≤ n ∧ n ≤ 1000) ∧ Drw K m H (Pt K) (PtP 11) Q
section
variable {β : Type} {K : PySem.W.Frag} {H : Hp} {Q : VK} {v : V} {E : XK} {m : Addr} {o : HO} {n : Int}
theorem x_dip (hm : H m = some o) (ho : MugF o) (hn : 0 < n ∧ n ≤ 100000) (h : ∀ H' d o', Mk K m H H' → H' m = some o' → MugF o' → (0 ≤ d ∧ d < n) → Q (.int d) H') : pr_w_dip K [.ref m, .int n] H Q E :=
  ⟨m, o, n, rfl, hm, ho, hn, fun H' v o' x k h' f r p => by cases r; exact h H' x o' k h' f p⟩
theorem x_whole (hm : H m = some o) (ho : MugF o) (hn : 0 ≤ n ∧ n ≤ 1000) (h : ∀ H' d o', Mk K m H H' → H' m = some o' → MugF o' → (-n ≤ d ∧ d ≤ n) → Q (.int d) H') : pr_w_whole K [.ref m, .int n] H Q E :=
  ⟨m, o, n, rfl, hm, ho, hn, fun H' v o' x k h' f r p => by cases r; exact h H' x o' k h' f p⟩
theorem x_span (hm : H m = some o) (ho : MugF o) (h : ∀ H' u o' x, Mk K m H H' → H' m = some o' → MugF o' → Pr K H' u x → SpanP x → Q u H') : pr_w_span K [.ref m] H Q E := ⟨m, o, rfl, hm, ho, h⟩
theorem x_wide (hm : H m = some o) (ho : MugF o) (h : ∀ H' d o', Mk K m H H' → H' m = some o' → MugF o' → (1 ≤ d ∧ d ≤ 90) → Q (.int d) H') : pr_w_wide K [.ref m] H Q E :=
  ⟨m, o, rfl, hm, ho, fun H' v o' x k h' f r p => by cases r; exact h H' x o' k h' f p⟩
theorem x_point (hm : H m = some o) (ho : MugF o) (hn : 0 ≤ n ∧ n ≤ 1000) (h : ∀ H' u o' x, Mk K m H H' → H' m = some o' → MugF o' → Pt K H' u x → PtP 11 x → Q u H') : pr_w_point K [.ref m, .int n] H Q E := ⟨m, o, n, rfl, hm, ho, hn, h⟩
theorem x_pick {R : Rel β} [i : MonoT K R] {xs : List β} (hm : H m = some o) (ho : MugF o) (hs : Sqm K m R H v xs) (h : ∀ H' u o' x, Mk K m H H' → H' m = some o' → MugF o' → R H' u x → x ∈ xs → Q u H') (h0 : xs ≠ []) (hl : xs.length ≤ 1000) : pr_w_pick K [.ref m, v] H Q E :=
  ⟨β, R, xs, m, o, v, i, rfl, hm, ho, hs, h, h0, hl⟩
theorem x_ixS {R : Rel β} {xs : List β} {i : Nat} {z : β} (h : Sq K R H v xs) (e : xs[i]? = some z) (q : ∀ u, R H u z → Q u H) : rIx K v (.int (i : Int)) H Q := by
  rcases h with h | h
  · exact .inr (.inl (x_ixT h e q))
  · exact .inl (x_ixL h e q)
/-- a list other than the mug -/
def Hm (K : PySem.W.Frag) (m : Addr) (R : Rel β) : Rel (List β) := fun H v xs => ∃ l vs, v = .ref l ∧ l ≠ m ∧ H l = some (.lst vs) ∧ Paired (R H) vs xs
theorem Hm.hs {R : Rel β} {xs : List β} (h : Hm K m R H v xs) : Hs K R H v xs := by
  obtain ⟨l, vs, e, n, h, p⟩ := h
  exact ⟨l, vs, e, h, p⟩
theorem Hm.ll {R : Rel β} {xs : List β} (h : Hm K m R H v xs) : Ll K R H v xs := h.hs.ll
theorem Hm.sqm {R : Rel β} {xs : List β} (h : Hm K m R H v xs) : Sqm K m R H v xs := .inr h
theorem Hm.upk {H' : Hp} {R : Rel β} [i : MonoT K R] {xs : List β} (k : Mk K m H H') (h : Hm K m R H v xs) : Hm K m R H' v xs := by
  obtain ⟨l, vs, e, n, h, p⟩ := h
  exact ⟨l, vs, e, n, k.km _ _ n h, paired_up p fun u z (q : R H u z) => up_k (K := K) (R := R) k q⟩
theorem Hm.ups {H' : Hp} {R : Rel β} [i : MonoT K R] {xs : List β} (s : Same H H') (h : Hm K m R H v xs) : Hm K m R H' v xs := h.upk (sm_mk s)
theorem Nl.hm {H0 : Hp} {R : Rel β} {xs : List β} (hm : H0 m = some o) (h : Nl K R H0 H v xs) : Hm K m R H v xs := by
  obtain ⟨l, vs, e, n, h, p⟩ := h
  exact ⟨l, vs, e, fun z => (by rw [z, hm] at n; cases n), h, p⟩
theorem hm_new {H0 : Hp} {l : Addr} {vs : List V} {R : Rel β} {xs : List β} (hm : H0 m = some o) (n : H0 l = none) (h : H l = some (.lst vs)) (p : Paired (R H) vs xs) : Hm K m R H (.ref l) xs := ⟨l, vs, rfl, fun z => (by rw [z, hm] at n; cases n), h, p⟩
theorem x_cutM {t u : TS} {D : Ends} {σ : L2.St} (Mid : L2.St → Hp → Prop) (h1 : t { D with nx := Mid } σ H) (h2 : ∀ σ' H', Mid σ' H' → u D σ' H') : Evl.tCut t u D σ H := ⟨Mid, h1, h2⟩
/-- a new list beside the mug -/
theorem sqm_ints {H0 : Hp} {l : Addr} {xs : List Int} (hm : H0 m = some o) (hl : H0 l = none) (h : H l = some (.lst (xs.map V.int))) : Sqm K m Ri H (.ref l) xs := .inr ⟨l, _, rfl, fun e => (by rw [e, hm] at hl; cases hl), h, paired_of_int H xs⟩
theorem paired_of_str (H : Hp) : ∀ (bs : List Str), Paired (Rs H) (bs.map V.str) bs
  | [] => .nil
  | b :: bs => .cons rfl (paired_of_str H bs)
theorem sqm_strs {H0 : Hp} {l : Addr} {xs : List Str} (hm : H0 m = some o) (hl : H0 l = none) (h : H l = some (.lst (xs.map V.str))) : Sqm K m Rs H (.ref l) xs := .inr ⟨l, _, rfl, fun e => (by rw [e, hm] at hl; cases hl), h, paired_of_str H xs⟩
theorem sqm_new {R : Rel β} {H0 : Hp} {l : Addr} {vs : List V} {xs : List β} (hm : H0 m = some o) (hl : H0 l = none) (h : H l = some (.lst vs)) (p : Paired (R H) vs xs) : Sqm K m R H (.ref l) xs := .inr ⟨l, _, rfl, fun e => (by rw [e, hm] at hl; cases hl), h, p⟩
end
end K87
/-! A list at its place. -/
namespace K87
open PySem PySem.Spec PyProof.Rows L2 K8
section
variable {α β : Type} {K : PySem.W.Frag} {H H' H0 H2 : Hp} {Q : VK} {v y : V} {m l : Addr} {o : HO} {R : Rel β} {xs : List β}
def Lat (K : PySem.W.Frag) (R : Rel β) (H : Hp) (l : Addr) (xs : List β) : Prop := ∃ vs, H l = some (.lst vs) ∧ Paired (R H) vs xs
theorem Lat.upk [i : MonoT K R] (k : Mk K m H H') (n : l ≠ m) (h : Lat K R H l xs) : Lat K R H' l xs := by
  obtain ⟨vs, h, p⟩ := h
  exact ⟨vs, k.km _ _ n h, paired_up p fun u z (q : R H u z) => up_k (K := K) (R := R) k q⟩
theorem Lat.ups [i : MonoT K R] (s : Same H H') (h : Lat K R H l xs) : Lat K R H' l xs := by
  obtain ⟨vs, h, p⟩ := h
  exact ⟨vs, s _ _ h, paired_up p fun u z (q : R H u z) => up_k (K := K) (R := R) (m := l) (sm_mk s) q⟩
theorem Lat.sqm (n : l ≠ m) (h : Lat K R H l xs) : Sqm K m R H (.ref l) xs := by
  obtain ⟨vs, h, p⟩ := h
  exact .inr ⟨l, vs, rfl, n, h, p⟩
theorem Lat.hs (h : Lat K R H l xs) : Hs K R H (.ref l) xs := by
  obtain ⟨vs, h, p⟩ := h
  exact ⟨l, vs, rfl, h, p⟩
theorem x_appL [i : MonoT K R] {z : β} (h : Lat K R H l xs) (r : R H y z) (q : ∀ H', Mk K l H H' → Lat K R H' l (xs ++ [z]) → Q .non H') (hl : xs.length < 100000) : rAppend (.ref l) [y] H Q := by
  obtain ⟨vs, h, p⟩ := h
  exact x_app (K := K) h (by rw [p.length]; exact hl) fun H' k h' => q H' k ⟨_, h', paired_snoc (paired_up p fun u z (q : R H u z) => up_k (K := K) (R := R) k q) (up_k (K := K) (R := R) k r)⟩
theorem x_tylL {B : Prop} (h : Lat K R H l xs) (k : B) : tyV K "list" (.ref l) H ∧ B := by
  obtain ⟨vs, h, _⟩ := h
  exact x_tyl h k
/-- a list that was not there changes -/
theorem mk_side (a : Mk K m H H') (b : Mk K l H' H2) (n : H l = none) : Mk K m H H2 := ⟨fun x u e h => b.km _ _ (ne_of_none h n) (a.km _ _ e h), a.tk.trans b.tk⟩
end
end K87
/-! repr of data where nothing is under way: a def's promise that asks that no guard stands, its call, the law's end. -/
namespace K87
open PySem PySem.Spec PyProof.Rows L2 K8
/-! ### repr -/
def rRepr (K : PySem.W.Frag) : List V → Hp → VK → Prop := fun vs H Q => ∃ (a : Addr) (d : PyData), vs = [.ref a] ∧ Dp K H (.ref a) d ∧ d.showable = true ∧ d.hasDict = false ∧ d.depth ≤ 60 ∧ d.shown.length ≤ sizeLine ∧ Q (.str d.shown) H
section
variable {X : Cx}
theorem cr_repr (hg : X.A.guards = some []) (hu : X.A.units + 64 < cLine) : CallR X (.builtin "repr") (rRepr X.K) := by
  intro pins s0 σ0 H0 vs us Q0 I0 r0 h0
  obtain ⟨a, d, rfl, hd, h1, h2, h3, h4, q⟩ := h0
  rw [Vals.ref1 r0]
  obtain ⟨as, rd⟩ := Dp.reads I0 d (.ref a) (.ref a) hd rfl
  exact repr_of_reads' rd h1 (fun z => by rw [h2] at z; cases z) hg (by omega) (fun _ _ e => e) (fun h' u tk k => ⟨.str d.shown, H0, I0.kept (t' := tk) k, ⟨u, rfl⟩, q⟩) h4
end
/-! ### a def's promise where no guard stands -/
structure FnG (P : Program) (w : World) (K : PySem.W.Frag) (mg : Str → Option Value) (base : Heap) (k : Nat) (f : Addr) (fd : FuncData) (ps : List Str) (sp : Sp) : Prop where
  ln : ∀ vs H Q E, sp vs H Q E → vs.length = ps.length
  go : ∀ (B : Around) (out : List Env) (s0 : Shared) (H0 : Hp) (ar : Args) (us : List Value) (vs : List V) (Q0 : VK) (E : XK), B.guards = some [] → Room k B → Env0 P w K mg base B out s0 H0 → BindsTo s0 fd ar (ps.zip us) → Vals vs us → sp vs H0 Q0 E →
    codeAny (model P w) B (.call (.ref f) ar) (CR CX0 out P w H0 s0 Q0 E) s0
structure OkG (P : Program) (w : World) (K : PySem.W.Frag) (mg : Str → Option Value) (base : Heap) (k : Nat) (x : Str) (ps : List Str) (sp : Sp) : Prop where
  ex : ∃ (f : Addr) (fd : FuncData), mg x = some (.ref f) ∧ PySem.W.keepIn K (.ref f) = true ∧ Binds K fd ps [] ∧ FnG P w K mg base k f fd ps sp
section
variable {P : Program} {w : World} {K : PySem.W.Frag} {mg : Str → Option Value} {base : Heap} {k : Nat} {f : Addr} {x : Str} {st : Stmt} {fd : FuncData} {N ps : List Str} {sp : Sp}
theorem FnG.ok (F : FnP K x st f fd) (S : FnScope N ps (defScope st)) (ln : ∀ vs H Q E, sp vs H Q E → vs.length = ps.length)
    (bd : ∀ (cdv : Value) (B : Around) (out : List Env) (s0 : Shared) (H0 : Hp) (vs : List V) (Q0 : VK) (E : XK), B.guards = some [] → Room k (B.deeper (envOfC x (defScope st) s0.heap.objs.size f cdv)) → sp vs H0 Q0 E →
      ∃ t, PSs (cxOf CX0 P w K mg base N x (defScope st) f cdv B out s0 H0 E) (defBody st) t ∧ t { nx := fun _ H' => Q0 .non H', rt := Q0 } (L2.start N vs) H0) : FnG P w K mg base (k + 1) f fd ps sp := by
  obtain ⟨oc, od, dV, kV, doc, pm, an, cdv, ct, osl, rfl, lk, hcd, _, _⟩ := F.ex
  constructor
  · exact ln
  intro B out s0 H0 ar us vs Q0 E hg room e0 bnd rel prom
  have kIn : K.In s0.heap := e0.mod.kin.keeps (fun b o z => (e0.bs b o z).1)
  have noL : s0.heap.NoLimit := e0.mod.nolimit.keeps (fun b o z => (e0.bs b o z).1)
  refine codeAny_call_function room.depth (kIn _ _ lk) rfl S.co S.gen rfl (PySem.W.codeRec_of kIn hcd) (bnd _ _ _ _ ?_)
  have kinds : ∀ y ∈ ps.zip us, (defScope st).names.lookup y.1 = some .local ∨ ((defScope st).names.lookup y.1 = some .cell ∧ ((cellsFrom (s0.heap.objs.size + 1) (defScope st).names []).lookup y.1).isSome = true) := by
    rintro ⟨z, v⟩ hz
    exact (S.par z (List.of_mem_zip hz).1).imp id fun c => ⟨c, PySem.W.cellsFrom_some _ _ _ (.inl c)⟩
  refine wpAny_newFunctionEnv_cells S.kind kinds (fun env he s1 ic => ?_)
  subst he
  refine ⟨noL.keeps ic.toInCall.keep, codeAny_func ?_⟩
  obtain ⟨t, pt, qt⟩ := bd cdv B out s0 H0 vs Q0 E hg (room.deeper _) prom
  have I1 := inv_start (CX := CX0) (P := P) (w := w) (mg := mg) (base := base) (E := E) S room.hd e0 (ln _ _ _ _ prom) rel ic
  refine wpAny_mono (pt.run [] s1 _ H0 _ I1 qt) (fun fl s2 e => ?_) (fun _ _ z => z)
  cases fl with
  | ret u =>
    obtain ⟨v, σ2, H2, J, rv, qv⟩ := e
    exact ⟨v, H2, J.os, J.bare, J.base, J.hok, rv, qv⟩
  | next =>
    obtain ⟨σ2, H2, J, qv⟩ := e
    exact ⟨.non, H2, J.os, J.bare, J.base, J.hok, rfl, qv⟩
  | brk =>
    obtain ⟨_, _, _, z⟩ := e
    cases z
  | cont =>
    obtain ⟨_, _, _, z⟩ := e
    cases z
end
section
variable {X : Cx} {k : Nat} {sp : Sp} {ps : List Str} {x : Str} {p pos : Pos} {e : Expr} {es : List Expr} {t : TA}
theorem pe_callG (O : OkG X.prog X.w X.K X.mg X.base k x ps sp) (gd : X.A.guards = some []) (room : Room k X.A) (gl : Gl X x) (ar : PA X (e :: es) t) (hdb : (x == ("__debug__" : Str)) = false := by decide)
    (st : starEach (e :: es) X.env = (false, eval e X.env) :: starEach es X.env := by rfl) (pl : (backTo pos (starEach es X.env)).any (·.1) = false := by rfl) : PE X (.Call (.Name x p) (e :: es) [] pos) (tCallO sp E0 t) := by
  obtain ⟨f, fd, g1, g2, g3, F⟩ := O.ex
  refine ⟨fun pins s0 σ0 H0 Q0 I0 h0 => wpAny_Call_Name_kw (ld_glob I0 gl g1 ?_ hdb)⟩
  refine PySem.W.callWith_K (h₀ := X.base) I0.ok.mod.kin g2 (thn (ar.run pos pins s0 σ0 H0 _ I0 h0) ?_) st pl
  rintro us s1 ⟨vs, H1, I1, r1, q1⟩
  refine ⟨I1.kIn, wpAny_call ?_⟩
  have l1 : us.length = ps.length := r1.length.symm.trans (F.ln _ _ _ _ q1)
  have b1 := g3 s1 us I1.kIn (by rw [List.append_nil]; exact l1)
  rw [List.append_nil] at b1
  refine codeAny_mono (F.go X.A X.stack s1 H1 _ us vs Q0 E0 gd room I1.env0 b1 r1 q1) (fun r s2 z => ?_)
  match r, z with
  | .ok (.ret u), z => exact I1.after z
  | .ok .next, z => exact z.elim
  | .ok .brk, z => exact z.elim
  | .ok .cont, z => exact z.elim
  | .error e, z => exact z.elim
end
end K87
/-! The law's end for a promise that asks that no guard stands. -/
namespace K87
open PySem PySem.Spec PyProof.Rows L2 K8
section
variable {P : Program} {w : World} {K : PySem.W.Frag} {mg mb : Str → Option Value} {k : Nat} {fa a : Addr} {fd : FuncData} {x : Str} {sp : Sp} {s1 : Shared} {vs : List Value} {ns : List Int}
/-- the goal of the end -/
def EndG (P : Program) (w : World) (fa a : Addr) (s1 : Shared) : Prop :=
  codeAny (model P w) callerA (.call (.ref fa) ⟨[.ref a], []⟩) (fun r s' => r = .ok (.ret (.bool true)) ∧ OldK s1.heap s'.heap ∧ s'.os = s1.os ∧ AllBare s'.gens) s1
/-- from one abstract heap -/
theorem end_from (kin : K.In s1.heap) (g1 : s1.heap.Ns mainGlobals mg) (g2 : s1.heap.Ns builtinsNs mb) (g3 : ∀ y : Str, y ≠ "__name__" → mb y = bootBuiltins y) (g4 : s1.heap.NoLimit) (g5 : s1.gens = #[])
    (la : s1.heap.get? a = some { cls := .type "list", data := .seq vs.toArray }) (room : Room k callerA)
    (F : ∀ B : Heap, K.In B → B.Ns mainGlobals mg → FnG P w K mg B k fa fd [x] sp) (bnd : ∀ (t : Shared) (u : Value), BindsTo t fd ⟨[u], []⟩ [(x, u)])
    (H0 : Hp) (only : Only H0) (pr : sp [.ref a] H0 (fun v _ => v = .bl true) fun _ _ _ => False) (hok : HOk P w H0 s1.heap) (one : ∀ b, H0 b ≠ none → b = a) (out : H0 a ≠ none → K.lookup a = none) : EndG P w fa a s1 := by
  have free : ∀ {b : Addr} {ob : Obj}, s1.heap.get? b = some ob → (∀ its n, ob.data ≠ .seq its n) → H0 b = none := by
    intro b ob hb nd
    cases z : H0 b with
    | none => rfl
    | some u =>
      have e := one b (fun y => by rw [z] at y; cases y)
      rw [e, la] at hb
      cases hb
      exact (nd _ _ rfl).elim
  have still : ∀ {b : Addr} {mm : Str → Option Value}, s1.heap.Ns b mm → (hidT s1.heap H0).Ns b mm := by
    rintro b mm ⟨ob, es, ep, h1, h2, h3⟩
    exact ⟨ob, es, ep, hidT_get h1 (free h1 (fun its n z => by rw [h2] at z; cases z)), h2, h3⟩
  have kinB : K.In (hidT s1.heap H0) := by
    intro b ob hb
    refine hidT_get (kin b ob hb) ?_
    cases z : H0 b with
    | none => rfl
    | some u =>
      have e := one b (fun y => by rw [z] at y; cases y)
      have lk := out (fun y => by rw [← e, z] at y; cases y)
      rw [e, lk] at hb
      cases hb
  obtain ⟨mc, c1, c2⟩ := g4
  have md : Mod K mg (hidT s1.heap H0) := ⟨kinB, still g1, ⟨mb, still g2, g3⟩, ⟨mc, still c1, c2⟩⟩
  have nil0 : ∀ b : Addr, b ∈ frs [] → H0 b = none := by
    intro b hb
    cases (show b ∈ ([] : List Addr) from hb)
  have env : Env0 P w K mg (hidT s1.heap H0) callerA [] s1 H0 := ⟨rfl, md, fun b ob e => of_hidT e, Nat.le_of_eq (hidT_size _ _), trivial, nil0, hok, AllBare.of_eq g5⟩
  have run := (F _ kinB (still g1)).go callerA [] s1 H0 ⟨[.ref a], []⟩ [.ref a] [.ref a] (fun v _ => v = .bl true) (fun _ _ _ => False) rfl room env (bnd s1 (.ref a)) (.cons rfl .nil) pr
  refine codeAny_mono run (fun r s2 z => ?_)
  match r, z with
  | .ok .next, z => exact z.elim
  | .ok .brk, z => exact z.elim
  | .ok .cont, z => exact z.elim
  | .error e, z => exact z.elim
  | .ok (.ret u), z =>
    obtain ⟨v, H2, os2, bare2, un, hok2, rv, tv⟩ := z
    have tv : v = .bl true := tv
    rw [tv] at rv
    have rv : u = Value.bool true := rv
    refine ⟨by rw [rv], OldK.of_keep (fun b ob hb => ?_), os2, bare2⟩
    cases y : H0 b with
    | none => exact un.keep b ob hb y (fun q => by cases (show b ∈ ([] : List Addr) from q)) (fun q => by cases (show b ∈ ([] : List Addr) from q))
    | some u2 =>
      rcases only b with q | ⟨o2, xs, q⟩
      · rw [q] at y
        cases y
      · obtain ⟨e1, _⟩ := hok b _ q
        obtain ⟨e2, _⟩ := hok2 b _ (un.frzs b o2 _ q)
        rw [hb] at e1
        cases e1
        exact e2
theorem end_law (kin : K.In s1.heap) (g1 : s1.heap.Ns mainGlobals mg) (g2 : s1.heap.Ns builtinsNs mb) (g3 : ∀ y : Str, y ≠ "__name__" → mb y = bootBuiltins y) (g4 : s1.heap.NoLimit) (g5 : s1.gens = #[])
    (la : s1.heap.get? a = some { cls := .type "list", data := .seq vs.toArray }) (inb : IntsAre vs ns) (few : ns.length ≤ sizeLine) (room : Room k callerA)
    (F : ∀ B : Heap, K.In B → B.Ns mainGlobals mg → FnG P w K mg B k fa fd [x] sp) (bnd : ∀ (t : Shared) (u : Value), BindsTo t fd ⟨[u], []⟩ [(x, u)])
    (pr : ∀ H0 : Hp, Only H0 → SqL K H0 a (ns.map V.int) → sp [.ref a] H0 (fun v _ => v = .bl true) fun _ _ _ => False) : EndG P w fa a s1 := by
  have rel := vals_ints inb
  have eqn := inb.length
  cases lk : K.lookup a with
  | some ob =>
    have same := kin a ob lk
    rw [la] at same
    cases same
    have sq : SqL K (fun _ => none) a (ns.map V.int) := .inr ⟨_, vs.toArray, _, lk, rfl, rfl, rfl, by rw [List.size_toArray, eqn]; exact few, by simpa using rel⟩
    refine end_from kin g1 g2 g3 g4 g5 la room F bnd (fun _ => none) (fun _ => .inl rfl) (pr _ (fun _ => .inl rfl) sq) ?_ (fun b z => absurd rfl z) (fun z => absurd rfl z)
    intro b u z
    cases (show (none : Option HO) = some u from z)
  | none =>
    obtain ⟨hp0, eh⟩ : ∃ hp0 : Hp, hp0 = fun b => if b = a then some (.frz { cls := .type "list", data := .seq vs.toArray } (.lst (ns.map V.int))) else none := ⟨_, rfl⟩
    have at_ : hp0 a = some (.frz { cls := .type "list", data := .seq vs.toArray } (.lst (ns.map V.int))) := by rw [eh]; exact if_pos rfl
    have off : ∀ b, b ≠ a → hp0 b = none := fun b n => by rw [eh]; exact if_neg n
    have only : Only hp0 := fun b => by
      by_cases n : b = a
      · exact .inr ⟨_, _, by rw [n]; exact at_⟩
      · exact .inl (off b n)
    refine end_from kin g1 g2 g3 g4 g5 la room F bnd hp0 only (pr _ only (.inl (.inr ⟨_, at_⟩))) (fun b u z => ?_) (fun b z => ?_) (fun _ => lk)
    · by_cases n : b = a
      · rw [n, at_] at z
        cases z
        rw [n]
        exact ⟨la, by rw [List.length_map]; exact few, vs, _, rel, la⟩
      · rw [off b n] at z
        cases z
    · by_cases n : b = a
      · exact n
      · exact absurd (off b n) z
end
/-- the end of a law's row -/
theorem walk_ofG {l : PySem.W.OpenLaw} {n k : Nat} {q : Program} {loose : List Str} {XP : (Str → Option Value) → Heap → Prop} {YP : World → Heap → Prop} {d : DefRec} {x : Str}
    (most : l.most = some n) (few : n ≤ sizeLine) (df : d.params.defaults = []) (room : Room k callerA)
    (F : ∀ (w : World) (mg : Str → Option Value) (fa : Addr) (h : Heap), YP w h → h.Ns mainGlobals mg → mg d.name = some (.ref fa) →
      ∃ (K : PySem.W.Frag) (fd : FuncData) (sp : Sp), K.In h ∧ (∀ (t : Shared) (u : Value), BindsTo t fd ⟨[u], []⟩ [(x, u)]) ∧
        (∀ (H0 : Hp) (a : Addr) (ns : List Int), ns.length ≤ n → Only H0 → SqL K H0 a (ns.map V.int) → sp [.ref a] H0 (fun v _ => v = .bl true) fun _ _ _ => False) ∧
        ∀ B : Heap, K.In B → B.Ns mainGlobals mg → FnG l.prog w K mg B k fa fd [x] sp) :
    PySem.W.WalkO q loose XP YP l.row.toRowW d [] (fun f vs => PySem.call f vs) := by
  refine Att.attach_call most df (fun w t0 t1 mg mb fa o pm cd doc a vs ns G Y c1 c2 c3 c4 c5 c6 c7 c8 => ?_)
  obtain ⟨K, fd, sp, kin, bnd, pr, FF⟩ := F w mg fa _ Y G.T.g c4
  exact end_law kin G.T.g G.T.b G.T.builtins G.T.nolimit c8 c5 c6 (Nat.le_trans c7 few) room FF bnd (fun H0 h1 h2 => pr H0 a ns c7 h1 h2)
end K87
local macro_rules | `(tactic| walk_at "k ln") => `(tactic| first
  | assumption
  | exact K87.Ln.tl (by assumption)
  | exact K87.Ln.ll (by assumption)
  | exact K87.Ln.hs (by assumption)
  | exact K87.Ln.nl (by assumption)
  | exact K87.Ln.sq (by assumption)
  | exact K87.Ln.sqm (by assumption)
  | ((apply K87.Ln.up (by assumption)); (walk_at "k ln")))
local macro_rules | `(tactic| walk_at "k hl") => `(tactic| first
  | assumption
  | ((apply K87.Hm.ups (by assumption)); (walk_at "k hl"))
  | ((apply K87.Hm.upk (by assumption)); (walk_at "k hl")))
local macro_rules | `(tactic| walk_at "k fx") => `(tactic| first
  | assumption
  | exact rfl
  | exact K87.pt_new (by assumption)
  | exact K87.pr_new (by assumption)
  | exact K87.pt_tl (by assumption)
  | exact K87.pr_tl (by assumption)
  | exact K87.Nl.ll (by assumption)
  | exact K87.Hs.ll (by assumption)
  | exact K87.Nl.hs (by assumption)
  | ((refine K87.up_s (by assumption) ?_); (walk_at "k fx"))
  | ((refine K87.up_t (by assumption) ?_); (walk_at "k fx"))
  | ((apply K87.up_kPr (by assumption)); (walk_at "k fx"))
  | ((apply K87.up_kPt (by assumption)); (walk_at "k fx"))
  | ((apply K87.up_kNt (by assumption)); (walk_at "k fx"))
  | ((apply K87.up_kTp (by assumption)); (walk_at "k fx"))
  | ((apply K87.up_kTn (by assumption)); (walk_at "k fx")))
local macro_rules | `(tactic| walk_at "k sa") => `(tactic| first
  | assumption
  | exact K87.same_refl _
  | ((refine K87.same_trans ?_ (by assumption)); (walk_at "k sa")))
local macro_rules | `(tactic| walk_at "k sm") => `(tactic| first
  | assumption
  | (with_reducible exact K87.Bd.x (by assumption))
  | (with_reducible exact K87.Bd.y (by assumption))
  | (with_reducible exact K87.Bd.w (by assumption))
  | (with_reducible exact K87.Bq.x (by assumption))
  | (with_reducible exact K87.Bq.y (by assumption))
  | ((with_reducible apply K87.sm_mul) <;> (walk_at "k sm"))
  | ((with_reducible apply K87.sm_add) <;> (walk_at "k sm"))
  | ((with_reducible apply K87.sm_sub) <;> (walk_at "k sm"))
  | ((with_reducible refine K87.sm_neg ?_) <;> (walk_at "k sm"))
  | exact (show K87.Sm 64 _ from by decide))
local macro_rules | `(tactic| walk_at "k cm") => `(tactic| first
  | ((apply K87.cmulw); (walk_at "k sm"); (walk_at "k sm"); (exact Nat.le_of_ble_eq_true rfl))
  | exact (show L2.CMul _ _ from .inl ⟨by decide, by decide⟩)
  | exact (show (0 : Int) < _ from by decide)
  | exact K87.cdivw (by decide) (show K87.Sm 64 _ from by decide) (by decide))
local macro_rules | `(tactic| walk_at "k hm") => `(tactic| first
  | assumption
  | ((apply K87.hm_up (by assumption)); (walk_at "k hm")))
local macro_rules | `(tactic| walk_at "k mk") => `(tactic| first
  | assumption
  | exact K87.Mk.refl _ _
  | ((refine K87.Mk.trans ?_ (by assumption)); (walk_at "k mk"))
  | ((refine K87.Mk.trans ?_ (K87.sm_mk (by assumption))); (walk_at "k mk")))
local macro_rules | `(tactic| walk_at "k dr") => `(tactic| first
  | ((with_reducible apply K87.x_dip); (walk_at "k hm"); assumption; (exact ⟨by decide, by decide⟩); intro _ _ _ _ _ _ _)
  | ((with_reducible apply K87.x_whole); (walk_at "k hm"); assumption; assumption; intro _ _ _ _ _ _ _)
  | ((with_reducible apply K87.x_span); (walk_at "k hm"); assumption; intro _ _ _ _ _ _ _ _ _)
  | ((with_reducible apply K87.x_wide); (walk_at "k hm"); assumption; intro _ _ _ _ _ _ _)
  | ((with_reducible apply K87.x_point); (walk_at "k hm"); assumption; assumption; intro _ _ _ _ _ _ _ _ _))
local macro_rules | `(tactic| walk_at "k rm") => `(tactic| repeat first
  | (walk_at "k st")
  | (walk_at "k dr"))
local macro_rules | `(tactic| walk_at "k st") => `(tactic| first
  | (with_reducible refine K87.x_seq ?_)
  | (with_reducible refine K87.x_asg ?_)
  | (with_reducible refine K87.x_ret ?_)
  | (with_reducible refine K87.x_ifS ?_)
  | (with_reducible refine K87.x_next ?_)
  | (with_reducible refine K87.x_drop ?_)
  | (with_reducible refine K87.x_gn ?_)
  | (with_reducible refine K87.x_callO ?_)
  | (with_reducible refine K87.x_CB ?_)
  | (with_reducible refine K87.x_cons ?_)
  | (with_reducible refine K87.x_nil ?_)
  | ((with_reducible apply K87.x_var); (exact rfl))
  | (with_reducible refine K87.x_c ?_)
  | (with_reducible refine K87.x_op ?_)
  | (with_reducible refine K87.x_un ?_)
  | (with_reducible refine K87.x_U ?_)
  | (with_reducible refine K87.x_I0 ?_)
  | ((with_reducible refine K87.x_I ?_ ?_); (walk_at "k cm"))
  | (with_reducible refine K87.x_eqI ?_)
  | (with_reducible refine K87.x_neI ?_)
  | (with_reducible refine K87.x_eqS ?_)
  | (with_reducible refine K87.x_neS ?_)
  | ((with_reducible apply K87.x_pt0); (walk_at "k fx"))
  | ((with_reducible apply K87.x_pt1); (walk_at "k fx"))
  | ((with_reducible apply K87.x_pt2); (walk_at "k fx"))
  | ((with_reducible apply K87.x_pr0); (walk_at "k fx"))
  | ((with_reducible apply K87.x_pr1); (walk_at "k fx"))
  | ((with_reducible apply K87.x_nt0); (walk_at "k fx"))
  | ((with_reducible apply K87.x_nt1); (walk_at "k fx"); intro _ _)
  | ((with_reducible apply K87.x_nt2); (walk_at "k fx"); intro _ _)
  | ((with_reducible apply K87.x_spi1); (walk_at "k fx"); intro _ _)
  | ((with_reducible apply K87.x_spi2); (walk_at "k fx"); (walk_at "k fx"); intro _ _)
  | ((with_reducible apply K87.x_spi3); (walk_at "k fx"); (walk_at "k fx"); (walk_at "k fx"); intro _ _)
  | ((with_reducible apply K87.x_spb1); (walk_at "k fx"); intro _ _)
  | ((with_reducible apply K87.x_spb2); (walk_at "k fx"); (walk_at "k fx"); intro _ _)
  | ((with_reducible apply K87.x_spb3); (walk_at "k fx"); (walk_at "k fx"); (walk_at "k fx"); intro _ _)
  | ((with_reducible apply K87.x_sps1); (walk_at "k fx"); intro _ _)
  | ((with_reducible apply K87.x_sps2); (walk_at "k fx"); (walk_at "k fx"); intro _ _)
  | ((with_reducible apply K87.x_sps3); (walk_at "k fx"); (walk_at "k fx"); (walk_at "k fx"); intro _ _)
  | ((with_reducible apply K87.x_spn1); (walk_at "k fx"); intro _ _)
  | ((with_reducible apply K87.x_spn2); (walk_at "k fx"); (walk_at "k fx"); intro _ _)
  | ((with_reducible apply K87.x_spn3); (walk_at "k fx"); (walk_at "k fx"); (walk_at "k fx"); intro _ _)
  | ((with_reducible apply K87.x_spr1); (walk_at "k fx"); intro _ _ _ _)
  | ((with_reducible apply K87.x_spr2); (walk_at "k fx"); (walk_at "k fx"); intro _ _ _ _)
  | ((with_reducible apply K87.x_spr3); (walk_at "k fx"); (walk_at "k fx"); (walk_at "k fx"); intro _ _ _ _)
  | (with_reducible refine K87.x_tupW ?_)
  | (with_reducible refine K87.x_lstW ?_)
  | ((with_reducible refine K87.x_at ?_ ?_); (exact Nat.le_of_ble_eq_true rfl); intro _ _ _ _ _)
  | (with_reducible refine K87.x_test ?_)
  | (with_reducible refine K87.x_B ?_)
  | (with_reducible refine K87.x_exG ?_)
  | (with_reducible refine K87.x_andT ?_)
  | (with_reducible refine K87.x_orT ?_)
  | (with_reducible refine K87.x_notT ?_)
  | (with_reducible refine K87.x_andV ?_)
  | (with_reducible refine K87.x_orV ?_)
  | (with_reducible refine K87.x_notV ?_)
  | (with_reducible refine K87.x_if ?_)
  | (with_reducible refine K87.x_ifT ?_)
  | (with_reducible refine K87.x_ifF ?_)
  | (with_reducible refine K87.x_ifNT ?_)
  | (with_reducible refine K87.x_ifNF ?_)
  | (with_reducible refine K87.x_lc0 ?_)
  | (with_reducible refine K87.x_for0 ?_)
  | (with_reducible refine K87.x_iT ?_)
  | (with_reducible refine K87.x_iL ?_)
  | (with_reducible refine K87.x_iR ?_)
  | (with_reducible refine K87.x_iE ?_)
  | (with_reducible refine K87.x_par ?_)
  | (with_reducible refine K87.x_par2 ?_)
  | ((with_reducible apply K87.x_all); (walk_at "k fx"))
  | ((with_reducible apply K87.x_any); (walk_at "k fx"))
  | ((with_reducible apply K87.x_sum); (walk_at "k fx"))
  | ((with_reducible apply K87.x_inB); (walk_at "k fx"))
  | (with_reducible refine K87.x_gcd ?_)
  | (with_reducible refine K87.x_int1 ?_)
  | (with_reducible refine K87.x_abs ?_)
  | (with_reducible refine K87.x_max2 ?_)
  | (with_reducible refine K87.x_min2 ?_)
  | ((with_reducible apply K87.x_ln); (walk_at "k ln"))
  | (with_reducible refine K87.x_sl ?_)
  | (with_reducible refine K87.x_np ?_)
  | (with_reducible refine K87.x_pt ?_)
  | (with_reducible refine K87.x_exI ?_)
  | ((with_reducible apply K87.x_cutp); (walk_at "k fx"); intro _ _ _ _)
  | (with_reducible refine K87.x_rev0 ?_)
  | ((with_reducible apply K87.x_revp); (walk_at "k fx"); intro _ _ _ _)
  | (with_reducible refine K87.x_bm ?_)
  | (with_reducible refine K87.x_bm0 ?_)
  | ((with_reducible apply K87.x_tyl); assumption)
  | (with_reducible refine K87.x_gsub ?_)
  | ((with_reducible apply K87.x_ml0); assumption)
  | ((with_reducible apply K87.x_ml1); assumption)
  | ((with_reducible apply K87.x_ml2); assumption)
  | ((with_reducible apply K87.x_set0); assumption; intro _ _ _)
  | ((with_reducible apply K87.x_set1); assumption; intro _ _ _)
  | ((with_reducible apply K87.x_set2); assumption; intro _ _ _)
  | ((with_reducible apply K87.x_ixm1); assumption)
  | ((with_reducible apply K87.x_ixm2); assumption)
  | ((with_reducible apply K87.x_sorted); assumption; intro _ _ _ _)
  | (with_reducible refine K87.x_st0 ?_)
  | (with_reducible refine K87.x_gcons ?_)
  | (with_reducible refine K87.x_gnil ?_)
  | ((with_reducible apply K87.x_gpt); (walk_at "k fx"))
  | ((with_reducible apply K87.x_gpr'); (walk_at "k fx")))
local macro_rules | `(tactic| walk_at "k rd") => `(tactic| repeat (walk_at "k st"))
local macro_rules | `(tactic| walk_at "k q") => `(tactic| first
  | (walk_at "k sa")
  | (walk_at "k fx"))
namespace K87
open PySem PySem.Spec PyProof.Rows L2 K8
/-! ### wholes -/
abbrev pr_is_whole (K : PySem.W.Frag) : Sp := sp1 Ri any1 Rb (fun _ => true)
abbrev pr_are_wholes (K : PySem.W.Frag) : Sp := sp2 (Tl K Ri) Ri (fun xs _ => xs.length ≤ 100) Rb (fun xs n => decide ((xs.length : Int) = n))
abbrev pr_common_divisor (K : PySem.W.Frag) : Sp := sp1 (Tl K Ri) (fun xs => xs.length ≤ 100) Ri gcdL
abbrev pr_lowest (K : PySem.W.Frag) : Sp := sp1 (Tl K Ri) (fun xs => xs.length ≤ 100 ∧ 0 < gcdL xs ∧ Sm 8000 (gcdL xs)) (Tl K Ri) (fun xs => xs.map (· / gcdL xs))
abbrev pr_is_lowest (K : PySem.W.Frag) : Sp := sp1 (Tl K Ri) (fun xs => xs.length ≤ 100) Rb (fun xs => decide (gcdL xs = 1))
abbrev pr_is_ratio (K : PySem.W.Frag) : Sp := sp1 (Pr K) (fun p => 0 < p.2 ∧ gc p.1 p.2 = 1) Rb (fun _ => true)
abbrev pr_is_length (K : PySem.W.Frag) : Sp := sp1 (Pr K) (fun p => 0 < p.1 ∧ 0 < p.2 ∧ gc p.1 p.2 = 1) Rb (fun _ => true)
abbrev pr_is_vector (K : PySem.W.Frag) : Sp := sp1 (Pt K) Vp Rb (fun _ => true)
abbrev Ok_is_whole (P : Program) (w : World) (K : PySem.W.Frag) (mg : Str → Option Value) (base : Heap) : Prop := OkD P w K mg base CX0 1 "is_whole" ["value"] (pr_is_whole K)
abbrev Ok_are_wholes (P : Program) (w : World) (K : PySem.W.Frag) (mg : Str → Option Value) (base : Heap) : Prop := OkD P w K mg base CX0 2 "are_wholes" ["value", "many"] (pr_are_wholes K)
abbrev Ok_common_divisor (P : Program) (w : World) (K : PySem.W.Frag) (mg : Str → Option Value) (base : Heap) : Prop := OkD P w K mg base CX0 1 "common_divisor" ["numbers"] (pr_common_divisor K)
abbrev Ok_lowest (P : Program) (w : World) (K : PySem.W.Frag) (mg : Str → Option Value) (base : Heap) : Prop := OkD P w K mg base CX0 2 "lowest" ["numbers"] (pr_lowest K)
abbrev Ok_is_lowest (P : Program) (w : World) (K : PySem.W.Frag) (mg : Str → Option Value) (base : Heap) : Prop := OkD P w K mg base CX0 2 "is_lowest" ["numbers"] (pr_is_lowest K)
abbrev Ok_is_ratio (P : Program) (w : World) (K : PySem.W.Frag) (mg : Str → Option Value) (base : Heap) : Prop := OkD P w K mg base CX0 3 "is_ratio" ["value"] (pr_is_ratio K)
abbrev Ok_is_length (P : Program) (w : World) (K : PySem.W.Frag) (mg : Str → Option Value) (base : Heap) : Prop := OkD P w K mg base CX0 4 "is_length" ["value"] (pr_is_length K)
abbrev Ok_is_vector (P : Program) (w : World) (K : PySem.W.Frag) (mg : Str → Option Value) (base : Heap) : Prop := OkD P w K mg base CX0 3 "is_vector" ["value"] (pr_is_vector K)
section
variable {P : Program} {w : World} {K : PySem.W.Frag} {mg : Str → Option Value} {base : Heap} {nA rA : Addr} {f : Addr} {fd : FuncData}
theorem ok_is_whole (T : Ty K mg nA rA)  (F : FnP K "is_whole" s_is_whole f fd) : FnOk P w K mg base CX0 1 f fd ["value"] (pr_is_whole K) := by
  refine F.ok sc_is_whole (fun vs H Q E h => len1 h) (fun cdv A outer s H vs Q E hr h => ?_)
  obtain ⟨v1, x1, rfl, h1, hp, q⟩ := h
  have nd := sc_is_whole.nd
  refine ⟨_, PSs.nox (pss_one (ps_ret (pe_and (pe_callB call_isi (by rfl) T.isinstance bt_isinstance (pa_cons (pv 0) (pa_cons (pe_bltn (v := .ty "int") rfl T.int bt_int rfl) pa_nil))) (pe_one (pe_not (pe_callB call_isi (by rfl) T.isinstance bt_isinstance (pa_cons (pv 0) (pa_cons (pe_bltn (v := .ty "bool") rfl T.bool bt_bool rfl) pa_nil)))))))), ?_⟩
  try dsimp only [cxn_K, cxn_P, cxn_w, cx_K]
  cases h1
  walk_at "k rd"
  refine x_isi (.base (.int _)) (b := true) (by rfl) ?_
  walk_at "k rd"
  refine x_isi (.base (.int _)) (b := false) (by rfl) ?_
  refine ⟨false, rfl, ?_⟩
  exact q _ _ (same_refl _) rfl
theorem ok_are_wholes (T : Ty K mg nA rA) (O_is_whole : Ok_is_whole P w K mg base) (F : FnP K "are_wholes" s_are_wholes f fd) : FnOk P w K mg base CX0 2 f fd ["value", "many"] (pr_are_wholes K) := by
  refine F.ok sc_are_wholes (fun vs H Q E h => len2 h) (fun cdv A outer s H vs Q E hr h => ?_)
  obtain ⟨v1, v2, x1, x2, rfl, h1, h2, hp, q⟩ := h
  have nd := sc_are_wholes.nd
  refine ⟨_, PSs.nox (pss_one (ps_ret (pe_and (pe_callB call_isi (by rfl) T.isinstance bt_isinstance (pa_cons (pv 0) (pa_cons (pe_bltn (v := .ty "tuple") rfl T.tuple bt_tuple rfl) pa_nil))) (pe_and (pe_cmpR op_eq (pe_callB cq_len (by rfl) T.len bt_len (pa_cons (pv 0) pa_nil)) (pv 1) (nomark _)) (pe_one (pe_callB (cr_all rfl) (by rfl) T.all bt_all (pa_cons (pe_lc (own := [("number", 2)]) (tt := tYes) rfl nd (pi_tup (pv 0)) (blkOk_by (N := ["value", "many", "number"]) (sc := defScope s_are_wholes) (by decide +kernel)) (fun _ _ _ _ _ => (pg_name (i := 2) nd rfl (Or.inl rfl))) (fun _ _ _ _ _ => pts_nil) (fun _ _ _ _ _ => (pe_callO O_is_whole (hr.mono (by decide)) (by rfl) (pa_cons (pv 2) pa_nil)))) pa_nil))))))), ?_⟩
  try dsimp only [cxn_K, cxn_P, cxn_w, cx_K]
  obtain ⟨a, vs, rfl, ht, pr⟩ := h1
  cases h2
  have h1 : Tl K Ri H (.ref a) x1 := ⟨a, vs, rfl, ht, pr⟩
  walk_at "k rd"
  refine x_isi (tyx_tup ht) (b := true) (by rfl) ?_
  walk_at "k rd"
  refine x_ite (fun e => ?_) fun e => ?_
  · walk_at "k rd"
    refine lc_T (R := Ri) (xs := x1) Rb (fun _ => true) h1 (by omega) (fun i x u H' QY hx s r hy => ?_) fun H' v' s n => ?_
    · cases r
      walk_at "k rd"
      refine ⟨rfl, ?_⟩
      walk_at "k rd"
      · exact hy _ _ (by walk_at "k sa") rfl
      · exact trivial
    · walk_at "k rd"
      refine q _ _ s ?_
      show V.bl _ = V.bl (decide ((x1.length : Int) = x2))
      rw [e]
      congr 1
      simp
  · exact q _ _ (same_refl _) (show V.bl _ = V.bl (decide ((x1.length : Int) = x2)) by rw [e])
theorem ok_common_divisor (T : Ty K mg nA rA)  (F : FnP K "common_divisor" s_common_divisor f fd) : FnOk P w K mg base CX0 1 f fd ["numbers"] (pr_common_divisor K) := by
  refine F.ok sc_common_divisor (fun vs H Q E h => len1 h) (fun cdv A outer s H vs Q E hr h => ?_)
  obtain ⟨v1, x1, rfl, h1, hp, q⟩ := h
  have nd := sc_common_divisor.nd
  refine ⟨_, PSs.nox (pss_cons (ps_set (i := 1) nd rfl (Or.inl rfl) pe_int) (pss_cons (ps_for PassesOwn.never rfl (pi_tup (pv 0)) (pg_name (i := 2) nd rfl (Or.inl rfl)) (pss_one (ps_set (i := 1) nd rfl (Or.inl rfl) (pe_callBfun cr_gcd (by rfl) T.gcd (pa_cons (pv 1) (pa_cons (pv 2) pa_nil)))))) (pss_one (ps_ret (pv 1))))), ?_⟩
  try dsimp only [cxn_K, cxn_P, cxn_w, cx_K]
  walk_at "k rd"
  refine fk_T h1 (fun i σ' H' => H' = H ∧ ∃ z, σ' = [some v1, some (.int ((x1.take i).foldl (fun g n => ((Nat.gcd g.natAbs n.natAbs : Nat) : Int)) 0)), z]) ⟨rfl, none, rfl⟩ (fun i σ' H' p => by rw [p.1]; exact TK.refl _) (fun i x u σ' H' hx r p => ?_) fun σ' H' p => ?_
  · obtain ⟨rfl, z, rfl⟩ := p
    cases r
    walk_at "k rd"
    refine ⟨rfl, some (.int x), ?_⟩
    rw [List.take_add_one, hx, List.foldl_append]
    rfl
  · obtain ⟨rfl, z, rfl⟩ := p
    walk_at "k rd"
    refine q _ _ (same_refl _) ?_
    rw [List.take_length]
    rfl
theorem ok_lowest (T : Ty K mg nA rA) (O_common_divisor : Ok_common_divisor P w K mg base) (F : FnP K "lowest" s_lowest f fd) : FnOk P w K mg base CX0 2 f fd ["numbers"] (pr_lowest K) := by
  refine F.ok sc_lowest (fun vs H Q E h => len1 h) (fun cdv A outer s H vs Q E hr h => ?_)
  obtain ⟨v1, x1, rfl, h1, hp, q⟩ := h
  have nd := sc_lowest.nd
  refine ⟨_, PSs.nox (pss_cons (ps_set (i := 1) nd rfl (Or.inr rfl) (pe_callO O_common_divisor (hr.mono (by decide)) (by rfl) (pa_cons (pv 0) pa_nil))) (pss_one (ps_ret (pe_callTy cq_tuple (by rfl) T.tuple bt_tuple (pa_cons (pe_lc (own := [("number", 2)]) (tt := tYes) rfl nd (pi_tup (pv 0)) (blkOk_by (N := ["numbers", "divisor", "number"]) (sc := defScope s_lowest) (by decide +kernel)) (fun _ _ _ _ _ => (pg_name (i := 2) nd rfl (Or.inl rfl))) (fun _ _ _ _ _ => pts_nil) (fun _ _ _ _ _ => (pe_op op_fdivW (pv 2) (pv 1)))) pa_nil))))), ?_⟩
  try dsimp only [cxn_K, cxn_P, cxn_w, cx_K]
  obtain ⟨hl, hg, hs⟩ := hp
  walk_at "k rd"
  · refine lc_T (R := Ri) (xs := x1) Ri (· / gcdL x1) (by walk_at "k fx") (by omega) (fun i x u H' QY hx s' r hy => ?_) fun H' v' s' n => ?_
    · cases r
      walk_at "k rd"
      refine ⟨rfl, ?_⟩
      walk_at "k rd"
      refine x_I (cdivw hg hs (by decide)) ?_
      exact hy _ _ (same_refl _) rfl
    · walk_at "k rd"
      refine x_tupL (R := Ri) n.ll fun H2 u s2 t => ?_
      exact q _ _ (by walk_at "k sa") t
  · exact hl
theorem ok_is_lowest (T : Ty K mg nA rA) (O_common_divisor : Ok_common_divisor P w K mg base) (F : FnP K "is_lowest" s_is_lowest f fd) : FnOk P w K mg base CX0 2 f fd ["numbers"] (pr_is_lowest K) := by
  refine F.ok sc_is_lowest (fun vs H Q E h => len1 h) (fun cdv A outer s H vs Q E hr h => ?_)
  obtain ⟨v1, x1, rfl, h1, hp, q⟩ := h
  have nd := sc_is_lowest.nd
  refine ⟨_, PSs.nox (pss_one (ps_ret (pe_cmpR op_eq (pe_callO O_common_divisor (hr.mono (by decide)) (by rfl) (pa_cons (pv 0) pa_nil)) pe_int (nomark _)))), ?_⟩
  try dsimp only [cxn_K, cxn_P, cxn_w, cx_K]
  walk_at "k rd"
  · exact q _ _ (by walk_at "k sa") rfl
  · exact hp
theorem ok_is_ratio (T : Ty K mg nA rA) (O_is_lowest : Ok_is_lowest P w K mg base) (O_are_wholes : Ok_are_wholes P w K mg base) (F : FnP K "is_ratio" s_is_ratio f fd) : FnOk P w K mg base CX0 3 f fd ["value"] (pr_is_ratio K) := by
  refine F.ok sc_is_ratio (fun vs H Q E h => len1 h) (fun cdv A outer s H vs Q E hr h => ?_)
  obtain ⟨v1, x1, rfl, h1, hp, q⟩ := h
  have nd := sc_is_ratio.nd
  refine ⟨_, PSs.nox (pss_one (ps_ret (pe_and (pe_callO O_are_wholes (hr.mono (by decide)) (by rfl) (pa_cons (pv 0) (pa_cons pe_int pa_nil))) (pe_and (pe_cmpR op_gt (pe_ix (r := rIxT K) ix_tup (pv 0) pe_int (fun _ _ => rfl)) pe_int (nomark _)) (pe_one (pe_callO O_is_lowest (hr.mono (by decide)) (by rfl) (pa_cons (pv 0) pa_nil))))))), ?_⟩
  try dsimp only [cxn_K, cxn_P, cxn_w, cx_K]
  walk_at "k rd"
  · refine x_ite (fun _ => ?_) (fun e => by simp at e)
    walk_at "k rd"
    refine x_ite (fun _ => ?_) (fun e => absurd hp.1 (of_decide_eq_false e))
    walk_at "k rd"
    · refine q _ _ (by walk_at "k sa") ?_
      rw [gcdL2, hp.2]
      rfl
    · exact Nat.le_of_ble_eq_true rfl
  · exact Nat.le_of_ble_eq_true rfl
theorem ok_is_length (T : Ty K mg nA rA) (O_is_ratio : Ok_is_ratio P w K mg base) (F : FnP K "is_length" s_is_length f fd) : FnOk P w K mg base CX0 4 f fd ["value"] (pr_is_length K) := by
  refine F.ok sc_is_length (fun vs H Q E h => len1 h) (fun cdv A outer s H vs Q E hr h => ?_)
  obtain ⟨v1, x1, rfl, h1, hp, q⟩ := h
  have nd := sc_is_length.nd
  refine ⟨_, PSs.nox (pss_one (ps_ret (pe_and (pe_callO O_is_ratio (hr.mono (by decide)) (by rfl) (pa_cons (pv 0) pa_nil)) (pe_one (pe_cmpR op_gt (pe_ix (r := rIxT K) ix_tup (pv 0) pe_int (fun _ _ => rfl)) pe_int (nomark _)))))), ?_⟩
  try dsimp only [cxn_K, cxn_P, cxn_w, cx_K]
  walk_at "k rd"
  · refine q _ _ (by walk_at "k sa") ?_
    show V.bl _ = V.bl _
    rw [decide_eq_true hp.1]
  · exact hp.2
theorem ok_is_vector (T : Ty K mg nA rA) (O_is_lowest : Ok_is_lowest P w K mg base) (O_are_wholes : Ok_are_wholes P w K mg base) (F : FnP K "is_vector" s_is_vector f fd) : FnOk P w K mg base CX0 3 f fd ["value"] (pr_is_vector K) := by
  refine F.ok sc_is_vector (fun vs H Q E h => len1 h) (fun cdv A outer s H vs Q E hr h => ?_)
  obtain ⟨v1, x1, rfl, h1, hp, q⟩ := h
  have nd := sc_is_vector.nd
  refine ⟨_, PSs.nox (pss_one (ps_ret (pe_and (pe_callO O_are_wholes (hr.mono (by decide)) (by rfl) (pa_cons (pv 0) (pa_cons pe_int pa_nil))) (pe_and (pe_cmpR op_gt (pe_ix (r := rIxT K) ix_tup (pv 0) pe_int (fun _ _ => rfl)) pe_int (nomark _)) (pe_one (pe_callO O_is_lowest (hr.mono (by decide)) (by rfl) (pa_cons (pv 0) pa_nil))))))), ?_⟩
  try dsimp only [cxn_K, cxn_P, cxn_w, cx_K]
  walk_at "k rd"
  · refine x_ite (fun _ => ?_) (fun e => by simp at e)
    walk_at "k rd"
    refine x_ite (fun _ => ?_) (fun e => absurd hp.1 (of_decide_eq_false e))
    walk_at "k rd"
    · refine q _ _ (by walk_at "k sa") ?_
      rw [gcdL3, show g3 (x1.1, x1.2.1, x1.2.2) = 1 from hp.2]
      rfl
    · exact Nat.le_of_ble_eq_true rfl
  · exact Nat.le_of_ble_eq_true rfl
end
end K87
namespace K87
open PySem PySem.Spec PyProof.Rows L2 K8
/-! ### lowest terms -/
theorem sm_gcl {n : Nat} {a b : Int} (h : Sm n a) (h0 : a ≠ 0) : Sm n (gc a b) := sm_dvd h h0 (gc_l a b)
theorem sm_gcr {n : Nat} {a b : Int} (h : Sm n b) (h0 : b ≠ 0) : Sm n (gc a b) := sm_dvd h h0 (gc_r a b)
theorem sm_g3 {n : Nat} {p : P3} (h : p.2.2 ≠ 0) (b : Sm n p.2.2) : Sm n (g3 p) := sm_gcr b h
theorem sm_g3x {n : Nat} {p : P3} (h : p.1 ≠ 0 ∨ p.2.1 ≠ 0) (b1 : Sm n p.1) (b2 : Sm n p.2.1) : Sm n (g3 p) := by
  unfold g3
  have hz : gc p.1 p.2.1 ≠ 0 := by
    rcases h with h | h
    · have := gc_pos_l (b := p.2.1) h; omega
    · have := gc_pos_r (a := p.1) h; omega
  refine sm_gcl ?_ hz
  rcases h with h | h
  · exact sm_gcl b1 h
  · exact sm_gcr b2 h
theorem bd_low {n : Nat} {p : P3} (h : 0 < g3 p) (b : Bd n p) : Bd n (low p) := ⟨sm_div b.x h, sm_div b.y h, sm_div b.w h⟩
theorem g3_posw {p : P3} (h : 0 < p.2.2) : 0 < g3 p := g3_pos (.inr (.inr (by omega)))
theorem low_tl {p : P3} : low p = ((low p).1, (low p).2.1, (low p).2.2) := rfl
section
variable {K : PySem.W.Frag} {H : Hp} {v : V} {Q : VK} {E : XK}
/-- lowest of three wholes -/
theorem x_low {a b c : Int} (h1 : Pt K H v (a, b, c)) (h : ∀ H' u, Same H H' → Pt K H' u (low (a, b, c)) → Q u H') (hp : 0 < g3 (a, b, c) ∧ Sm 8000 (g3 (a, b, c))) : pr_lowest K [v] H Q E := by
  refine x_spr1 (pt_tl h1) (fun H' u s r => h H' u s ?_) ⟨Nat.le_of_ble_eq_true rfl, ?_⟩
  · rw [gcdL3] at r
    exact tl_pt r
  · rw [gcdL3]
    exact hp
end
abbrev pr_vector_over (K : PySem.W.Frag) : Sp := sp2 (Pt K) (Pr K) (fun p r => Bd 900 p ∧ Bq 10 r ∧ 0 < p.2.2 ∧ 0 < r.1) (Pt K) (fun p r => low (p.1 * r.2, p.2.1 * r.2, p.2.2 * r.1))
abbrev pr_step_between (K : PySem.W.Frag) : Sp := sp2 (Pt K) (Pt K) (fun p q => Bd 1000 p ∧ Bd 1000 q) (Pr K) stp
abbrev pr_side_at (K : PySem.W.Frag) : Sp := sp2 (Pr K) (Pt K) (fun n c => Bq 2100 n ∧ Bd 1000 c ∧ 0 < c.2.2 ∧ n ≠ (0, 0)) (Pt K) sid
abbrev pr_side_left (K : PySem.W.Frag) : Sp := sp2 (Pt K) (Pt K) (fun p q => Bd 1000 p ∧ Bd 1000 q ∧ 0 < p.2.2 ∧ nrm p q ≠ (0, 0)) (Pt K) (fun p q => sid (nrm p q) p)
abbrev pr_value_at (K : PySem.W.Frag) : Sp := sp2 (Pt K) (Pt K) (fun s p => Bd 4000 s ∧ Bd 1000 p) Ri vl
abbrev pr_are_held (K : PySem.W.Frag) : Sp := sp2 (Tl K (Pt K)) (Pt K) (fun bs p => bs.length ≤ 1000 ∧ (∀ b ∈ bs, Bd 4000 b) ∧ Bd 1000 p) Rb (fun bs p => bs.all fun s => decide (vl s p ≤ 0))
abbrev pr_is_left (K : PySem.W.Frag) : Sp := sp3 (Pr K) (Pr K) (Pr K) (fun a b c => Bq 5000 a ∧ Bq 5000 b ∧ Bq 5000 c) Rb (fun a b c => decide (0 < crs a b c))
abbrev Ok_vector_over (P : Program) (w : World) (K : PySem.W.Frag) (mg : Str → Option Value) (base : Heap) : Prop := OkD P w K mg base CX0 3 "vector_over" ["one", "number"] (pr_vector_over K)
abbrev Ok_step_between (P : Program) (w : World) (K : PySem.W.Frag) (mg : Str → Option Value) (base : Heap) : Prop := OkD P w K mg base CX0 1 "step_between" ["one", "two"] (pr_step_between K)
abbrev Ok_side_at (P : Program) (w : World) (K : PySem.W.Frag) (mg : Str → Option Value) (base : Heap) : Prop := OkD P w K mg base CX0 3 "side_at" ["normal", "point"] (pr_side_at K)
abbrev Ok_side_left (P : Program) (w : World) (K : PySem.W.Frag) (mg : Str → Option Value) (base : Heap) : Prop := OkD P w K mg base CX0 4 "side_left" ["one", "two"] (pr_side_left K)
abbrev Ok_value_at (P : Program) (w : World) (K : PySem.W.Frag) (mg : Str → Option Value) (base : Heap) : Prop := OkD P w K mg base CX0 1 "value_at" ["side", "point"] (pr_value_at K)
abbrev Ok_are_held (P : Program) (w : World) (K : PySem.W.Frag) (mg : Str → Option Value) (base : Heap) : Prop := OkD P w K mg base CX0 2 "are_held" ["borders", "point"] (pr_are_held K)
abbrev Ok_is_left (P : Program) (w : World) (K : PySem.W.Frag) (mg : Str → Option Value) (base : Heap) : Prop := OkD P w K mg base CX0 1 "is_left" ["one", "two", "three"] (pr_is_left K)
section
variable {P : Program} {w : World} {K : PySem.W.Frag} {mg : Str → Option Value} {base : Heap} {nA rA : Addr} {f : Addr} {fd : FuncData}
theorem ok_vector_over (T : Ty K mg nA rA) (O_lowest : Ok_lowest P w K mg base) (F : FnP K "vector_over" s_vector_over f fd) : FnOk P w K mg base CX0 3 f fd ["one", "number"] (pr_vector_over K) := by
  refine F.ok sc_vector_over (fun vs H Q E h => len2 h) (fun cdv A outer s H vs Q E hr h => ?_)
  obtain ⟨v1, v2, x1, x2, rfl, h1, h2, hp, q⟩ := h
  have nd := sc_vector_over.nd
  refine ⟨_, PSs.nox (pss_one (ps_ret (pe_callO O_lowest (hr.mono (by decide)) (by rfl) (pa_cons (pe_tup (pa_cons (pe_op op_mulW (pe_ix (r := rIxT K) ix_tup (pv 0) pe_int (fun _ _ => rfl)) (pe_ix (r := rIxT K) ix_tup (pv 1) pe_int (fun _ _ => rfl))) (pa_cons (pe_op op_mulW (pe_ix (r := rIxT K) ix_tup (pv 0) pe_int (fun _ _ => rfl)) (pe_ix (r := rIxT K) ix_tup (pv 1) pe_int (fun _ _ => rfl))) (pa_cons (pe_op op_mulW (pe_ix (r := rIxT K) ix_tup (pv 0) pe_int (fun _ _ => rfl)) (pe_ix (r := rIxT K) ix_tup (pv 1) pe_int (fun _ _ => rfl))) pa_nil)))) pa_nil)))), ?_⟩
  try dsimp only [cxn_K, cxn_P, cxn_w, cx_K]
  obtain ⟨b1, b2, w1, w2⟩ := hp
  walk_at "k rd"
  have z : 0 < x1.2.2 * x2.1 := Int.mul_pos w1 w2
  refine x_low (by walk_at "k fx") (fun H' u s r => q _ _ (by walk_at "k sa") r) ⟨g3_posw z, sm_up (sm_g3 (by show x1.2.2 * x2.1 ≠ 0; omega) (sm_mul b1.w b2.x)) (by decide)⟩
theorem ok_step_between (T : Ty K mg nA rA)  (F : FnP K "step_between" s_step_between f fd) : FnOk P w K mg base CX0 1 f fd ["one", "two"] (pr_step_between K) := by
  refine F.ok sc_step_between (fun vs H Q E h => len2 h) (fun cdv A outer s H vs Q E hr h => ?_)
  obtain ⟨v1, v2, x1, x2, rfl, h1, h2, hp, q⟩ := h
  have nd := sc_step_between.nd
  refine ⟨_, PSs.nox (pss_one (ps_ret (pe_tup (pa_cons (pe_op op_sub (pe_op op_mulW (pe_ix (r := rIxT K) ix_tup (pv 1) pe_int (fun _ _ => rfl)) (pe_ix (r := rIxT K) ix_tup (pv 0) pe_int (fun _ _ => rfl))) (pe_op op_mulW (pe_ix (r := rIxT K) ix_tup (pv 0) pe_int (fun _ _ => rfl)) (pe_ix (r := rIxT K) ix_tup (pv 1) pe_int (fun _ _ => rfl)))) (pa_cons (pe_op op_sub (pe_op op_mulW (pe_ix (r := rIxT K) ix_tup (pv 1) pe_int (fun _ _ => rfl)) (pe_ix (r := rIxT K) ix_tup (pv 0) pe_int (fun _ _ => rfl))) (pe_op op_mulW (pe_ix (r := rIxT K) ix_tup (pv 0) pe_int (fun _ _ => rfl)) (pe_ix (r := rIxT K) ix_tup (pv 1) pe_int (fun _ _ => rfl)))) pa_nil))))), ?_⟩
  try dsimp only [cxn_K, cxn_P, cxn_w, cx_K]
  obtain ⟨b1, b2⟩ := hp
  walk_at "k rd"
  exact q _ _ (by walk_at "k sa") (by walk_at "k fx")
theorem ok_side_at (T : Ty K mg nA rA) (O_lowest : Ok_lowest P w K mg base) (F : FnP K "side_at" s_side_at f fd) : FnOk P w K mg base CX0 3 f fd ["normal", "point"] (pr_side_at K) := by
  refine F.ok sc_side_at (fun vs H Q E h => len2 h) (fun cdv A outer s H vs Q E hr h => ?_)
  obtain ⟨v1, v2, x1, x2, rfl, h1, h2, hp, q⟩ := h
  have nd := sc_side_at.nd
  refine ⟨_, PSs.nox (pss_cons (ps_asg (pv 0) (pg_tup (n := 2) rfl (pgs_cons (pg_name (i := 2) nd rfl (Or.inl rfl)) (pgs_cons (pg_name (i := 3) nd rfl (Or.inl rfl)) pgs_nil)))) (pss_cons (ps_asg (pv 1) (pg_tup (n := 3) rfl (pgs_cons (pg_name (i := 4) nd rfl (Or.inl rfl)) (pgs_cons (pg_name (i := 5) nd rfl (Or.inl rfl)) (pgs_cons (pg_name (i := 6) nd rfl (Or.inl rfl)) pgs_nil))))) (pss_one (ps_ret (pe_callO O_lowest (hr.mono (by decide)) (by rfl) (pa_cons (pe_tup (pa_cons (pe_op op_mulW (pv 2) (pv 6)) (pa_cons (pe_op op_mulW (pv 3) (pv 6)) (pa_cons (pe_op op_add (pe_op op_mulW (pv 2) (pv 4)) (pe_op op_mulW (pv 3) (pv 5))) pa_nil)))) pa_nil)))))), ?_⟩
  try dsimp only [cxn_K, cxn_P, cxn_w, cx_K]
  obtain ⟨b1, b2, w1, hn⟩ := hp
  walk_at "k rd"
  have z : x1.1 * x2.2.2 ≠ 0 ∨ x1.2 * x2.2.2 ≠ 0 := by
    by_cases h : x1.1 = 0
    · refine .inr (Int.mul_ne_zero (fun e => hn ?_) (by omega))
      exact Prod.ext h e
    · exact .inl (Int.mul_ne_zero h (by omega))
  refine x_low (by walk_at "k fx") (fun H' u s r => q _ _ (by walk_at "k sa") r) ⟨g3_pos (by rcases z with z | z; exact .inl z; exact .inr (.inl z)), sm_up (sm_g3x z (sm_mul b1.x b2.w) (sm_mul b1.y b2.w)) (by decide)⟩
theorem ok_side_left (T : Ty K mg nA rA) (O_step_between : Ok_step_between P w K mg base) (O_side_at : Ok_side_at P w K mg base) (F : FnP K "side_left" s_side_left f fd) : FnOk P w K mg base CX0 4 f fd ["one", "two"] (pr_side_left K) := by
  refine F.ok sc_side_left (fun vs H Q E h => len2 h) (fun cdv A outer s H vs Q E hr h => ?_)
  obtain ⟨v1, v2, x1, x2, rfl, h1, h2, hp, q⟩ := h
  have nd := sc_side_left.nd
  refine ⟨_, PSs.nox (pss_cons (ps_asg (pe_callO O_step_between (hr.mono (by decide)) (by rfl) (pa_cons (pv 0) (pa_cons (pv 1) pa_nil))) (pg_tup (n := 2) rfl (pgs_cons (pg_name (i := 2) nd rfl (Or.inl rfl)) (pgs_cons (pg_name (i := 3) nd rfl (Or.inl rfl)) pgs_nil)))) (pss_one (ps_ret (pe_callO O_side_at (hr.mono (by decide)) (by rfl) (pa_cons (pe_tup (pa_cons (pv 3) (pa_cons (pe_un un_neg (pv 2)) pa_nil))) (pa_cons (pv 0) pa_nil)))))), ?_⟩
  try dsimp only [cxn_K, cxn_P, cxn_w, cx_K]
  obtain ⟨b1, b2, w1, hn⟩ := hp
  walk_at "k rd"
  · exact q _ _ (by walk_at "k sa") (by assumption)
  · exact ⟨⟨sm_up (sm_sub1 (sm_mul b2.y b1.w) (sm_mul b1.y b2.w)) (by decide), sm_up (sm_neg (sm_sub1 (sm_mul b2.x b1.w) (sm_mul b1.x b2.w))) (by decide)⟩, b1, w1, hn⟩
  · exact ⟨b1, b2⟩
theorem ok_value_at (T : Ty K mg nA rA)  (F : FnP K "value_at" s_value_at f fd) : FnOk P w K mg base CX0 1 f fd ["side", "point"] (pr_value_at K) := by
  refine F.ok sc_value_at (fun vs H Q E h => len2 h) (fun cdv A outer s H vs Q E hr h => ?_)
  obtain ⟨v1, v2, x1, x2, rfl, h1, h2, hp, q⟩ := h
  have nd := sc_value_at.nd
  refine ⟨_, PSs.nox (pss_one (ps_ret (pe_op op_sub (pe_op op_add (pe_op op_mulW (pe_ix (r := rIxT K) ix_tup (pv 0) pe_int (fun _ _ => rfl)) (pe_ix (r := rIxT K) ix_tup (pv 1) pe_int (fun _ _ => rfl))) (pe_op op_mulW (pe_ix (r := rIxT K) ix_tup (pv 0) pe_int (fun _ _ => rfl)) (pe_ix (r := rIxT K) ix_tup (pv 1) pe_int (fun _ _ => rfl)))) (pe_op op_mulW (pe_ix (r := rIxT K) ix_tup (pv 0) pe_int (fun _ _ => rfl)) (pe_ix (r := rIxT K) ix_tup (pv 1) pe_int (fun _ _ => rfl)))))), ?_⟩
  try dsimp only [cxn_K, cxn_P, cxn_w, cx_K]
  obtain ⟨b1, b2⟩ := hp
  walk_at "k rd"
  exact q _ _ (by walk_at "k sa") rfl
theorem ok_are_held (T : Ty K mg nA rA) (O_value_at : Ok_value_at P w K mg base) (F : FnP K "are_held" s_are_held f fd) : FnOk P w K mg base CX0 2 f fd ["borders", "point"] (pr_are_held K) := by
  refine F.ok sc_are_held (fun vs H Q E h => len2 h) (fun cdv A outer s H vs Q E hr h => ?_)
  obtain ⟨v1, v2, x1, x2, rfl, h1, h2, hp, q⟩ := h
  have nd := sc_are_held.nd
  refine ⟨_, PSs.nox (pss_one (ps_ret (pe_callB (cr_all rfl) (by rfl) T.all bt_all (pa_cons (pe_lc (own := [("side", 2)]) (tt := tYes) rfl nd (pi_tup (pv 0)) (blkOk_by (N := ["borders", "point", "side"]) (sc := defScope s_are_held) (by decide +kernel)) (fun _ _ _ _ _ => (pg_name (i := 2) nd rfl (Or.inl rfl))) (fun _ _ _ _ _ => pts_nil) (fun _ _ _ _ _ => (pe_cmpR op_le (pe_callO O_value_at (hr.mono (by decide)) (by rfl) (pa_cons (pv 2) (pa_cons (pv 1) pa_nil))) pe_int (nomark _)))) pa_nil)))), ?_⟩
  try dsimp only [cxn_K, cxn_P, cxn_w, cx_K]
  obtain ⟨hl, hb, b2⟩ := hp
  walk_at "k rd"
  refine lc_T (R := Pt K) (xs := x1) Rb (fun s => decide (vl s x2 ≤ 0)) h1 (by omega) (fun i x u H' QY hx s r hy => ?_) fun H' v' s n => ?_
  · walk_at "k rd"
    refine ⟨rfl, ?_⟩
    walk_at "k rd"
    · exact hy _ _ (by walk_at "k sa") rfl
    · exact ⟨hb x (List.mem_of_getElem? hx), b2⟩
  · walk_at "k rd"
    refine q _ _ s ?_
    show V.bl _ = V.bl _
    rw [List.all_map]
    rfl
theorem ok_is_left (T : Ty K mg nA rA)  (F : FnP K "is_left" s_is_left f fd) : FnOk P w K mg base CX0 1 f fd ["one", "two", "three"] (pr_is_left K) := by
  refine F.ok sc_is_left (fun vs H Q E h => len3 h) (fun cdv A outer s H vs Q E hr h => ?_)
  obtain ⟨v1, v2, v3, x1, x2, x3, rfl, h1, h2, h3, hp, q⟩ := h
  have nd := sc_is_left.nd
  refine ⟨_, PSs.nox (pss_one (ps_ret (pe_cmpR op_gt (pe_op op_mulW (pe_op op_sub (pe_ix (r := rIxT K) ix_tup (pv 1) pe_int (fun _ _ => rfl)) (pe_ix (r := rIxT K) ix_tup (pv 0) pe_int (fun _ _ => rfl))) (pe_op op_sub (pe_ix (r := rIxT K) ix_tup (pv 2) pe_int (fun _ _ => rfl)) (pe_ix (r := rIxT K) ix_tup (pv 0) pe_int (fun _ _ => rfl)))) (pe_op op_mulW (pe_op op_sub (pe_ix (r := rIxT K) ix_tup (pv 1) pe_int (fun _ _ => rfl)) (pe_ix (r := rIxT K) ix_tup (pv 0) pe_int (fun _ _ => rfl))) (pe_op op_sub (pe_ix (r := rIxT K) ix_tup (pv 2) pe_int (fun _ _ => rfl)) (pe_ix (r := rIxT K) ix_tup (pv 0) pe_int (fun _ _ => rfl)))) (nomark _)))), ?_⟩
  try dsimp only [cxn_K, cxn_P, cxn_w, cx_K]
  obtain ⟨b1, b2, b3⟩ := hp
  walk_at "k rd"
  refine q _ _ (by walk_at "k sa") ?_
  show V.bl _ = V.bl _
  congr 1
  apply decide_eq_decide.mpr
  unfold crs
  omega
end
end K87
namespace K87
open PySem PySem.Spec PyProof.Rows L2 K8
abbrev pr_chain (K : PySem.W.Frag) : Sp := sp1 (Ll K (Pr K)) (fun rows => rows.length ≤ 1000 ∧ ∀ r ∈ rows, Bq 5000 r) (Hs K (Pr K)) chn
abbrev Ok_chain (P : Program) (w : World) (K : PySem.W.Frag) (mg : Str → Option Value) (base : Heap) : Prop := OkD P w K mg base CX0 2 "chain" ["rows"] (pr_chain K)
theorem push_one {st : List P2} {c : P2} (h : st.length ≤ 1) : push st c = c :: st := by
  match st, h with
  | [], _ => rfl
  | [a], _ => rfl
theorem push_yes {b a : P2} {st : List P2} {c : P2} (h : 0 < crs a b c) : push (b :: a :: st) c = c :: b :: a :: st := by
  show (if 0 < crs a b c then c :: b :: a :: st else push (a :: st) c) = _
  rw [if_pos h]
theorem push_no {b a : P2} {st : List P2} {c : P2} (h : ¬ 0 < crs a b c) : push (b :: a :: st) c = push (a :: st) c := by
  show (if 0 < crs a b c then c :: b :: a :: st else push (a :: st) c) = _
  rw [if_neg h]
theorem mem_push {c x : P2} : ∀ {st : List P2}, x ∈ push st c → x = c ∨ x ∈ st
  | [], h => .inl (List.mem_singleton.mp h)
  | [a], h => List.mem_cons.mp h
  | b :: a :: st, h => by
    by_cases k : 0 < crs a b c
    · rw [push_yes k] at h
      exact List.mem_cons.mp h
    · rw [push_no k] at h
      exact (mem_push h).imp id (List.mem_cons_of_mem _)
theorem mem_pushes {x : P2} : ∀ {rows st : List P2}, x ∈ rows.foldl push st → x ∈ rows ∨ x ∈ st
  | [], st, h => .inr h
  | c :: rows, st, h => by
    rcases mem_pushes (rows := rows) h with k | k
    · exact .inl (List.mem_cons_of_mem _ k)
    · rcases mem_push k with k | k
      · exact .inl (k ▸ List.mem_cons_self)
      · exact .inr k
theorem take_push {rows : List P2} {i : Nat} {x : P2} (hx : rows[i]? = some x) : (rows.take (i + 1)).foldl push [] = push ((rows.take i).foldl push []) x := by
  rw [List.take_add_one, hx, List.foldl_append]
  rfl
section
variable {P : Program} {w : World} {K : PySem.W.Frag} {mg : Str → Option Value} {base : Heap} {nA rA : Addr} {f : Addr} {fd : FuncData}
theorem ok_chain (T : Ty K mg nA rA) (O_is_left : Ok_is_left P w K mg base) (F : FnP K "chain" s_chain f fd) : FnOk P w K mg base CX0 2 f fd ["rows"] (pr_chain K) := by
  refine F.ok sc_chain (fun vs H Q E h => len1 h) (fun cdv A outer s H vs Q E hr h => ?_)
  obtain ⟨v1, x1, rfl, h1, hp, q⟩ := h
  have nd := sc_chain.nd
  refine ⟨_, PSs.nox (pss_cons (ps_set (i := 1) nd rfl (Or.inl rfl) (pe_lst pa_nil)) (pss_cons (ps_for PassesOwn.never rfl (pi_list (pv 0)) (pg_name (i := 2) nd rfl (Or.inl rfl)) (pss_cons (ps_while PassesOwn.never (PW.pt (pw_and (pt_cmpR op_gt (pe_callB cq_len (by rfl) T.len bt_len (pa_cons (pv 1) pa_nil)) pe_int (nomark _)) (pw_and1 (pt_not (pt_val (pe_callO O_is_left (hr.mono (by decide)) (by rfl) (pa_cons (pe_ix (r := rIxL K) ix_list (pv 1) (pe_un un_neg pe_int) (fun _ _ => rfl)) (pa_cons (pe_ix (r := rIxL K) ix_list (pv 1) (pe_un un_neg pe_int) (fun _ _ => rfl)) (pa_cons (pv 2) pa_nil))))))))) (pss_one (ps_expr (pe_bm0 PySem.F.plainAttrs_list PySem.F.slot_list_pop PySem.F.type_list_pop mt_pop (pv 1))))) (pss_one (ps_expr (pe_bm PySem.F.plainAttrs_list PySem.F.slot_list_append PySem.F.type_list_append mt_append (pv 1) (pa_cons (pv 2) pa_nil)))))) (pss_one (ps_ret (pv 1))))), ?_⟩
  try dsimp only [cxn_K, cxn_P, cxn_w, cx_K]
  obtain ⟨a, ys, rfl, s0, pr⟩ := h1
  obtain ⟨hlen, hb⟩ := hp
  walk_at "k rd"
  rename_i l H1 nl s1 hL
  refine fk_Ls (R := Pr K) (xs := x1) (s1.seq s0) (paired_up pr fun u z (k : Pr K H u z) => up_s s1 k) (fun i σ' H' => Mk K l H1 H' ∧ ∃ z acc, σ' = [some (.ref a), some (.ref l), z] ∧ H' l = some (.lst acc) ∧ Paired (Pr K H') acc ((x1.take i).foldl push []).reverse) ⟨Mk.refl _ _, none, [], rfl, hL, .nil⟩ (fun i σ' H' p => sql_km s0 nl s1 p.1.km) (fun i x u σ' H' hx r p => ?_) fun σ' H' p => ?_
  · obtain ⟨k, z, acc, rfl, hA, hP⟩ := p
    have et := take_push hx
    have hb0 : ∀ y ∈ (x1.take i).foldl push [], Bq 5000 y := fun y hy => by
      rcases mem_pushes hy with h | h
      · exact hb y (List.mem_of_mem_take h)
      · cases h
    have ln0 : ((x1.take i).foldl push []).length ≤ 1000 := by
      have := chR_len (x1.take i)
      unfold chR at this
      rw [List.length_take] at this
      omega
    generalize (x1.take i).foldl push [] = st0 at et hP hb0 ln0
    have hbx : Bq 5000 x := hb x (List.mem_of_getElem? hx)
    walk_at "k rd"
    refine x_while (fun m σ' H2 => σ' = [some (.ref a), some (.ref l), some u] ∧ Mk K l H1 H2 ∧ ∃ acc st, m = st.length ∧ H2 l = some (.lst acc) ∧ Paired (Pr K H2) acc st.reverse ∧ push st x = push st0 x ∧ (∀ y ∈ st, Bq 5000 y) ∧ st.length ≤ 1000) _ ⟨rfl, k, acc, st0, rfl, hA, hP, rfl, hb0, ln0⟩ ?_
    rintro m σ2 H2 ⟨rfl, k2, acc2, st, rfl, hA2, hP2, hst, hbd, ln⟩
    have t2 : TK K H1 H2 := k2.tk
    have hLl : Ll K (Pr K) H2 (.ref l) st.reverse := ⟨l, acc2, rfl, SqL.of hA2, hP2⟩
    have fin : ∀ H3, Same H2 H3 → push st x = x :: st → Mk K l H1 (upd H3 l (.lst (acc2 ++ [u]))) ∧ ∃ z acc, [some (.ref a), some (.ref l), some u] = [some (.ref a), some (.ref l), z] ∧ (upd H3 l (.lst (acc2 ++ [u]))) l = some (.lst acc) ∧ Paired (Pr K (upd H3 l (.lst (acc2 ++ [u])))) acc ((x1.take (i + 1)).foldl push []).reverse := fun H3 s3 e3 => by
      have k3 : Mk K l H3 (upd H3 l (.lst (acc2 ++ [u]))) := mk_set (s3 _ _ hA2)
      have t23 : TK K H2 (upd H3 l (.lst (acc2 ++ [u]))) := (sm_tk s3).trans k3.tk
      refine ⟨(k2.trans (sm_mk s3)).trans k3, some u, acc2 ++ [u], rfl, upd_same, ?_⟩
      rw [et, ← hst, e3, List.reverse_cons]
      exact paired_snoc (paired_up hP2 fun v y (q : Pr K H2 v y) => up_t t23 q) (up_t (t2.trans t23) r)
    walk_at "k rd"
    refine x_ite (fun e => ?_) fun e => ?_
    · obtain ⟨b, c, st', rfl⟩ : ∃ b c st', st = b :: c :: st' := by
        have e := of_decide_eq_true e
        match st, e with
        | b :: c :: st', _ => exact ⟨b, c, st', rfl⟩
        | [b], e => simp at e
        | [], e => simp at e
      obtain ⟨ws, vb, rfl, hP3, rb⟩ := paired_last (by rw [List.reverse_cons] at hP2; exact hP2)
      obtain ⟨ws, va, rfl, hP4, ra⟩ := paired_last (by rw [List.reverse_cons] at hP3; exact hP3)
      walk_at "k rd"
      · refine x_ite (fun e2 => ?_) fun e2 => ?_
        · refine ⟨_, fun _ _ h => h, ?_⟩
          rename_i H3 s3
          have hA3 : H3 l = some (.lst (ws ++ [va] ++ [vb])) := s3 _ _ hA2
          walk_at "k rd"
          refine x_pop (K := K) hA3 fun H4 k4 h4 => ?_
          walk_at "k rd"
          have e2 : ¬ 0 < crs c b x := by simpa using e2
          refine ⟨_, Nat.lt_succ_self _, rfl, (k2.trans (sm_mk s3)).trans k4, ws ++ [va], c :: st', rfl, h4, ?_, ?_, fun y hy => hbd y (List.mem_cons_of_mem _ hy), by simp at ln ⊢; omega⟩
          · exact paired_up hP3 fun v y (q : Pr K H2 v y) => up_t (K := K) (R := Pr K) ((sm_tk s3).trans k4.tk) q
          · rw [← hst, push_no e2]
        · rename_i H3 s3
          have e2 : 0 < crs c b x := by simpa using e2
          have hA3 := s3 _ _ hA2
          walk_at "k rd"
          refine ⟨_, _, _, rfl, rfl, hA3, sz_lt' ?_, ?_⟩
          · have := hP2.length
            rw [this]
            simp at ln ⊢
            omega
          · walk_at "k rd"
            exact fin H3 s3 (push_yes e2)
      · exact ⟨hbd c (by simp), hbd b (by simp), hbx⟩
    · have e := of_decide_eq_false e
      have e2 : st.length ≤ 1 := by rw [List.length_reverse] at e; omega
      walk_at "k rd"
      refine ⟨_, _, _, rfl, rfl, hA2, sz_lt' ?_, ?_⟩
      · have := hP2.length
        rw [this, List.length_reverse]
        omega
      · walk_at "k rd"
        exact fin H2 (same_refl _) (push_one e2)
  · obtain ⟨k, z, acc, rfl, hA, hP⟩ := p
    walk_at "k rd"
    rw [List.take_length] at hP
    refine q _ _ (fun b o h => ?_) ⟨l, acc, rfl, hA, hP⟩
    exact k.km b o (ne_of_none h nl) (s1 b o h)

/-! ### hull -/
end
abbrev pr_hull (K : PySem.W.Frag) : Sp := sp1 (Ll K (Pt K)) HP (Tl K (Pt K)) hul
abbrev Ok_hull (P : Program) (w : World) (K : PySem.W.Frag) (mg : Str → Option Value) (base : Heap) : Prop := OkD P w K mg base CX0 3 "hull" ["points"] (pr_hull K)
def lcP (ps : List P3) (i : Nat) : Int := (ps.take i).foldl (fun u p => ((Nat.lcm u.natAbs p.2.2.natAbs : Nat) : Int)) 1
theorem lcP_pos {ps : List P3} (h : ∀ p ∈ ps, 0 < p.2.2) (i : Nat) : 0 < lcP ps i := lcW_pos (ps := ps.take i) fun p hp => h p (List.mem_of_mem_take hp)
theorem lcP_sm {ps : List P3} {B : Nat} (h : ∀ p ∈ ps, 0 < p.2.2) (l : Lc B ps) (i : Nat) : Sm B (lcP ps i) := by
  obtain ⟨U, h0, hU, hd⟩ := l
  exact sm_dvd hU (by omega) (lcW_least (ps := ps.take i) (fun p hp => h p (List.mem_of_mem_take hp)) fun p hp => hd p (List.mem_of_mem_take hp))
theorem lcP_step {ps : List P3} {i : Nat} {p : P3} (h : ps[i]? = some p) : lcP ps (i + 1) = ((Nat.lcm (lcP ps i).natAbs p.2.2.natAbs : Nat) : Int) := by
  unfold lcP
  rw [List.take_add_one, h, List.foldl_append]
  rfl
theorem lcP_all (ps : List P3) : lcP ps ps.length = lcW ps := by
  unfold lcP lcW
  rw [List.take_length]
theorem HP.w {ps : List P3} (h : HP ps) : ∀ p ∈ ps, 0 < p.2.2 := fun p hp => (h.vp p hp).1
theorem HP.lcs {ps : List P3} (h : HP ps) : Sm 4000 (lcW ps) := by
  rw [← lcP_all]
  exact lcP_sm h.w h.lc _
theorem HP.lcp {ps : List P3} (h : HP ps) : 0 < lcW ps := lcW_pos h.w
theorem HP.gbd {ps : List P3} (h : HP ps) : ∀ g ∈ ps.map (grd (lcW ps)), Bq 5000 g := fun g hg => by
  obtain ⟨p, hp, rfl⟩ := List.mem_map.mp hg
  have b := h.bd p hp
  exact ⟨sm_mul b.x (sm_div h.lcs (h.w p hp)), sm_mul b.y (sm_div h.lcs (h.w p hp))⟩
theorem HP.srt {ps : List P3} (h : HP ps) : ∀ g ∈ srtD (ps.map (grd (lcW ps))), Bq 5000 g := fun g hg => h.gbd g ((mem_srtD _ _).mp hg)
theorem HP.srtl {ps : List P3} (h : HP ps) : (srtD (ps.map (grd (lcW ps)))).length ≤ 60 := Nat.le_trans (srtD_len _) (by rw [List.length_map]; exact h.few)
theorem HP.hgl {ps : List P3} (h : HP ps) : (hulG (srtD (ps.map (grd (lcW ps))))).length ≤ 120 := by
  have := hul_len ps
  unfold hul at this
  rw [List.length_map] at this
  have := h.few
  omega
theorem HP.hgb {ps : List P3} (h : HP ps) : ∀ g ∈ hulG (srtD (ps.map (grd (lcW ps)))), Bq 5000 g := fun g hg => h.srt g (hulG_sub (srt_srtD _) g hg)
section
variable {P : Program} {w : World} {K : PySem.W.Frag} {mg : Str → Option Value} {base : Heap} {nA rA : Addr} {f : Addr} {fd : FuncData}
theorem ok_hull (T : Ty K mg nA rA) (O_chain : Ok_chain P w K mg base) (O_lowest : Ok_lowest P w K mg base) (F : FnP K "hull" s_hull f fd) : FnOk P w K mg base CX0 3 f fd ["points"] (pr_hull K) := by
  refine F.ok sc_hull (fun vs H Q E h => len1 h) (fun cdv A outer s H vs Q E hr h => ?_)
  obtain ⟨v1, x1, rfl, h1, hp, q⟩ := h
  have nd := sc_hull.nd
  refine ⟨_, PSs.nox (pss_cons (ps_set (i := 1) nd rfl (Or.inr rfl) pe_int) (pss_cons (ps_for PassesOwn.never rfl (pi_list (pv 0)) (pg_name (i := 2) nd rfl (Or.inl rfl)) (pss_one (ps_set (i := 1) nd rfl (Or.inr rfl) (pe_callBfun cr_lcmW (by rfl) T.lcm (pa_cons (pv 1) (pa_cons (pe_ix (r := rIxT K) ix_tup (pv 2) pe_int (fun _ _ => rfl)) pa_nil)))))) (pss_cons (ps_set (i := 3) nd rfl (Or.inl rfl) (pe_callB (cr_sortP rfl) (by rfl) T.sorted bt_sorted (pa_cons (pe_st (own := [("x", 5), ("y", 6), ("w", 7)]) (g := gTup K 3 (gCons (gName 5) (gCons (gName 6) (gCons (gName 7) gNil)))) rfl (hu_of hr) nd (pi_list (pv 0)) (blkOk_by (N := ["points", "under", "point", "rows", "found", "x", "y", "w"]) (sc := defScope s_hull) (by decide +kernel)) (fun _ _ _ _ _ => (pg_tup (n := 3) rfl (pgs_cons (pg_name (i := 5) nd rfl (Or.inl rfl)) (pgs_cons (pg_name (i := 6) nd rfl (Or.inl rfl)) (pgs_cons (pg_name (i := 7) nd rfl (Or.inl rfl)) pgs_nil))))) (fun _ _ _ _ _ => (pe_tup (pa_cons (pe_op op_mulW (pv 5) (pe_op op_fdivW (pv 1) (pv 7))) (pa_cons (pe_op op_mulW (pv 6) (pe_op op_fdivW (pv 1) (pv 7))) pa_nil))))) pa_nil))) (pss_cons (ps_set (i := 4) nd rfl (Or.inl rfl) (pe_ifExp (pt_cmpR op_eq (pe_callB cq_len (by rfl) T.len bt_len (pa_cons (pv 3) pa_nil)) pe_int (nomark _)) (pv 3) (pe_op op_cat (pe_slice sl_list (pe_callO O_chain (hr.mono (by decide)) (by rfl) (pa_cons (pv 3) pa_nil)) po_none (po_some (pe_un un_neg pe_int))) (pe_slice sl_list (pe_callO O_chain (hr.mono (by decide)) (by rfl) (pa_cons (pe_revL (pv 3)) pa_nil)) po_none (po_some (pe_un un_neg pe_int)))))) (pss_one (ps_ret (pe_callTy cq_tuple (by rfl) T.tuple bt_tuple (pa_cons (pe_lc (own := [("x", 5), ("y", 6)]) (g := gTup K 2 (gCons (gName 5) (gCons (gName 6) gNil))) (tt := tYes) rfl nd (pi_list (pv 4)) (blkOk_by (N := ["points", "under", "point", "rows", "found", "x", "y", "w"]) (sc := defScope s_hull) (by decide +kernel)) (fun _ _ _ _ _ => (pg_tup (n := 2) rfl (pgs_cons (pg_name (i := 5) nd rfl (Or.inl rfl)) (pgs_cons (pg_name (i := 6) nd rfl (Or.inl rfl)) pgs_nil)))) (fun _ _ _ _ _ => pts_nil) (fun _ _ _ _ _ => (pe_callO O_lowest (hr.mono (by decide)) (by rfl) (pa_cons (pe_tup (pa_cons (pv 5) (pa_cons (pv 6) (pa_cons (pv 1) pa_nil)))) pa_nil)))) pa_nil)))))))), ?_⟩
  try dsimp only [cxn_K, cxn_P, cxn_w, cx_K]
  walk_at "k rd"
  refine fk_L h1 (fun i σ' H' => H' = H ∧ ∃ z, σ' = [some v1, some (.int (lcP x1 i)), z, none, none, none, none, none]) ⟨rfl, none, rfl⟩ (fun i σ' H' a ys p _ s => by rw [p.1]; exact s) (fun i x u σ' H' hx r p => ?_) fun σ' H' p => ?_
  · obtain ⟨rfl, z, rfl⟩ := p
    have hm := List.mem_of_getElem? hx
    walk_at "k rd"
    refine x_lcm (sm_up (lcP_sm hp.w hp.lc i) (by decide)) (sm_up (hp.bd x hm).w (by decide)) ?_
    walk_at "k rd"
    refine ⟨rfl, some u, ?_⟩
    rw [lcP_step hx]
    rfl
  · obtain ⟨rfl, z, rfl⟩ := p
    rw [lcP_all]
    walk_at "k rd"
    refine st_L (grd (lcW x1)) h1 hp.few (fun i x u H2 QY hx s r hy => ?_) fun H2 v2 s2 set => ?_
    · have hm := List.mem_of_getElem? hx
      have b := hp.bd x hm
      have hw := hp.w x hm
      walk_at "k rd"
      refine ⟨rfl, ?_⟩
      walk_at "k rd"
      refine x_I (cdivw hw b.w (by decide)) ?_
      have sd : Sm 4000 (lcW x1 / x.2.2) := sm_div hp.lcs hw
      walk_at "k rd"
      refine x_I (cdivw hw b.w (by decide)) ?_
      walk_at "k rd"
      exact hy _ _ (by walk_at "k sa") (by walk_at "k fx")
    · have hb := hp.srt
      have hl := hp.srtl
      have hgb := hp.hgb
      have hgl := hp.hgl
      have hul_eq : hul x1 = (hulG (srtD (x1.map (grd (lcW x1))))).map fun g => low (g.1, g.2, lcW x1) := rfl
      walk_at "k rd"
      rename_i H3 u3 s3 r3
      generalize srtD (x1.map (grd (lcW x1))) = rows at hb hl hgb hgl hul_eq r3 ⊢
      refine x_ite (fun e => ?_) fun e => ?_
      · have e : rows.length = 1 := by have := of_decide_eq_true e; omega
        have eG : hulG rows = rows := if_pos e
        have hF : Ll K (Pr K) H3 u3 (hulG rows) := by rw [eG]; exact r3.ll
        walk_at "k rd"
        refine lc_L (R := Pr K) (xs := hulG rows) (Pt K) (fun g => low (g.1, g.2, lcW x1)) (by walk_at "k fx") (by omega) (fun i x u H4 QY hx s4 r hy => ?_) fun H4 v4 s4 n4 => ?_
        · have hm := List.mem_of_getElem? hx
          have b := hgb x hm
          have hu := hp.lcp
          walk_at "k rd"
          refine ⟨rfl, ?_⟩
          walk_at "k rd"
          refine x_low (by walk_at "k fx") (fun H5 u5 s5 r5 => hy _ _ (by walk_at "k sa") r5) ⟨g3_posw hu, sm_up (sm_g3 (by show lcW x1 ≠ 0; omega) hp.lcs) (by decide)⟩
        · walk_at "k rd"
          refine x_tupL (R := Pt K) n4.ll fun H5 u5 s5 t5 => ?_
          refine q _ _ (by walk_at "k sa") ?_
          rw [hul_eq]
          exact t5
      · have e : rows.length ≠ 1 := by have := of_decide_eq_false e; omega
        have eG : hulG rows = (chn rows).dropLast ++ (chn rows.reverse).dropLast := if_neg e
        walk_at "k rd"
        · refine x_cat (R := Pr K) (by walk_at "k fx") (by walk_at "k fx") ?_ fun H4 u4 s4 n4 => ?_
          · rw [eG, List.length_append] at hgl
            omega
          · have hF : Ll K (Pr K) H4 u4 (hulG rows) := by rw [eG]; exact n4.ll
            walk_at "k rd"
            refine lc_L (R := Pr K) (xs := hulG rows) (Pt K) (fun g => low (g.1, g.2, lcW x1)) (by walk_at "k fx") (by omega) (fun i x u H4 QY hx s4 r hy => ?_) fun H4 v4 s4 n4 => ?_
            · have hm := List.mem_of_getElem? hx
              have b := hgb x hm
              have hu := hp.lcp
              walk_at "k rd"
              refine ⟨rfl, ?_⟩
              walk_at "k rd"
              refine x_low (by walk_at "k fx") (fun H5 u5 s5 r5 => hy _ _ (by walk_at "k sa") r5) ⟨g3_posw hu, sm_up (sm_g3 (by show lcW x1 ≠ 0; omega) hp.lcs) (by decide)⟩
            · walk_at "k rd"
              refine x_tupL (R := Pt K) n4.ll fun H5 u5 s5 t5 => ?_
              refine q _ _ (by walk_at "k sa") ?_
              rw [hul_eq]
              exact t5
        all_goals first
          | exact ⟨by omega, hb⟩
          | exact ⟨by rw [List.length_reverse]; omega, fun r hr => hb r (List.mem_reverse.mp hr)⟩
end
end K87
namespace K87
open PySem PySem.Spec PyProof.Rows L2 K8
/-! ### data of points -/
def ptD (p : P3) : PyData := .tuple [.int p.1, .int p.2.1, .int p.2.2]
theorem lay_all {α : Type} {f : α → PyData} (h : ∀ x, (f x).canLay0 = true) : ∀ xs : List α, PyData.canLayAll0 (xs.map f) = true
  | [] => by simp only [List.map_nil, PyData.canLayAll0]
  | x :: xs => by
    rw [List.map_cons]
    simp only [PyData.canLayAll0, h x, lay_all h xs, Bool.and_self]
theorem dep_all {α : Type} {f : α → PyData} {n : Nat} (h : ∀ x, (f x).depth ≤ n) : ∀ xs : List α, PyData.depthAll (xs.map f) ≤ n
  | [] => by simp only [List.map_nil, PyData.depthAll]; omega
  | x :: xs => by
    rw [List.map_cons]
    simp only [PyData.depthAll]
    have := h x
    have := dep_all h xs
    omega
theorem eqv_all {α : Type} {f : α → PyData} (h : ∀ x, PyData.eqv (f x) (f x) = true) : ∀ xs : List α, PyData.eqvAll (xs.map f) (xs.map f) = true
  | [] => by simp only [List.map_nil, PyData.eqvAll]
  | x :: xs => by
    rw [List.map_cons]
    simp only [PyData.eqvAll, h x, eqv_all h xs, Bool.and_self]
theorem ptD_lay (p : P3) : (ptD p).canLay0 = true := by simp [ptD, PyData.canLay0, PyData.canLayAll0]
theorem ptD_dep (p : P3) : (ptD p).depth ≤ 2 := by simp [ptD, PyData.depth, PyData.depthAll]
theorem ptD_eqv (p : P3) : PyData.eqv (ptD p) (ptD p) = true := by simp [ptD, PyData.eqv, PyData.eqvAll]
theorem sh_tup {α : Type} {f : α → PyData} (h1 : ∀ x, (f x).canLay0 = true) (h2 : ∀ x, (f x).depth ≤ 10) (xs : List α) : SeqAt.shaped (.tuple (xs.map f)) = true := by
  have h3 := dep_all h2 xs
  refine Bool.and_eq_true_iff.mpr ⟨by simp only [PyData.canLay0]; exact lay_all h1 xs, decide_eq_true ?_⟩
  simp only [PyData.depth]
  omega
theorem sh_lst {α : Type} {f : α → PyData} (h1 : ∀ x, (f x).canLay0 = true) (h2 : ∀ x, (f x).depth ≤ 10) (xs : List α) : SeqAt.shaped (.list (xs.map f)) = true := by
  have h3 := dep_all h2 xs
  refine Bool.and_eq_true_iff.mpr ⟨by simp only [PyData.canLay0]; exact lay_all h1 xs, decide_eq_true ?_⟩
  simp only [PyData.depth]
  omega
section
variable {α : Type} {K : PySem.W.Frag} {H : Hp} {v y : V} {Q : VK}
theorem dp_pt {p : P3} (h : Pt K H v p) : Dp K H v (ptD p) := by
  obtain ⟨a, rfl, h⟩ := h
  exact .tup h (.cons (.int _) (.cons (.int _) (.cons (.int _) .nil)))
theorem dp_all {R : Rel α} {f : α → PyData} (h : ∀ v x, R H v x → Dp K H v (f x)) : ∀ {vs : List V} {xs : List α}, Paired (R H) vs xs → DpAll K H vs (xs.map f)
  | _, _, .nil => .nil
  | _, _, .cons r t => .cons (h _ _ r) (dp_all h t)
theorem dp_tl {R : Rel α} {f : α → PyData} (h : ∀ v x, R H v x → Dp K H v (f x)) {xs : List α} (t : Tl K R H v xs) : Dp K H v (.tuple (xs.map f)) := by
  obtain ⟨a, vs, rfl, s, p⟩ := t
  exact .tup s (dp_all h p)
theorem dp_ll {R : Rel α} {f : α → PyData} (h : ∀ v x, R H v x → Dp K H v (f x)) {xs : List α} (t : Ll K R H v xs) : Dp K H v (.list (xs.map f)) := by
  obtain ⟨a, vs, rfl, s, p⟩ := t
  exact .lst s (dp_all h p)
/-- a tuple against the empty one -/
theorem x_eqT0 {R : Rel α} {f : α → PyData} (h : ∀ v x, R H v x → Dp K H v (f x)) (h1 : ∀ x, (f x).canLay0 = true) (h2 : ∀ x, (f x).depth ≤ 10) {xs : List α} {p : Addr} (t : Tl K R H v xs) (e : H p = some (.tup [])) (q : Q (.bl xs.isEmpty) H) : rEqD K v (.ref p) H Q := by
  refine ⟨_, _, dp_tl h t, .tup (SqT.of e) .nil, sh_tup h1 h2 xs, rfl, ?_⟩
  cases xs with
  | nil => simpa [PyData.eqv, PyData.eqvAll] using q
  | cons x xs => simpa [PyData.eqv, PyData.eqvAll] using q
theorem x_neT0 {R : Rel α} {f : α → PyData} (h : ∀ v x, R H v x → Dp K H v (f x)) (h1 : ∀ x, (f x).canLay0 = true) (h2 : ∀ x, (f x).depth ≤ 10) {xs : List α} {p : Addr} (t : Tl K R H v xs) (e : H p = some (.tup [])) (q : Q (.bl (!xs.isEmpty)) H) : rNeD K v (.ref p) H Q := by
  refine ⟨_, _, dp_tl h t, .tup (SqT.of e) .nil, sh_tup h1 h2 xs, rfl, ?_⟩
  cases xs with
  | nil => simpa [PyData.eqv, PyData.eqvAll] using q
  | cons x xs => simpa [PyData.eqv, PyData.eqvAll] using q
theorem x_neL0 {R : Rel α} {f : α → PyData} (h : ∀ v x, R H v x → Dp K H v (f x)) (h1 : ∀ x, (f x).canLay0 = true) (h2 : ∀ x, (f x).depth ≤ 10) {xs : List α} {p : Addr} (t : Ll K R H v xs) (e : H p = some (.lst [])) (q : Q (.bl (!xs.isEmpty)) H) : rNeD K v (.ref p) H Q := by
  refine ⟨_, _, dp_ll h t, .lst (SqL.of e) .nil, sh_lst h1 h2 xs, rfl, ?_⟩
  cases xs with
  | nil => simpa [PyData.eqv, PyData.eqvAll] using q
  | cons x xs => simpa [PyData.eqv, PyData.eqvAll] using q
theorem x_eqPts {xs : List P3} (t : Tl K (Pt K) H v xs) (t2 : Tl K (Pt K) H y xs) (q : Q (.bl true) H) : rEqD K v y H Q := by
  refine ⟨_, _, dp_tl (fun _ _ => dp_pt) t, dp_tl (fun _ _ => dp_pt) t2, sh_tup ptD_lay (fun x => Nat.le_trans (ptD_dep x) (by decide)) xs, sh_tup ptD_lay (fun x => Nat.le_trans (ptD_dep x) (by decide)) xs, ?_⟩
  have e : PyData.eqv (.tuple (xs.map ptD)) (.tuple (xs.map ptD)) = true := by
    simp only [PyData.eqv]
    exact eqv_all ptD_eqv xs
  rw [e]
  exact q
theorem tyx_tl {R : Rel α} {xs : List α} (h : Tl K R H v xs) : TyX K H v (.type "tuple") := by
  obtain ⟨a, vs, rfl, s, _⟩ := h
  exact tyx_tup s
end
/-! ### sides -/
theorem sid_eqs {n : P2} {c : P3} (hw : 0 < c.2.2) (hn : n ≠ (0, 0)) : 0 < g3 (n.1 * c.2.2, n.2 * c.2.2, n.1 * c.1 + n.2 * c.2.1) := by
  by_cases h : n.1 = 0
  · refine g3_pos (.inr (.inl (Int.mul_ne_zero (fun e => hn (Prod.ext h e)) (by omega))))
  · exact g3_pos (.inl (Int.mul_ne_zero h (by omega)))
theorem vl_low {s p : P3} (h : 0 < g3 s) : vl (low s) p ≤ 0 ↔ vl s p ≤ 0 := by
  obtain ⟨e1, e2, e3⟩ := low_eqs s
  have key : vl s p = vl (low s) p * g3 s := by
    unfold vl
    rw [← e1, ← e2, ← e3]
    simp only [e1, e2, e3]
    have k1 : (low s).1 * p.1 * g3 s = s.1 * p.1 := by rw [Int.mul_right_comm, e1]
    have k2 : (low s).2.1 * p.2.1 * g3 s = s.2.1 * p.2.1 := by rw [Int.mul_right_comm, e2]
    have k3 : (low s).2.2 * p.2.2 * g3 s = s.2.2 * p.2.2 := by rw [Int.mul_right_comm, e3]
    rw [Int.sub_mul, Int.add_mul, k1, k2, k3]
  rw [key]
  constructor
  · intro k
    exact Int.mul_nonpos_of_nonpos_of_nonneg k (by omega)
  · intro k
    have : vl (low s) p * g3 s ≤ 0 * g3 s := by rw [Int.zero_mul]; exact k
    exact le_of_mul_le h this
theorem vl_sid {n : P2} {c p : P3} (hw : 0 < c.2.2) (hn : n ≠ (0, 0)) : vl (sid n c) p ≤ 0 ↔ hold n c p := by
  unfold sid
  rw [vl_low (sid_eqs hw hn)]
  unfold vl hold
  have k1 : n.1 * c.2.2 * p.1 + n.2 * c.2.2 * p.2.1 = (n.1 * p.1 + n.2 * p.2.1) * c.2.2 := by
    rw [Int.add_mul, Int.mul_right_comm, Int.mul_right_comm n.2]
  show n.1 * c.2.2 * p.1 + n.2 * c.2.2 * p.2.1 - (n.1 * c.1 + n.2 * c.2.1) * p.2.2 ≤ 0 ↔ _
  rw [k1]
  omega
def sds (S : List P3) : List P3 := (sdR S).map fun e => sid e.1 e.2
theorem Pg.w {S : List P3} (h : Pg S) : ∀ p ∈ S, 0 < p.2.2 := fun p hp => (h.cnv.vp p hp).1
theorem has_eq {S : List P3} (h : Pg S) (p : P3) : ((sds S).all fun s => decide (vl s p ≤ 0)) = hasB S p := by
  unfold sds hasB
  rw [List.all_map]
  apply Bool.eq_iff_iff.mpr
  rw [List.all_eq_true, List.all_eq_true]
  constructor
  · intro k e he
    obtain ⟨h1, h2, _⟩ := h.cnv.sd e he
    exact decide_eq_true ((vl_sid (h.w _ h2) h1).mp (of_decide_eq_true (k e he)))
  · intro k e he
    obtain ⟨h1, h2, _⟩ := h.cnv.sd e he
    exact decide_eq_true ((vl_sid (h.w _ h2) h1).mpr (of_decide_eq_true (k e he)))
theorem nrm_bq {p q : P3} (a : Bd 1000 p) (b : Bd 1000 q) : Bq 2001 (nrm p q) ∧ Bq 2001 (stp p q) :=
  ⟨⟨sm_sub1 (sm_mul b.y a.w) (sm_mul a.y b.w), sm_neg (sm_sub1 (sm_mul b.x a.w) (sm_mul a.x b.w))⟩, ⟨sm_sub1 (sm_mul b.x a.w) (sm_mul a.x b.w), sm_sub1 (sm_mul b.y a.w) (sm_mul a.y b.w)⟩⟩
theorem bq_up {n m : Nat} {p : P2} (h : Bq n p) (k : n ≤ m) : Bq m p := ⟨sm_up h.x k, sm_up h.y k⟩
theorem bd_up {n m : Nat} {p : P3} (h : Bd n p) (k : n ≤ m) : Bd m p := ⟨sm_up h.x k, sm_up h.y k, sm_up h.w k⟩
theorem getD_mem {S : List P3} {i : Nat} (h : i < S.length) : S.getD i (0, 0, 1) ∈ S := by
  rw [List.getD_eq_getElem?_getD, List.getElem?_eq_getElem h]
  exact List.getElem_mem h
theorem nxt_mem {S : List P3} {i : Nat} (h : i < S.length) : nxt S i ∈ S := by
  unfold nxt
  split
  · exact getD_mem (by assumption)
  · exact getD_mem (by omega)
theorem sdR_bq {S : List P3} (h : Pg S) : ∀ e ∈ sdR S, Bq 2001 e.1 ∧ e.2 ∈ S := fun e he => by
  refine ⟨?_, (h.cnv.sd e he).2.1⟩
  match S, h, he with
  | [], h, _ => exact absurd rfl h.cnv.ne
  | [p], h, he =>
    have : e ∈ [(((1, 0) : P2), p), ((0, 1), p), ((-1, 0), p), ((0, -1), p)] := he
    have k : ∀ n : P2, Bq 1 n → Bq 2001 n := fun n b => bq_up b (by decide)
    simp only [List.mem_cons, List.not_mem_nil, or_false] at this
    rcases this with rfl | rfl | rfl | rfl
    · exact k (1, 0) ⟨by unfold Sm; decide, by unfold Sm; decide⟩
    · exact k (0, 1) ⟨by unfold Sm; decide, by unfold Sm; decide⟩
    · exact k (-1, 0) ⟨by unfold Sm; decide, by unfold Sm; decide⟩
    · exact k (0, -1) ⟨by unfold Sm; decide, by unfold Sm; decide⟩
  | [p, q], h, he =>
    have this : e ∈ [(((stp p q).2, -(stp p q).1), p), (((stp p q).1, (stp p q).2), q), ((-(stp p q).2, (stp p q).1), q), ((-(stp p q).1, -(stp p q).2), p)] := he
    have b := (nrm_bq (h.bd p (by simp)) (h.bd q (by simp))).2
    simp only [List.mem_cons, List.not_mem_nil, or_false] at this
    rcases this with rfl | rfl | rfl | rfl
    · exact ⟨b.y, sm_neg b.x⟩
    · exact b
    · exact ⟨sm_neg b.y, b.x⟩
    · exact ⟨sm_neg b.x, sm_neg b.y⟩
  | a :: b :: c :: r, h, he =>
    rw [sdR_many (by simp)] at he
    obtain ⟨i, hi, rfl⟩ := List.mem_map.mp he
    rw [List.mem_range] at hi
    exact (nrm_bq (h.bd _ (getD_mem hi)) (h.bd _ (nxt_mem hi))).1
theorem sid_bd {n : P2} {c : P3} (hw : 0 < c.2.2) (hn : n ≠ (0, 0)) (b : Bq 2001 n) (bc : Bd 1000 c) : Bd 4000 (sid n c) :=
  bd_low (sid_eqs hw hn) ⟨sm_up (sm_mul b.x bc.w) (by decide), sm_up (sm_mul b.y bc.w) (by decide), sm_up (sm_add1 (sm_mul b.x bc.x) (sm_mul b.y bc.y)) (by decide)⟩
theorem sds_bd {S : List P3} (h : Pg S) : ∀ s ∈ sds S, Bd 4000 s := fun s hs => by
  obtain ⟨e, he, rfl⟩ := List.mem_map.mp hs
  obtain ⟨h1, h2, _⟩ := h.cnv.sd e he
  exact sid_bd (h.w _ h2) h1 (sdR_bq h e he).1 (h.bd _ h2)
theorem edR_len (S : List P3) : (edR S).length = S.length := by unfold edR; simp
theorem sdR_len {S : List P3} (h : Pg S) : (sdR S).length ≤ 1000 := by
  match S, h with
  | [], h => exact absurd rfl h.cnv.ne
  | [p], h => show 4 ≤ 1000; decide
  | [p, q], h => show 4 ≤ 1000; decide
  | a :: b :: c :: r, h =>
    rw [sdR_many (by simp), edR_len]
    exact h.few
theorem sds_len {S : List P3} (h : Pg S) : (sds S).length ≤ 1000 := by
  unfold sds
  rw [List.length_map]
  exact sdR_len h
theorem sds_many {S : List P3} (h : 3 ≤ S.length) : S.mapIdx (fun i c => sid (nrm c (nxt S i)) c) = sds S := by
  unfold sds
  rw [sdR_many h]
  unfold edR
  rw [List.map_map]
  apply List.ext_getElem
  · simp
  · intro i h1 h2
    simp only [List.getElem_mapIdx, List.getElem_map, List.getElem_range, Function.comp]
    have hi : i < S.length := by simpa using h1
    rw [List.getD_eq_getElem?_getD, List.getElem?_eq_getElem hi]
    rfl
theorem fig_pg {S : List P3} (h : HP S) (k : hul S = S) : Pg S := ⟨by have := hul_cnv h.ne h.vp; rw [k] at this; exact this, h.bd, Nat.le_trans h.few (by decide)⟩
theorem hul_pg {S : List P3} (h : HP S) : Pg (hul S) := ⟨hul_cnv h.ne h.vp, fun p hp => h.bd p (hul_sub h.ne h.vp p hp), by have := hul_len S; have := h.few; omega⟩
abbrev pr_next_corner (K : PySem.W.Frag) : Sp := sp2 (Tl K (Pt K)) Ri (fun S i => 0 ≤ i ∧ i.toNat < S.length) (Pt K) (fun S i => nxt S i.toNat)
abbrev pr_sides (K : PySem.W.Frag) : Sp := sp1 (Tl K (Pt K)) Pg (Tl K (Pt K)) sds
abbrev pr_has (K : PySem.W.Frag) : Sp := sp2 (Tl K (Pt K)) (Pt K) (fun S p => Pg S ∧ Bd 1000 p) Rb hasB
abbrev pr_within (K : PySem.W.Frag) : Sp := sp2 (Tl K (Pt K)) (Tl K (Pt K)) (fun P S => Pg S ∧ (∀ p ∈ P, Bd 1000 p) ∧ P.length ≤ 1000) Rb (fun P S => P.all (hasB S))
abbrev pr_is_shape (K : PySem.W.Frag) : Sp := sp1 (Tl K (Pt K)) (fun S => HP S ∧ hul S = S) Rb (fun _ => true)
abbrev pr_is_sailed (K : PySem.W.Frag) : Sp := sp1 (Tl K (Pt K)) Fig Rb (fun _ => true)
abbrev pr_check_figure (K : PySem.W.Frag) : Sp := sp1 (Tl K (Pt K)) Fig Rn (fun _ => ())
abbrev Ok_next_corner (P : Program) (w : World) (K : PySem.W.Frag) (mg : Str → Option Value) (base : Heap) : Prop := OkD P w K mg base CX0 1 "next_corner" ["polygon", "at"] (pr_next_corner K)
abbrev Ok_sides (P : Program) (w : World) (K : PySem.W.Frag) (mg : Str → Option Value) (base : Heap) : Prop := OkD P w K mg base CX0 5 "sides" ["polygon"] (pr_sides K)
abbrev Ok_has (P : Program) (w : World) (K : PySem.W.Frag) (mg : Str → Option Value) (base : Heap) : Prop := OkD P w K mg base CX0 6 "has" ["polygon", "point"] (pr_has K)
abbrev Ok_within (P : Program) (w : World) (K : PySem.W.Frag) (mg : Str → Option Value) (base : Heap) : Prop := OkD P w K mg base CX0 6 "within" ["polygon", "other"] (pr_within K)
abbrev Ok_is_shape (P : Program) (w : World) (K : PySem.W.Frag) (mg : Str → Option Value) (base : Heap) : Prop := OkD P w K mg base CX0 4 "is_shape" ["value"] (pr_is_shape K)
abbrev Ok_is_sailed (P : Program) (w : World) (K : PySem.W.Frag) (mg : Str → Option Value) (base : Heap) : Prop := OkD P w K mg base CX0 7 "is_sailed" ["value"] (pr_is_sailed K)
abbrev Ok_check_figure (P : Program) (w : World) (K : PySem.W.Frag) (mg : Str → Option Value) (base : Heap) : Prop := OkD P w K mg base CX0 8 "check_figure" ["value"] (pr_check_figure K)
section
variable {P : Program} {w : World} {K : PySem.W.Frag} {mg : Str → Option Value} {base : Heap} {nA rA : Addr} {f : Addr} {fd : FuncData}
theorem ok_next_corner (T : Ty K mg nA rA)  (F : FnP K "next_corner" s_next_corner f fd) : FnOk P w K mg base CX0 1 f fd ["polygon", "at"] (pr_next_corner K) := by
  refine F.ok sc_next_corner (fun vs H Q E h => len2 h) (fun cdv A outer s H vs Q E hr h => ?_)
  obtain ⟨v1, v2, x1, x2, rfl, h1, h2, hp, q⟩ := h
  have nd := sc_next_corner.nd
  refine ⟨_, PSs.nox (pss_one (ps_ret (pe_ifExp (pt_cmpR op_lt (pe_op op_add (pv 1) pe_int) (pe_callB cq_len (by rfl) T.len bt_len (pa_cons (pv 0) pa_nil)) (nomark _)) (pe_ix (r := rIxT K) ix_tup (pv 0) (pe_op op_add (pv 1) pe_int) (fun _ _ => rfl)) (pe_ix (r := rIxT K) ix_tup (pv 0) pe_int (fun _ _ => rfl))))), ?_⟩
  try dsimp only [cxn_K, cxn_P, cxn_w, cx_K]
  cases h2
  obtain ⟨i, rfl⟩ : ∃ i : Nat, x2 = i := ⟨x2.toNat, by omega⟩
  have hi : i < x1.length := by have := hp.2; omega
  walk_at "k rd"
  refine x_ite (fun e => ?_) fun e => ?_
  · have e : i + 1 < x1.length := by have := of_decide_eq_true e; omega
    walk_at "k rd"
    have z : ((i : Int) + 1) = ((i + 1 : Nat) : Int) := by omega
    rw [z]
    refine x_ixT (R := Pt K) (z := nxt x1 i) h1 ?_ fun u r => q _ _ (same_refl _) r
    unfold nxt
    rw [if_pos e, List.getD_eq_getElem?_getD, List.getElem?_eq_getElem e]
    rfl
  · have e : ¬ i + 1 < x1.length := by have := of_decide_eq_false e; omega
    walk_at "k rd"
    refine x_ixT (R := Pt K) (i := 0) (z := nxt x1 i) h1 ?_ fun u r => q _ _ (same_refl _) r
    unfold nxt
    have e0 : 0 < x1.length := by omega
    rw [if_neg e, List.getD_eq_getElem?_getD, List.getElem?_eq_getElem e0]
    rfl
theorem ok_has (T : Ty K mg nA rA) (O_are_held : Ok_are_held P w K mg base) (O_sides : Ok_sides P w K mg base) (F : FnP K "has" s_has f fd) : FnOk P w K mg base CX0 6 f fd ["polygon", "point"] (pr_has K) := by
  refine F.ok sc_has (fun vs H Q E h => len2 h) (fun cdv A outer s H vs Q E hr h => ?_)
  obtain ⟨v1, v2, x1, x2, rfl, h1, h2, hp, q⟩ := h
  have nd := sc_has.nd
  refine ⟨_, PSs.nox (pss_one (ps_ret (pe_callO O_are_held (hr.mono (by decide)) (by rfl) (pa_cons (pe_callO O_sides (hr.mono (by decide)) (by rfl) (pa_cons (pv 0) pa_nil)) (pa_cons (pv 1) pa_nil))))), ?_⟩
  try dsimp only [cxn_K, cxn_P, cxn_w, cx_K]
  walk_at "k rd"
  · refine q _ _ (by walk_at "k sa") ?_
    rw [has_eq hp.1]
    rfl
  · exact ⟨sds_len hp.1, sds_bd hp.1, hp.2⟩
  · exact hp.1
theorem ok_within (T : Ty K mg nA rA) (O_sides : Ok_sides P w K mg base) (O_are_held : Ok_are_held P w K mg base) (F : FnP K "within" s_within f fd) : FnOk P w K mg base CX0 6 f fd ["polygon", "other"] (pr_within K) := by
  refine F.ok sc_within (fun vs H Q E h => len2 h) (fun cdv A outer s H vs Q E hr h => ?_)
  obtain ⟨v1, v2, x1, x2, rfl, h1, h2, hp, q⟩ := h
  have nd := sc_within.nd
  refine ⟨_, PSs.nox (pss_cons (ps_set (i := 2) nd rfl (Or.inr rfl) (pe_callO O_sides (hr.mono (by decide)) (by rfl) (pa_cons (pv 1) pa_nil))) (pss_one (ps_ret (pe_callB (cr_all rfl) (by rfl) T.all bt_all (pa_cons (pe_lc (own := [("corner", 3)]) (tt := tYes) rfl nd (pi_tup (pv 0)) (blkOk_by (N := ["polygon", "other", "borders", "corner"]) (sc := defScope s_within) (by decide +kernel)) (fun _ _ _ _ _ => (pg_name (i := 3) nd rfl (Or.inl rfl))) (fun _ _ _ _ _ => pts_nil) (fun _ _ _ _ _ => (pe_callO O_are_held (hr.mono (by decide)) (by rfl) (pa_cons (pv 2) (pa_cons (pv 3) pa_nil))))) pa_nil))))), ?_⟩
  try dsimp only [cxn_K, cxn_P, cxn_w, cx_K]
  obtain ⟨hS, hb, hl⟩ := hp
  walk_at "k rd"
  · refine lc_T (R := Pt K) (xs := x1) Rb (hasB x2) (by walk_at "k fx") (by omega) (fun i x u H' QY hx s r hy => ?_) fun H' v' s n => ?_
    · walk_at "k rd"
      refine ⟨rfl, ?_⟩
      walk_at "k rd"
      · refine hy _ _ (by walk_at "k sa") ?_
        rw [has_eq hS]
        rfl
      · exact ⟨sds_len hS, sds_bd hS, hb x (List.mem_of_getElem? hx)⟩
    · walk_at "k rd"
      refine q _ _ (by walk_at "k sa") ?_
      show V.bl _ = V.bl _
      rw [List.all_map]
      rfl
  · exact hS
theorem ok_sides (T : Ty K mg nA rA) (O_side_at : Ok_side_at P w K mg base) (O_step_between : Ok_step_between P w K mg base) (O_side_left : Ok_side_left P w K mg base) (O_next_corner : Ok_next_corner P w K mg base) (F : FnP K "sides" s_sides f fd) : FnOk P w K mg base CX0 5 f fd ["polygon"] (pr_sides K) := by
  refine F.ok sc_sides (fun vs H Q E h => len1 h) (fun cdv A outer s H vs Q E hr h => ?_)
  obtain ⟨v1, x1, rfl, h1, hp, q⟩ := h
  have nd := sc_sides.nd
  refine ⟨_, PSs.nox (pss_cons (ps_if (pt_cmpR op_eq (pe_callB cq_len (by rfl) T.len bt_len (pa_cons (pv 0) pa_nil)) pe_int (nomark _)) (pss_one (ps_ret (pe_callTy cq_tuple (by rfl) T.tuple bt_tuple (pa_cons (pe_lc (own := [("normal", 5)]) (tt := tYes) rfl nd (pi_tup (pe_glob (v := .ref rA) rfl T.round rfl)) (blkOk_by (N := ["polygon", "one", "two", "u", "v", "normal", "at", "corner"]) (sc := defScope s_sides) (by decide +kernel)) (fun _ _ _ _ _ => (pg_name (i := 5) nd rfl (Or.inl rfl))) (fun _ _ _ _ _ => pts_nil) (fun _ _ _ _ _ => (pe_callO O_side_at (hr.mono (by decide)) (by rfl) (pa_cons (pv 5) (pa_cons (pe_ix (r := rIxT K) ix_tup (pv 0) pe_int (fun _ _ => rfl)) pa_nil))))) pa_nil)))) pss_nil) (pss_cons (ps_if (pt_cmpR op_eq (pe_callB cq_len (by rfl) T.len bt_len (pa_cons (pv 0) pa_nil)) pe_int (nomark _)) (pss_cons (ps_asg (pv 0) (pg_tup (n := 2) rfl (pgs_cons (pg_name (i := 1) nd rfl (Or.inl rfl)) (pgs_cons (pg_name (i := 2) nd rfl (Or.inl rfl)) pgs_nil)))) (pss_cons (ps_asg (pe_callO O_step_between (hr.mono (by decide)) (by rfl) (pa_cons (pv 1) (pa_cons (pv 2) pa_nil))) (pg_tup (n := 2) rfl (pgs_cons (pg_name (i := 3) nd rfl (Or.inl rfl)) (pgs_cons (pg_name (i := 4) nd rfl (Or.inl rfl)) pgs_nil)))) (pss_one (ps_ret (pe_tup (pa_cons (pe_callO O_side_at (hr.mono (by decide)) (by rfl) (pa_cons (pe_tup (pa_cons (pv 4) (pa_cons (pe_un un_neg (pv 3)) pa_nil))) (pa_cons (pv 1) pa_nil))) (pa_cons (pe_callO O_side_at (hr.mono (by decide)) (by rfl) (pa_cons (pe_tup (pa_cons (pv 3) (pa_cons (pv 4) pa_nil))) (pa_cons (pv 2) pa_nil))) (pa_cons (pe_callO O_side_at (hr.mono (by decide)) (by rfl) (pa_cons (pe_tup (pa_cons (pe_un un_neg (pv 4)) (pa_cons (pv 3) pa_nil))) (pa_cons (pv 2) pa_nil))) (pa_cons (pe_callO O_side_at (hr.mono (by decide)) (by rfl) (pa_cons (pe_tup (pa_cons (pe_un un_neg (pv 3)) (pa_cons (pe_un un_neg (pv 4)) pa_nil))) (pa_cons (pv 1) pa_nil))) pa_nil))))))))) pss_nil) (pss_one (ps_ret (pe_callTy cq_tuple (by rfl) T.tuple bt_tuple (pa_cons (pe_lc (own := [("at", 6), ("corner", 7)]) (g := gTup K 2 (gCons (gName 6) (gCons (gName 7) gNil))) (tt := tYes) rfl nd (pi_en rfl T.enumerate (pa_cons (pv 0) pa_nil)) (blkOk_by (N := ["polygon", "one", "two", "u", "v", "normal", "at", "corner"]) (sc := defScope s_sides) (by decide +kernel)) (fun _ _ _ _ _ => (pg_tup (n := 2) rfl (pgs_cons (pg_name (i := 6) nd rfl (Or.inl rfl)) (pgs_cons (pg_name (i := 7) nd rfl (Or.inl rfl)) pgs_nil)))) (fun _ _ _ _ _ => pts_nil) (fun _ _ _ _ _ => (pe_callO O_side_left (hr.mono (by decide)) (by rfl) (pa_cons (pv 7) (pa_cons (pe_callO O_next_corner (hr.mono (by decide)) (by rfl) (pa_cons (pv 0) (pa_cons (pv 6) pa_nil))) pa_nil))))) pa_nil)))))), ?_⟩
  try dsimp only [cxn_K, cxn_P, cxn_w, cx_K]
  walk_at "k rd"
  refine x_ite (fun e => ?_) fun e => ?_
  · have e : x1.length = 1 := by have := of_decide_eq_true e; omega
    obtain ⟨p, rfl⟩ : ∃ p, x1 = [p] := List.length_eq_one_iff.mp e
    have hw := hp.w p (by simp)
    have hb := hp.bd p (by simp)
    walk_at "k rd"
    refine lc_T (R := Pr K) (Pt K) (fun n => sid n p) (T.roundT _) (by decide) (fun i x u H' QY hx s r hy => ?_) fun H' v' s n => ?_
    · have hm : x ∈ [((1, 0) : P2), (0, 1), (-1, 0), (0, -1)] := List.mem_of_getElem? hx
      walk_at "k rd"
      refine ⟨rfl, ?_⟩
      walk_at "k rd"
      refine x_ixT (R := Pt K) (i := 0) (z := p) (up_s s h1) rfl fun u2 r2 => ?_
      walk_at "k rd"
      · exact hy _ _ (by walk_at "k sa") (by assumption)
      · refine ⟨?_, hb, hw, ?_⟩
        · simp only [List.mem_cons, List.not_mem_nil, or_false] at hm
          rcases hm with rfl | rfl | rfl | rfl
          · exact ⟨by unfold Sm; decide, by unfold Sm; decide⟩
          · exact ⟨by unfold Sm; decide, by unfold Sm; decide⟩
          · exact ⟨by unfold Sm; decide, by unfold Sm; decide⟩
          · exact ⟨by unfold Sm; decide, by unfold Sm; decide⟩
        · simp only [List.mem_cons, List.not_mem_nil, or_false] at hm
          rcases hm with rfl | rfl | rfl | rfl <;> decide
    · walk_at "k rd"
      refine x_tupL (R := Pt K) n.ll fun H5 u5 s5 t5 => ?_
      exact q _ _ (by walk_at "k sa") t5
  · have e1 : x1.length ≠ 1 := by have := of_decide_eq_false e; omega
    walk_at "k rd"
    refine x_ite (fun e => ?_) fun e => ?_
    · have e : x1.length = 2 := by have := of_decide_eq_true e; omega
      obtain ⟨p, r, rfl⟩ : ∃ p r, x1 = [p, r] := by
        match x1, e with
        | [p, r], _ => exact ⟨p, r, rfl⟩
      have hw := hp.w p (by simp)
      have hw2 := hp.w r (by simp)
      have hb := hp.bd p (by simp)
      have hb2 := hp.bd r (by simp)
      have hn : ∀ e ∈ sdR [p, r], e.1 ≠ (0, 0) := fun e he => (hp.cnv.sd e he).1
      have bs := sdR_bq hp
      have sd : sdR [p, r] = [(((stp p r).2, -(stp p r).1), p), (((stp p r).1, (stp p r).2), r), ((-(stp p r).2, (stp p r).1), r), ((-(stp p r).1, -(stp p r).2), p)] := rfl
      have n1 := hn (((stp p r).2, -(stp p r).1), p) (by rw [sd]; simp)
      have n2 := hn (((stp p r).1, (stp p r).2), r) (by rw [sd]; simp)
      have n3 := hn ((-(stp p r).2, (stp p r).1), r) (by rw [sd]; simp)
      have n4 := hn ((-(stp p r).1, -(stp p r).2), p) (by rw [sd]; simp)
      have b1 := (bs (((stp p r).2, -(stp p r).1), p) (by rw [sd]; simp)).1
      have b2 := (bs (((stp p r).1, (stp p r).2), r) (by rw [sd]; simp)).1
      have b3 := (bs ((-(stp p r).2, (stp p r).1), r) (by rw [sd]; simp)).1
      have b4 := (bs ((-(stp p r).1, -(stp p r).2), p) (by rw [sd]; simp)).1
      walk_at "k rd"
      refine x_gtl2 h1 fun va vb ra rb => ?_
      walk_at "k rd"
      · rename_i H5 p5 np s5 e5
        refine q _ _ (by walk_at "k sa") (tl_new (K := K) (R := Pt K) e5 ?_)
        refine .cons (by walk_at "k fx") (.cons (by walk_at "k fx") (.cons (by walk_at "k fx") (.cons (by walk_at "k fx") .nil)))
      all_goals first
        | exact ⟨hb, hb2⟩
        | exact ⟨bq_up b1 (by decide), hb, hw, n1⟩
        | exact ⟨bq_up b2 (by decide), hb2, hw2, n2⟩
        | exact ⟨bq_up b3 (by decide), hb2, hw2, n3⟩
        | exact ⟨bq_up b4 (by decide), hb, hw, n4⟩
    · have e2 : x1.length ≠ 2 := by have := of_decide_eq_false e; omega
      have h3 : 3 ≤ x1.length := by
        have : x1.length ≠ 0 := fun z => hp.cnv.ne (List.eq_nil_of_length_eq_zero z)
        omega
      walk_at "k rd"
      refine lc_E (R := Pt K) (Pt K) (fun i c => sid (nrm c (nxt x1 i)) c) h1 (by have := hp.few; omega) (fun i x u p H' QY hx s r hT hy => ?_) fun H' v' s n => ?_
      · have hm := List.mem_of_getElem? hx
        have hi : i < x1.length := (List.getElem?_eq_some_iff.mp hx).1
        have he : (nrm (x1.getD i (0, 0, 1)) (nxt x1 i), x1.getD i (0, 0, 1)) ∈ sdR x1 := by
          rw [sdR_many h3]
          exact List.mem_map.mpr ⟨i, List.mem_range.mpr hi, rfl⟩
        have hg : x1.getD i (0, 0, 1) = x := by rw [List.getD_eq_getElem?_getD, hx]; rfl
        rw [hg] at he
        refine x_gnew hT rfl ?_
        walk_at "k rd"
        refine ⟨rfl, ?_⟩
        walk_at "k rd"
        · refine hy _ _ (by walk_at "k sa") ?_
          have z : (i : Int).toNat = i := Int.toNat_natCast i
          rename_i r9 _ _
          simp only [z] at *
          assumption
        · refine ⟨hp.bd x hm, ?_, hp.w x hm, ?_⟩
          · rw [Int.toNat_natCast]
            exact hp.bd _ (nxt_mem hi)
          · rw [Int.toNat_natCast]
            exact (hp.cnv.sd _ he).1
        · exact ⟨by omega, by omega⟩
      · walk_at "k rd"
        refine x_tupL (R := Pt K) n.ll fun H5 u5 s5 t5 => ?_
        rw [sds_many h3] at t5
        exact q _ _ (by walk_at "k sa") t5
theorem ok_check_figure (T : Ty K mg nA rA) (O_is_sailed : Ok_is_sailed P w K mg base) (F : FnP K "check_figure" s_check_figure f fd) : FnOk P w K mg base CX0 8 f fd ["value"] (pr_check_figure K) := by
  refine F.ok sc_check_figure (fun vs H Q E h => len1 h) (fun cdv A outer s H vs Q E hr h => ?_)
  obtain ⟨v1, x1, rfl, h1, hp, q⟩ := h
  have nd := sc_check_figure.nd
  refine ⟨_, PSs.nox (pss_one (ps_if (pt_not (pt_val (pe_callO O_is_sailed (hr.mono (by decide)) (by rfl) (pa_cons (pv 0) pa_nil)))) pss_never pss_nil)), ?_⟩
  try dsimp only [cxn_K, cxn_P, cxn_w, cx_K]
  walk_at "k rd"
  · exact q _ _ (by walk_at "k sa") rfl
  · exact hp
theorem ok_is_shape (T : Ty K mg nA rA) (O_is_vector : Ok_is_vector P w K mg base) (O_hull : Ok_hull P w K mg base) (F : FnP K "is_shape" s_is_shape f fd) : FnOk P w K mg base CX0 4 f fd ["value"] (pr_is_shape K) := by
  refine F.ok sc_is_shape (fun vs H Q E h => len1 h) (fun cdv A outer s H vs Q E hr h => ?_)
  obtain ⟨v1, x1, rfl, h1, hp, q⟩ := h
  have nd := sc_is_shape.nd
  refine ⟨_, PSs.nox (pss_cons (ps_if (PW.pt (pw_or (pt_not (pt_val (pe_callB call_isi (by rfl) T.isinstance bt_isinstance (pa_cons (pv 0) (pa_cons (pe_bltn (v := .ty "tuple") rfl T.tuple bt_tuple rfl) pa_nil))))) (pw_or (pt_cmpR (op_eqD hr.units) (pv 0) (pe_tup pa_nil) (nomark _)) (pw_or1 (pt_not (pt_val (pe_callB (cr_all rfl) (by rfl) T.all bt_all (pa_cons (pe_lc (own := [("corner", 1)]) (tt := tYes) rfl nd (pi_tup (pv 0)) (blkOk_by (N := ["value", "corner"]) (sc := defScope s_is_shape) (by decide +kernel)) (fun _ _ _ _ _ => (pg_name (i := 1) nd rfl (Or.inl rfl))) (fun _ _ _ _ _ => pts_nil) (fun _ _ _ _ _ => (pe_callO O_is_vector (hr.mono (by decide)) (by rfl) (pa_cons (pv 1) pa_nil)))) pa_nil)))))))) (pss_one (ps_ret pe_bl)) pss_nil) (pss_one (ps_ret (pe_cmpR (op_eqD hr.units) (pe_callO O_hull (hr.mono (by decide)) (by rfl) (pa_cons (pe_callTy cq_list (by rfl) T.list bt_list (pa_cons (pv 0) pa_nil)) pa_nil)) (pv 0) (nomark _))))), ?_⟩
  try dsimp only [cxn_K, cxn_P, cxn_w, cx_K]
  obtain ⟨hP, hf⟩ := hp
  walk_at "k rd"
  refine x_isi (tyx_tl h1) (b := true) (by rfl) ?_
  walk_at "k rd"
  rename_i p H1 np s1 e1
  refine x_eqT0 (R := Pt K) (f := ptD) (fun _ _ => dp_pt) ptD_lay (fun x => Nat.le_trans (ptD_dep x) (by decide)) (xs := x1) (up_s s1 h1) e1 ?_
  have en : x1.isEmpty = false := by cases h : x1 with
    | nil => exact absurd h hP.ne
    | cons _ _ => rfl
  rw [en]
  walk_at "k rd"
  refine lc_T (R := Pt K) (xs := x1) Rb (fun _ => true) (by walk_at "k fx") (by have := hP.few; omega) (fun i x u H' QY hx s r hy => ?_) fun H' v' s n => ?_
  · walk_at "k rd"
    refine ⟨rfl, ?_⟩
    walk_at "k rd"
    · exact hy _ _ (by walk_at "k sa") rfl
    · exact hP.vp x (List.mem_of_getElem? hx)
  · walk_at "k rd"
    have ea : ((x1.map fun _ => true).all id) = true := by simp
    rw [ea]
    walk_at "k rd"
    refine x_listT (R := Pt K) (xs := x1) (by walk_at "k fx") fun H2 u2 s2 l2 => ?_
    obtain ⟨l, vs, rfl, nl, hl, hq⟩ := l2
    have hL : Ll K (Pt K) H2 (.ref l) x1 := ⟨l, vs, rfl, SqL.of hl, hq⟩
    walk_at "k rd"
    · rename_i H3 u3 s3 r3
      rw [hf] at r3
      refine x_eqPts (xs := x1) r3 (by walk_at "k fx") ?_
      exact q _ _ (by walk_at "k sa") rfl
    · exact hP
theorem ok_is_sailed (T : Ty K mg nA rA) (O_has : Ok_has P w K mg base) (O_is_shape : Ok_is_shape P w K mg base) (F : FnP K "is_sailed" s_is_sailed f fd) : FnOk P w K mg base CX0 7 f fd ["value"] (pr_is_sailed K) := by
  refine F.ok sc_is_sailed (fun vs H Q E h => len1 h) (fun cdv A outer s H vs Q E hr h => ?_)
  obtain ⟨v1, x1, rfl, h1, hp, q⟩ := h
  have nd := sc_is_sailed.nd
  refine ⟨_, PSs.nox (pss_one (ps_ret (pe_and (pe_callO O_is_shape (hr.mono (by decide)) (by rfl) (pa_cons (pv 0) pa_nil)) (pe_and (pe_cmpR op_gt (pe_callB cq_len (by rfl) T.len bt_len (pa_cons (pv 0) pa_nil)) pe_int (nomark _)) (pe_one (pe_callO O_has (hr.mono (by decide)) (by rfl) (pa_cons (pv 0) (pa_cons (pe_glob (v := .ref nA) rfl T.nought rfl) pa_nil)))))))), ?_⟩
  try dsimp only [cxn_K, cxn_P, cxn_w, cx_K]
  walk_at "k rd"
  · have e : decide ((2 : Int) < (x1.length : Int)) = true := decide_eq_true (by have := hp.two; omega)
    rw [e]
    walk_at "k rd"
    refine x_spb2 (R2 := Pt K) (by walk_at "k fx") (T.noughtT _) (fun H' s => q _ _ (by walk_at "k sa") (by rw [hp.nou]; rfl)) ⟨fig_pg hp.hp hp.fix, by unfold Sm; decide, by unfold Sm; decide, by unfold Sm; decide⟩
  · exact ⟨hp.hp, hp.fix⟩
end
end K87
namespace K87
open PySem PySem.Spec PyProof.Rows L2 K8
/-! ### notes -/
theorem pac_w {n : Nte} (h : NtV n) : 0 < n.2.1.2.2 * n.2.2.1 := Int.mul_pos h.vp.1 h.t1
theorem pac_vp {n : Nte} (h : NtV n) : Vp (pac n) := low_vp (p := (n.2.1.1 * n.2.2.2, n.2.1.2.1 * n.2.2.2, n.2.1.2.2 * n.2.2.1)) (pac_w h)
theorem pac_bd {n : Nte} (h : NtV n) : Bd 1000 (pac n) :=
  bd_up (bd_low (p := (n.2.1.1 * n.2.2.2, n.2.1.2.1 * n.2.2.2, n.2.1.2.2 * n.2.2.1)) (g3_posw (pac_w h)) (n := 910) ⟨sm_mul h.bd.x h.tb.y, sm_mul h.bd.y h.tb.y, sm_mul h.bd.w h.tb.x⟩) (by decide)
theorem mem_pacs {ns : List Nte} {w : Str} {p : P3} (h : p ∈ pacs ns w) : ∃ n ∈ ns, p = pac n := by
  obtain ⟨n, hn, e⟩ := List.mem_map.mp h
  exact ⟨n, (List.mem_filter.mp hn).1, e.symm⟩
theorem pacs_len (ns : List Nte) (w : Str) : (pacs ns w).length ≤ ns.length := by
  unfold pacs
  rw [List.length_map]
  exact List.length_filter_le ..
theorem vp_nought : Vp (0, 0, 1) := ⟨by decide, by decide⟩
theorem bd_nought {n : Nat} (h : 1 ≤ n) : Bd n (0, 0, 1) := bd_up (n := 1) ⟨by unfold Sm; decide, by unfold Sm; decide, by unfold Sm; decide⟩ h
theorem lc_up {B C : Nat} {ps : List P3} (h : Lc B ps) (k : B ≤ C) : Lc C ps := by
  obtain ⟨U, a, b, c⟩ := h
  exact ⟨U, a, sm_up b k, c⟩
theorem lc_sub {B : Nat} {ps qs : List P3} (h : Lc B ps) (k : ∀ q ∈ qs, q ∈ ps) : Lc B qs := by
  obtain ⟨U, a, b, c⟩ := h
  exact ⟨U, a, b, fun q hq => c q (k q hq)⟩
theorem lc_nil : Lc 1 [] := ⟨1, by decide, by unfold Sm; decide, fun _ h => by cases h⟩
theorem lc_cons {B n : Nat} {ps : List P3} {p : P3} (h : Lc B ps) (b : Sm n p.2.2) (w : 0 < p.2.2) : Lc (B + n) (p :: ps) := by
  obtain ⟨U, a, s, c⟩ := h
  refine ⟨U * p.2.2, Int.mul_pos a w, sm_mul s b, fun q hq => ?_⟩
  rcases List.mem_cons.mp hq with e | e
  · rw [e]; exact Int.dvd_mul_left _ _
  · exact Int.dvd_trans (c q e) (Int.dvd_mul_right _ _)
theorem lc_app {B C : Nat} {ps qs : List P3} (h : Lc B ps) (k : Lc C qs) : Lc (B + C) (ps ++ qs) := by
  obtain ⟨U, a, s, c⟩ := h
  obtain ⟨U2, a2, s2, c2⟩ := k
  refine ⟨U * U2, Int.mul_pos a a2, sm_mul s s2, fun q hq => ?_⟩
  rcases List.mem_append.mp hq with e | e
  · exact Int.dvd_trans (c q e) (Int.dvd_mul_right _ _)
  · exact Int.dvd_trans (c2 q e) (Int.dvd_mul_left _ _)
theorem lc_all {n : Nat} : ∀ {ps : List P3}, (∀ p ∈ ps, 0 < p.2.2 ∧ Sm n p.2.2) → Lc (1 + n * ps.length) ps
  | [], _ => lc_nil
  | p :: ps, h => by
    have z := lc_cons (lc_all (ps := ps) fun q hq => h q (List.mem_cons_of_mem _ hq)) (h p List.mem_cons_self).2 (h p List.mem_cons_self).1
    refine lc_up z ?_
    rw [List.length_cons, Nat.mul_succ]
    omega
theorem Wn.on {ns : List Nte} (h : Wn ns) : On ns := ⟨h.nv, Nat.le_trans h.few (by decide)⟩
theorem Wn.lc {ns : List Nte} (h : Wn ns) (w : Str) : Lc 241 (pacs ns w) := by
  have z := lc_all (n := 40) (ps := pacs ns w) fun p hp => by
    obtain ⟨n, hn, rfl⟩ := mem_pacs hp
    exact ⟨(pac_vp (h.nv n hn)).1, (h.bd n hn).w⟩
  refine lc_up z ?_
  have := pacs_len ns w
  have := h.few
  omega
theorem Wn.hp {ns : List Nte} (h : Wn ns) : HP ((0, 0, 1) :: pacs ns "made") := by
  refine ⟨by simp, fun p hp => ?_, fun p hp => ?_, lc_up (lc_cons (n := 1) (h.lc "made") (by unfold Sm; decide) (by decide)) (by decide), ?_⟩
  · rcases List.mem_cons.mp hp with e | e
    · rw [e]; exact vp_nought
    · obtain ⟨n, hn, rfl⟩ := mem_pacs e
      exact pac_vp (h.nv n hn)
  · rcases List.mem_cons.mp hp with e | e
    · rw [e]; exact bd_nought (by decide)
    · obtain ⟨n, hn, rfl⟩ := mem_pacs e
      exact pac_bd (h.nv n hn)
  · rw [List.length_cons]
    have := pacs_len ns "made"
    have := h.few
    omega
theorem lea_mem {ns : List Nte} (h : Wn ns) : ∀ p ∈ lea ns, p ∈ ((0, 0, 1) : P3) :: pacs ns "made" := hul_sub h.hp.ne h.hp.vp
theorem Wn.pg {ns : List Nte} (h : Wn ns) : Pg (lea ns) := hul_pg h.hp
theorem Wn.llc {ns : List Nte} (h : Wn ns) : Lc 242 (lea ns) := lc_sub (lc_cons (n := 1) (h.lc "made") (by unfold Sm; decide) (by decide)) (lea_mem h)
theorem Wn.llen {ns : List Nte} (h : Wn ns) : (lea ns).length ≤ 14 := by
  have := hul_len ((0, 0, 1) :: pacs ns "made")
  rw [List.length_cons] at this
  have := pacs_len ns "made"
  have := h.few
  unfold lea
  omega
theorem Wn.lbd {ns : List Nte} (h : Wn ns) : ∀ p ∈ lea ns, Bd 40 p := fun p hp => by
  rcases List.mem_cons.mp (lea_mem h p hp) with e | e
  · rw [e]; exact bd_nought (by decide)
  · obtain ⟨n, hn, rfl⟩ := mem_pacs e
    exact h.bd n hn
/-- more points beside the least polygon -/
theorem Wn.more {ns : List Nte} (h : Wn ns) {ps : List P3} (v : ∀ p ∈ ps, Vp p ∧ Bd 1000 p) (l : Lc 3700 ps) (f : ps.length ≤ 46) : HP (lea ns ++ ps) := by
  refine ⟨?_, fun p hp => ?_, fun p hp => ?_, lc_up (lc_app h.llc l) (by decide), ?_⟩
  · have := h.pg.cnv.ne
    intro e
    exact this (List.append_eq_nil_iff.mp e).1
  · rcases List.mem_append.mp hp with e | e
    · exact h.pg.cnv.vp p e
    · exact (v p e).1
  · rcases List.mem_append.mp hp with e | e
    · exact h.pg.bd p e
    · exact (v p e).2
  · rw [List.length_append]
    have := h.llen
    omega
theorem Wn.one {ns : List Nte} (h : Wn ns) {p : P3} (v : Vp p) (b : Bd 1000 p) : HP (lea ns ++ [p]) := by
  refine h.more (fun q hq => ?_) (lc_up (lc_cons (n := 1000) lc_nil b.w v.1) (by decide)) (by simp)
  rw [List.mem_singleton.mp hq]
  exact ⟨v, b⟩
section
variable {α : Type} {K : PySem.W.Frag} {H : Hp} {v : V}
theorem hs_one {R : Rel α} {p : Addr} {x : α} (h : H p = some (.lst [v])) (r : R H v x) : Hs K R H (.ref p) [x] := ⟨p, [v], rfl, h, .cons r .nil⟩
theorem tl_one {R : Rel α} {p : Addr} {x : α} (h : H p = some (.tup [v])) (r : R H v x) : Tl K R H (.ref p) [x] := ⟨p, [v], rfl, SqT.of h, .cons r .nil⟩
theorem nt_ln {n : Nte} (h : Nt K H v n) : Ln K H v 3 := by
  obtain ⟨a, b, c, e, s, _⟩ := h
  exact ⟨a, _, e, .inr s, rfl⟩
theorem nt_ty {n : Nte} (h : Nt K H v n) : TyX K H v (.type "tuple") := by
  obtain ⟨a, b, c, rfl, s, _⟩ := h
  exact tyx_tup s
theorem x_inW {Q : VK} {p : Addr} {x a b : Str} (h : H p = some (.tup [.str a, .str b])) (k : x = a ∨ x = b) (q : Q (.bl true) H) : rIn K false (.str x) (.ref p) H Q := by
  refine ⟨p, _, rfl, .inr (SqT.of h), rfl, rfl, ?_⟩
  have e : inV (.str x) [.str a, .str b] = true := by
    unfold inV
    rcases k with rfl | rfl
    · simp [eqV]
    · simp [eqV]
  rw [e]
  exact q
end
abbrev pr_is_note (K : PySem.W.Frag) : Sp := sp1 (Nt K) NtV Rb (fun _ => true)
abbrev pr_check_notes (K : PySem.W.Frag) : Sp := sp1 (Tl K (Nt K)) On Rn (fun _ => ())
abbrev pr_noted (K : PySem.W.Frag) : Sp := sp1 (Nt K) NtV (Pt K) pac
abbrev pr_velocities_with (K : PySem.W.Frag) : Sp := sp2 (Tl K (Nt K)) Rs (fun ns _ => On ns) (Hs K (Pt K)) pacs
abbrev pr_least (K : PySem.W.Frag) : Sp := sp1 (Tl K (Nt K)) Wn (Tl K (Pt K)) lea
abbrev pr_lets (K : PySem.W.Frag) : Sp := sp2 (Tl K (Pt K)) (Tl K (Nt K)) (fun S ns => Pg S ∧ On ns) Rb (fun S ns => !((pacs ns "barred").any (hasB S)))
abbrev pr_word_with (K : PySem.W.Frag) : Sp := sp2 (Tl K (Nt K)) (Tl K (Pt K)) (fun ns P => Wn ns ∧ HP (lea ns ++ P)) Rs wrd
abbrev pr_is_told (K : PySem.W.Frag) : Sp := sp2 (Tl K (Nt K)) (Nt K) (fun ns n => Wn ns ∧ NtV n) Rb tld
def pr_check_some (K : PySem.W.Frag) (cA : Addr) : Sp := fun vs H Q E => ∃ v ns, vs = [v] ∧ Tl K (Nt K) H v ns ∧ Wn ns ∧ (opn ns = true → ∀ H', Same H H' → Q .non H') ∧ (opn ns = false → ∀ H', Same H H' → E (.ref cA) none H')
def pr_told_beside (K : PySem.W.Frag) (cA : Addr) : Sp := fun vs H Q E => ∃ v u ns P, vs = [v, u] ∧ Tl K (Nt K) H v ns ∧ Tl K (Pt K) H u P ∧ (Wn ns ∧ Fig P ∧ HP (lea ns ++ P)) ∧ (opn ns = true → ∀ H', Same H H' → Q (.str (wrd ns P)) H') ∧ (opn ns = false → ∀ H', Same H H' → E (.ref cA) none H')
def pr_tells_all (K : PySem.W.Frag) (cA : Addr) : Sp := fun vs H Q E => ∃ v u ns os, vs = [v, u] ∧ Tl K (Nt K) H v ns ∧ Tl K (Nt K) H u os ∧ (Wn ns ∧ On os) ∧ (opn ns = true → ∀ H', Same H H' → Q (.bl (os.all (tld ns))) H') ∧ (opn ns = false → ∀ H', Same H H' → E (.ref cA) none H')
abbrev Ok_is_note (P : Program) (w : World) (K : PySem.W.Frag) (mg : Str → Option Value) (base : Heap) : Prop := OkD P w K mg base CX0 5 "is_note" ["value"] (pr_is_note K)
abbrev Ok_check_notes (P : Program) (w : World) (K : PySem.W.Frag) (mg : Str → Option Value) (base : Heap) : Prop := OkD P w K mg base CX0 6 "check_notes" ["value"] (pr_check_notes K)
abbrev Ok_noted (P : Program) (w : World) (K : PySem.W.Frag) (mg : Str → Option Value) (base : Heap) : Prop := OkD P w K mg base CX0 4 "noted" ["note"] (pr_noted K)
abbrev Ok_velocities_with (P : Program) (w : World) (K : PySem.W.Frag) (mg : Str → Option Value) (base : Heap) : Prop := OkD P w K mg base CX0 5 "velocities_with" ["notes", "word"] (pr_velocities_with K)
abbrev Ok_least (P : Program) (w : World) (K : PySem.W.Frag) (mg : Str → Option Value) (base : Heap) : Prop := OkD P w K mg base CX0 6 "least" ["notes"] (pr_least K)
abbrev Ok_lets (P : Program) (w : World) (K : PySem.W.Frag) (mg : Str → Option Value) (base : Heap) : Prop := OkD P w K mg base CX0 6 "lets" ["polygon", "notes"] (pr_lets K)
abbrev Ok_word_with (P : Program) (w : World) (K : PySem.W.Frag) (mg : Str → Option Value) (base : Heap) : Prop := OkD P w K mg base CX0 7 "word_with" ["notes", "polygon"] (pr_word_with K)
abbrev Ok_is_told (P : Program) (w : World) (K : PySem.W.Frag) (mg : Str → Option Value) (base : Heap) : Prop := OkD P w K mg base CX0 8 "is_told" ["notes", "note"] (pr_is_told K)
abbrev Ok_check_some (P : Program) (w : World) (K : PySem.W.Frag) (mg : Str → Option Value) (base : Heap) (cA : Addr) : Prop := OkD P w K mg base (CX P w) 7 "check_some" ["notes"] (pr_check_some K cA)
abbrev Ok_told_beside (P : Program) (w : World) (K : PySem.W.Frag) (mg : Str → Option Value) (base : Heap) (cA : Addr) : Prop := OkD P w K mg base (CX P w) 9 "told_beside" ["notes", "figure"] (pr_told_beside K cA)
abbrev Ok_tells_all (P : Program) (w : World) (K : PySem.W.Frag) (mg : Str → Option Value) (base : Heap) (cA : Addr) : Prop := OkD P w K mg base (CX P w) 9 "tells_all" ["notes", "others"] (pr_tells_all K cA)
section
variable {P : Program} {w : World} {K : PySem.W.Frag} {mg : Str → Option Value} {base : Heap} {nA rA cA : Addr} {f : Addr} {fd : FuncData}
theorem ok_is_note (T : Ty K mg nA rA) (O_is_length : Ok_is_length P w K mg base) (O_is_vector : Ok_is_vector P w K mg base) (F : FnP K "is_note" s_is_note f fd) : FnOk P w K mg base CX0 5 f fd ["value"] (pr_is_note K) := by
  refine F.ok sc_is_note (fun vs H Q E h => len1 h) (fun cdv A outer s H vs Q E hr h => ?_)
  obtain ⟨v1, x1, rfl, h1, hp, q⟩ := h
  have nd := sc_is_note.nd
  refine ⟨_, PSs.nox (pss_cons (ps_if (PW.pt (pw_or (pt_not (pt_val (pe_callB call_isi (by rfl) T.isinstance bt_isinstance (pa_cons (pv 0) (pa_cons (pe_bltn (v := .ty "tuple") rfl T.tuple bt_tuple rfl) pa_nil))))) (pw_or (pt_cmpR op_ne (pe_callB cq_len (by rfl) T.len bt_len (pa_cons (pv 0) pa_nil)) pe_int (nomark _)) (pw_or1 (pt_not (pt_val (pe_callB call_isi (by rfl) T.isinstance bt_isinstance (pa_cons (pe_ix (r := rIxT K) ix_tup (pv 0) pe_int (fun _ _ => rfl)) (pa_cons (pe_bltn (v := .ty "str") rfl T.str bt_str rfl) pa_nil))))))))) (pss_one (ps_ret pe_bl)) pss_nil) (pss_one (ps_ret (pe_and (pe_cmpR op_in_seq (pe_ix (r := rIxT K) ix_tup (pv 0) pe_int (fun _ _ => rfl)) (pe_tup (pa_cons pe_str (pa_cons pe_str pa_nil))) (by rfl)) (pe_and (pe_callO O_is_vector (hr.mono (by decide)) (by rfl) (pa_cons (pe_ix (r := rIxT K) ix_tup (pv 0) pe_int (fun _ _ => rfl)) pa_nil)) (pe_one (pe_callO O_is_length (hr.mono (by decide)) (by rfl) (pa_cons (pe_ix (r := rIxT K) ix_tup (pv 0) pe_int (fun _ _ => rfl)) pa_nil)))))))), ?_⟩
  try dsimp only [cxn_K, cxn_P, cxn_w, cx_K]
  walk_at "k rd"
  refine x_isi (nt_ty h1) (b := true) (by rfl) ?_
  walk_at "k rd"
  refine x_ln (nt_ln h1) ?_
  walk_at "k rd"
  refine x_ite (fun e => by simp at e) fun _ => ?_
  walk_at "k rd"
  refine x_isi (.base (.str _)) (b := true) (by rfl) ?_
  walk_at "k rd"
  refine x_inW (by assumption) hp.wd ?_
  walk_at "k rd"
  · exact q _ _ (by walk_at "k sa") rfl
  · exact ⟨hp.t1, hp.t2, hp.tg⟩
  · exact hp.vp
theorem ok_check_notes (T : Ty K mg nA rA) (O_is_note : Ok_is_note P w K mg base) (F : FnP K "check_notes" s_check_notes f fd) : FnOk P w K mg base CX0 6 f fd ["value"] (pr_check_notes K) := by
  refine F.ok sc_check_notes (fun vs H Q E h => len1 h) (fun cdv A outer s H vs Q E hr h => ?_)
  obtain ⟨v1, x1, rfl, h1, hp, q⟩ := h
  have nd := sc_check_notes.nd
  refine ⟨_, PSs.nox (pss_cons (ps_if (pt_not (pt_val (pe_callB call_isi (by rfl) T.isinstance bt_isinstance (pa_cons (pv 0) (pa_cons (pe_bltn (v := .ty "tuple") rfl T.tuple bt_tuple rfl) pa_nil))))) pss_never pss_nil) (pss_one (ps_for PassesOwn.never rfl (pi_en rfl T.enumerate (pa_cons (pv 0) pa_nil)) (pg_tup (n := 2) rfl (pgs_cons (pg_name (i := 1) nd rfl (Or.inl rfl)) (pgs_cons (pg_name (i := 2) nd rfl (Or.inl rfl)) pgs_nil))) (pss_one (ps_if (PW.pt (pw_or (pt_cmpR op_eq (pv 1) (pe_glob (v := .int 12) rfl T.most.choose_spec ⟨_, rfl⟩) (nomark _)) (pw_or1 (pt_not (pt_val (pe_callO O_is_note (hr.mono (by decide)) (by rfl) (pa_cons (pv 2) pa_nil))))))) pss_never pss_nil))))), ?_⟩
  try dsimp only [cxn_K, cxn_P, cxn_w, cx_K]
  walk_at "k rd"
  refine x_isi (tyx_tl h1) (b := true) (by rfl) ?_
  walk_at "k rd"
  refine fk_E (R := Nt K) (xs := x1) h1 (fun i σ' H' => Same H H' ∧ ∃ z1 z2, σ' = [some v1, z1, z2]) ⟨same_refl _, none, none, rfl⟩ (fun i σ' H' p => sm_tk p.1) (fun i x u p σ' H' H2 hx r hP s hT => ?_) fun σ' H' hP => ?_
  · obtain ⟨s0, z1, z2, rfl⟩ := hP
    have hi : i < x1.length := (List.getElem?_eq_some_iff.mp hx).1
    have r2 : Nt K H2 u x := up_s (same_trans s0 s) r
    refine x_gnew hT rfl ?_
    walk_at "k rd"
    have e : decide ((i : Int) = 12) = false := decide_eq_false (by have := hp.few; omega)
    rw [e]
    walk_at "k rd"
    · exact ⟨by walk_at "k sa", _, _, rfl⟩
    · exact hp.nv x (List.mem_of_getElem? hx)
  · exact q _ _ hP.1 rfl
theorem ok_noted (T : Ty K mg nA rA) (O_vector_over : Ok_vector_over P w K mg base) (F : FnP K "noted" s_noted f fd) : FnOk P w K mg base CX0 4 f fd ["note"] (pr_noted K) := by
  refine F.ok sc_noted (fun vs H Q E h => len1 h) (fun cdv A outer s H vs Q E hr h => ?_)
  obtain ⟨v1, x1, rfl, h1, hp, q⟩ := h
  have nd := sc_noted.nd
  refine ⟨_, PSs.nox (pss_one (ps_ret (pe_callO O_vector_over (hr.mono (by decide)) (by rfl) (pa_cons (pe_ix (r := rIxT K) ix_tup (pv 0) pe_int (fun _ _ => rfl)) (pa_cons (pe_ix (r := rIxT K) ix_tup (pv 0) pe_int (fun _ _ => rfl)) pa_nil))))), ?_⟩
  try dsimp only [cxn_K, cxn_P, cxn_w, cx_K]
  walk_at "k rd"
  · exact q _ _ (by walk_at "k sa") (by assumption)
  · exact ⟨hp.bd, hp.tb, hp.vp.1, hp.t1⟩
theorem ok_velocities_with (T : Ty K mg nA rA) (O_noted : Ok_noted P w K mg base) (F : FnP K "velocities_with" s_velocities_with f fd) : FnOk P w K mg base CX0 5 f fd ["notes", "word"] (pr_velocities_with K) := by
  refine F.ok sc_velocities_with (fun vs H Q E h => len2 h) (fun cdv A outer s H vs Q E hr h => ?_)
  obtain ⟨v1, v2, x1, x2, rfl, h1, h2, hp, q⟩ := h
  have nd := sc_velocities_with.nd
  refine ⟨_, PSs.nox (pss_one (ps_ret (pe_lc (own := [("note", 2)]) rfl nd (pi_tup (pv 0)) (blkOk_by (N := ["notes", "word", "note"]) (sc := defScope s_velocities_with) (by decide +kernel)) (fun _ _ _ _ _ => (pg_name (i := 2) nd rfl (Or.inl rfl))) (fun _ _ _ _ _ => (pts_one (pt_cmpR op_eq (pe_ix (r := rIxT K) ix_tup (pv 2) pe_int (fun _ _ => rfl)) (pv 1) (nomark _)))) (fun _ _ _ _ _ => (pe_callO O_noted (hr.mono (by decide)) (by rfl) (pa_cons (pv 2) pa_nil)))))), ?_⟩
  try dsimp only [cxn_K, cxn_P, cxn_w, cx_K]
  cases h2
  walk_at "k rd"
  refine lc_TF (R := Nt K) (xs := x1) (Pt K) pac (fun n => decide (n.1 = x2)) h1 (by have := hp.few; omega) (fun i x u H' QY QN hx s r hy hn => ?_) fun H' v' s n => ?_
  · walk_at "k rd"
    refine ⟨rfl, ?_⟩
    walk_at "k rd"
    refine x_ite (fun e => ?_) fun e => hn e _ (same_refl _)
    walk_at "k rd"
    · exact hy e _ _ (by walk_at "k sa") (by assumption)
    · exact hp.nv x (List.mem_of_getElem? hx)
  · exact q _ _ s n.hs
theorem ok_least (T : Ty K mg nA rA) (O_hull : Ok_hull P w K mg base) (O_velocities_with : Ok_velocities_with P w K mg base) (F : FnP K "least" s_least f fd) : FnOk P w K mg base CX0 6 f fd ["notes"] (pr_least K) := by
  refine F.ok sc_least (fun vs H Q E h => len1 h) (fun cdv A outer s H vs Q E hr h => ?_)
  obtain ⟨v1, x1, rfl, h1, hp, q⟩ := h
  have nd := sc_least.nd
  refine ⟨_, PSs.nox (pss_one (ps_ret (pe_callO O_hull (hr.mono (by decide)) (by rfl) (pa_cons (pe_op op_cat (pe_lst (pa_cons (pe_glob (v := .ref nA) rfl T.nought rfl) pa_nil)) (pe_callO O_velocities_with (hr.mono (by decide)) (by rfl) (pa_cons (pv 0) (pa_cons pe_str pa_nil)))) pa_nil)))), ?_⟩
  try dsimp only [cxn_K, cxn_P, cxn_w, cx_K]
  walk_at "k rd"
  · rename_i l H1 nl s1 hl H2 v2 s2 r2
    have hO : Hs K (Pt K) H2 (.ref l) [(0, 0, 1)] := up_s s2 (hs_one hl (T.noughtT _))
    refine x_cat (R := Pt K) hO r2 ?_ fun H3 u3 s3 n3 => ?_
    · have := pacs_len x1 "made"
      have := hp.few
      simp only [List.length_singleton]
      omega
    · walk_at "k rd"
      · exact q _ _ (by walk_at "k sa") (by assumption)
      · exact hp.hp
  · exact hp.on
theorem ok_lets (T : Ty K mg nA rA) (O_sides : Ok_sides P w K mg base) (O_velocities_with : Ok_velocities_with P w K mg base) (O_are_held : Ok_are_held P w K mg base) (F : FnP K "lets" s_lets f fd) : FnOk P w K mg base CX0 6 f fd ["polygon", "notes"] (pr_lets K) := by
  refine F.ok sc_lets (fun vs H Q E h => len2 h) (fun cdv A outer s H vs Q E hr h => ?_)
  obtain ⟨v1, v2, x1, x2, rfl, h1, h2, hp, q⟩ := h
  have nd := sc_lets.nd
  refine ⟨_, PSs.nox (pss_cons (ps_set (i := 2) nd rfl (Or.inr rfl) (pe_callO O_sides (hr.mono (by decide)) (by rfl) (pa_cons (pv 0) pa_nil))) (pss_one (ps_ret (pe_not (pe_callB (cr_any rfl) (by rfl) T.any bt_any (pa_cons (pe_lc (own := [("velocity", 3)]) (tt := tYes) rfl nd (pi_list (pe_callO O_velocities_with (hr.mono (by decide)) (by rfl) (pa_cons (pv 1) (pa_cons pe_str pa_nil)))) (blkOk_by (N := ["polygon", "notes", "borders", "velocity"]) (sc := defScope s_lets) (by decide +kernel)) (fun _ _ _ _ _ => (pg_name (i := 3) nd rfl (Or.inl rfl))) (fun _ _ _ _ _ => pts_nil) (fun _ _ _ _ _ => (pe_callO O_are_held (hr.mono (by decide)) (by rfl) (pa_cons (pv 2) (pa_cons (pv 3) pa_nil))))) pa_nil)))))), ?_⟩
  try dsimp only [cxn_K, cxn_P, cxn_w, cx_K]
  walk_at "k rd"
  · refine lc_L (R := Pt K) (xs := pacs x2 "barred") Rb (hasB x1) (by walk_at "k fx") (by have := pacs_len x2 "barred"; have := hp.2.few; omega) (fun i x u H' QY hx s r hy => ?_) fun H' v' s n => ?_
    · walk_at "k rd"
      refine ⟨rfl, ?_⟩
      walk_at "k rd"
      · refine hy _ _ (by walk_at "k sa") ?_
        rw [has_eq hp.1]
        rfl
      · obtain ⟨n, hn, rfl⟩ := mem_pacs (List.mem_of_getElem? hx)
        exact ⟨sds_len hp.1, sds_bd hp.1, pac_bd (hp.2.nv n hn)⟩
    · walk_at "k rd"
      refine q _ _ (by walk_at "k sa") ?_
      show V.bl _ = V.bl _
      rw [List.any_map]
      rfl
  · exact hp.2
  · exact hp.1
theorem ok_word_with (T : Ty K mg nA rA) (O_least : Ok_least P w K mg base) (O_within : Ok_within P w K mg base) (O_lets : Ok_lets P w K mg base) (O_hull : Ok_hull P w K mg base) (F : FnP K "word_with" s_word_with f fd) : FnOk P w K mg base CX0 7 f fd ["notes", "polygon"] (pr_word_with K) := by
  refine F.ok sc_word_with (fun vs H Q E h => len2 h) (fun cdv A outer s H vs Q E hr h => ?_)
  obtain ⟨v1, v2, x1, x2, rfl, h1, h2, hp, q⟩ := h
  have nd := sc_word_with.nd
  refine ⟨_, PSs.nox (pss_cons (ps_set (i := 2) nd rfl (Or.inl rfl) (pe_callO O_least (hr.mono (by decide)) (by rfl) (pa_cons (pv 0) pa_nil))) (pss_cons (ps_if (pt_val (pe_callO O_within (hr.mono (by decide)) (by rfl) (pa_cons (pv 1) (pa_cons (pv 2) pa_nil)))) (pss_one (ps_ret pe_str)) pss_nil) (pss_one (ps_ret (pe_ifExp (pt_val (pe_callO O_lets (hr.mono (by decide)) (by rfl) (pa_cons (pe_callO O_hull (hr.mono (by decide)) (by rfl) (pa_cons (pe_op op_cat (pe_callTy cq_list (by rfl) T.list bt_list (pa_cons (pv 2) pa_nil)) (pe_callTy cq_list (by rfl) T.list bt_list (pa_cons (pv 1) pa_nil))) pa_nil)) (pa_cons (pv 0) pa_nil)))) pe_str pe_str))))), ?_⟩
  try dsimp only [cxn_K, cxn_P, cxn_w, cx_K]
  obtain ⟨hW, hP⟩ := hp
  have hb : ∀ p ∈ x2, Bd 1000 p := fun p hp => hP.bd p (List.mem_append_right _ hp)
  have hl : x2.length ≤ 60 := by have := hP.few; rw [List.length_append] at this; omega
  walk_at "k rd"
  · refine x_ite (fun e => ?_) fun e => ?_
    · walk_at "k rd"
      refine q _ _ (by walk_at "k sa") ?_
      show V.str _ = V.str (wrd x1 x2)
      unfold wrd
      rw [if_pos e]
    · have e : ¬ (x2.all (hasB (lea x1)) = true) := by rw [e]; decide
      walk_at "k rd"
      refine x_listT (R := Pt K) (xs := lea x1) (by walk_at "k fx") fun H2 u2 s2 l2 => ?_
      have l2 : Hs K (Pt K) H2 u2 (lea x1) := by
        obtain ⟨l, vs, rfl, nl, hl, hq⟩ := l2
        exact ⟨l, vs, rfl, hl, hq⟩
      walk_at "k rd"
      refine x_listT (R := Pt K) (xs := x2) (by walk_at "k fx") fun H3 u3 s3 l3 => ?_
      have l3 : Hs K (Pt K) H3 u3 x2 := by
        obtain ⟨l, vs, rfl, nl, hl, hq⟩ := l3
        exact ⟨l, vs, rfl, hl, hq⟩
      walk_at "k rd"
      refine x_cat (R := Pt K) (up_s s3 l2) l3 (by have := hW.llen; omega) fun H4 u4 s4 n4 => ?_
      walk_at "k rd"
      · refine x_ite (fun e2 => ?_) fun e2 => ?_
        · walk_at "k rd"
          refine q _ _ (by walk_at "k sa") ?_
          show V.str _ = V.str (wrd x1 x2)
          unfold wrd brs
          have e3 : ¬ ((pacs x1 "barred").any (hasB (hul (lea x1 ++ x2))) = true) := by
            intro z
            rw [z] at e2
            cases e2
          rw [if_neg e, if_neg e3]
        · walk_at "k rd"
          refine q _ _ (by walk_at "k sa") ?_
          show V.str _ = V.str (wrd x1 x2)
          unfold wrd brs
          have e3 : (pacs x1 "barred").any (hasB (hul (lea x1 ++ x2))) = true := by
            cases z : (pacs x1 "barred").any (hasB (hul (lea x1 ++ x2))) with
            | true => rfl
            | false => rw [z] at e2; cases e2
          rw [if_neg e, if_pos e3]
      · exact ⟨hul_pg hP, hW.on⟩
      · exact hP
  · exact ⟨hW.pg, hb, by omega⟩
  · exact hW
theorem ok_is_told (T : Ty K mg nA rA) (O_word_with : Ok_word_with P w K mg base) (O_noted : Ok_noted P w K mg base) (F : FnP K "is_told" s_is_told f fd) : FnOk P w K mg base CX0 8 f fd ["notes", "note"] (pr_is_told K) := by
  refine F.ok sc_is_told (fun vs H Q E h => len2 h) (fun cdv A outer s H vs Q E hr h => ?_)
  obtain ⟨v1, v2, x1, x2, rfl, h1, h2, hp, q⟩ := h
  have nd := sc_is_told.nd
  refine ⟨_, PSs.nox (pss_cons (ps_set (i := 2) nd rfl (Or.inl rfl) (pe_callO O_word_with (hr.mono (by decide)) (by rfl) (pa_cons (pv 0) (pa_cons (pe_tup (pa_cons (pe_callO O_noted (hr.mono (by decide)) (by rfl) (pa_cons (pv 1) pa_nil)) pa_nil)) pa_nil)))) (pss_one (ps_ret (pe_cmpR op_eq (pv 2) (pe_ifExp (pt_cmpR op_eq (pe_ix (r := rIxT K) ix_tup (pv 1) pe_int (fun _ _ => rfl)) pe_str (nomark _)) pe_str pe_str) (nomark _))))), ?_⟩
  try dsimp only [cxn_K, cxn_P, cxn_w, cx_K]
  obtain ⟨hW, hV⟩ := hp
  walk_at "k rd"
  · rename_i H1 u1 s1 r1 p2 H2 n2 s2 e2
    have t2 : Tl K (Pt K) H2 (.ref p2) [pac x2] := tl_one e2 (up_s s2 r1)
    refine x_sps2 (R1 := Tl K (Nt K)) (by walk_at "k fx") t2 (fun H3 s3 => ?_) ⟨hW, hW.one (pac_vp hV) (pac_bd hV)⟩
    walk_at "k rd"
    refine x_ite (fun e => ?_) fun e => ?_
    · walk_at "k rd"
      refine q _ _ (by walk_at "k sa") ?_
      show V.bl _ = V.bl (tld x1 x2)
      unfold tld due
      rw [if_pos (of_decide_eq_true e)]
    · walk_at "k rd"
      refine q _ _ (by walk_at "k sa") ?_
      show V.bl _ = V.bl (tld x1 x2)
      unfold tld due
      rw [if_neg (of_decide_eq_false e)]
  · exact hV
theorem ok_check_some (T : Ty K mg nA rA) (Z : Tn K mg cA) (O_lets : Ok_lets P w K mg base) (O_least : Ok_least P w K mg base) (F : FnP K "check_some" s_check_some f fd) : FnOk P w K mg base (CX P w) 7 f fd ["notes"] (pr_check_some K cA) := by
  refine F.ok sc_check_some (fun vs H Q E h => (by obtain ⟨_, _, rfl, _⟩ := h; rfl)) (fun cdv A outer s H vs Q E hr h => ?_)
  obtain ⟨v1, x1, rfl, h1, hp, q, qe⟩ := h
  have nd := sc_check_some.nd
  refine ⟨_, (pss_one (ps_if (pt_not (pt_val (pe_callO O_lets (hr.mono (by decide)) (by rfl) (pa_cons (pe_callO O_least (hr.mono (by decide)) (by rfl) (pa_cons (pv 0) pa_nil)) (pa_cons (pv 0) pa_nil))))) (pss_one (ps_raise rfl (takes_of rfl rfl rfl rfl) (pmk_own0 PySem.F.excBase_ValueError Z.x Z.g Z.k (raises_own Z.b Z.t) rfl))) pss_nil)), ?_⟩
  try dsimp only [cxn_K, cxn_P, cxn_w, cx_K]
  walk_at "k rd"
  · have e0 : (!(pacs x1 "barred").any (hasB (lea x1))) = opn x1 := rfl
    rw [e0]
    cases e : opn x1 with
    | true =>
      walk_at "k rd"
      exact q e _ (by walk_at "k sa")
    | false =>
      walk_at "k rd"
      exact qe e _ (by walk_at "k sa")
  · exact ⟨hp.pg, hp.on⟩
  · exact hp
theorem ok_told_beside (T : Ty K mg nA rA) (Z : Tn K mg cA) (O_check_notes : Ok_check_notes P w K mg base) (O_check_figure : Ok_check_figure P w K mg base) (O_check_some : Ok_check_some P w K mg base cA) (O_word_with : Ok_word_with P w K mg base) (F : FnP K "told_beside" s_told_beside f fd) : FnOk P w K mg base (CX P w) 9 f fd ["notes", "figure"] (pr_told_beside K cA) := by
  refine F.ok sc_told_beside (fun vs H Q E h => (by obtain ⟨_, _, _, _, rfl, _⟩ := h; rfl)) (fun cdv A outer s H vs Q E hr h => ?_)
  obtain ⟨v1, v2, x1, x2, rfl, h1, h2, hp, q, qe⟩ := h
  have nd := sc_told_beside.nd
  refine ⟨_, (pss_cons (ps_expr (pe_callO O_check_notes (hr.mono (by decide)) (by rfl) (pa_cons (pv 0) pa_nil))) (pss_cons (ps_expr (pe_callO O_check_figure (hr.mono (by decide)) (by rfl) (pa_cons (pv 1) pa_nil))) (pss_cons (ps_expr (pe_callE O_check_some (hr.mono (by decide)) (by rfl) (passes_call (takes_of rfl rfl rfl rfl) (fun _ _ _ _ h => h)) (pa_cons (pv 0) pa_nil))) (pss_one (ps_ret (pe_callO O_word_with (hr.mono (by decide)) (by rfl) (pa_cons (pv 0) (pa_cons (pv 1) pa_nil)))))))), ?_⟩
  try dsimp only [cxn_K, cxn_P, cxn_w, cx_K]
  obtain ⟨hW, hF, hP⟩ := hp
  walk_at "k rd"
  · refine ⟨_, x1, rfl, by walk_at "k fx", hW, fun e H3 s3 => ?_, fun e H3 s3 => qe e _ (by walk_at "k sa")⟩
    walk_at "k rd"
    · exact q e _ (by walk_at "k sa")
    · exact ⟨hW, hP⟩
  · exact hF
  · exact hW.on
theorem ok_tells_all (T : Ty K mg nA rA) (Z : Tn K mg cA) (O_check_notes : Ok_check_notes P w K mg base) (O_check_some : Ok_check_some P w K mg base cA) (O_is_told : Ok_is_told P w K mg base) (F : FnP K "tells_all" s_tells_all f fd) : FnOk P w K mg base (CX P w) 9 f fd ["notes", "others"] (pr_tells_all K cA) := by
  refine F.ok sc_tells_all (fun vs H Q E h => (by obtain ⟨_, _, _, _, rfl, _⟩ := h; rfl)) (fun cdv A outer s H vs Q E hr h => ?_)
  obtain ⟨v1, v2, x1, x2, rfl, h1, h2, hp, q, qe⟩ := h
  have nd := sc_tells_all.nd
  refine ⟨_, (pss_cons (ps_expr (pe_callO O_check_notes (hr.mono (by decide)) (by rfl) (pa_cons (pv 0) pa_nil))) (pss_cons (ps_expr (pe_callO O_check_notes (hr.mono (by decide)) (by rfl) (pa_cons (pv 1) pa_nil))) (pss_cons (ps_expr (pe_callE O_check_some (hr.mono (by decide)) (by rfl) (passes_call (takes_of rfl rfl rfl rfl) (fun _ _ _ _ h => h)) (pa_cons (pv 0) pa_nil))) (pss_one (ps_ret (pe_callB (cr_all rfl) (by rfl) T.all bt_all (pa_cons (pe_lc (own := [("note", 2)]) (tt := tYes) rfl nd (pi_tup (pv 1)) (blkOk_by (N := ["notes", "others", "note"]) (sc := defScope s_tells_all) (by decide +kernel)) (fun _ _ _ _ _ => (pg_name (i := 2) nd rfl (Or.inl rfl))) (fun _ _ _ _ _ => pts_nil) (fun _ _ _ _ _ => (pe_callO O_is_told (hr.mono (by decide)) (by rfl) (pa_cons (pv 0) (pa_cons (pv 2) pa_nil))))) pa_nil))))))), ?_⟩
  try dsimp only [cxn_K, cxn_P, cxn_w, cx_K]
  obtain ⟨hW, hO⟩ := hp
  walk_at "k rd"
  · refine ⟨_, x1, rfl, by walk_at "k fx", hW, fun e H3 s3 => ?_, fun e H3 s3 => qe e _ (by walk_at "k sa")⟩
    walk_at "k rd"
    refine lc_T (R := Nt K) (xs := x2) Rb (tld x1) (by walk_at "k fx") (by have := hO.few; omega) (fun i x u H' QY hx s r hy => ?_) fun H' v' s n => ?_
    · walk_at "k rd"
      refine ⟨rfl, ?_⟩
      walk_at "k rd"
      · exact hy _ _ (by walk_at "k sa") rfl
      · exact ⟨hW, hO.nv x (List.mem_of_getElem? hx)⟩
    · walk_at "k rd"
      have e2 : ((x2.map (tld x1)).all id) = x2.all (tld x1) := by rw [List.all_map]; rfl
      rw [e2]
      exact q e _ (by walk_at "k sa")
  · exact hO
  · exact hW.on
end
end K87
namespace K87
open PySem PySem.Spec PyProof.Rows L2 K8
/-! ### the law's numbers and points -/
abbrev pr_w_gcd (K : PySem.W.Frag) : Sp := sp2 Ri Ri any2 Ri gc
abbrev pr_w_ratio (K : PySem.W.Frag) : Sp := sp2 Ri Ri (fun n m => 0 < m ∧ Sm 100 m) (Pr K) (fun n m => low2 (n, m))
abbrev pr_w_spot (K : PySem.W.Frag) : Sp := sp3 Ri Ri Ri (fun _ _ w => 0 < w ∧ Sm 8000 w) (Pt K) (fun x y w => low (x, y, w))
abbrev pr_w_sum (K : PySem.W.Frag) : Sp := sp2 (Pt K) (Pt K) (fun p q => Bd 2000 p ∧ Bd 2000 q ∧ 0 < p.2.2 ∧ 0 < q.2.2) (Pt K) sumP
abbrev pr_w_anti (K : PySem.W.Frag) : Sp := sp1 (Pt K) any1 (Pt K) anti
abbrev pr_w_less (K : PySem.W.Frag) : Sp := sp2 (Pt K) (Pt K) (fun p q => Bd 2000 p ∧ Bd 2000 q ∧ 0 < p.2.2 ∧ 0 < q.2.2) (Pt K) (fun p q => sumP p (anti q))
abbrev pr_w_led (K : PySem.W.Frag) : Sp := sp2 (Pt K) (Pr K) (fun p r => Bd 2000 p ∧ Bq 100 r ∧ 0 < p.2.2 ∧ 0 < r.2) (Pt K) ledP
abbrev pr_w_bend (K : PySem.W.Frag) : Sp := sp3 (Pr K) (Pr K) (Pr K) (fun a b c => Bq 5000 a ∧ Bq 5000 b ∧ Bq 5000 c) Ri crs
abbrev Ok_w_gcd (P : Program) (w : World) (K : PySem.W.Frag) (mg : Str → Option Value) (base : Heap) : Prop := OkD P w K mg base CX0 1 "_law_gcd" ["_law_one", "_law_two"] (pr_w_gcd K)
abbrev Ok_w_ratio (P : Program) (w : World) (K : PySem.W.Frag) (mg : Str → Option Value) (base : Heap) : Prop := OkD P w K mg base CX0 2 "_law_ratio" ["_law_n", "_law_m"] (pr_w_ratio K)
abbrev Ok_w_spot (P : Program) (w : World) (K : PySem.W.Frag) (mg : Str → Option Value) (base : Heap) : Prop := OkD P w K mg base CX0 2 "_law_spot" ["_law_x", "_law_y", "_law_w"] (pr_w_spot K)
abbrev Ok_w_sum (P : Program) (w : World) (K : PySem.W.Frag) (mg : Str → Option Value) (base : Heap) : Prop := OkD P w K mg base CX0 3 "_law_sum" ["_law_p", "_law_q"] (pr_w_sum K)
abbrev Ok_w_anti (P : Program) (w : World) (K : PySem.W.Frag) (mg : Str → Option Value) (base : Heap) : Prop := OkD P w K mg base CX0 1 "_law_anti" ["_law_p"] (pr_w_anti K)
abbrev Ok_w_less (P : Program) (w : World) (K : PySem.W.Frag) (mg : Str → Option Value) (base : Heap) : Prop := OkD P w K mg base CX0 4 "_law_less" ["_law_p", "_law_q"] (pr_w_less K)
abbrev Ok_w_led (P : Program) (w : World) (K : PySem.W.Frag) (mg : Str → Option Value) (base : Heap) : Prop := OkD P w K mg base CX0 3 "_law_led" ["_law_p", "_law_rate"] (pr_w_led K)
abbrev Ok_w_bend (P : Program) (w : World) (K : PySem.W.Frag) (mg : Str → Option Value) (base : Heap) : Prop := OkD P w K mg base CX0 1 "_law_bend" ["_law_one", "_law_two", "_law_three"] (pr_w_bend K)
section
variable {P : Program} {w : World} {K : PySem.W.Frag} {mg : Str → Option Value} {base : Heap} {nA rA cA : Addr} {f : Addr} {fd : FuncData}
theorem ok_w_gcd (T : Ty K mg nA rA)  (F : FnP K "_law_gcd" s_w_gcd f fd) : FnOk P w K mg base CX0 1 f fd ["_law_one", "_law_two"] (pr_w_gcd K) := by
  refine F.ok sc_w_gcd (fun vs H Q E h => len2 h) (fun cdv A outer s H vs Q E hr h => ?_)
  obtain ⟨v1, v2, x1, x2, rfl, h1, h2, hp, q⟩ := h
  have nd := sc_w_gcd.nd
  refine ⟨_, PSs.nox (pss_cons (ps_par (i := 0) (j := 1) rfl nd rfl rfl (by decide) rfl rfl (pa_cons (pe_callB cq_abs (by rfl) T.abs bt_abs (pa_cons (pv 0) pa_nil)) (pa_cons (pe_callB cq_abs (by rfl) T.abs bt_abs (pa_cons (pv 1) pa_nil)) pa_nil)) rfl) (pss_cons (ps_while PassesOwn.never (pt_cmpR op_gt (pv 1) pe_int (nomark _)) (pss_one (ps_par (i := 0) (j := 1) rfl nd rfl rfl (by decide) rfl rfl (pa_cons (pv 1) (pa_cons (pe_op op_mod (pe_callTy cq_int (by rfl) T.int bt_int (pa_cons (pv 0) pa_nil)) (pv 1)) pa_nil)) rfl))) (pss_one (ps_ret (pv 0))))), ?_⟩
  try dsimp only [cxn_K, cxn_P, cxn_w, cx_K]
  cases h1
  cases h2
  walk_at "k rd"
  refine x_while (fun m σ' H' => H' = H ∧ ∃ a : Nat, σ' = [some (.int a), some (.int m)] ∧ Nat.gcd a m = Nat.gcd x1.natAbs x2.natAbs) x2.natAbs ⟨rfl, _, rfl, rfl⟩ ?_
  rintro m σ' H' ⟨rfl, a, rfl, hg⟩
  walk_at "k rd"
  refine x_ite (fun e => ?_) fun e => ?_
  · have e : 0 < m := by have := of_decide_eq_true e; omega
    refine ⟨_, fun _ _ h => h, ?_⟩
    walk_at "k rd"
    refine x_I (show (0 : Int) < (m : Int) by omega) ?_
    walk_at "k rd"
    refine ⟨a % m, Nat.mod_lt _ e, rfl, m, ?_, ?_⟩
    · rw [← Int.natCast_emod]
      rfl
    · rw [← hg]
      rw [Nat.gcd_comm a m, Nat.gcd_rec m a, Nat.gcd_comm]
  · have e : m = 0 := by have := of_decide_eq_false e; omega
    subst e
    walk_at "k rd"
    refine q _ _ (same_refl _) ?_
    rw [Nat.gcd_zero_right] at hg
    show V.int _ = V.int _
    rw [hg]
    rfl
theorem ok_w_ratio (T : Ty K mg nA rA) (O_w_gcd : Ok_w_gcd P w K mg base) (F : FnP K "_law_ratio" s_w_ratio f fd) : FnOk P w K mg base CX0 2 f fd ["_law_n", "_law_m"] (pr_w_ratio K) := by
  refine F.ok sc_w_ratio (fun vs H Q E h => len2 h) (fun cdv A outer s H vs Q E hr h => ?_)
  obtain ⟨v1, v2, x1, x2, rfl, h1, h2, hp, q⟩ := h
  have nd := sc_w_ratio.nd
  refine ⟨_, PSs.nox (pss_cons (ps_set (i := 2) nd rfl (Or.inl rfl) (pe_ifExp (pt_cmpR op_gt (pv 1) pe_int (nomark _)) (pe_callO O_w_gcd (hr.mono (by decide)) (by rfl) (pa_cons (pv 0) (pa_cons (pv 1) pa_nil))) (pe_op op_sub pe_int (pe_callO O_w_gcd (hr.mono (by decide)) (by rfl) (pa_cons (pv 0) (pa_cons (pv 1) pa_nil)))))) (pss_one (ps_ret (pe_tup (pa_cons (pe_op op_fdivW (pv 0) (pv 2)) (pa_cons (pe_op op_fdivW (pv 1) (pv 2)) pa_nil)))))), ?_⟩
  try dsimp only [cxn_K, cxn_P, cxn_w, cx_K]
  cases h1
  cases h2
  have hg : 0 < gc x1 x2 := gc_pos_r (by omega)
  walk_at "k rd"
  have e : decide ((0 : Int) < x2) = true := decide_eq_true hp.1
  rw [e]
  walk_at "k rd"
  · have hs : Sm 100 (gc x1 x2) := sm_gcr hp.2 (by omega)
    refine x_I (cdivw hg hs (by decide)) ?_
    walk_at "k rd"
    refine x_I (cdivw hg hs (by decide)) ?_
    walk_at "k rd"
    exact q _ _ (by walk_at "k sa") (by walk_at "k fx")
  · trivial
theorem ok_w_spot (T : Ty K mg nA rA) (O_w_gcd : Ok_w_gcd P w K mg base) (F : FnP K "_law_spot" s_w_spot f fd) : FnOk P w K mg base CX0 2 f fd ["_law_x", "_law_y", "_law_w"] (pr_w_spot K) := by
  refine F.ok sc_w_spot (fun vs H Q E h => len3 h) (fun cdv A outer s H vs Q E hr h => ?_)
  obtain ⟨v1, v2, v3, x1, x2, x3, rfl, h1, h2, h3, hp, q⟩ := h
  have nd := sc_w_spot.nd
  refine ⟨_, PSs.nox (pss_cons (ps_set (i := 3) nd rfl (Or.inl rfl) (pe_callO O_w_gcd (hr.mono (by decide)) (by rfl) (pa_cons (pe_callO O_w_gcd (hr.mono (by decide)) (by rfl) (pa_cons (pv 0) (pa_cons (pv 1) pa_nil))) (pa_cons (pv 2) pa_nil)))) (pss_cons (ps_set (i := 3) nd rfl (Or.inl rfl) (pe_ifExp (pt_cmpR op_gt (pv 2) pe_int (nomark _)) (pv 3) (pe_op op_sub pe_int (pv 3)))) (pss_one (ps_ret (pe_tup (pa_cons (pe_op op_fdivW (pv 0) (pv 3)) (pa_cons (pe_op op_fdivW (pv 1) (pv 3)) (pa_cons (pe_op op_fdivW (pv 2) (pv 3)) pa_nil)))))))), ?_⟩
  try dsimp only [cxn_K, cxn_P, cxn_w, cx_K]
  cases h1
  cases h2
  cases h3
  have hg : 0 < g3 (x1, x2, x3) := g3_posw hp.1
  have hs : Sm 8000 (g3 (x1, x2, x3)) := sm_g3 (p := (x1, x2, x3)) (by show x3 ≠ 0; have := hp.1; omega) hp.2
  walk_at "k rd"
  · have e : decide ((0 : Int) < x3) = true := decide_eq_true hp.1
    rw [e]
    walk_at "k rd"
    refine x_I (cdivw (j := gc (gc x1 x2) x3) hg hs (by decide)) ?_
    walk_at "k rd"
    refine x_I (cdivw (j := gc (gc x1 x2) x3) hg hs (by decide)) ?_
    walk_at "k rd"
    refine x_I (cdivw (j := gc (gc x1 x2) x3) hg hs (by decide)) ?_
    walk_at "k rd"
    exact q _ _ (by walk_at "k sa") (by walk_at "k fx")
  all_goals trivial
theorem ok_w_sum (T : Ty K mg nA rA) (O_w_spot : Ok_w_spot P w K mg base) (F : FnP K "_law_sum" s_w_sum f fd) : FnOk P w K mg base CX0 3 f fd ["_law_p", "_law_q"] (pr_w_sum K) := by
  refine F.ok sc_w_sum (fun vs H Q E h => len2 h) (fun cdv A outer s H vs Q E hr h => ?_)
  obtain ⟨v1, v2, x1, x2, rfl, h1, h2, hp, q⟩ := h
  have nd := sc_w_sum.nd
  refine ⟨_, PSs.nox (pss_one (ps_ret (pe_callO O_w_spot (hr.mono (by decide)) (by rfl) (pa_cons (pe_op op_add (pe_op op_mulW (pe_ix (r := rIxT K) ix_tup (pv 0) pe_int (fun _ _ => rfl)) (pe_ix (r := rIxT K) ix_tup (pv 1) pe_int (fun _ _ => rfl))) (pe_op op_mulW (pe_ix (r := rIxT K) ix_tup (pv 1) pe_int (fun _ _ => rfl)) (pe_ix (r := rIxT K) ix_tup (pv 0) pe_int (fun _ _ => rfl)))) (pa_cons (pe_op op_add (pe_op op_mulW (pe_ix (r := rIxT K) ix_tup (pv 0) pe_int (fun _ _ => rfl)) (pe_ix (r := rIxT K) ix_tup (pv 1) pe_int (fun _ _ => rfl))) (pe_op op_mulW (pe_ix (r := rIxT K) ix_tup (pv 1) pe_int (fun _ _ => rfl)) (pe_ix (r := rIxT K) ix_tup (pv 0) pe_int (fun _ _ => rfl)))) (pa_cons (pe_op op_mulW (pe_ix (r := rIxT K) ix_tup (pv 0) pe_int (fun _ _ => rfl)) (pe_ix (r := rIxT K) ix_tup (pv 1) pe_int (fun _ _ => rfl))) pa_nil)))))), ?_⟩
  try dsimp only [cxn_K, cxn_P, cxn_w, cx_K]
  obtain ⟨b1, b2, w1, w2⟩ := hp
  walk_at "k rd"
  · exact q _ _ (by walk_at "k sa") (by assumption)
  · exact ⟨Int.mul_pos w1 w2, sm_up (sm_mul b1.w b2.w) (by decide)⟩
theorem ok_w_anti (T : Ty K mg nA rA)  (F : FnP K "_law_anti" s_w_anti f fd) : FnOk P w K mg base CX0 1 f fd ["_law_p"] (pr_w_anti K) := by
  refine F.ok sc_w_anti (fun vs H Q E h => len1 h) (fun cdv A outer s H vs Q E hr h => ?_)
  obtain ⟨v1, x1, rfl, h1, hp, q⟩ := h
  have nd := sc_w_anti.nd
  refine ⟨_, PSs.nox (pss_one (ps_ret (pe_tup (pa_cons (pe_op op_sub pe_int (pe_ix (r := rIxT K) ix_tup (pv 0) pe_int (fun _ _ => rfl))) (pa_cons (pe_op op_sub pe_int (pe_ix (r := rIxT K) ix_tup (pv 0) pe_int (fun _ _ => rfl))) (pa_cons (pe_ix (r := rIxT K) ix_tup (pv 0) pe_int (fun _ _ => rfl)) pa_nil)))))), ?_⟩
  try dsimp only [cxn_K, cxn_P, cxn_w, cx_K]
  walk_at "k rd"
  exact q _ _ (by walk_at "k sa") (by walk_at "k fx")
theorem ok_w_less (T : Ty K mg nA rA) (O_w_sum : Ok_w_sum P w K mg base) (O_w_anti : Ok_w_anti P w K mg base) (F : FnP K "_law_less" s_w_less f fd) : FnOk P w K mg base CX0 4 f fd ["_law_p", "_law_q"] (pr_w_less K) := by
  refine F.ok sc_w_less (fun vs H Q E h => len2 h) (fun cdv A outer s H vs Q E hr h => ?_)
  obtain ⟨v1, v2, x1, x2, rfl, h1, h2, hp, q⟩ := h
  have nd := sc_w_less.nd
  refine ⟨_, PSs.nox (pss_one (ps_ret (pe_callO O_w_sum (hr.mono (by decide)) (by rfl) (pa_cons (pv 0) (pa_cons (pe_callO O_w_anti (hr.mono (by decide)) (by rfl) (pa_cons (pv 1) pa_nil)) pa_nil))))), ?_⟩
  try dsimp only [cxn_K, cxn_P, cxn_w, cx_K]
  obtain ⟨b1, b2, w1, w2⟩ := hp
  walk_at "k rd"
  · exact q _ _ (by walk_at "k sa") (by assumption)
  · refine ⟨b1, ⟨?_, ?_, b2.w⟩, w1, w2⟩
    · show Sm 2000 (0 - x2.1)
      rw [Int.zero_sub]
      exact sm_neg b2.x
    · show Sm 2000 (0 - x2.2.1)
      rw [Int.zero_sub]
      exact sm_neg b2.y
  · trivial
theorem ok_w_led (T : Ty K mg nA rA) (O_w_spot : Ok_w_spot P w K mg base) (F : FnP K "_law_led" s_w_led f fd) : FnOk P w K mg base CX0 3 f fd ["_law_p", "_law_rate"] (pr_w_led K) := by
  refine F.ok sc_w_led (fun vs H Q E h => len2 h) (fun cdv A outer s H vs Q E hr h => ?_)
  obtain ⟨v1, v2, x1, x2, rfl, h1, h2, hp, q⟩ := h
  have nd := sc_w_led.nd
  refine ⟨_, PSs.nox (pss_one (ps_ret (pe_callO O_w_spot (hr.mono (by decide)) (by rfl) (pa_cons (pe_op op_mulW (pe_ix (r := rIxT K) ix_tup (pv 0) pe_int (fun _ _ => rfl)) (pe_ix (r := rIxT K) ix_tup (pv 1) pe_int (fun _ _ => rfl))) (pa_cons (pe_op op_mulW (pe_ix (r := rIxT K) ix_tup (pv 0) pe_int (fun _ _ => rfl)) (pe_ix (r := rIxT K) ix_tup (pv 1) pe_int (fun _ _ => rfl))) (pa_cons (pe_op op_mulW (pe_ix (r := rIxT K) ix_tup (pv 0) pe_int (fun _ _ => rfl)) (pe_ix (r := rIxT K) ix_tup (pv 1) pe_int (fun _ _ => rfl))) pa_nil)))))), ?_⟩
  try dsimp only [cxn_K, cxn_P, cxn_w, cx_K]
  obtain ⟨b1, b2, w1, w2⟩ := hp
  walk_at "k rd"
  · exact q _ _ (by walk_at "k sa") (by assumption)
  · exact ⟨Int.mul_pos w1 w2, sm_up (sm_mul b1.w b2.y) (by decide)⟩
theorem ok_w_bend (T : Ty K mg nA rA)  (F : FnP K "_law_bend" s_w_bend f fd) : FnOk P w K mg base CX0 1 f fd ["_law_one", "_law_two", "_law_three"] (pr_w_bend K) := by
  refine F.ok sc_w_bend (fun vs H Q E h => len3 h) (fun cdv A outer s H vs Q E hr h => ?_)
  obtain ⟨v1, v2, v3, x1, x2, x3, rfl, h1, h2, h3, hp, q⟩ := h
  have nd := sc_w_bend.nd
  refine ⟨_, PSs.nox (pss_one (ps_ret (pe_op op_sub (pe_op op_mulW (pe_op op_sub (pe_ix (r := rIxT K) ix_tup (pv 1) pe_int (fun _ _ => rfl)) (pe_ix (r := rIxT K) ix_tup (pv 0) pe_int (fun _ _ => rfl))) (pe_op op_sub (pe_ix (r := rIxT K) ix_tup (pv 2) pe_int (fun _ _ => rfl)) (pe_ix (r := rIxT K) ix_tup (pv 0) pe_int (fun _ _ => rfl)))) (pe_op op_mulW (pe_op op_sub (pe_ix (r := rIxT K) ix_tup (pv 1) pe_int (fun _ _ => rfl)) (pe_ix (r := rIxT K) ix_tup (pv 0) pe_int (fun _ _ => rfl))) (pe_op op_sub (pe_ix (r := rIxT K) ix_tup (pv 2) pe_int (fun _ _ => rfl)) (pe_ix (r := rIxT K) ix_tup (pv 0) pe_int (fun _ _ => rfl))))))), ?_⟩
  try dsimp only [cxn_K, cxn_P, cxn_w, cx_K]
  obtain ⟨b1, b2, b3⟩ := hp
  walk_at "k rd"
  exact q _ _ (by walk_at "k sa") rfl
end
end K87
namespace K87
open PySem PySem.Spec PyProof.Rows L2 K8
abbrev pr_w_hull (K : PySem.W.Frag) : Sp := sp1 (Ll K (Pt K)) HP (Tl K (Pt K)) hul
abbrev Ok_w_hull (P : Program) (w : World) (K : PySem.W.Frag) (mg : Str → Option Value) (base : Heap) : Prop := OkD P w K mg base CX0 3 "_law_hull" ["_law_some"] (pr_w_hull K)
theorem lcm_div {u v : Int} (hu : 0 < u) (hv : 0 < v) : u * (v / gc u v) = ((Nat.lcm u.natAbs v.natAbs : Nat) : Int) := by
  obtain ⟨a, rfl⟩ := Int.eq_ofNat_of_zero_le (Int.le_of_lt hu)
  obtain ⟨b, rfl⟩ := Int.eq_ofNat_of_zero_le (Int.le_of_lt hv)
  unfold gc
  simp only [Int.natAbs_natCast]
  rw [← Int.natCast_ediv, ← Int.natCast_mul]
  congr 1
  unfold Nat.lcm
  rw [Nat.mul_div_assoc _ (Nat.gcd_dvd_right a b)]
def hps (rows : List P2) (i : Nat) : List P2 := (([rows, rows.reverse].take i).map fun r => (chn r).dropLast).flatten
theorem hps_step {rows r : List P2} {i : Nat} (h : [rows, rows.reverse][i]? = some r) : hps rows (i + 1) = hps rows i ++ (chn r).dropLast := by
  unfold hps
  rw [List.take_add_one, h, List.map_append, List.flatten_append]
  simp
section
variable {P : Program} {w : World} {K : PySem.W.Frag} {mg : Str → Option Value} {base : Heap} {nA rA cA : Addr} {f : Addr} {fd : FuncData}
theorem ok_w_hull (T : Ty K mg nA rA) (O_w_gcd : Ok_w_gcd P w K mg base) (O_w_bend : Ok_w_bend P w K mg base) (O_w_spot : Ok_w_spot P w K mg base) (F : FnP K "_law_hull" s_w_hull f fd) : FnOk P w K mg base CX0 3 f fd ["_law_some"] (pr_w_hull K) := by
  refine F.ok sc_w_hull (fun vs H Q E h => len1 h) (fun cdv A outer s H vs Q E hr h => ?_)
  obtain ⟨v1, x1, rfl, h1, hp, q⟩ := h
  have nd := sc_w_hull.nd
  refine ⟨_, PSs.nox (pss_cons (ps_set (i := 1) nd rfl (Or.inr rfl) pe_int) (pss_cons (ps_for PassesOwn.never rfl (pi_list (pv 0)) (pg_name (i := 2) nd rfl (Or.inl rfl)) (pss_one (ps_set (i := 1) nd rfl (Or.inr rfl) (pe_op op_mulW (pv 1) (pe_op op_fdivW (pe_ix (r := rIxT K) ix_tup (pv 2) pe_int (fun _ _ => rfl)) (pe_callO O_w_gcd (hr.mono (by decide)) (by rfl) (pa_cons (pv 1) (pa_cons (pe_ix (r := rIxT K) ix_tup (pv 2) pe_int (fun _ _ => rfl)) pa_nil)))))))) (pss_cons (ps_set (i := 3) nd rfl (Or.inl rfl) (pe_callB (cr_sortP rfl) (by rfl) T.sorted bt_sorted (pa_cons (pe_callTy (cr_setOfT rfl hr.units) (by rfl) T.set bt_set (pa_cons (pe_lc (own := [("_law_p", 2)]) (tt := tYes) rfl nd (pi_list (pv 0)) (blkOk_by (N := ["_law_some", "_law_deep", "_law_p", "_law_grid", "_law_found", "_law_row", "_law_chain", "_law_pair"]) (sc := defScope s_w_hull) (by decide +kernel)) (fun _ _ _ _ _ => (pg_name (i := 2) nd rfl (Or.inl rfl))) (fun _ _ _ _ _ => pts_nil) (fun _ _ _ _ _ => (pe_tup (pa_cons (pe_op op_mulW (pe_ix (r := rIxT K) ix_tup (pv 2) pe_int (fun _ _ => rfl)) (pe_op op_fdivW (pv 1) (pe_ix (r := rIxT K) ix_tup (pv 2) pe_int (fun _ _ => rfl)))) (pa_cons (pe_op op_mulW (pe_ix (r := rIxT K) ix_tup (pv 2) pe_int (fun _ _ => rfl)) (pe_op op_fdivW (pv 1) (pe_ix (r := rIxT K) ix_tup (pv 2) pe_int (fun _ _ => rfl)))) pa_nil))))) pa_nil)) pa_nil))) (pss_cons (ps_set (i := 4) nd rfl (Or.inl rfl) (pe_lst pa_nil)) (pss_cons (ps_for PassesOwn.never rfl (pi_list (pe_lst (pa_cons (pv 3) (pa_cons (pe_revL (pv 3)) pa_nil)))) (pg_name (i := 5) nd rfl (Or.inl rfl)) (pss_cons (ps_set (i := 6) nd rfl (Or.inl rfl) (pe_lst pa_nil)) (pss_cons (ps_for PassesOwn.never rfl (pi_list (pv 5)) (pg_name (i := 7) nd rfl (Or.inl rfl)) (pss_cons (ps_while PassesOwn.never (PW.pt (pw_and (pt_cmpR op_gt (pe_callB cq_len (by rfl) T.len bt_len (pa_cons (pv 6) pa_nil)) pe_int (nomark _)) (pw_and1 (pt_cmpR op_le (pe_callO O_w_bend (hr.mono (by decide)) (by rfl) (pa_cons (pe_ix (r := rIxL K) ix_list (pv 6) (pe_un un_neg pe_int) (fun _ _ => rfl)) (pa_cons (pe_ix (r := rIxL K) ix_list (pv 6) (pe_un un_neg pe_int) (fun _ _ => rfl)) (pa_cons (pv 7) pa_nil)))) pe_int (nomark _))))) (pss_one (ps_expr (pe_bm0 PySem.F.plainAttrs_list PySem.F.slot_list_pop PySem.F.type_list_pop mt_pop (pv 6))))) (pss_one (ps_expr (pe_bm PySem.F.plainAttrs_list PySem.F.slot_list_append PySem.F.type_list_append mt_append (pv 6) (pa_cons (pv 7) pa_nil)))))) (pss_one (ps_set (i := 4) nd rfl (Or.inl rfl) (pe_op op_cat (pv 4) (pe_slice sl_list (pv 6) po_none (po_some (pe_un un_neg pe_int))))))))) (pss_one (ps_ret (pe_callTy cq_tuple (by rfl) T.tuple bt_tuple (pa_cons (pe_lc (own := [("_law_pair", 7)]) (tt := tYes) rfl nd (pi_list (pe_ifExp (pt_cmpR op_gt (pe_callB cq_len (by rfl) T.len bt_len (pa_cons (pv 3) pa_nil)) pe_int (nomark _)) (pv 4) (pv 3))) (blkOk_by (N := ["_law_some", "_law_deep", "_law_p", "_law_grid", "_law_found", "_law_row", "_law_chain", "_law_pair"]) (sc := defScope s_w_hull) (by decide +kernel)) (fun _ _ _ _ _ => (pg_name (i := 7) nd rfl (Or.inl rfl))) (fun _ _ _ _ _ => pts_nil) (fun _ _ _ _ _ => (pe_callO O_w_spot (hr.mono (by decide)) (by rfl) (pa_cons (pe_ix (r := rIxT K) ix_tup (pv 7) pe_int (fun _ _ => rfl)) (pa_cons (pe_ix (r := rIxT K) ix_tup (pv 7) pe_int (fun _ _ => rfl)) (pa_cons (pv 1) pa_nil)))))) pa_nil))))))))), ?_⟩
  try dsimp only [cxn_K, cxn_P, cxn_w, cx_K]
  walk_at "k rd"
  refine fk_L h1 (fun i σ' H' => Same H H' ∧ ∃ z, σ' = [some v1, some (.int (lcP x1 i)), z, none, none, none, none, none]) ⟨same_refl _, none, rfl⟩ (fun i σ' H' a ys p _ s => p.1.seq s) (fun i x u σ' H' hx r p => ?_) fun σ' H' p => ?_
  · obtain ⟨s0, z, rfl⟩ := p
    have r := up_s s0 r
    have hm := List.mem_of_getElem? hx
    have hw := hp.w x hm
    have hu := lcP_pos hp.w i
    have bw := (hp.bd x hm).w
    have su := lcP_sm hp.w hp.lc i
    have sd : Sm 1000 (x.2.2 / gc (lcP x1 i) x.2.2) := sm_div bw (gc_pos_r (by omega))
    walk_at "k rd"
    · refine x_I (cdivw (gc_pos_r (by omega)) (sm_gcr bw (by omega)) (by decide)) ?_
      walk_at "k rd"
      refine ⟨by walk_at "k sa", some u, ?_⟩
      rw [lcm_div hu hw, lcP_step hx]
      rfl
    · trivial
  · obtain ⟨s0, z, rfl⟩ := p
    have h1 := up_s (R := Ll K (Pt K)) s0 h1
    rw [lcP_all]
    walk_at "k rd"
    refine lc_L (R := Pt K) (xs := x1) (Pr K) (grd (lcW x1)) h1 (by have := hp.few; omega) (fun i x u H2 QY hx s r hy => ?_) fun H2 v2 s2 n2 => ?_
    · have hm := List.mem_of_getElem? hx
      have b := hp.bd x hm
      have hw := hp.w x hm
      walk_at "k rd"
      refine ⟨rfl, ?_⟩
      walk_at "k rd"
      refine x_I (cdivw hw b.w (by decide)) ?_
      have sd : Sm 4000 (lcW x1 / x.2.2) := sm_div hp.lcs hw
      walk_at "k rd"
      refine x_I (cdivw hw b.w (by decide)) ?_
      walk_at "k rd"
      exact hy _ _ (by walk_at "k sa") (by walk_at "k fx")
    · walk_at "k rd"
      refine x_setof (ps := x1.map (grd (lcW x1))) n2.ll (by rw [List.length_map]; have := hp.few; omega) fun H3 v3 s3 set => ?_
      have hb := hp.srt
      have hl := hp.srtl
      have hgb := hp.hgb
      have hgl := hp.hgl
      have hne : srtD (x1.map (grd (lcW x1))) ≠ [] := (hul_facts hp.ne hp.vp).2.2.1
      have hul_eq : hul x1 = (hulG (srtD (x1.map (grd (lcW x1))))).map fun g => low (g.1, g.2, lcW x1) := rfl
      walk_at "k rd"
      rename_i H4 v4 s4 r4 l5 H5 nl5 s5 e5 H6 v6 s6 r6 p7 H7 np7 s7 e7
      generalize srtD (x1.map (grd (lcW x1))) = rows at hb hl hgb hgl hne hul_eq r4 r6 ⊢
      have g4 : Hs K (Pr K) H7 v4 rows := up_s s7 (up_s s6 (up_s s5 r4))
      have g6 : Hs K (Pr K) H7 v6 rows.reverse := up_s s7 r6
      have g5 : Hs K (Pr K) H7 (.ref l5) [] := ⟨l5, [], rfl, s7 _ _ (s6 _ _ e5), .nil⟩
      refine fk_Ls (R := Hs K (Pr K)) (xs := [rows, rows.reverse]) (SqL.of e7) (.cons g4 (.cons g6 .nil)) (fun i σ' H' => Same H7 H' ∧ ∃ z2 z5 z6 z7 vf, σ' = [some v1, some (.int (lcW x1)), z2, some v4, some vf, z5, z6, z7] ∧ Hs K (Pr K) H' vf (hps rows i)) ⟨same_refl _, z, none, none, none, _, rfl, g5⟩ (fun i σ' H' p => p.1.seq (SqL.of e7)) (fun i x u σ' H' hx r p => ?_) fun σ' H' p => ?_
      · -- one of the two chains
        obtain ⟨s8, z2, z5, z6, z7, vf, rfl, hF⟩ := p
        have hx2 : x = rows ∨ x = rows.reverse := by
          match i, hx with
          | 0, hx => exact .inl (Option.some.inj hx).symm
          | 1, hx => exact .inr (Option.some.inj hx).symm
        have hxb : ∀ t ∈ x, Bq 5000 t := fun t ht => by
          rcases hx2 with e | e
          · rw [e] at ht
            exact hb t ht
          · rw [e] at ht
            exact hb t (List.mem_reverse.mp ht)
        have hxl : x.length ≤ 60 := by
          rcases hx2 with e | e
          · rw [e]; exact hl
          · rw [e, List.length_reverse]; exact hl
        have ru : Hs K (Pr K) H' u x := up_s s8 r
        have est := hps_step hx
        have lps : (hps rows i).length ≤ 1000 := by
          have z := chR_len rows
          have z2 := chR_len rows.reverse
          rw [List.length_reverse] at z2
          match i, hx with
          | 0, _ => show 0 ≤ 1000; decide
          | 1, _ =>
            show ((chn rows).dropLast ++ []).length ≤ 1000
            rw [List.append_nil, List.length_dropLast]
            unfold chn
            rw [List.length_reverse]
            omega
        have lcx : (chn x).length ≤ 60 := by
          have z := chR_len x
          unfold chn
          rw [List.length_reverse]
          omega
        obtain ⟨a, ys, rfl, hay, prr⟩ := ru
        walk_at "k rd"
        rename_i l H8 nl s9 hL
        refine fk_Ls (R := Pr K) (xs := x) (SqL.of (s9 _ _ hay)) (paired_up prr fun u z (k : Pr K H' u z) => up_s s9 k) (fun j σ'' H'' => Mk K l H8 H'' ∧ ∃ z2 z7 acc, σ'' = [some v1, some (.int (lcW x1)), z2, some v4, some vf, some (.ref a), some (.ref l), z7] ∧ H'' l = some (.lst acc) ∧ Paired (Pr K H'') acc ((x.take j).foldl push []).reverse) ⟨Mk.refl _ _, z2, z7, [], rfl, hL, .nil⟩
          (fun j σ'' H'' p => sql_km (SqL.of hay) nl s9 p.1.km) (fun j y u' σ'' H'' hy r' p => ?_) fun σ'' H'' p => ?_
        · obtain ⟨k, z2, z7, acc, rfl, hA, hP⟩ := p
          have et := take_push hy
          have hb0 : ∀ y ∈ (x.take j).foldl push [], Bq 5000 y := fun y hy => by
            rcases mem_pushes hy with h | h
            · exact hxb y (List.mem_of_mem_take h)
            · cases h
          have ln0 : ((x.take j).foldl push []).length ≤ 1000 := by
            have := chR_len (x.take j)
            unfold chR at this
            rw [List.length_take] at this
            omega
          generalize (x.take j).foldl push [] = st0 at et hP hb0 ln0
          have hby : Bq 5000 y := hxb y (List.mem_of_getElem? hy)
          walk_at "k rd"
          refine x_while (fun m σ' H2 => σ' = [some v1, some (.int (lcW x1)), z2, some v4, some vf, some (.ref a), some (.ref l), some u'] ∧ Mk K l H8 H2 ∧ ∃ acc st, m = st.length ∧ H2 l = some (.lst acc) ∧ Paired (Pr K H2) acc st.reverse ∧ push st y = push st0 y ∧ (∀ y ∈ st, Bq 5000 y) ∧ st.length ≤ 1000) _ ⟨rfl, k, acc, st0, rfl, hA, hP, rfl, hb0, ln0⟩ ?_
          rintro m σ2 H2 ⟨rfl, k2, acc2, st, rfl, hA2, hP2, hst, hbd, ln⟩
          have t2 : TK K H8 H2 := k2.tk
          have hLl : Ll K (Pr K) H2 (.ref l) st.reverse := ⟨l, acc2, rfl, SqL.of hA2, hP2⟩
          have fin : ∀ H3, Same H2 H3 → push st y = y :: st → Mk K l H8 (upd H3 l (.lst (acc2 ++ [u']))) ∧ ∃ z2' z7' acc', [some v1, some (.int (lcW x1)), z2, some v4, some vf, some (.ref a), some (.ref l), some u'] = [some v1, some (.int (lcW x1)), z2', some v4, some vf, some (.ref a), some (.ref l), z7'] ∧ (upd H3 l (.lst (acc2 ++ [u']))) l = some (.lst acc') ∧ Paired (Pr K (upd H3 l (.lst (acc2 ++ [u'])))) acc' ((x.take (j + 1)).foldl push []).reverse := fun H3 s3 e3 => by
            have k3 : Mk K l H3 (upd H3 l (.lst (acc2 ++ [u']))) := mk_set (s3 _ _ hA2)
            have t23 : TK K H2 (upd H3 l (.lst (acc2 ++ [u']))) := (sm_tk s3).trans k3.tk
            refine ⟨(k2.trans (sm_mk s3)).trans k3, z2, some u', acc2 ++ [u'], rfl, upd_same, ?_⟩
            rw [et, ← hst, e3, List.reverse_cons]
            exact paired_snoc (paired_up hP2 fun v y (q : Pr K H2 v y) => up_t t23 q) (up_t (t2.trans t23) r')
          walk_at "k rd"
          refine x_ite (fun e => ?_) fun e => ?_
          · obtain ⟨b, c, st', rfl⟩ : ∃ b c st', st = b :: c :: st' := by
              have e := of_decide_eq_true e
              match st, e with
              | b :: c :: st', _ => exact ⟨b, c, st', rfl⟩
              | [b], e => simp at e
              | [], e => simp at e
            obtain ⟨ws, vb, rfl, hP3, rb⟩ := paired_last (by rw [List.reverse_cons] at hP2; exact hP2)
            obtain ⟨ws, va, rfl, hP4, ra⟩ := paired_last (by rw [List.reverse_cons] at hP3; exact hP3)
            walk_at "k rd"
            · refine x_ite (fun e2 => ?_) fun e2 => ?_
              · refine ⟨_, fun _ _ h => h, ?_⟩
                rename_i H3 s3
                have hA3 : H3 l = some (.lst (ws ++ [va] ++ [vb])) := s3 _ _ hA2
                walk_at "k rd"
                refine x_pop (K := K) hA3 fun H4 k4 h4 => ?_
                walk_at "k rd"
                have e2 : ¬ 0 < crs c b y := by have := of_decide_eq_true e2; omega
                refine ⟨_, Nat.lt_succ_self _, rfl, (k2.trans (sm_mk s3)).trans k4, ws ++ [va], c :: st', rfl, h4, ?_, ?_, fun y hy => hbd y (List.mem_cons_of_mem _ hy), by simp at ln ⊢; omega⟩
                · exact paired_up hP3 fun v y (q : Pr K H2 v y) => up_t (K := K) (R := Pr K) ((sm_tk s3).trans k4.tk) q
                · rw [← hst, push_no e2]
              · rename_i H3 s3
                have e2 : 0 < crs c b y := by have := of_decide_eq_false e2; omega
                have hA3 := s3 _ _ hA2
                walk_at "k rd"
                refine ⟨_, _, _, rfl, rfl, hA3, sz_lt' ?_, ?_⟩
                · have := hP2.length
                  rw [this]
                  simp at ln ⊢
                  omega
                · walk_at "k rd"
                  exact fin H3 s3 (push_yes e2)
            · exact ⟨hbd c (by simp), hbd b (by simp), hby⟩
          · have e := of_decide_eq_false e
            have e2 : st.length ≤ 1 := by rw [List.length_reverse] at e; omega
            walk_at "k rd"
            refine ⟨_, _, _, rfl, rfl, hA2, sz_lt' ?_, ?_⟩
            · have := hP2.length
              rw [this, List.length_reverse]
              omega
            · walk_at "k rd"
              exact fin H2 (same_refl _) (push_one e2)
        · obtain ⟨k, z2, z7, acc, rfl, hA, hP⟩ := p
          rw [List.take_length] at hP
          have s10 : Same H' H'' := fun b o h => k.km b o (ne_of_none h nl) (s9 b o h)
          have hC : Hs K (Pr K) H'' (.ref l) (chn x) := ⟨l, acc, rfl, hA, hP⟩
          walk_at "k rd"
          rename_i H9 v9 s11 r9
          refine x_cat (R := Pr K) (up_s s11 (up_s s10 hF)) r9 ?_ fun H10 v10 s12 n10 => ?_
          · rw [List.length_dropLast]; omega
          · walk_at "k rd"
            refine ⟨by walk_at "k sa", _, _, _, _, _, rfl, ?_⟩
            rw [est]
            exact n10.hs
      · obtain ⟨s8, z2, z5, z6, z7, vf, rfl, hF⟩ := p
        have hF : Hs K (Pr K) H' vf ((chn rows).dropLast ++ (chn rows.reverse).dropLast) := by
          have e : hps rows [rows, rows.reverse].length = (chn rows).dropLast ++ (chn rows.reverse).dropLast := by
            show ((chn rows).dropLast ++ ((chn rows.reverse).dropLast ++ [])) = _
            rw [List.append_nil]
          rw [← e]
          exact hF
        have g4' : Hs K (Pr K) H' v4 rows := up_s s8 g4
        walk_at "k rd"
        refine x_ite (fun e => ?_) fun e => ?_
        · have e : rows.length ≠ 1 := by have := of_decide_eq_true e; omega
          have eG : hulG rows = (chn rows).dropLast ++ (chn rows.reverse).dropLast := if_neg e
          have hF : Ll K (Pr K) H' vf (hulG rows) := by rw [eG]; exact hF.ll
          walk_at "k rd"
          refine lc_L (R := Pr K) (xs := hulG rows) (Pt K) (fun g => low (g.1, g.2, lcW x1)) hF (by omega) (fun i x u H4 QY hx s4 r hy => ?_) fun H4 v4 s4 n4 => ?_
          · have hm := List.mem_of_getElem? hx
            have hu := hp.lcp
            walk_at "k rd"
            refine ⟨rfl, ?_⟩
            walk_at "k rd"
            · exact hy _ _ (by walk_at "k sa") (by assumption)
            · exact ⟨hu, sm_up hp.lcs (by decide)⟩
          · walk_at "k rd"
            refine x_tupL (R := Pt K) n4.ll fun H5 u5 s5 t5 => ?_
            refine q _ _ (by walk_at "k sa") ?_
            rw [hul_eq]
            exact t5
        · have e : rows.length ≤ 1 := by have := of_decide_eq_false e; omega
          have e : rows.length = 1 := by
            have z : rows ≠ [] := hne
            have : rows.length ≠ 0 := fun k => z (List.eq_nil_of_length_eq_zero k)
            omega
          have eG : hulG rows = rows := if_pos e
          have hF2 : Ll K (Pr K) H' v4 (hulG rows) := by rw [eG]; exact g4'.ll
          walk_at "k rd"
          refine lc_L (R := Pr K) (xs := hulG rows) (Pt K) (fun g => low (g.1, g.2, lcW x1)) hF2 (by omega) (fun i x u H4 QY hx s4 r hy => ?_) fun H4 v4 s4 n4 => ?_
          · have hm := List.mem_of_getElem? hx
            have hu := hp.lcp
            walk_at "k rd"
            refine ⟨rfl, ?_⟩
            walk_at "k rd"
            · exact hy _ _ (by walk_at "k sa") (by assumption)
            · exact ⟨hu, sm_up hp.lcs (by decide)⟩
          · walk_at "k rd"
            refine x_tupL (R := Pt K) n4.ll fun H5 u5 s5 t5 => ?_
            refine q _ _ (by walk_at "k sa") ?_
            rw [hul_eq]
            exact t5
end
end K87
namespace K87
open PySem PySem.Spec PyProof.Rows L2 K8
/-! ### the law's sides -/
def nv (a b : Int) (p : P3) : Int := a * p.1 + b * p.2.1
def hiS (a b : Int) (best : Option P2) (p : P3) : Option P2 :=
  match best with
  | none => some (nv a b p, p.2.2)
  | some m => if m.1 * p.2.2 < nv a b p * m.2 then some (nv a b p, p.2.2) else some m
def hiF (a b : Int) (S : List P3) : Option P2 := S.foldl (hiS a b) none
structure HiOk (a b : Int) (S : List P3) (o : Option P2) : Prop where
  nn : S = [] → o = none
  so : S ≠ [] → ∃ s ∈ S, o = some (nv a b s, s.2.2) ∧ ∀ p ∈ S, hold (a, b) s p
theorem hi_ok {a b : Int} {S : List P3} (hw : ∀ p ∈ S, 0 < p.2.2) : ∀ i, i ≤ S.length → HiOk a b (S.take i) ((S.take i).foldl (hiS a b) none)
  | 0, _ => ⟨fun _ => rfl, fun h => absurd rfl h⟩
  | i + 1, hi => by
    have ih := hi_ok (a := a) (b := b) hw i (by omega)
    have hx : S[i]? = some S[i] := List.getElem?_eq_getElem (by omega)
    have et : S.take (i + 1) = S.take i ++ [S[i]] := by rw [List.take_add_one, hx]; rfl
    have hwx := hw S[i] (List.getElem_mem _)
    rw [et, List.foldl_append]
    refine ⟨fun h => absurd (List.append_eq_nil_iff.mp h).2 (List.cons_ne_nil _ _), fun _ => ?_⟩
    show ∃ s ∈ S.take i ++ [S[i]], hiS a b ((S.take i).foldl (hiS a b) none) S[i] = _ ∧ _
    by_cases h0 : S.take i = []
    · rw [ih.nn h0, h0]
      refine ⟨S[i], by simp, rfl, fun p hp => ?_⟩
      have : p = S[i] := by simpa using hp
      rw [this]
      exact Int.le_refl _
    · obtain ⟨s, hs, es, hh⟩ := ih.so h0
      rw [es]
      have hws := hw s (List.mem_of_mem_take hs)
      show ∃ t ∈ S.take i ++ [S[i]], (if nv a b s * S[i].2.2 < nv a b S[i] * s.2.2 then some (nv a b S[i], S[i].2.2) else some (nv a b s, s.2.2)) = _ ∧ _
      by_cases hc : nv a b s * S[i].2.2 < nv a b S[i] * s.2.2
      · rw [if_pos hc]
        refine ⟨S[i], List.mem_append_right _ (List.mem_singleton_self _), rfl, fun p hp => ?_⟩
        rcases List.mem_append.mp hp with e | e
        · have h1 : nv a b p * s.2.2 ≤ nv a b s * p.2.2 := hh p e
          have hwp := hw p (List.mem_of_mem_take e)
          show nv a b p * S[i].2.2 ≤ nv a b S[i] * p.2.2
          refine le_of_mul_le hws ?_
          have k1 : nv a b p * S[i].2.2 * s.2.2 ≤ nv a b s * S[i].2.2 * p.2.2 := by
            have z := Int.mul_le_mul_of_nonneg_right h1 (Int.le_of_lt hwx)
            rw [Int.mul_right_comm, Int.mul_right_comm (nv a b s)]
            exact z
          have k2 : nv a b s * S[i].2.2 * p.2.2 ≤ nv a b S[i] * p.2.2 * s.2.2 := by
            have z := Int.mul_le_mul_of_nonneg_right (Int.le_of_lt hc) (Int.le_of_lt hwp)
            rw [Int.mul_right_comm (nv a b S[i])]
            exact z
          omega
        · rw [List.mem_singleton.mp e]
          exact Int.le_refl _
      · rw [if_neg hc]
        refine ⟨s, List.mem_append_left _ hs, rfl, fun p hp => ?_⟩
        rcases List.mem_append.mp hp with e | e
        · exact hh p e
        · rw [List.mem_singleton.mp e]
          show nv a b S[i] * s.2.2 ≤ nv a b s * S[i].2.2
          omega
theorem hi_fin {a b : Int} {S : List P3} (hw : ∀ p ∈ S, 0 < p.2.2) (h0 : S ≠ []) : ∃ s ∈ S, hiF a b S = some (nv a b s, s.2.2) ∧ ∀ p ∈ S, hold (a, b) s p := by
  have z := hi_ok (a := a) (b := b) hw S.length (Nat.le_refl _)
  rw [List.take_length] at z
  exact z.so h0
def hi2 (a b : Int) (S : List P3) : P2 := (hiF a b S).getD (0, 1)
def sdF (a b : Int) (S : List P3) : P3 := low (a * (hi2 a b S).2, b * (hi2 a b S).2, (hi2 a b S).1)
theorem sdF_eq {S : List P3} (h : Pg S) {e : P2 × P3} (he : e ∈ sdR S) : sdF e.1.1 e.1.2 S = sid e.1 e.2 := by
  obtain ⟨⟨a, b⟩, c⟩ := e
  obtain ⟨hn, hc, hh⟩ := h.cnv.sd _ he
  obtain ⟨s, hs, es, ht⟩ := hi_fin (a := a) (b := b) h.w h.cnv.ne
  have h1 : nv a b s * c.2.2 ≤ nv a b c * s.2.2 := hh s hs
  have h2 : nv a b c * s.2.2 ≤ nv a b s * c.2.2 := ht c hc
  have hcw := h.w c hc
  have hsw := h.w s hs
  have e2 : hi2 a b S = (nv a b s, s.2.2) := by unfold hi2; rw [es]; rfl
  show low (a * (hi2 a b S).2, b * (hi2 a b S).2, (hi2 a b S).1) = low (a * c.2.2, b * c.2.2, a * c.1 + b * c.2.1)
  rw [e2]
  show low (a * s.2.2, b * s.2.2, nv a b s) = low (a * c.2.2, b * c.2.2, nv a b c)
  have k1 := low_mul hcw (a * s.2.2, b * s.2.2, nv a b s)
  have k2 := low_mul hsw (a * c.2.2, b * c.2.2, nv a b c)
  rw [← k1, ← k2]
  have m1 : c.2.2 * (a * s.2.2) = s.2.2 * (a * c.2.2) := by rw [Int.mul_comm a, Int.mul_left_comm, Int.mul_comm a]
  have m2 : c.2.2 * (b * s.2.2) = s.2.2 * (b * c.2.2) := by rw [Int.mul_comm b, Int.mul_left_comm, Int.mul_comm b]
  have m3 : c.2.2 * nv a b s = s.2.2 * nv a b c := by
    rw [Int.mul_comm, Int.mul_comm s.2.2]
    omega
  show low (c.2.2 * (a * s.2.2), c.2.2 * (b * s.2.2), c.2.2 * nv a b s) = low (s.2.2 * (a * c.2.2), s.2.2 * (b * c.2.2), s.2.2 * nv a b c)
  rw [m1, m2, m3]
def nrs (S : List P3) : List P2 := (sdR S).map (·.1)
theorem nrs_sds {S : List P3} (h : Pg S) : (nrs S).map (fun n => sdF n.1 n.2 S) = sds S := by
  unfold nrs sds
  rw [List.map_map]
  exact List.map_congr_left fun e he => sdF_eq h he
def nrP (S : List P3) (i : Nat) : List P2 := (List.range i).map fun j => nrm (S.getD j (0, 0, 1)) (nxt S j)
theorem nrs_many {S : List P3} (h : 3 ≤ S.length) : nrs S = nrP S S.length := by
  unfold nrs
  rw [sdR_many h]
  unfold edR nrP
  rw [List.map_map]
  rfl
theorem nrs_mem {S : List P3} (h : Pg S) {n : P2} (hn : n ∈ nrs S) : Bq 2001 n ∧ n ≠ (0, 0) := by
  obtain ⟨e, he, rfl⟩ := List.mem_map.mp hn
  exact ⟨(sdR_bq h e he).1, (h.cnv.sd e he).1⟩
def Ro (K : PySem.W.Frag) : Rel (Option P2) := fun H v o => match o with
  | none => v = .non
  | some m => Pr K H v m
abbrev pr_w_high (K : PySem.W.Frag) : Sp := sp3 Ri Ri (Tl K (Pt K)) (fun a b S => Pg S ∧ Sm 2001 a ∧ Sm 2001 b) (Pr K) hi2
abbrev pr_w_side (K : PySem.W.Frag) : Sp := sp3 Ri Ri (Tl K (Pt K)) (fun a b S => Pg S ∧ Sm 2001 a ∧ Sm 2001 b ∧ (a, b) ≠ (0, 0)) (Pt K) sdF
abbrev pr_w_normals (K : PySem.W.Frag) : Sp := sp1 (Tl K (Pt K)) Pg (Hs K (Pr K)) nrs
abbrev pr_w_sides (K : PySem.W.Frag) : Sp := sp1 (Tl K (Pt K)) Pg (Hs K (Pt K)) sds
abbrev pr_w_over (K : PySem.W.Frag) : Sp := sp2 (Pt K) (Pt K) (fun s p => Bd 4000 s ∧ Bd 1000 p) Ri vl
abbrev pr_w_has (K : PySem.W.Frag) : Sp := sp2 (Tl K (Pt K)) (Pt K) (fun S p => Pg S ∧ Bd 1000 p) Rb hasB
abbrev Ok_w_high (P : Program) (w : World) (K : PySem.W.Frag) (mg : Str → Option Value) (base : Heap) : Prop := OkD P w K mg base CX0 1 "_law_high" ["_law_a", "_law_b", "_law_some"] (pr_w_high K)
abbrev Ok_w_side (P : Program) (w : World) (K : PySem.W.Frag) (mg : Str → Option Value) (base : Heap) : Prop := OkD P w K mg base CX0 2 "_law_side" ["_law_a", "_law_b", "_law_some"] (pr_w_side K)
abbrev Ok_w_normals (P : Program) (w : World) (K : PySem.W.Frag) (mg : Str → Option Value) (base : Heap) : Prop := OkD P w K mg base CX0 1 "_law_normals" ["_law_some"] (pr_w_normals K)
abbrev Ok_w_sides (P : Program) (w : World) (K : PySem.W.Frag) (mg : Str → Option Value) (base : Heap) : Prop := OkD P w K mg base CX0 3 "_law_sides" ["_law_some"] (pr_w_sides K)
abbrev Ok_w_over (P : Program) (w : World) (K : PySem.W.Frag) (mg : Str → Option Value) (base : Heap) : Prop := OkD P w K mg base CX0 1 "_law_over" ["_law_side_here", "_law_p"] (pr_w_over K)
abbrev Ok_w_has (P : Program) (w : World) (K : PySem.W.Frag) (mg : Str → Option Value) (base : Heap) : Prop := OkD P w K mg base CX0 4 "_law_has" ["_law_some", "_law_p"] (pr_w_has K)
section
variable {P : Program} {w : World} {K : PySem.W.Frag} {mg : Str → Option Value} {base : Heap} {nA rA cA : Addr} {f : Addr} {fd : FuncData}
theorem ok_w_high (T : Ty K mg nA rA)  (F : FnP K "_law_high" s_w_high f fd) : FnOk P w K mg base CX0 1 f fd ["_law_a", "_law_b", "_law_some"] (pr_w_high K) := by
  refine F.ok sc_w_high (fun vs H Q E h => len3 h) (fun cdv A outer s H vs Q E hr h => ?_)
  obtain ⟨v1, v2, v3, x1, x2, x3, rfl, h1, h2, h3, hp, q⟩ := h
  have nd := sc_w_high.nd
  refine ⟨_, PSs.nox (pss_cons (ps_set (i := 3) nd rfl (Or.inl rfl) pe_non) (pss_cons (ps_for PassesOwn.never rfl (pi_tup (pv 2)) (pg_name (i := 4) nd rfl (Or.inl rfl)) (pss_cons (ps_set (i := 5) nd rfl (Or.inl rfl) (pe_op op_add (pe_op op_mulW (pv 0) (pe_ix (r := rIxT K) ix_tup (pv 4) pe_int (fun _ _ => rfl))) (pe_op op_mulW (pv 1) (pe_ix (r := rIxT K) ix_tup (pv 4) pe_int (fun _ _ => rfl))))) (pss_one (ps_if (PW.pt (pw_or (pt_cmpR op_isN (pv 3) pe_non (nomark _)) (pw_or1 (pt_cmpR op_gt (pe_op op_mulW (pv 5) (pe_ix (r := rIxT K) ix_tup (pv 3) pe_int (fun _ _ => rfl))) (pe_op op_mulW (pe_ix (r := rIxT K) ix_tup (pv 3) pe_int (fun _ _ => rfl)) (pe_ix (r := rIxT K) ix_tup (pv 4) pe_int (fun _ _ => rfl))) (nomark _))))) (pss_one (ps_set (i := 3) nd rfl (Or.inl rfl) (pe_tup (pa_cons (pv 5) (pa_cons (pe_ix (r := rIxT K) ix_tup (pv 4) pe_int (fun _ _ => rfl)) pa_nil))))) pss_nil)))) (pss_one (ps_ret (pv 3))))), ?_⟩
  try dsimp only [cxn_K, cxn_P, cxn_w, cx_K]
  cases h1
  cases h2
  obtain ⟨hP, sa, sb⟩ := hp
  walk_at "k rd"
  refine fk_T h3 (fun i σ' H' => Same H H' ∧ ∃ vb z z2, σ' = [some (.int x1), some (.int x2), some v3, some vb, z, z2] ∧ Ro K H' vb ((x3.take i).foldl (hiS x1 x2) none)) ⟨same_refl _, .non, none, none, rfl, show Ro K _ .non none from rfl⟩ (fun i σ' H' p => sm_tk p.1) (fun i x u σ' H' hx r p => ?_) fun σ' H' p => ?_
  · obtain ⟨s0, vb, z, z2, rfl, hb⟩ := p
    have r := up_s s0 r
    have hm := List.mem_of_getElem? hx
    have bx := hP.bd x hm
    have hi := hi_ok (a := x1) (b := x2) hP.w i (by have := (List.getElem?_eq_some_iff.mp hx).1; omega)
    have et : (x3.take (i + 1)).foldl (hiS x1 x2) none = hiS x1 x2 ((x3.take i).foldl (hiS x1 x2) none) x := by
      rw [List.take_add_one, hx, List.foldl_append]
      rfl
    cases eo : (x3.take i).foldl (hiS x1 x2) none with
    | none =>
      rw [eo] at hb et
      have hb : vb = .non := hb
      subst hb
      walk_at "k rd"
      refine ⟨rfl, ?_⟩
      walk_at "k rd"
      have e0 : decide (V.non = V.non) = true := rfl
      rw [e0]
      walk_at "k rd"
      refine ⟨by walk_at "k sa", _, _, _, rfl, ?_⟩
      rw [et]
      show Pr K _ _ (nv x1 x2 x, x.2.2)
      walk_at "k fx"
    | some m =>
      rw [eo] at hb et hi
      have hb : Pr K H' vb m := hb
      have bm : Sm 3002 m.1 ∧ Sm 1000 m.2 := by
        by_cases h0 : x3.take i = []
        · have := hi.nn h0
          cases this
        · obtain ⟨s, hs, es, _⟩ := hi.so h0
          have bs := hP.bd s (List.mem_of_mem_take hs)
          cases es
          exact ⟨sm_add1 (sm_mul sa bs.x) (sm_mul sb bs.y), bs.w⟩
      obtain ⟨bm1, bm2⟩ := bm
      obtain ⟨a, rfl, hq⟩ := hb
      have hb : Pr K H' (.ref a) m := ⟨a, rfl, hq⟩
      walk_at "k rd"
      refine ⟨rfl, ?_⟩
      walk_at "k rd"
      have e0 : decide (V.ref a = V.non) = false := rfl
      rw [e0]
      walk_at "k rd"
      refine x_ite (fun e => ?_) fun e => ?_
      · walk_at "k rd"
        refine ⟨by walk_at "k sa", _, _, _, rfl, ?_⟩
        rw [et]
        show Ro K _ _ (if m.1 * x.2.2 < nv x1 x2 x * m.2 then some (nv x1 x2 x, x.2.2) else some m)
        rw [if_pos (show m.1 * x.2.2 < nv x1 x2 x * m.2 from of_decide_eq_true e)]
        show Pr K _ _ (nv x1 x2 x, x.2.2)
        walk_at "k fx"
      · walk_at "k rd"
        refine ⟨by walk_at "k sa", _, _, _, rfl, ?_⟩
        rw [et]
        show Ro K _ _ (if m.1 * x.2.2 < nv x1 x2 x * m.2 then some (nv x1 x2 x, x.2.2) else some m)
        rw [if_neg (show ¬ m.1 * x.2.2 < nv x1 x2 x * m.2 from of_decide_eq_false e)]
        exact hb
  · obtain ⟨s0, vb, z, z2, rfl, hb⟩ := p
    rw [List.take_length] at hb
    obtain ⟨s, hs, es, _⟩ := hi_fin (a := x1) (b := x2) hP.w hP.cnv.ne
    have e2 : hi2 x1 x2 x3 = (nv x1 x2 s, s.2.2) := by unfold hi2; rw [es]; rfl
    walk_at "k rd"
    refine q _ _ s0 ?_
    rw [e2]
    have hb : Ro K H' vb (hiF x1 x2 x3) := hb
    rw [es] at hb
    exact hb
theorem ok_w_side (T : Ty K mg nA rA) (O_w_high : Ok_w_high P w K mg base) (O_w_gcd : Ok_w_gcd P w K mg base) (F : FnP K "_law_side" s_w_side f fd) : FnOk P w K mg base CX0 2 f fd ["_law_a", "_law_b", "_law_some"] (pr_w_side K) := by
  refine F.ok sc_w_side (fun vs H Q E h => len3 h) (fun cdv A outer s H vs Q E hr h => ?_)
  obtain ⟨v1, v2, v3, x1, x2, x3, rfl, h1, h2, h3, hp, q⟩ := h
  have nd := sc_w_side.nd
  refine ⟨_, PSs.nox (pss_cons (ps_asg (pe_callO O_w_high (hr.mono (by decide)) (by rfl) (pa_cons (pv 0) (pa_cons (pv 1) (pa_cons (pv 2) pa_nil)))) (pg_tup (n := 2) rfl (pgs_cons (pg_name (i := 3) nd rfl (Or.inl rfl)) (pgs_cons (pg_name (i := 4) nd rfl (Or.inl rfl)) pgs_nil)))) (pss_cons (ps_set (i := 5) nd rfl (Or.inl rfl) (pe_callO O_w_gcd (hr.mono (by decide)) (by rfl) (pa_cons (pe_callO O_w_gcd (hr.mono (by decide)) (by rfl) (pa_cons (pe_op op_mulW (pv 0) (pv 4)) (pa_cons (pe_op op_mulW (pv 1) (pv 4)) pa_nil))) (pa_cons (pv 3) pa_nil)))) (pss_one (ps_ret (pe_tup (pa_cons (pe_op op_fdivW (pe_op op_mulW (pv 0) (pv 4)) (pv 5)) (pa_cons (pe_op op_fdivW (pe_op op_mulW (pv 1) (pv 4)) (pv 5)) (pa_cons (pe_op op_fdivW (pv 3) (pv 5)) pa_nil)))))))), ?_⟩
  try dsimp only [cxn_K, cxn_P, cxn_w, cx_K]
  cases h1
  cases h2
  obtain ⟨hP, sa, sb, hn⟩ := hp
  obtain ⟨s, hs, es, _⟩ := hi_fin (a := x1) (b := x2) hP.w hP.cnv.ne
  have bs := hP.bd s hs
  have hws := hP.w s hs
  have e2 : hi2 x1 x2 x3 = (nv x1 x2 s, s.2.2) := by unfold hi2; rw [es]; rfl
  have sm1 : Sm 3002 (hi2 x1 x2 x3).1 := by rw [e2]; exact sm_add1 (sm_mul sa bs.x) (sm_mul sb bs.y)
  have sm2 : Sm 1000 (hi2 x1 x2 x3).2 := by rw [e2]; exact bs.w
  have hw2 : 0 < (hi2 x1 x2 x3).2 := by rw [e2]; exact hws
  have hg : 0 < g3 (x1 * (hi2 x1 x2 x3).2, x2 * (hi2 x1 x2 x3).2, (hi2 x1 x2 x3).1) := by
    by_cases h : x1 = 0
    · refine g3_pos (.inr (.inl (Int.mul_ne_zero (fun e => hn ?_) (by omega))))
      rw [h, e]
    · exact g3_pos (.inl (Int.mul_ne_zero h (by omega)))
  have hne : x1 * (hi2 x1 x2 x3).2 ≠ 0 ∨ x2 * (hi2 x1 x2 x3).2 ≠ 0 := by
    by_cases h : x1 = 0
    · refine .inr (Int.mul_ne_zero (fun e => hn ?_) (by omega))
      rw [h, e]
    · exact .inl (Int.mul_ne_zero h (by omega))
  have hs3 : Sm 3001 (g3 (x1 * (hi2 x1 x2 x3).2, x2 * (hi2 x1 x2 x3).2, (hi2 x1 x2 x3).1)) := sm_g3x hne (sm_mul sa sm2) (sm_mul sb sm2)
  walk_at "k rd"
  · refine x_I (cdivw (j := gc (gc (x1 * (hi2 x1 x2 x3).2) (x2 * (hi2 x1 x2 x3).2)) (hi2 x1 x2 x3).1) hg hs3 (by decide)) ?_
    walk_at "k rd"
    refine x_I (cdivw (j := gc (gc (x1 * (hi2 x1 x2 x3).2) (x2 * (hi2 x1 x2 x3).2)) (hi2 x1 x2 x3).1) hg hs3 (by decide)) ?_
    walk_at "k rd"
    refine x_I (cdivw (j := gc (gc (x1 * (hi2 x1 x2 x3).2) (x2 * (hi2 x1 x2 x3).2)) (hi2 x1 x2 x3).1) hg hs3 (by decide)) ?_
    walk_at "k rd"
    exact q _ _ (by walk_at "k sa") (by walk_at "k fx")
  all_goals first
    | trivial
    | exact ⟨hP, sa, sb⟩
theorem ok_w_sides (T : Ty K mg nA rA) (O_w_normals : Ok_w_normals P w K mg base) (O_w_side : Ok_w_side P w K mg base) (F : FnP K "_law_sides" s_w_sides f fd) : FnOk P w K mg base CX0 3 f fd ["_law_some"] (pr_w_sides K) := by
  refine F.ok sc_w_sides (fun vs H Q E h => len1 h) (fun cdv A outer s H vs Q E hr h => ?_)
  obtain ⟨v1, x1, rfl, h1, hp, q⟩ := h
  have nd := sc_w_sides.nd
  refine ⟨_, PSs.nox (pss_one (ps_ret (pe_lc (own := [("_law_a", 1), ("_law_b", 2)]) (g := gTup K 2 (gCons (gName 1) (gCons (gName 2) gNil))) (tt := tYes) rfl nd (pi_list (pe_callO O_w_normals (hr.mono (by decide)) (by rfl) (pa_cons (pv 0) pa_nil))) (blkOk_by (N := ["_law_some", "_law_a", "_law_b"]) (sc := defScope s_w_sides) (by decide +kernel)) (fun _ _ _ _ _ => (pg_tup (n := 2) rfl (pgs_cons (pg_name (i := 1) nd rfl (Or.inl rfl)) (pgs_cons (pg_name (i := 2) nd rfl (Or.inl rfl)) pgs_nil)))) (fun _ _ _ _ _ => pts_nil) (fun _ _ _ _ _ => (pe_callO O_w_side (hr.mono (by decide)) (by rfl) (pa_cons (pv 1) (pa_cons (pv 2) (pa_cons (pv 0) pa_nil)))))))), ?_⟩
  try dsimp only [cxn_K, cxn_P, cxn_w, cx_K]
  walk_at "k rd"
  · refine lc_L (R := Pr K) (xs := nrs x1) (Pt K) (fun n => sdF n.1 n.2 x1) (by walk_at "k fx") ?_ (fun i x u H' QY hx s r hy => ?_) fun H' v' s n => ?_
    · have := sdR_len hp
      unfold nrs
      rw [List.length_map]
      omega
    · obtain ⟨b, hne⟩ := nrs_mem hp (List.mem_of_getElem? hx)
      walk_at "k rd"
      refine ⟨rfl, ?_⟩
      walk_at "k rd"
      · exact hy _ _ (by walk_at "k sa") (by assumption)
      · exact ⟨hp, b.x, b.y, hne⟩
    · rw [nrs_sds hp] at n
      exact q _ _ (by walk_at "k sa") n.hs
  · exact hp
theorem ok_w_over (T : Ty K mg nA rA)  (F : FnP K "_law_over" s_w_over f fd) : FnOk P w K mg base CX0 1 f fd ["_law_side_here", "_law_p"] (pr_w_over K) := by
  refine F.ok sc_w_over (fun vs H Q E h => len2 h) (fun cdv A outer s H vs Q E hr h => ?_)
  obtain ⟨v1, v2, x1, x2, rfl, h1, h2, hp, q⟩ := h
  have nd := sc_w_over.nd
  refine ⟨_, PSs.nox (pss_one (ps_ret (pe_op op_sub (pe_op op_add (pe_op op_mulW (pe_ix (r := rIxT K) ix_tup (pv 0) pe_int (fun _ _ => rfl)) (pe_ix (r := rIxT K) ix_tup (pv 1) pe_int (fun _ _ => rfl))) (pe_op op_mulW (pe_ix (r := rIxT K) ix_tup (pv 0) pe_int (fun _ _ => rfl)) (pe_ix (r := rIxT K) ix_tup (pv 1) pe_int (fun _ _ => rfl)))) (pe_op op_mulW (pe_ix (r := rIxT K) ix_tup (pv 0) pe_int (fun _ _ => rfl)) (pe_ix (r := rIxT K) ix_tup (pv 1) pe_int (fun _ _ => rfl)))))), ?_⟩
  try dsimp only [cxn_K, cxn_P, cxn_w, cx_K]
  obtain ⟨b1, b2⟩ := hp
  walk_at "k rd"
  exact q _ _ (by walk_at "k sa") rfl
theorem ok_w_has (T : Ty K mg nA rA) (O_w_sides : Ok_w_sides P w K mg base) (O_w_over : Ok_w_over P w K mg base) (F : FnP K "_law_has" s_w_has f fd) : FnOk P w K mg base CX0 4 f fd ["_law_some", "_law_p"] (pr_w_has K) := by
  refine F.ok sc_w_has (fun vs H Q E h => len2 h) (fun cdv A outer s H vs Q E hr h => ?_)
  obtain ⟨v1, v2, x1, x2, rfl, h1, h2, hp, q⟩ := h
  have nd := sc_w_has.nd
  refine ⟨_, PSs.nox (pss_one (ps_ret (pe_cmpR op_le (pe_callB (cr_max rfl) (by rfl) T.max bt_max (pa_cons (pe_lc (own := [("_law_side_here", 2)]) (tt := tYes) rfl nd (pi_list (pe_callO O_w_sides (hr.mono (by decide)) (by rfl) (pa_cons (pv 0) pa_nil))) (blkOk_by (N := ["_law_some", "_law_p", "_law_side_here"]) (sc := defScope s_w_has) (by decide +kernel)) (fun _ _ _ _ _ => (pg_name (i := 2) nd rfl (Or.inl rfl))) (fun _ _ _ _ _ => pts_nil) (fun _ _ _ _ _ => (pe_callO O_w_over (hr.mono (by decide)) (by rfl) (pa_cons (pv 2) (pa_cons (pv 1) pa_nil))))) pa_nil)) pe_int (nomark _)))), ?_⟩
  try dsimp only [cxn_K, cxn_P, cxn_w, cx_K]
  obtain ⟨hP, hb⟩ := hp
  walk_at "k rd"
  · refine lc_L (R := Pt K) (xs := sds x1) Ri (fun s => vl s x2) (by walk_at "k fx") (by have := sds_len hP; omega) (fun i x u H' QY hx s r hy => ?_) fun H' v' s n => ?_
    · walk_at "k rd"
      refine ⟨rfl, ?_⟩
      walk_at "k rd"
      · exact hy _ _ (by walk_at "k sa") rfl
      · exact ⟨sds_bd hP x (List.mem_of_getElem? hx), hb⟩
    · walk_at "k rd"
      refine x_max n.ll ?_ fun m hm hmax => ?_
      · intro e
        have e := List.map_eq_nil_iff.mp e
        unfold sds at e
        have e := List.map_eq_nil_iff.mp e
        match x1, hP, e with
        | [], h, _ => exact h.cnv.ne rfl
        | [p], _, e => exact absurd e (List.cons_ne_nil _ _)
        | [p, q], _, e => exact absurd e (List.cons_ne_nil _ _)
        | a :: b :: c :: r, _, e =>
          rw [sdR_many (by simp)] at e
          have z := edR_len (a :: b :: c :: r)
          rw [e] at z
          simp at z
      · walk_at "k rd"
        refine q _ _ (by walk_at "k sa") ?_
        show V.bl _ = V.bl _
        rw [← has_eq hP]
        congr 1
        apply Bool.eq_iff_iff.mpr
        rw [List.all_eq_true, decide_eq_true_eq]
        constructor
        · intro k t ht
          have := hmax (vl t x2) (List.mem_map_of_mem ht)
          exact decide_eq_true (by omega)
        · intro k
          obtain ⟨t, ht, e⟩ := List.mem_map.mp hm
          have := of_decide_eq_true (k t ht)
          omega
  · exact hP
end
end K87
namespace K87
open PySem PySem.Spec PyProof.Rows L2 K8
abbrev pr_w_grown (K : PySem.W.Frag) : Sp := sp2 (Tl K (Pt K)) (Pr K) (fun S r => (∀ p ∈ S, Bd 1000 p ∧ 0 < p.2.2) ∧ S.length ≤ 60 ∧ Bq 100 r ∧ 0 < r.2 ∧ HP (S.map fun p => ledP p r)) (Tl K (Pt K)) (fun S r => hul (S.map fun p => ledP p r))
abbrev pr_w_pace (K : PySem.W.Frag) : Sp := sp1 (Nt K) NtV (Pt K) pac
abbrev pr_w_paces (K : PySem.W.Frag) : Sp := sp2 (Tl K (Nt K)) Rs (fun ns _ => On ns) (Hs K (Pt K)) pacs
abbrev pr_w_least (K : PySem.W.Frag) : Sp := sp1 (Tl K (Nt K)) Wn (Tl K (Pt K)) lea
abbrev pr_w_is_open (K : PySem.W.Frag) : Sp := sp1 (Tl K (Nt K)) Wn Rb opn
abbrev pr_w_bars (K : PySem.W.Frag) : Sp := sp2 (Tl K (Nt K)) (Sq K (Pt K)) (fun ns P => Wn ns ∧ HP (lea ns ++ P)) Rb brs
abbrev pr_w_word_of (K : PySem.W.Frag) : Sp := sp2 (Tl K (Nt K)) (Pt K) (fun ns p => Wn ns ∧ Vp p ∧ Bd 1000 p) Rs (fun ns p => wrd ns [p])
abbrev pr_w_all_told (K : PySem.W.Frag) : Sp := sp2 (Tl K (Nt K)) (Tl K (Nt K)) (fun ns os => Wn ns ∧ On os) Rb (fun ns os => os.all (tld ns))
abbrev Ok_w_grown (P : Program) (w : World) (K : PySem.W.Frag) (mg : Str → Option Value) (base : Heap) : Prop := OkD P w K mg base CX0 4 "_law_grown" ["_law_some", "_law_rate"] (pr_w_grown K)
abbrev Ok_w_pace (P : Program) (w : World) (K : PySem.W.Frag) (mg : Str → Option Value) (base : Heap) : Prop := OkD P w K mg base CX0 4 "_law_pace" ["_law_note"] (pr_w_pace K)
abbrev Ok_w_paces (P : Program) (w : World) (K : PySem.W.Frag) (mg : Str → Option Value) (base : Heap) : Prop := OkD P w K mg base CX0 5 "_law_paces" ["_law_notes", "_law_word"] (pr_w_paces K)
abbrev Ok_w_least (P : Program) (w : World) (K : PySem.W.Frag) (mg : Str → Option Value) (base : Heap) : Prop := OkD P w K mg base CX0 6 "_law_least" ["_law_notes"] (pr_w_least K)
abbrev Ok_w_is_open (P : Program) (w : World) (K : PySem.W.Frag) (mg : Str → Option Value) (base : Heap) : Prop := OkD P w K mg base CX0 7 "_law_is_open" ["_law_notes"] (pr_w_is_open K)
abbrev Ok_w_bars (P : Program) (w : World) (K : PySem.W.Frag) (mg : Str → Option Value) (base : Heap) : Prop := OkD P w K mg base CX0 7 "_law_bars" ["_law_notes", "_law_some"] (pr_w_bars K)
abbrev Ok_w_word_of (P : Program) (w : World) (K : PySem.W.Frag) (mg : Str → Option Value) (base : Heap) : Prop := OkD P w K mg base CX0 8 "_law_word_of" ["_law_notes", "_law_pace_here"] (pr_w_word_of K)
abbrev Ok_w_all_told (P : Program) (w : World) (K : PySem.W.Frag) (mg : Str → Option Value) (base : Heap) : Prop := OkD P w K mg base CX0 9 "_law_all_told" ["_law_notes", "_law_others_here"] (pr_w_all_told K)
theorem nrP_step (S : List P3) (i : Nat) : nrP S (i + 1) = nrP S i ++ [nrm (S.getD i (0, 0, 1)) (nxt S i)] := by
  unfold nrP
  rw [List.range_succ, List.map_append]
  rfl
theorem contains_any (bs : List Bool) : bs.contains true = bs.any id := by
  induction bs with
  | nil => rfl
  | cons b bs ih =>
    rw [List.contains_cons, List.any_cons, ih]
    cases b <;> rfl
theorem getD_some {S : List P3} {i : Nat} (h : i < S.length) : S[i]? = some (S.getD i (0, 0, 1)) := by
  rw [List.getD_eq_getElem?_getD, List.getElem?_eq_getElem h]
  rfl
section
variable {α : Type} {K : PySem.W.Frag} {H : Hp} {v : V} {Q : VK}
theorem x_listS {xs : List P3} (h : Sq K (Pt K) H v xs) (q : ∀ H' u, Same H H' → Hs K (Pt K) H' u xs → Q u H') : rListQ K [v] H Q := by
  rcases h with h | h
  · exact x_listT (R := Pt K) h fun H' u s n => q H' u s (by obtain ⟨p, vs, e, _, h, pr⟩ := n; exact ⟨p, vs, e, h, pr⟩)
  · obtain ⟨a, vs, rfl, s, p⟩ := h
    exact ⟨a, vs, rfl, .inl s, fun l hl => q _ _ (same_new hl) ⟨l, vs, rfl, upd_same, paired_up p fun u z (k : Pt K H u z) => up_s (same_new hl) k⟩⟩
theorem x_listP {xs : List P3} (h : Tl K (Pt K) H v xs) (q : ∀ H' u, Same H H' → Hs K (Pt K) H' u xs → Q u H') : rListQ K [v] H Q := x_listS (.inl h) q
end
section
variable {P : Program} {w : World} {K : PySem.W.Frag} {mg : Str → Option Value} {base : Heap} {nA rA cA : Addr} {f : Addr} {fd : FuncData}
theorem ok_w_normals (T : Ty K mg nA rA)  (F : FnP K "_law_normals" s_w_normals f fd) : FnOk P w K mg base CX0 1 f fd ["_law_some"] (pr_w_normals K) := by
  refine F.ok sc_w_normals (fun vs H Q E h => len1 h) (fun cdv A outer s H vs Q E hr h => ?_)
  obtain ⟨v1, x1, rfl, h1, hp, q⟩ := h
  have nd := sc_w_normals.nd
  refine ⟨_, PSs.nox (pss_cons (ps_if (pt_cmpR op_eq (pe_callB cq_len (by rfl) T.len bt_len (pa_cons (pv 0) pa_nil)) pe_int (nomark _)) (pss_one (ps_ret (pe_lst (pa_cons (pe_tup (pa_cons pe_int (pa_cons pe_int pa_nil))) (pa_cons (pe_tup (pa_cons pe_int (pa_cons pe_int pa_nil))) (pa_cons (pe_tup (pa_cons (pe_un un_neg pe_int) (pa_cons pe_int pa_nil))) (pa_cons (pe_tup (pa_cons pe_int (pa_cons (pe_un un_neg pe_int) pa_nil))) pa_nil))))))) pss_nil) (pss_cons (ps_set (i := 1) nd rfl (Or.inl rfl) (pe_lst pa_nil)) (pss_cons (ps_for PassesOwn.never rfl (pi_range1 rfl T.range (pa_cons (pe_callB cq_len (by rfl) T.len bt_len (pa_cons (pv 0) pa_nil)) pa_nil)) (pg_name (i := 2) nd rfl (Or.inl rfl)) (pss_cons (ps_par (i := 3) (j := 4) rfl nd rfl rfl (by decide) rfl rfl (pa_cons (pe_ix (r := rIxT K) ix_tup (pv 0) (pv 2) (fun _ _ => rfl)) (pa_cons (pe_ix (r := rIxT K) ix_tup (pv 0) (pe_ifExp (pt_cmpR op_lt (pe_op op_add (pv 2) pe_int) (pe_callB cq_len (by rfl) T.len bt_len (pa_cons (pv 0) pa_nil)) (nomark _)) (pe_op op_add (pv 2) pe_int) pe_int) (fun _ _ => rfl)) pa_nil)) rfl) (pss_one (ps_expr (pe_bm PySem.F.plainAttrs_list PySem.F.slot_list_append PySem.F.type_list_append mt_append (pv 1) (pa_cons (pe_tup (pa_cons (pe_op op_sub (pe_op op_mulW (pe_ix (r := rIxT K) ix_tup (pv 4) pe_int (fun _ _ => rfl)) (pe_ix (r := rIxT K) ix_tup (pv 3) pe_int (fun _ _ => rfl))) (pe_op op_mulW (pe_ix (r := rIxT K) ix_tup (pv 3) pe_int (fun _ _ => rfl)) (pe_ix (r := rIxT K) ix_tup (pv 4) pe_int (fun _ _ => rfl)))) (pa_cons (pe_op op_sub (pe_op op_mulW (pe_ix (r := rIxT K) ix_tup (pv 3) pe_int (fun _ _ => rfl)) (pe_ix (r := rIxT K) ix_tup (pv 4) pe_int (fun _ _ => rfl))) (pe_op op_mulW (pe_ix (r := rIxT K) ix_tup (pv 4) pe_int (fun _ _ => rfl)) (pe_ix (r := rIxT K) ix_tup (pv 3) pe_int (fun _ _ => rfl)))) pa_nil))) pa_nil)))))) (pss_cons (ps_if (pt_cmpR op_eq (pe_callB cq_len (by rfl) T.len bt_len (pa_cons (pv 0) pa_nil)) pe_int (nomark _)) (pss_cons (ps_asg (pe_ix (r := rIxL K) ix_list (pv 1) pe_int (fun _ _ => rfl)) (pg_tup (n := 2) rfl (pgs_cons (pg_name (i := 5) nd rfl (Or.inl rfl)) (pgs_cons (pg_name (i := 6) nd rfl (Or.inl rfl)) pgs_nil)))) (pss_one (ps_ret (pe_lst (pa_cons (pe_tup (pa_cons (pv 5) (pa_cons (pv 6) pa_nil))) (pa_cons (pe_tup (pa_cons (pe_op op_sub pe_int (pv 6)) (pa_cons (pv 5) pa_nil))) (pa_cons (pe_tup (pa_cons (pe_op op_sub pe_int (pv 5)) (pa_cons (pe_op op_sub pe_int (pv 6)) pa_nil))) (pa_cons (pe_tup (pa_cons (pv 6) (pa_cons (pe_op op_sub pe_int (pv 5)) pa_nil))) pa_nil)))))))) pss_nil) (pss_one (ps_ret (pv 1))))))), ?_⟩
  try dsimp only [cxn_K, cxn_P, cxn_w, cx_K]
  walk_at "k rd"
  refine x_ite (fun e => ?_) fun e => ?_
  · have e : x1.length = 1 := by have := of_decide_eq_true e; omega
    obtain ⟨p, rfl⟩ : ∃ p, x1 = [p] := List.length_eq_one_iff.mp e
    walk_at "k rd"
    rename_i a1 H1 n1 s1 e1 a2 H2 n2 s2 e2 a3 H3 n3 s3 e3 a4 H4 n4 s4 e4 a5 H5 n5 s5 e5
    exact q _ _ (by walk_at "k sa") ⟨a5, _, rfl, e5, .cons (by walk_at "k fx") (.cons (by walk_at "k fx") (.cons (by walk_at "k fx") (.cons (by walk_at "k fx") .nil)))⟩
  · have e1 : x1.length ≠ 1 := by have := of_decide_eq_false e; omega
    walk_at "k rd"
    rename_i l H1 nl s1 hL
    have h1 := up_s (R := Tl K (Pt K)) s1 h1
    refine fk_R (n := x1.length) (by have := hp.few; omega) (fun i σ' H' => Mk K l H1 H' ∧ ∃ z2 z3 z4 acc, σ' = [some v1, some (.ref l), z2, z3, z4, none, none] ∧ H' l = some (.lst acc) ∧ Paired (Pr K H') acc (nrP x1 i)) ⟨Mk.refl _ _, none, none, none, [], rfl, hL, .nil⟩ (fun i σ' H' hi p => ?_) fun σ' H' p => ?_
    · obtain ⟨k, z2, z3, z4, acc, rfl, hA, hP⟩ := p
      have h1' : Tl K (Pt K) H' v1 x1 := up_t k.tk h1
      have b0 := hp.bd _ (getD_mem hi)
      have b1 := hp.bd _ (nxt_mem hi)
      have la : acc.length < 100000 := by
        rw [hP.length]
        unfold nrP
        rw [List.length_map, List.length_range]
        have := hp.few
        omega
      have en : ((nxt x1 i).2.1 * (x1.getD i (0, 0, 1)).2.2 - (x1.getD i (0, 0, 1)).2.1 * (nxt x1 i).2.2, (x1.getD i (0, 0, 1)).1 * (nxt x1 i).2.2 - (nxt x1 i).1 * (x1.getD i (0, 0, 1)).2.2) = nrm (x1.getD i (0, 0, 1)) (nxt x1 i) := by
        unfold nrm stp
        refine Prod.ext rfl ?_
        show _ = -(_ - _)
        omega
      walk_at "k rd"
      refine x_ixT (R := Pt K) h1' (getD_some hi) fun u0 r0 => ?_
      walk_at "k rd"
      refine x_ite (fun e => ?_) fun e => ?_
      · have e : i + 1 < x1.length := by have := of_decide_eq_true e; omega
        have hz : x1[i + 1]? = some (nxt x1 i) := by
          rw [getD_some e]
          unfold nxt
          rw [if_pos e]
        walk_at "k rd"
        have z : ((i : Int) + 1) = ((i + 1 : Nat) : Int) := by omega
        rw [z]
        refine x_ixT (R := Pt K) h1' hz fun u1 r1 => ?_
        walk_at "k rd"
        rename_i p5 H5 n5 s5 e5
        have hA5 := s5 _ _ hA
        refine x_app (K := K) hA5 la fun H6 k6 h6 => ?_
        walk_at "k rd"
        refine ⟨(k.trans (sm_mk s5)).trans k6, _, _, _, _, rfl, h6, ?_⟩
        rw [nrP_step, ← en]
        exact paired_snoc (paired_up hP fun v y (q : Pr K H' v y) => up_t (K := K) (R := Pr K) ((sm_tk s5).trans k6.tk) q) (up_t (K := K) (R := Pr K) k6.tk (pr_new e5))
      · have e : ¬ i + 1 < x1.length := by have := of_decide_eq_false e; omega
        have hz : x1[0]? = some (nxt x1 i) := by
          rw [getD_some (by omega)]
          unfold nxt
          rw [if_neg e]
        walk_at "k rd"
        refine x_ixT (R := Pt K) (i := 0) h1' hz fun u1 r1 => ?_
        walk_at "k rd"
        rename_i p5 H5 n5 s5 e5
        have hA5 := s5 _ _ hA
        refine x_app (K := K) hA5 la fun H6 k6 h6 => ?_
        walk_at "k rd"
        refine ⟨(k.trans (sm_mk s5)).trans k6, _, _, _, _, rfl, h6, ?_⟩
        rw [nrP_step, ← en]
        exact paired_snoc (paired_up hP fun v y (q : Pr K H' v y) => up_t (K := K) (R := Pr K) ((sm_tk s5).trans k6.tk) q) (up_t (K := K) (R := Pr K) k6.tk (pr_new e5))
    · obtain ⟨k, z2, z3, z4, acc, rfl, hA, hP⟩ := p
      have h1' : Tl K (Pt K) H' v1 x1 := up_t k.tk h1
      have sH : Same H H' := fun b o h => k.km b o (ne_of_none h nl) (s1 b o h)
      walk_at "k rd"
      refine x_ite (fun e => ?_) fun e => ?_
      · have e : x1.length = 2 := by have := of_decide_eq_true e; omega
        obtain ⟨p, r, rfl⟩ : ∃ p r, x1 = [p, r] := by
          match x1, e with
          | [p, r], _ => exact ⟨p, r, rfl⟩
        walk_at "k rd"
        refine x_ixL (R := Pr K) (xs := nrP [p, r] 2) (i := 0) (z := nrm p r) ⟨l, acc, rfl, SqL.of hA, hP⟩ rfl fun u0 r0 => ?_
        walk_at "k rd"
        rename_i a1 H1 n1 s1 e1 a2 H2 n2 s2 e2 a3 H3 n3 s3 e3 a4 H4 n4 s4 e4 a5 H5 n5 s5 e5
        have y1 : ((nrm p r).1, (nrm p r).2) = ((stp p r).2, -(stp p r).1) := rfl
        have y2 : (0 - (nrm p r).2, (nrm p r).1) = ((stp p r).1, (stp p r).2) := by
          refine Prod.ext ?_ rfl
          show 0 - -(stp p r).1 = (stp p r).1
          omega
        have y3 : (0 - (nrm p r).1, 0 - (nrm p r).2) = (-(stp p r).2, (stp p r).1) := by
          refine Prod.ext ?_ ?_
          · show 0 - (stp p r).2 = -(stp p r).2
            omega
          · show 0 - -(stp p r).1 = (stp p r).1
            omega
        have y4 : ((nrm p r).2, 0 - (nrm p r).1) = (-(stp p r).1, -(stp p r).2) := by
          refine Prod.ext rfl ?_
          show 0 - (stp p r).2 = -(stp p r).2
          omega
        have q1 := pr_new (K := K) e1
        have q2 := pr_new (K := K) e2
        have q3 := pr_new (K := K) e3
        have q4 := pr_new (K := K) e4
        rw [y1] at q1
        rw [y2] at q2
        rw [y3] at q3
        rw [y4] at q4
        exact q _ _ (by walk_at "k sa") ⟨a5, _, rfl, e5, .cons (by walk_at "k fx") (.cons (by walk_at "k fx") (.cons (by walk_at "k fx") (.cons (by walk_at "k fx") .nil)))⟩
      · have e2 : x1.length ≠ 2 := by have := of_decide_eq_false e; omega
        have h3 : 3 ≤ x1.length := by
          have : x1.length ≠ 0 := fun z => hp.cnv.ne (List.eq_nil_of_length_eq_zero z)
          omega
        walk_at "k rd"
        rw [← nrs_many h3] at hP
        exact q _ _ sH ⟨l, acc, rfl, hA, hP⟩
theorem ok_w_grown (T : Ty K mg nA rA) (O_w_hull : Ok_w_hull P w K mg base) (O_w_led : Ok_w_led P w K mg base) (F : FnP K "_law_grown" s_w_grown f fd) : FnOk P w K mg base CX0 4 f fd ["_law_some", "_law_rate"] (pr_w_grown K) := by
  refine F.ok sc_w_grown (fun vs H Q E h => len2 h) (fun cdv A outer s H vs Q E hr h => ?_)
  obtain ⟨v1, v2, x1, x2, rfl, h1, h2, hp, q⟩ := h
  have nd := sc_w_grown.nd
  refine ⟨_, PSs.nox (pss_one (ps_ret (pe_callO O_w_hull (hr.mono (by decide)) (by rfl) (pa_cons (pe_lc (own := [("_law_p", 2)]) (tt := tYes) rfl nd (pi_tup (pv 0)) (blkOk_by (N := ["_law_some", "_law_rate", "_law_p"]) (sc := defScope s_w_grown) (by decide +kernel)) (fun _ _ _ _ _ => (pg_name (i := 2) nd rfl (Or.inl rfl))) (fun _ _ _ _ _ => pts_nil) (fun _ _ _ _ _ => (pe_callO O_w_led (hr.mono (by decide)) (by rfl) (pa_cons (pv 2) (pa_cons (pv 1) pa_nil))))) pa_nil)))), ?_⟩
  try dsimp only [cxn_K, cxn_P, cxn_w, cx_K]
  obtain ⟨hb, hl, b2, w2, hH⟩ := hp
  walk_at "k rd"
  refine lc_T (R := Pt K) (xs := x1) (Pt K) (fun p => ledP p x2) h1 (by omega) (fun i x u H' QY hx s r hy => ?_) fun H' v' s n => ?_
  · obtain ⟨b1, w1⟩ := hb x (List.mem_of_getElem? hx)
    walk_at "k rd"
    refine ⟨rfl, ?_⟩
    walk_at "k rd"
    · exact hy _ _ (by walk_at "k sa") (by assumption)
    · exact ⟨bd_up b1 (by decide), b2, w1, w2⟩
  · walk_at "k rd"
    · exact q _ _ (by walk_at "k sa") (by assumption)
    · exact hH
theorem ok_w_pace (T : Ty K mg nA rA) (O_w_led : Ok_w_led P w K mg base) (F : FnP K "_law_pace" s_w_pace f fd) : FnOk P w K mg base CX0 4 f fd ["_law_note"] (pr_w_pace K) := by
  refine F.ok sc_w_pace (fun vs H Q E h => len1 h) (fun cdv A outer s H vs Q E hr h => ?_)
  obtain ⟨v1, x1, rfl, h1, hp, q⟩ := h
  have nd := sc_w_pace.nd
  refine ⟨_, PSs.nox (pss_one (ps_ret (pe_callO O_w_led (hr.mono (by decide)) (by rfl) (pa_cons (pe_ix (r := rIxT K) ix_tup (pv 0) pe_int (fun _ _ => rfl)) (pa_cons (pe_tup (pa_cons (pe_ix (r := rIxT K) ix_tup (pe_ix (r := rIxT K) ix_tup (pv 0) pe_int (fun _ _ => rfl)) pe_int (fun _ _ => rfl)) (pa_cons (pe_ix (r := rIxT K) ix_tup (pe_ix (r := rIxT K) ix_tup (pv 0) pe_int (fun _ _ => rfl)) pe_int (fun _ _ => rfl)) pa_nil))) pa_nil))))), ?_⟩
  try dsimp only [cxn_K, cxn_P, cxn_w, cx_K]
  walk_at "k rd"
  · exact q _ _ (by walk_at "k sa") (by assumption)
  · exact ⟨bd_up hp.bd (by decide), ⟨sm_up hp.tb.y (by decide), sm_up hp.tb.x (by decide)⟩, hp.vp.1, hp.t1⟩
theorem ok_w_paces (T : Ty K mg nA rA) (O_w_pace : Ok_w_pace P w K mg base) (F : FnP K "_law_paces" s_w_paces f fd) : FnOk P w K mg base CX0 5 f fd ["_law_notes", "_law_word"] (pr_w_paces K) := by
  refine F.ok sc_w_paces (fun vs H Q E h => len2 h) (fun cdv A outer s H vs Q E hr h => ?_)
  obtain ⟨v1, v2, x1, x2, rfl, h1, h2, hp, q⟩ := h
  have nd := sc_w_paces.nd
  refine ⟨_, PSs.nox (pss_one (ps_ret (pe_lc (own := [("_law_note", 2)]) rfl nd (pi_tup (pv 0)) (blkOk_by (N := ["_law_notes", "_law_word", "_law_note"]) (sc := defScope s_w_paces) (by decide +kernel)) (fun _ _ _ _ _ => (pg_name (i := 2) nd rfl (Or.inl rfl))) (fun _ _ _ _ _ => (pts_one (pt_cmpR op_eq (pe_ix (r := rIxT K) ix_tup (pv 2) pe_int (fun _ _ => rfl)) (pv 1) (nomark _)))) (fun _ _ _ _ _ => (pe_callO O_w_pace (hr.mono (by decide)) (by rfl) (pa_cons (pv 2) pa_nil)))))), ?_⟩
  try dsimp only [cxn_K, cxn_P, cxn_w, cx_K]
  cases h2
  walk_at "k rd"
  refine lc_TF (R := Nt K) (xs := x1) (Pt K) pac (fun n => decide (n.1 = x2)) h1 (by have := hp.few; omega) (fun i x u H' QY QN hx s r hy hn => ?_) fun H' v' s n => ?_
  · walk_at "k rd"
    refine ⟨rfl, ?_⟩
    walk_at "k rd"
    refine x_ite (fun e => ?_) fun e => hn e _ (same_refl _)
    walk_at "k rd"
    · exact hy e _ _ (by walk_at "k sa") (by assumption)
    · exact hp.nv x (List.mem_of_getElem? hx)
  · exact q _ _ s n.hs
theorem ok_w_least (T : Ty K mg nA rA) (O_w_hull : Ok_w_hull P w K mg base) (O_w_paces : Ok_w_paces P w K mg base) (F : FnP K "_law_least" s_w_least f fd) : FnOk P w K mg base CX0 6 f fd ["_law_notes"] (pr_w_least K) := by
  refine F.ok sc_w_least (fun vs H Q E h => len1 h) (fun cdv A outer s H vs Q E hr h => ?_)
  obtain ⟨v1, x1, rfl, h1, hp, q⟩ := h
  have nd := sc_w_least.nd
  refine ⟨_, PSs.nox (pss_one (ps_ret (pe_callO O_w_hull (hr.mono (by decide)) (by rfl) (pa_cons (pe_op op_cat (pe_lst (pa_cons (pe_tup (pa_cons pe_int (pa_cons pe_int (pa_cons pe_int pa_nil)))) pa_nil)) (pe_callO O_w_paces (hr.mono (by decide)) (by rfl) (pa_cons (pv 0) (pa_cons pe_str pa_nil)))) pa_nil)))), ?_⟩
  try dsimp only [cxn_K, cxn_P, cxn_w, cx_K]
  walk_at "k rd"
  · rename_i a1 Ha na sa ea l H1 nl s1 hl H2 v2 s2 r2
    have hO : Hs K (Pt K) H2 (.ref l) [(0, 0, 1)] := up_s s2 (hs_one hl (up_s s1 (pt_new ea)))
    refine x_cat (R := Pt K) hO r2 ?_ fun H3 u3 s3 n3 => ?_
    · have := pacs_len x1 "made"
      have := hp.few
      simp only [List.length_singleton]
      omega
    · walk_at "k rd"
      · exact q _ _ (by walk_at "k sa") (by assumption)
      · exact hp.hp
  · exact hp.on
theorem ok_w_is_open (T : Ty K mg nA rA) (O_w_least : Ok_w_least P w K mg base) (O_w_paces : Ok_w_paces P w K mg base) (O_w_has : Ok_w_has P w K mg base) (F : FnP K "_law_is_open" s_w_is_open f fd) : FnOk P w K mg base CX0 7 f fd ["_law_notes"] (pr_w_is_open K) := by
  refine F.ok sc_w_is_open (fun vs H Q E h => len1 h) (fun cdv A outer s H vs Q E hr h => ?_)
  obtain ⟨v1, x1, rfl, h1, hp, q⟩ := h
  have nd := sc_w_is_open.nd
  refine ⟨_, PSs.nox (pss_cons (ps_set (i := 1) nd rfl (Or.inr rfl) (pe_callO O_w_least (hr.mono (by decide)) (by rfl) (pa_cons (pv 0) pa_nil))) (pss_one (ps_ret (pe_cmpR op_notIn_seq pe_bl (pe_lc (own := [("_law_pace_here", 2)]) (tt := tYes) rfl nd (pi_list (pe_callO O_w_paces (hr.mono (by decide)) (by rfl) (pa_cons (pv 0) (pa_cons pe_str pa_nil)))) (blkOk_by (N := ["_law_notes", "_law_least_here", "_law_pace_here"]) (sc := defScope s_w_is_open) (by decide +kernel)) (fun _ _ _ _ _ => (pg_name (i := 2) nd rfl (Or.inl rfl))) (fun _ _ _ _ _ => pts_nil) (fun _ _ _ _ _ => (pe_callO O_w_has (hr.mono (by decide)) (by rfl) (pa_cons (pv 1) (pa_cons (pv 2) pa_nil))))) (by rfl))))), ?_⟩
  try dsimp only [cxn_K, cxn_P, cxn_w, cx_K]
  walk_at "k rd"
  · refine lc_L (R := Pt K) (xs := pacs x1 "barred") Rb (hasB (lea x1)) (by walk_at "k fx") (by have := pacs_len x1 "barred"; have := hp.few; omega) (fun i x u H' QY hx s r hy => ?_) fun H' v' s n => ?_
    · obtain ⟨n, hn, rfl⟩ := mem_pacs (List.mem_of_getElem? hx)
      walk_at "k rd"
      refine ⟨rfl, ?_⟩
      walk_at "k rd"
      · exact hy _ _ (by walk_at "k sa") rfl
      · exact ⟨hp.pg, pac_bd (hp.nv n hn)⟩
    · refine x_inB n.ll ?_
      refine q _ _ (by walk_at "k sa") ?_
      show V.bl _ = V.bl (opn x1)
      unfold opn
      rw [if_pos rfl, contains_any, List.any_map]
      rfl
  · exact hp.on
  · exact hp
theorem ok_w_bars (T : Ty K mg nA rA) (O_w_hull : Ok_w_hull P w K mg base) (O_w_least : Ok_w_least P w K mg base) (O_w_paces : Ok_w_paces P w K mg base) (O_w_has : Ok_w_has P w K mg base) (F : FnP K "_law_bars" s_w_bars f fd) : FnOk P w K mg base CX0 7 f fd ["_law_notes", "_law_some"] (pr_w_bars K) := by
  refine F.ok sc_w_bars (fun vs H Q E h => len2 h) (fun cdv A outer s H vs Q E hr h => ?_)
  obtain ⟨v1, v2, x1, x2, rfl, h1, h2, hp, q⟩ := h
  have nd := sc_w_bars.nd
  refine ⟨_, PSs.nox (pss_cons (ps_set (i := 2) nd rfl (Or.inr rfl) (pe_callO O_w_hull (hr.mono (by decide)) (by rfl) (pa_cons (pe_op op_cat (pe_callTy cq_list (by rfl) T.list bt_list (pa_cons (pe_callO O_w_least (hr.mono (by decide)) (by rfl) (pa_cons (pv 0) pa_nil)) pa_nil)) (pe_callTy cq_list (by rfl) T.list bt_list (pa_cons (pv 1) pa_nil))) pa_nil))) (pss_one (ps_ret (pe_cmpR op_in_seq pe_bl (pe_lc (own := [("_law_pace_here", 3)]) (tt := tYes) rfl nd (pi_list (pe_callO O_w_paces (hr.mono (by decide)) (by rfl) (pa_cons (pv 0) (pa_cons pe_str pa_nil)))) (blkOk_by (N := ["_law_notes", "_law_some", "_law_whole_here", "_law_pace_here"]) (sc := defScope s_w_bars) (by decide +kernel)) (fun _ _ _ _ _ => (pg_name (i := 3) nd rfl (Or.inl rfl))) (fun _ _ _ _ _ => pts_nil) (fun _ _ _ _ _ => (pe_callO O_w_has (hr.mono (by decide)) (by rfl) (pa_cons (pv 2) (pa_cons (pv 3) pa_nil))))) (by rfl))))), ?_⟩
  try dsimp only [cxn_K, cxn_P, cxn_w, cx_K]
  obtain ⟨hW, hP⟩ := hp
  have hl : x2.length ≤ 60 := by have := hP.few; rw [List.length_append] at this; omega
  walk_at "k rd"
  · refine x_listP (xs := lea x1) (by walk_at "k fx") fun H2 u2 s2 l2 => ?_
    walk_at "k rd"
    refine x_listS (xs := x2) (by walk_at "k fx") fun H3 u3 s3 l3 => ?_
    walk_at "k rd"
    refine x_cat (R := Pt K) (up_s s3 l2) l3 (by have := hW.llen; omega) fun H4 u4 s4 n4 => ?_
    walk_at "k rd"
    · refine lc_L (R := Pt K) (xs := pacs x1 "barred") Rb (hasB (hul (lea x1 ++ x2))) (by walk_at "k fx") (by have := pacs_len x1 "barred"; have := hW.few; omega) (fun i x u H' QY hx s r hy => ?_) fun H' v' s n => ?_
      · obtain ⟨n, hn, rfl⟩ := mem_pacs (List.mem_of_getElem? hx)
        walk_at "k rd"
        refine ⟨rfl, ?_⟩
        walk_at "k rd"
        · exact hy _ _ (by walk_at "k sa") rfl
        · exact ⟨hul_pg hP, pac_bd (hW.nv n hn)⟩
      · refine x_inB n.ll ?_
        refine q _ _ (by walk_at "k sa") ?_
        show V.bl _ = V.bl (brs x1 x2)
        unfold brs
        rw [if_neg (by decide), contains_any, List.any_map]
        rfl
    · exact hW.on
    · exact hP
  · exact hW
theorem ok_w_word_of (T : Ty K mg nA rA) (O_w_has : Ok_w_has P w K mg base) (O_w_least : Ok_w_least P w K mg base) (O_w_bars : Ok_w_bars P w K mg base) (F : FnP K "_law_word_of" s_w_word_of f fd) : FnOk P w K mg base CX0 8 f fd ["_law_notes", "_law_pace_here"] (pr_w_word_of K) := by
  refine F.ok sc_w_word_of (fun vs H Q E h => len2 h) (fun cdv A outer s H vs Q E hr h => ?_)
  obtain ⟨v1, v2, x1, x2, rfl, h1, h2, hp, q⟩ := h
  have nd := sc_w_word_of.nd
  refine ⟨_, PSs.nox (pss_cons (ps_if (pt_val (pe_callO O_w_has (hr.mono (by decide)) (by rfl) (pa_cons (pe_callO O_w_least (hr.mono (by decide)) (by rfl) (pa_cons (pv 0) pa_nil)) (pa_cons (pv 1) pa_nil)))) (pss_one (ps_ret pe_str)) pss_nil) (pss_one (ps_ret (pe_ifExp (pt_val (pe_callO O_w_bars (hr.mono (by decide)) (by rfl) (pa_cons (pv 0) (pa_cons (pe_lst (pa_cons (pv 1) pa_nil)) pa_nil)))) pe_str pe_str)))), ?_⟩
  try dsimp only [cxn_K, cxn_P, cxn_w, cx_K]
  obtain ⟨hW, hV, hb⟩ := hp
  walk_at "k rd"
  · refine x_ite (fun e => ?_) fun e => ?_
    · walk_at "k rd"
      refine q _ _ (by walk_at "k sa") ?_
      show V.str _ = V.str (wrd x1 [x2])
      unfold wrd
      rw [if_pos (by rw [List.all_cons, e]; rfl)]
    · walk_at "k rd"
      rename_i H3 s3 l H4 nl s4 hl
      have r2 : Pt K H4 v2 x2 := by walk_at "k fx"
      have hS : Sq K (Pt K) H4 (.ref l) [x2] := .inr (hs_one hl r2).ll
      refine x_spb2 (R1 := Tl K (Nt K)) (by walk_at "k fx") hS (fun H5 s5 => ?_) ⟨hW, hW.one hV hb⟩
      have en : ¬ ([x2].all (hasB (lea x1)) = true) := by rw [List.all_cons, e, Bool.false_and]; decide
      walk_at "k rd"
      refine x_ite (fun e2 => ?_) fun e2 => ?_
      · walk_at "k rd"
        refine q _ _ (by walk_at "k sa") ?_
        show V.str _ = V.str (wrd x1 [x2])
        unfold wrd
        rw [if_neg en, if_pos e2]
      · walk_at "k rd"
        refine q _ _ (by walk_at "k sa") ?_
        show V.str _ = V.str (wrd x1 [x2])
        unfold wrd
        rw [if_neg en, if_neg (by rw [e2]; decide)]
  · exact ⟨hW.pg, hb⟩
  · exact hW
theorem ok_w_all_told (T : Ty K mg nA rA) (O_w_word_of : Ok_w_word_of P w K mg base) (O_w_pace : Ok_w_pace P w K mg base) (F : FnP K "_law_all_told" s_w_all_told f fd) : FnOk P w K mg base CX0 9 f fd ["_law_notes", "_law_others_here"] (pr_w_all_told K) := by
  refine F.ok sc_w_all_told (fun vs H Q E h => len2 h) (fun cdv A outer s H vs Q E hr h => ?_)
  obtain ⟨v1, v2, x1, x2, rfl, h1, h2, hp, q⟩ := h
  have nd := sc_w_all_told.nd
  refine ⟨_, PSs.nox (pss_cons (ps_for PassesOwn.never rfl (pi_tup (pv 1)) (pg_name (i := 2) nd rfl (Or.inl rfl)) (pss_one (ps_if (pt_cmpR op_ne (pe_callO O_w_word_of (hr.mono (by decide)) (by rfl) (pa_cons (pv 0) (pa_cons (pe_callO O_w_pace (hr.mono (by decide)) (by rfl) (pa_cons (pv 2) pa_nil)) pa_nil))) (pe_ifExp (pt_cmpR op_eq (pe_ix (r := rIxT K) ix_tup (pv 2) pe_int (fun _ _ => rfl)) pe_str (nomark _)) pe_str pe_str) (nomark _)) (pss_one (ps_ret pe_bl)) pss_nil))) (pss_one (ps_ret pe_bl))), ?_⟩
  try dsimp only [cxn_K, cxn_P, cxn_w, cx_K]
  obtain ⟨hW, hO⟩ := hp
  walk_at "k rd"
  refine fk_T h2 (fun i σ' H' => Same H H' ∧ (x2.take i).all (tld x1) = true ∧ ∃ z, σ' = [some v1, some v2, z]) ⟨same_refl _, rfl, none, rfl⟩ (fun i σ' H' p => sm_tk p.1) (fun i x u σ' H' hx r p => ?_) fun σ' H' p => ?_
  · obtain ⟨s0, ha, z, rfl⟩ := p
    have r := up_s s0 r
    have hV := hO.nv x (List.mem_of_getElem? hx)
    have step : tld x1 x = true → (x2.take (i + 1)).all (tld x1) = true := fun e => by
      rw [List.take_add_one, hx, List.all_append, ha]
      show (true && ([x].all (tld x1))) = true
      rw [List.all_cons, e]
      rfl
    have stop : tld x1 x = false → x2.all (tld x1) = false := fun e => by
      cases k : x2.all (tld x1) with
      | false => rfl
      | true =>
        have := List.all_eq_true.mp k x (List.mem_of_getElem? hx)
        rw [e] at this
        cases this
    walk_at "k rd"
    · refine x_ite (fun e => ?_) fun e => ?_
      · have ed : due x = "sure" := if_pos (of_decide_eq_true e)
        walk_at "k rd"
        refine x_ite (fun e2 => ?_) fun e2 => ?_
        · walk_at "k rd"
          refine q _ _ (by walk_at "k sa") ?_
          show V.bl _ = V.bl (x2.all (tld x1))
          rw [stop]
          unfold tld
          rw [ed]
          simpa using e2
        · walk_at "k rd"
          refine ⟨by walk_at "k sa", step ?_, _, rfl⟩
          unfold tld
          rw [ed]
          simpa using e2
      · have ed : due x = "never" := if_neg (of_decide_eq_false e)
        walk_at "k rd"
        refine x_ite (fun e2 => ?_) fun e2 => ?_
        · walk_at "k rd"
          refine q _ _ (by walk_at "k sa") ?_
          show V.bl _ = V.bl (x2.all (tld x1))
          rw [stop]
          unfold tld
          rw [ed]
          simpa using e2
        · walk_at "k rd"
          refine ⟨by walk_at "k sa", step ?_, _, rfl⟩
          unfold tld
          rw [ed]
          simpa using e2
    · exact ⟨hW, pac_vp hV, pac_bd hV⟩
    · exact hV
  · obtain ⟨s0, ha, z, rfl⟩ := p
    rw [List.take_length] at ha
    walk_at "k rd"
    refine q _ _ s0 ?_
    show V.bl _ = V.bl (x2.all (tld x1))
    rw [ha]
end
end K87
namespace K87
open PySem PySem.Spec PyProof.Rows L2 K8
/-! ### the draws -/
abbrev Ok_w_dip (P : Program) (w : World) (K : PySem.W.Frag) (mg : Str → Option Value) (base : Heap) : Prop := OkD P w K mg base CX0 1 "_law_dip" ["_law_mug_here", "_law_size"] (pr_w_dip K)
abbrev Ok_w_pick (P : Program) (w : World) (K : PySem.W.Frag) (mg : Str → Option Value) (base : Heap) : Prop := OkD P w K mg base CX0 2 "_law_pick" ["_law_mug_here", "_law_some"] (pr_w_pick K)
abbrev Ok_w_whole (P : Program) (w : World) (K : PySem.W.Frag) (mg : Str → Option Value) (base : Heap) : Prop := OkD P w K mg base CX0 2 "_law_whole" ["_law_mug_here", "_law_wide_here"] (pr_w_whole K)
abbrev Ok_w_span (P : Program) (w : World) (K : PySem.W.Frag) (mg : Str → Option Value) (base : Heap) : Prop := OkD P w K mg base CX0 3 "_law_span" ["_law_mug_here"] (pr_w_span K)
abbrev Ok_w_wide (P : Program) (w : World) (K : PySem.W.Frag) (mg : Str → Option Value) (base : Heap) : Prop := OkD P w K mg base CX0 3 "_law_wide" ["_law_mug_here"] (pr_w_wide K)
abbrev Ok_w_point (P : Program) (w : World) (K : PySem.W.Frag) (mg : Str → Option Value) (base : Heap) : Prop := OkD P w K mg base CX0 3 "_law_point" ["_law_mug_here", "_law_wide_here"] (pr_w_point K)
theorem sm_of {n : Nat} {i j : Int} (h : Sm n j) (a : -j ≤ i) (b : i ≤ j) : Sm n i := by
  unfold Sm at *
  omega
section
variable {P : Program} {w : World} {K : PySem.W.Frag} {mg : Str → Option Value} {base : Heap} {nA rA cA : Addr} {f : Addr} {fd : FuncData}
theorem ok_w_dip (T : Ty K mg nA rA)  (F : FnP K "_law_dip" s_w_dip f fd) : FnOk P w K mg base CX0 1 f fd ["_law_mug_here", "_law_size"] (pr_w_dip K) := by
  refine F.ok sc_w_dip (fun vs H Q E h => (by obtain ⟨_, _, _, rfl, _⟩ := h; rfl)) (fun cdv A outer s H vs Q E hr h => ?_)
  obtain ⟨m, o, n, rfl, hm, ⟨c, b, k, rfl, hc, hb, hb2⟩, hn, q⟩ := h
  have nd := sc_w_dip.nd
  refine ⟨_, PSs.nox (pss_cons (ps_if (pt_cmpR op_gt (pe_ix (r := rIxL K) ix_list (pv 0) pe_int (fun _ _ => rfl)) pe_int (nomark _)) (pss_cons (ps_asg (pe_callB cq_divmod (by rfl) T.divmod bt_divmod (pa_cons (pe_ix (r := rIxL K) ix_list (pv 0) pe_int (fun _ _ => rfl)) (pa_cons (pv 1) pa_nil))) (pg_tup (n := 2) rfl (pgs_cons (pg_sub (pv 0) pe_int set_list) (pgs_cons (pg_name (i := 2) nd rfl (Or.inl rfl)) pgs_nil)))) (pss_one (ps_ret (pv 2)))) pss_nil) (pss_cons (ps_asg (pe_op op_add (pe_ix (r := rIxL K) ix_list (pv 0) pe_int (fun _ _ => rfl)) pe_int) (pg_sub (pv 0) pe_int set_list)) (pss_cons (ps_set (i := 3) nd rfl (Or.inl rfl) (pe_op op_add (pe_op op_mod (pe_callTy cq_int (by rfl) T.int bt_int (pa_cons (pe_ix (r := rIxL K) ix_list (pv 0) pe_int (fun _ _ => rfl)) pa_nil)) pe_int) pe_int)) (pss_cons (ps_asg (pe_op op_mod (pe_callTy cq_int (by rfl) T.int bt_int (pa_cons (pe_op op_add (pe_op op_add (pe_op op_mulW (pe_ix (r := rIxL K) ix_list (pv 0) pe_int (fun _ _ => rfl)) (pv 3)) (pe_op op_mul pe_int (pe_ix (r := rIxL K) ix_list (pv 0) pe_int (fun _ _ => rfl)))) pe_int) pa_nil)) pe_int) (pg_sub (pv 0) pe_int set_list)) (pss_one (ps_ret (pe_op op_mod (pe_callTy cq_int (by rfl) T.int bt_int (pa_cons (pe_op op_fdivW (pe_ix (r := rIxL K) ix_list (pv 0) pe_int (fun _ _ => rfl)) pe_int) pa_nil)) (pv 1)))))))), ?_⟩
  try dsimp only [cxn_K, cxn_P, cxn_w, cx_K]
  have hn0 : 0 < n := hn.1
  walk_at "k rd"
  refine x_ite (fun e => ?_) fun e => ?_
  · walk_at "k rd"
    refine x_divmod (show CDiv c n from ⟨hn.1, by have := hn.2; omega⟩) fun p H2 np s2 e2 => ?_
    refine x_gnew e2 rfl ?_
    have hm2 := s2 _ _ hm
    walk_at "k rd"
    rename_i H3 k3 h3
    refine q _ _ _ (c % n) ((sm_mk s2).trans k3) h3 ⟨_, _, _, rfl, Int.ediv_nonneg hc (Int.le_of_lt hn0), hb, hb2⟩ rfl ⟨Int.emod_nonneg _ (by omega), Int.emod_lt_of_pos _ hn0⟩
  · have sb : Sm 31 b := by unfold Sm; omega
    walk_at "k rd"
    have sf : Sm 16 (b % 29989 + 20011) := by
      unfold Sm
      have h1 := Int.emod_nonneg b (show (29989 : Int) ≠ 0 by decide)
      have h2 := Int.emod_lt_of_pos b (show (0 : Int) < 29989 by decide)
      omega
    walk_at "k rd"
    rename_i H3 k3 h3 H4 k4 h4
    have nb0 : (0 : Int) ≤ (b * (b % 29989 + 20011) + 50021 * (k + 1) + 7) % 2147483543 := Int.emod_nonneg _ (by decide)
    have nb1 : (b * (b % 29989 + 20011) + 50021 * (k + 1) + 7) % 2147483543 < 2147483543 := Int.emod_lt_of_pos _ (by decide)
    refine x_I (show (0 : Int) < n from hn0) ?_
    exact q _ _ _ ((b * (b % 29989 + 20011) + 50021 * (k + 1) + 7) % 2147483543 / 89 % n) (k3.trans k4) h4 ⟨_, _, _, rfl, hc, nb0, nb1⟩ rfl ⟨Int.emod_nonneg _ (by omega), Int.emod_lt_of_pos _ hn0⟩
theorem ok_w_pick (T : Ty K mg nA rA) (O_w_dip : Ok_w_dip P w K mg base) (F : FnP K "_law_pick" s_w_pick f fd) : FnOk P w K mg base CX0 2 f fd ["_law_mug_here", "_law_some"] (pr_w_pick K) := by
  refine F.ok sc_w_pick (fun vs H Q E h => (by obtain ⟨_, _, _, _, _, _, _, rfl, _⟩ := h; rfl)) (fun cdv A outer s H vs Q E hr h => ?_)
  obtain ⟨β, R, xs, m, o, v, iM, rfl, hm, ho, hs, q, h0, hl⟩ := h
  have nd := sc_w_pick.nd
  refine ⟨_, PSs.nox (pss_one (ps_ret (pe_ix (r := rIx K) ix_seq (pv 1) (pe_callO O_w_dip (hr.mono (by decide)) (by rfl) (pa_cons (pv 0) (pa_cons (pe_callB cq_len (by rfl) T.len bt_len (pa_cons (pv 1) pa_nil)) pa_nil))) (fun _ _ => rfl)))), ?_⟩
  try dsimp only [cxn_K, cxn_P, cxn_w, cx_K]
  have hl0 : 0 < xs.length := List.length_pos_iff.mpr h0
  walk_at "k rd"
  refine x_dip hm ho ⟨by omega, by omega⟩ fun H' d o' k h' f hd => ?_
  obtain ⟨i, rfl⟩ : ∃ i : Nat, d = i := ⟨d.toNat, by omega⟩
  have hi : i < xs.length := by omega
  have hs' : Sq K R H' v xs := (Sqm.up k hs).sq
  refine x_ixS hs' (List.getElem?_eq_getElem hi) fun u r => ?_
  exact q _ _ _ _ k h' f r (List.getElem_mem hi)
theorem ok_w_whole (T : Ty K mg nA rA) (O_w_dip : Ok_w_dip P w K mg base) (F : FnP K "_law_whole" s_w_whole f fd) : FnOk P w K mg base CX0 2 f fd ["_law_mug_here", "_law_wide_here"] (pr_w_whole K) := by
  refine F.ok sc_w_whole (fun vs H Q E h => (by obtain ⟨_, _, _, rfl, _⟩ := h; rfl)) (fun cdv A outer s H vs Q E hr h => ?_)
  obtain ⟨m, o, n, rfl, hm, ho, hn, q⟩ := h
  have nd := sc_w_whole.nd
  refine ⟨_, PSs.nox (pss_one (ps_ret (pe_op op_sub (pe_callO O_w_dip (hr.mono (by decide)) (by rfl) (pa_cons (pv 0) (pa_cons (pe_op op_add (pe_op op_mul pe_int (pv 1)) pe_int) pa_nil))) (pv 1)))), ?_⟩
  try dsimp only [cxn_K, cxn_P, cxn_w, cx_K]
  walk_at "k rd"
  refine x_dip hm ho ⟨by omega, by omega⟩ fun H' d o' k h' f hd => ?_
  walk_at "k rd"
  exact q _ _ _ _ k h' f rfl ⟨by omega, by omega⟩
theorem ok_w_span (T : Ty K mg nA rA) (O_w_ratio : Ok_w_ratio P w K mg base) (O_w_pick : Ok_w_pick P w K mg base) (O_w_dip : Ok_w_dip P w K mg base) (F : FnP K "_law_span" s_w_span f fd) : FnOk P w K mg base CX0 3 f fd ["_law_mug_here"] (pr_w_span K) := by
  refine F.ok sc_w_span (fun vs H Q E h => (by obtain ⟨_, _, rfl, _⟩ := h; rfl)) (fun cdv A outer s H vs Q E hr h => ?_)
  obtain ⟨m, o, rfl, hm, ho, q⟩ := h
  have nd := sc_w_span.nd
  refine ⟨_, PSs.nox (pss_one (ps_ret (pe_callO O_w_ratio (hr.mono (by decide)) (by rfl) (pa_cons (pe_op op_add pe_int (pe_callO O_w_dip (hr.mono (by decide)) (by rfl) (pa_cons (pv 0) (pa_cons pe_int pa_nil)))) (pa_cons (pe_callO O_w_pick (hr.mono (by decide)) (by rfl) (pa_cons (pv 0) (pa_cons (pe_lst (pa_cons pe_int (pa_cons pe_int (pa_cons pe_int (pa_cons pe_int pa_nil))))) pa_nil))) pa_nil))))), ?_⟩
  try dsimp only [cxn_K, cxn_P, cxn_w, cx_K]
  walk_at "k rm"
  rename_i H1 d o1 k1 hm1 ho1 hd l H2 nl s2 hl
  refine x_pick (R := Ri) (xs := [1, 1, 2, 3]) (by walk_at "k hm") ho1 (sqm_ints hm1 nl hl) (fun H3 u o3 x k3 hm3 ho3 r3 hx => ?_) (by decide) (by decide)
  cases r3
  have hx : 1 ≤ x ∧ x ≤ 3 := by
    simp only [List.mem_cons, List.not_mem_nil, or_false] at hx
    omega
  have hd1 : 0 < 1 + d := by omega
  walk_at "k rd"
  · rename_i H4 u4 s4 r4
    have hg : 0 < gc (1 + d) x := gc_pos_l (by omega)
    have e1 : (1 + d) / gc (1 + d) x * gc (1 + d) x = 1 + d := Int.ediv_mul_cancel (gc_l _ _)
    have e2 : x / gc (1 + d) x * gc (1 + d) x = x := Int.ediv_mul_cancel (gc_r _ _)
    have p1 : 0 < (1 + d) / gc (1 + d) x := by
      rcases Int.lt_or_le 0 ((1 + d) / gc (1 + d) x) with z | z
      · exact z
      · have := Int.mul_nonpos_of_nonpos_of_nonneg z (Int.le_of_lt hg)
        omega
    have p2 : 0 < x / gc (1 + d) x := by
      rcases Int.lt_or_le 0 (x / gc (1 + d) x) with z | z
      · exact z
      · have := Int.mul_nonpos_of_nonpos_of_nonneg z (Int.le_of_lt hg)
        omega
    have g1 : gc ((1 + d) / gc (1 + d) x) (x / gc (1 + d) x) = 1 := by
      have z := gc_mul (Int.le_of_lt hg) ((1 + d) / gc (1 + d) x) (x / gc (1 + d) x)
      rw [Int.mul_comm (gc (1 + d) x), e1, Int.mul_comm (gc (1 + d) x), e2] at z
      have : gc (1 + d) x * 1 = gc (1 + d) x * gc ((1 + d) / gc (1 + d) x) (x / gc (1 + d) x) := by rw [Int.mul_one]; exact z
      exact (Int.eq_of_mul_eq_mul_left (by omega) this).symm
    refine q _ _ _ _ (by walk_at "k mk") (by walk_at "k hm") ho3 r4 ⟨p1, p2, g1, ?_, ?_⟩
    · exact sm_div (show Sm 3 (1 + d) by unfold Sm; omega) hg
    · exact sm_div (show Sm 3 x by unfold Sm; omega) hg
  · exact ⟨by omega, by unfold Sm; omega⟩
theorem ok_w_wide (T : Ty K mg nA rA) (O_w_pick : Ok_w_pick P w K mg base) (F : FnP K "_law_wide" s_w_wide f fd) : FnOk P w K mg base CX0 3 f fd ["_law_mug_here"] (pr_w_wide K) := by
  refine F.ok sc_w_wide (fun vs H Q E h => (by obtain ⟨_, _, rfl, _⟩ := h; rfl)) (fun cdv A outer s H vs Q E hr h => ?_)
  obtain ⟨m, o, rfl, hm, ho, q⟩ := h
  have nd := sc_w_wide.nd
  refine ⟨_, PSs.nox (pss_one (ps_ret (pe_callO O_w_pick (hr.mono (by decide)) (by rfl) (pa_cons (pv 0) (pa_cons (pe_lst (pa_cons pe_int (pa_cons pe_int (pa_cons pe_int (pa_cons pe_int (pa_cons pe_int (pa_cons pe_int (pa_cons pe_int pa_nil)))))))) pa_nil))))), ?_⟩
  try dsimp only [cxn_K, cxn_P, cxn_w, cx_K]
  walk_at "k rm"
  rename_i l H2 nl s2 hl
  refine x_pick (R := Ri) (xs := [1, 2, 2, 3, 3, 9, 90]) (by walk_at "k hm") ho (sqm_ints hm nl hl) (fun H3 u o3 x k3 hm3 ho3 r3 hx => ?_) (by decide) (by decide)
  cases r3
  refine q _ _ _ _ (by walk_at "k mk") hm3 ho3 rfl ?_
  simp only [List.mem_cons, List.not_mem_nil, or_false] at hx
  omega
theorem ok_w_point (T : Ty K mg nA rA) (O_w_pick : Ok_w_pick P w K mg base) (O_w_spot : Ok_w_spot P w K mg base) (O_w_whole : Ok_w_whole P w K mg base) (F : FnP K "_law_point" s_w_point f fd) : FnOk P w K mg base CX0 3 f fd ["_law_mug_here", "_law_wide_here"] (pr_w_point K) := by
  refine F.ok sc_w_point (fun vs H Q E h => (by obtain ⟨_, _, _, rfl, _⟩ := h; rfl)) (fun cdv A outer s H vs Q E hr h => ?_)
  obtain ⟨m, o, n, rfl, hm, ho, hn, q⟩ := h
  have nd := sc_w_point.nd
  refine ⟨_, PSs.nox (pss_cons (ps_set (i := 2) nd rfl (Or.inl rfl) (pe_callO O_w_pick (hr.mono (by decide)) (by rfl) (pa_cons (pv 0) (pa_cons (pe_lst (pa_cons pe_int (pa_cons pe_int (pa_cons pe_int (pa_cons pe_int (pa_cons pe_int (pa_cons pe_int pa_nil))))))) pa_nil)))) (pss_one (ps_ret (pe_callO O_w_spot (hr.mono (by decide)) (by rfl) (pa_cons (pe_callO O_w_whole (hr.mono (by decide)) (by rfl) (pa_cons (pv 0) (pa_cons (pv 1) pa_nil))) (pa_cons (pe_callO O_w_whole (hr.mono (by decide)) (by rfl) (pa_cons (pv 0) (pa_cons (pv 1) pa_nil))) (pa_cons (pv 2) pa_nil))))))), ?_⟩
  try dsimp only [cxn_K, cxn_P, cxn_w, cx_K]
  walk_at "k rm"
  rename_i l H2 nl s2 hl
  refine x_pick (R := Ri) (xs := [1, 1, 1, 1, 2, 3]) (by walk_at "k hm") ho (sqm_ints hm nl hl) (fun H3 u o3 x k3 hm3 ho3 r3 hx => ?_) (by decide) (by decide)
  cases r3
  have hx : 1 ≤ x ∧ x ≤ 3 := by
    simp only [List.mem_cons, List.not_mem_nil, or_false] at hx
    omega
  walk_at "k rm"
  · rename_i H4 d4 o4 k4 hm4 ho4 hd4 H5 d5 o5 k5 hm5 ho5 hd5 H6 u6 s6 r6
    refine q _ _ _ _ (by walk_at "k mk") (by walk_at "k hm") ho5 r6 ⟨low_vp (show 0 < x by omega), bd_low (g3_posw (show 0 < x by omega)) ⟨?_, ?_, ?_⟩⟩
    · show Sm 11 d4
      unfold Sm; omega
    · show Sm 11 d5
      unfold Sm; omega
    · show Sm 11 x
      unfold Sm; omega
  · exact ⟨by omega, by unfold Sm; omega⟩
end
end K87
namespace K87
open PySem PySem.Spec PyProof.Rows L2 K8
/-! ### the mug, a point between -/
def pr_w_mug (K : PySem.W.Frag) : Sp := fun vs H Q _ => ∃ (a : Addr) (ns : List Int) (lap : Int), vs = [.ref a, .int lap] ∧ SqL K H a (ns.map V.int) ∧ ns.length ≤ 1000 ∧ (0 ≤ lap ∧ lap ≤ 10) ∧ ∀ H' m o, H m = none → Same H H' → H' m = some o → MugF o → Q (.ref m) H'
def pr_w_between (K : PySem.W.Frag) : Sp := fun vs H Q _ => ∃ m o v S, vs = [.ref m, v] ∧ H m = some o ∧ MugF o ∧ Tl K (Pt K) H v S ∧ Drw K m H (Pt K) (PtP 700) Q ∧ S ≠ [] ∧ (∀ p ∈ S, PtP 40 p) ∧ S.length ≤ 14
abbrev Ok_w_mug (P : Program) (w : World) (K : PySem.W.Frag) (mg : Str → Option Value) (base : Heap) : Prop := OkD P w K mg base CX0 1 "_law_mug" ["_law_script", "_law_lap"] (pr_w_mug K)
abbrev Ok_w_between (P : Program) (w : World) (K : PySem.W.Frag) (mg : Str → Option Value) (base : Heap) : Prop := OkD P w K mg base CX0 4 "_law_between" ["_law_mug_here", "_law_some"] (pr_w_between K)
theorem none_back {H H' : Hp} {m : Addr} (s : Same H H') (n : H' m = none) : H m = none := by
  cases z : H m with
  | none => rfl
  | some u => rw [s _ _ z] at n; cases n
section
variable {α : Type} {K : PySem.W.Frag} {H : Hp} {v : V} {Q : VK} {E : XK} {m : Addr} {o : HO} {S : List P3}
theorem x_between (hm : H m = some o) (ho : MugF o) (hS : Tl K (Pt K) H v S) (h : ∀ H' u o' x, Mk K m H H' → H' m = some o' → MugF o' → Pt K H' u x → PtP 700 x → Q u H') (h0 : S ≠ [] ∧ (∀ p ∈ S, PtP 40 p) ∧ S.length ≤ 14) : pr_w_between K [.ref m, v] H Q E := ⟨m, o, v, S, rfl, hm, ho, hS, h, h0⟩
theorem cut_map (ns : List Int) (lo hi : Option Int) : ∃ ns' : List Int, cutV (ns.map V.int) lo hi = ns'.map V.int ∧ ns'.length ≤ ns.length := by
  unfold cutV
  refine ⟨(ns.drop (HT.sIx (ns.map V.int).length 0 lo)).take (HT.sIx (ns.map V.int).length (ns.map V.int).length hi - HT.sIx (ns.map V.int).length 0 lo), by rw [List.map_take, List.map_drop], ?_⟩
  rw [List.length_take, List.length_drop]
  omega
theorem x_cut {ns : List Int} {lo hi : Option Int} (h : Ll K Ri H v ns) (q : ∀ H' u ns', Same H H' → Hs K Ri H' u ns' → ns'.length ≤ ns.length → Q u H') : rSlL K v lo hi H Q := by
  obtain ⟨a, vs, rfl, s, p⟩ := h
  rw [paired_int p] at s
  obtain ⟨ns', e, hl⟩ := cut_map ns lo hi
  refine ⟨a, _, rfl, s, fun l hn => q _ _ ns' (same_new hn) ⟨l, _, rfl, upd_same, ?_⟩ hl⟩
  rw [e]
  exact paired_of_int _ ns'
theorem ledP_ok {n r : Nat} {p : P3} {t : P2} (v : Vp p) (b : Bd n p) (bt : Bq r t) (h : 0 < t.2) : PtP (n + r) (ledP p t) := by
  have hw : 0 < p.2.2 * t.2 := Int.mul_pos v.1 h
  exact ⟨low_vp (p := (p.1 * t.1, p.2.1 * t.1, p.2.2 * t.2)) hw, bd_low (p := (p.1 * t.1, p.2.1 * t.1, p.2.2 * t.2)) (g3_posw hw) ⟨sm_mul b.x bt.x, sm_mul b.y bt.x, sm_mul b.w bt.y⟩⟩
theorem sumP_ok {n r : Nat} {p q : P3} (v : Vp p) (b : Bd n p) (v2 : Vp q) (b2 : Bd r q) : PtP (n + r + 1) (sumP p q) := by
  have hw : 0 < p.2.2 * q.2.2 := Int.mul_pos v.1 v2.1
  refine ⟨low_vp (p := (p.1 * q.2.2 + q.1 * p.2.2, p.2.1 * q.2.2 + q.2.1 * p.2.2, p.2.2 * q.2.2)) hw, bd_low (p := (p.1 * q.2.2 + q.1 * p.2.2, p.2.1 * q.2.2 + q.2.1 * p.2.2, p.2.2 * q.2.2)) (g3_posw hw) ⟨?_, ?_, sm_up (sm_mul b.w b2.w) (Nat.le_succ _)⟩⟩
  · have z := sm_mul b2.x b.w
    rw [Nat.add_comm r n] at z
    exact sm_add1 (sm_mul b.x b2.w) z
  · have z := sm_mul b2.y b.w
    rw [Nat.add_comm r n] at z
    exact sm_add1 (sm_mul b.y b2.w) z
theorem anti_ok {n : Nat} {p : P3} (v : Vp p) (b : Bd n p) : PtP n (anti p) := by
  have e1 : (anti p).1 = -p.1 := Int.zero_sub _
  have e2 : (anti p).2.1 = -p.2.1 := Int.zero_sub _
  refine ⟨⟨v.1, ?_⟩, ⟨?_, ?_, b.w⟩⟩
  · have z := v.2
    unfold g3 gc at *
    rw [e1, e2, Int.natAbs_neg, Int.natAbs_neg]
    exact z
  · rw [e1]; exact sm_neg b.x
  · rw [e2]; exact sm_neg b.y
theorem sum_bound : ∀ {zs : List Int}, (∀ z ∈ zs, 0 ≤ z ∧ z < 3) → 0 ≤ zs.sum ∧ zs.sum ≤ 2 * zs.length
  | [], _ => ⟨by simp, by simp⟩
  | z :: zs, h => by
    have h1 := h z List.mem_cons_self
    have h2 := sum_bound (zs := zs) fun t ht => h t (List.mem_cons_of_mem _ ht)
    rw [List.sum_cons, List.length_cons]
    omega
end
section
variable {P : Program} {w : World} {K : PySem.W.Frag} {mg : Str → Option Value} {base : Heap} {nA rA cA : Addr} {f : Addr} {fd : FuncData}
theorem ok_w_mug (T : Ty K mg nA rA)  (F : FnP K "_law_mug" s_w_mug f fd) : FnOk P w K mg base CX0 1 f fd ["_law_script", "_law_lap"] (pr_w_mug K) := by
  refine F.ok sc_w_mug (fun vs H Q E h => (by obtain ⟨_, _, _, rfl, _⟩ := h; rfl)) (fun cdv A outer s H vs Q E hr h => ?_)
  obtain ⟨a, ns, lap, rfl, hs, hl, hlap, q⟩ := h
  have nd := sc_w_mug.nd
  refine ⟨_, PSs.nox (pss_cons (ps_set (i := 2) nd rfl (Or.inl rfl) (pe_ifExp (pt_cmpR op_lt (pv 1) (pe_callB cq_len (by rfl) T.len bt_len (pa_cons (pv 0) pa_nil)) (nomark _)) (pe_callTy cq_int (by rfl) T.int bt_int (pa_cons (pe_ix (r := rIxL K) ix_list (pv 0) (pv 1) (fun _ _ => rfl)) pa_nil)) (pe_op op_add (pe_op op_add (pe_op op_mul pe_int (pv 1)) pe_int) (pe_op op_mod (pe_callTy cq_int (by rfl) T.int bt_int (pa_cons (pe_callB (cr_sum rfl) (by rfl) T.sum bt_sum (pa_cons (pe_slice sl_list (pv 0) po_none (po_some pe_int)) pa_nil)) pa_nil)) pe_int)))) (pss_cons (ps_set (i := 3) nd rfl (Or.inl rfl) (pe_op op_add pe_int (pe_op op_mul pe_int (pv 1)))) (pss_cons (ps_for PassesOwn.never rfl (pi_list (pe_op op_cat (pe_slice sl_list (pv 0) po_none (po_some pe_int)) (pe_lst (pa_cons (pv 2) pa_nil)))) (pg_name (i := 4) nd rfl (Or.inl rfl)) (pss_one (ps_set (i := 3) nd rfl (Or.inl rfl) (pe_op op_mod (pe_callTy cq_int (by rfl) T.int bt_int (pa_cons (pe_op op_add (pe_op op_add (pe_op op_mulW (pv 3) pe_int) (pe_op op_mod (pe_callTy cq_int (by rfl) T.int bt_int (pa_cons (pv 4) pa_nil)) pe_int)) pe_int) pa_nil)) pe_int)))) (pss_one (ps_ret (pe_lst (pa_cons (pe_ifExp (PW.pt (pw_or (pt_cmpR op_lt (pv 2) pe_int (nomark _)) (pw_or1 (pt_cmpR op_ge (pv 2) (pe_op op_pow pe_int pe_int) (nomark _))))) (pe_callB cq_abs (by rfl) T.abs bt_abs (pa_cons (pv 2) pa_nil)) pe_int) (pa_cons (pv 3) (pa_cons pe_int pa_nil))))))))), ?_⟩
  try dsimp only [cxn_K, cxn_P, cxn_w, cx_K]
  have hL : Ll K Ri H (.ref a) ns := ⟨a, _, rfl, hs, paired_of_int H ns⟩
  obtain ⟨j, rfl⟩ : ∃ j : Nat, lap = j := ⟨lap.toNat, by omega⟩
  have fin : ∀ (cell : Int) (H0 : Hp), Same H H0 → tSeq (tAsg (tOp (rI0 fun i j => .int (i + j)) (tC (.int 30011)) (tOp (rI CMul fun i j => .int (i * j)) (tC (.int 613)) (tVar 1))) (gName 3)) (tSeq (tFor (iList K (tOp rCat (tSl (rSlL K) (tVar 0) tNoPart (tPart (tC (.int 9)))) (tLst (tCons (tVar 2) tNil)))) (gName 4)
      (tAsg (tOp (rI (fun _ j => 0 < j) fun i j => .int (i % j)) (tCB rIntQ (tCons (tOp (rI0 fun i j => .int (i + j)) (tOp (rI0 fun i j => .int (i + j)) (tOp (rI CMulW fun i j => .int (i * j)) (tVar 3) (tC (.int 50021))) (tOp (rI (fun _ j => 0 < j) fun i j => .int (i % j)) (tCB rIntQ (tCons (tVar 4) tNil)) (tC (.int 2147483543)))) (tC (.int 13))) tNil)) (tC (.int 2147483543))) (gName 3)))
      (tRet (tLst (tCons (tIf (tOr (tTest (tOp (rI0 fun i j => .bl (decide (i < j))) (tVar 2) (tC (.int 0)))) (tTest (tOp (rI0 fun i j => .bl (decide (j ≤ i))) (tVar 2) (tOp (rI CPow fun i j => .int (i ^ j.toNat)) (tC (.int 10)) (tC (.int 18)))))) (tCB rAbsQ (tCons (tVar 2) tNil)) (tC (.int 0))) (tCons (tVar 3) (tCons (tC (.int 0)) tNil))))))
      { nx := fun x H' => Q V.non H', rt := Q } [some (.ref a), some (.int j), some (.int cell), none, none] H0 := fun cell H0 s0 => by
    have hL0 := up_s (R := Ll K Ri) s0 hL
    walk_at "k rd"
    refine x_cut hL0 fun H1 u ns' s1 hN hn' => ?_
    walk_at "k rd"
    rename_i l H2 nl s2 el
    refine x_cat (R := Ri) (up_s s2 hN) (hs_one (x := cell) el rfl) (by simp; omega) fun H3 v3 s3 n3 => ?_
    refine fk_L n3.ll (fun i σ' H' => Same H3 H' ∧ ∃ b z, σ' = [some (.ref a), some (.int j), some (.int cell), some (.int b), z] ∧ 0 ≤ b ∧ b < 2147483543) ⟨same_refl _, _, none, rfl, by omega, by omega⟩ (fun i σ' H' a ys p _ s => p.1.seq s) (fun i x u σ' H' hx r p => ?_) fun σ' H' p => ?_
    · obtain ⟨s4, b, z, rfl, b0, b1⟩ := p
      cases r
      have sb : Sm 31 b := by unfold Sm; omega
      walk_at "k rd"
      exact ⟨s4, _, _, rfl, Int.emod_nonneg _ (by decide), Int.emod_lt_of_pos _ (by decide)⟩
    · obtain ⟨s4, b, z, rfl, b0, b1⟩ := p
      walk_at "k rd"
      refine x_ite (fun e => ?_) fun e => ?_
      · walk_at "k rd"
        rename_i m H5 nm s5 em
        exact q _ m _ (none_back (by walk_at "k sa") nm) (by walk_at "k sa") em ⟨_, _, _, rfl, Int.natCast_nonneg _, b0, b1⟩
      · walk_at "k rd"
        refine x_I (show CPow 10 18 from ⟨by decide, by decide, by decide⟩) ?_
        walk_at "k rd"
        refine x_ite (fun e => ?_) fun e => ?_
        · walk_at "k rd"
          rename_i m H5 nm s5 em
          exact q _ m _ (none_back (by walk_at "k sa") nm) (by walk_at "k sa") em ⟨_, _, _, rfl, Int.natCast_nonneg _, b0, b1⟩
        · walk_at "k rd"
          rename_i m H5 nm s5 em
          exact q _ m _ (none_back (by walk_at "k sa") nm) (by walk_at "k sa") em ⟨_, _, _, rfl, Int.le_refl _, b0, b1⟩
  walk_at "k rd"
  refine x_ite (fun e => ?_) fun e => ?_
  · have e : j < ns.length := by have := of_decide_eq_true e; omega
    walk_at "k rd"
    refine x_ixL (R := Ri) hL (List.getElem?_eq_getElem e) fun u r => ?_
    cases r
    repeat first
      | exact fin _ _ (same_refl _)
      | (walk_at "k st")
  · walk_at "k rd"
    refine x_cut hL fun H1 u ns' s1 hN hn' => ?_
    have hN := hN.ll
    repeat first
      | exact fin _ _ s1
      | (walk_at "k st")
theorem ok_w_between (T : Ty K mg nA rA) (O_w_dip : Ok_w_dip P w K mg base) (O_w_pick : Ok_w_pick P w K mg base) (O_w_sum : Ok_w_sum P w K mg base) (O_w_led : Ok_w_led P w K mg base) (F : FnP K "_law_between" s_w_between f fd) : FnOk P w K mg base CX0 4 f fd ["_law_mug_here", "_law_some"] (pr_w_between K) := by
  refine F.ok sc_w_between (fun vs H Q E h => (by obtain ⟨_, _, _, _, rfl, _⟩ := h; rfl)) (fun cdv A outer s H vs Q E hr h => ?_)
  obtain ⟨m, o, v, S, rfl, hm, ho, hS, q, h0, hb, hl⟩ := h
  have nd := sc_w_between.nd
  refine ⟨_, PSs.nox (pss_cons (ps_setLc (i := 2) (y := "_law_rates") (own := [("_law_p", 5)]) (tt := tYes) rfl nd rfl rfl (sw_true rfl rfl rfl (by decide +kernel)) (pi_tup (pv 1)) (blkOk_by (N := ["_law_mug_here", "_law_some", "_law_rates", "_law_found", "_law_at", "_law_p"]) (sc := defScope s_w_between) (by decide +kernel)) (fun _ _ _ _ _ => (pg_name (i := 5) nd rfl (Or.inl rfl))) (fun _ _ _ _ _ => pts_nil) (fun _ _ _ _ _ => (pe_callO O_w_dip (hr.mono (by decide)) (by rfl) (pa_cons (pv 0) (pa_cons pe_int pa_nil))))) (pss_cons (ps_if (pt_cmpR op_eq (pe_callB (cr_sum rfl) (by rfl) T.sum bt_sum (pa_cons (pv 2) pa_nil)) pe_int (nomark _)) (pss_one (ps_ret (pe_callO O_w_pick (hr.mono (by decide)) (by rfl) (pa_cons (pv 0) (pa_cons (pv 1) pa_nil))))) pss_nil) (pss_cons (ps_set (i := 3) nd rfl (Or.inl rfl) (pe_tup (pa_cons pe_int (pa_cons pe_int (pa_cons pe_int pa_nil))))) (pss_cons (ps_for PassesOwn.never rfl (pi_range1 rfl T.range (pa_cons (pe_callB cq_len (by rfl) T.len bt_len (pa_cons (pv 1) pa_nil)) pa_nil)) (pg_name (i := 4) nd rfl (Or.inl rfl)) (pss_one (ps_set (i := 3) nd rfl (Or.inl rfl) (pe_callO O_w_sum (hr.mono (by decide)) (by rfl) (pa_cons (pv 3) (pa_cons (pe_callO O_w_led (hr.mono (by decide)) (by rfl) (pa_cons (pe_ix (r := rIxT K) ix_tup (pv 1) (pv 4) (fun _ _ => rfl)) (pa_cons (pe_tup (pa_cons (pe_ix (r := rIxL K) ix_list (pv 2) (pv 4) (fun _ _ => rfl)) (pa_cons (pe_callB (cr_sum rfl) (by rfl) T.sum bt_sum (pa_cons (pv 2) pa_nil)) pa_nil))) pa_nil))) pa_nil)))))) (pss_one (ps_ret (pv 3))))))), ?_⟩
  try dsimp only [cxn_K, cxn_P, cxn_w, cx_K]
  walk_at "k rm"
  refine lc_TM (K := K) (R := Pt K) (xs := S) (F := MugF) Ri (fun d => 0 ≤ d ∧ d < 3) hS hm ho (by omega) (fun i x u H' o' QY hx r k hm' ho' hy => ?_) fun H1 v1 o1 zs k1 hm1 ho1 hz hzs n1 => ?_
  · walk_at "k rd"
    refine ⟨rfl, ?_⟩
    walk_at "k rm"
    exact hy _ _ _ _ (by walk_at "k mk") (by walk_at "k hm") (by assumption) rfl (by assumption)
  · have hR := n1.ll
    obtain ⟨zs0, zs1⟩ := sum_bound hzs
    walk_at "k rd"
    refine x_ite (fun e => ?_) fun e => ?_
    · walk_at "k rd"
      refine x_pick (R := Pt K) (xs := S) hm1 ho1 (.inl (up_k (K := K) (R := Tl K (Pt K)) k1 hS)) (fun H3 u o3 x k3 hm3 ho3 r3 hx => ?_) h0 (by omega)
      have hx2 := hb x hx
      exact q _ _ _ _ (by walk_at "k mk") hm3 ho3 r3 ⟨hx2.1, bd_up hx2.2 (by decide)⟩
    · have e : zs.sum ≠ 0 := of_decide_eq_false e
      have hpos : 0 < zs.sum := by omega
      walk_at "k rd"
      rename_i p H2 np s2 ep
      have hS2 : Tl K (Pt K) H2 v S := by walk_at "k fx"
      have hR2 : Ll K Ri H2 v1 zs := up_s s2 hR
      walk_at "k rd"
      refine fk_R (n := S.length) (by omega) (fun i σ' H' => Same H2 H' ∧ ∃ vf fp z4 z5, σ' = [some (.ref m), some v, some v1, some vf, z4, z5] ∧ Pt K H' vf fp ∧ PtP (1 + 46 * i) fp) ⟨same_refl _, _, _, none, none, rfl, pt_new ep, vp_nought, bd_nought (by decide)⟩ (fun i σ' H' hi pp => ?_) fun σ' H' pp => ?_
      · obtain ⟨s3, vf, fp, z4, z5, rfl, rf, pf⟩ := pp
        have hS3 := up_s s3 hS2
        have hR3 := up_s s3 hR2
        have hx := hb _ (getD_mem hi)
        have hz2 : zs[i]? = some zs[i] := List.getElem?_eq_getElem (by omega)
        have hzi := hzs zs[i] (List.getElem_mem _)
        walk_at "k rd"
        refine x_ixT (R := Pt K) hS3 (getD_some hi) fun u0 r0 => ?_
        walk_at "k rd"
        refine x_ixL (R := Ri) hR3 hz2 fun u1 r1 => ?_
        cases r1
        have bq : Bq 5 (zs[i], zs.sum) := ⟨by show Sm 5 zs[i]; unfold Sm; omega, by show Sm 5 zs.sum; unfold Sm; omega⟩
        have lo := ledP_ok hx.1 hx.2 bq hpos
        walk_at "k rd"
        · refine ⟨by walk_at "k sa", _, _, _, _, rfl, by assumption, ?_⟩
          have z := sumP_ok pf.1 pf.2 lo.1 lo.2
          exact ⟨z.1, bd_up z.2 (by omega)⟩
        · exact ⟨bd_up pf.2 (by omega), bd_up lo.2 (by decide), pf.1.1, lo.1.1⟩
        · exact ⟨bd_up hx.2 (by decide), bq_up bq (by decide), hx.1.1, hpos⟩
      · obtain ⟨s3, vf, fp, z4, z5, rfl, rf, pf⟩ := pp
        walk_at "k rd"
        exact q _ _ _ _ (by walk_at "k mk") (by walk_at "k hm") ho1 rf ⟨pf.1, bd_up pf.2 (by omega)⟩
end
end K87
namespace K87
open PySem PySem.Spec PyProof.Rows L2 K8
/-! ### a frame -/
def FigP (P : List P3) : Prop := Fig P ∧ Lc 3700 P ∧ P.length ≤ 46
def pr_w_frame (K : PySem.W.Frag) : Sp := fun vs H Q _ => ∃ m o n, vs = [.ref m, .int n] ∧ H m = some o ∧ MugF o ∧ (1 ≤ n ∧ n ≤ 1000) ∧ Drw K m H (Tl K (Pt K)) FigP Q
abbrev Ok_w_frame (P : Program) (w : World) (K : PySem.W.Frag) (mg : Str → Option Value) (base : Heap) : Prop := OkD P w K mg base CX0 4 "_law_frame" ["_law_mug_here", "_law_wide_here"] (pr_w_frame K)
theorem hp_of {n : Nat} {ps : List P3} (h0 : ps ≠ []) (h : ∀ p ∈ ps, PtP n p) (hn : n ≤ 1000) (hl : ps.length ≤ 60) (hc : 1 + n * ps.length ≤ 3700) : HP ps ∧ Lc 3700 ps := by
  have l := lc_all (n := n) (ps := ps) fun p hp => ⟨(h p hp).1.1, (h p hp).2.w⟩
  exact ⟨⟨h0, fun p hp => (h p hp).1, fun p hp => bd_up (h p hp).2 hn, lc_up l (by omega), hl⟩, lc_up l hc⟩
theorem fig_hul {ps : List P3} (h : HP ps) (l : Lc 3700 ps) (f : ps.length ≤ 23) (z : ((0, 0, 1) : P3) ∈ ps) (t : 2 < (hul ps).length) : FigP (hul ps) := by
  have hs := hul_sub h.ne h.vp
  have hl := hul_len ps
  refine ⟨⟨⟨hul_ne h.ne h.vp, fun p hp => h.vp p (hs p hp), fun p hp => h.bd p (hs p hp), lc_sub h.lc hs, by omega⟩, hul_again h.ne h.vp, t, hul_has h.ne h.vp _ z⟩, lc_sub l hs, by omega⟩
theorem vp_abs {x y w : Int} (h : Vp (x, y, w)) : Vp (x, (y.natAbs : Int), w) := by
  refine ⟨h.1, ?_⟩
  have z := h.2
  unfold g3 gc at *
  simp only [Int.natAbs_natCast] at *
  exact z
theorem vp_turn {x y w : Int} (h : Vp (x, y, w)) : Vp (0 - y, x, w) := by
  refine ⟨h.1, ?_⟩
  have z := h.2
  unfold g3 gc at *
  simp only [Int.natAbs_natCast, Int.zero_sub, Int.natAbs_neg] at *
  rw [Nat.gcd_comm y.natAbs]
  exact z
theorem vp_int (a b : Int) : Vp (a, b, 1) := by
  refine ⟨show (0 : Int) < 1 by decide, ?_⟩
  unfold g3 gc
  simp
theorem ptp_turn {n : Nat} {p : P3} (h : PtP n p) : PtP n (0 - p.2.1, p.1, p.2.2) := ⟨vp_turn h.1, ⟨by show Sm n (0 - p.2.1); rw [Int.zero_sub]; exact sm_neg h.2.y, h.2.x, h.2.w⟩⟩
theorem ptp_abs {n : Nat} {p : P3} (h : PtP n p) : PtP n (p.1, (p.2.1.natAbs : Int), p.2.2) := ⟨vp_abs h.1, ⟨h.2.x, by have z := h.2.y; unfold Sm at *; show ((p.2.1.natAbs : Int)).natAbs < _; rw [Int.natAbs_natCast]; exact z, h.2.w⟩⟩
theorem ptp_int {n : Nat} {a b : Int} (h1 : Sm n a) (h2 : Sm n b) (h3 : 1 ≤ n) : PtP n (a, b, 1) := ⟨vp_int a b, ⟨h1, h2, sm_up (show Sm 1 1 by unfold Sm; decide) h3⟩⟩
theorem frame_area {n : Int} (h : 1 ≤ n) : crs (0 - n, 1) (1, n) (2, 0 - n) ≠ 0 := by
  unfold crs
  have z : 0 ≤ (n - 1) * (n - 1) := sq_nn _
  have e : (1 - (0 - n)) * ((0 - n) - 1) - (n - 1) * (2 - (0 - n)) = -(2 * ((n - 1) * (n - 1)) + 7 * (n - 1) + 4) := by grind
  show (1 - (0 - n)) * ((0 - n) - 1) - (n - 1) * (2 - (0 - n)) ≠ 0
  rw [e]
  omega
section
variable {P : Program} {w : World} {K : PySem.W.Frag} {mg : Str → Option Value} {base : Heap} {nA rA cA : Addr} {f : Addr} {fd : FuncData}
theorem ok_w_frame (T : Ty K mg nA rA) (O_w_dip : Ok_w_dip P w K mg base) (O_w_point : Ok_w_point P w K mg base) (O_w_hull : Ok_w_hull P w K mg base) (F : FnP K "_law_frame" s_w_frame f fd) : FnOk P w K mg base CX0 4 f fd ["_law_mug_here", "_law_wide_here"] (pr_w_frame K) := by
  refine F.ok sc_w_frame (fun vs H Q E h => (by obtain ⟨_, _, _, rfl, _⟩ := h; rfl)) (fun cdv A outer s H vs Q E hr h => ?_)
  obtain ⟨m, o, n, rfl, hm, ho, hn, q⟩ := h
  have nd := sc_w_frame.nd
  refine ⟨_, PSs.nox (pss_cons (ps_par (i := 2) (j := 3) rfl nd rfl rfl (by decide) rfl rfl (pa_cons (pe_callO O_w_dip (hr.mono (by decide)) (by rfl) (pa_cons (pv 0) (pa_cons pe_int pa_nil))) (pa_cons (pe_lc (own := [("_law_lap", 4)]) (tt := tYes) rfl nd (pi_range1 rfl T.range (pa_cons (pe_op op_add pe_int (pe_callO O_w_dip (hr.mono (by decide)) (by rfl) (pa_cons (pv 0) (pa_cons pe_int pa_nil)))) pa_nil)) (blkOk_by (N := ["_law_mug_here", "_law_wide_here", "_law_way", "_law_some", "_law_lap", "_law_found", "_law_p"]) (sc := defScope s_w_frame) (by decide +kernel)) (fun _ _ _ _ _ => (pg_name (i := 4) nd rfl (Or.inl rfl))) (fun _ _ _ _ _ => pts_nil) (fun _ _ _ _ _ => (pe_callO O_w_point (hr.mono (by decide)) (by rfl) (pa_cons (pv 0) (pa_cons (pv 1) pa_nil))))) pa_nil)) rfl) (Evl.pss_cut (ps_if (pt_cmpR op_eq (pv 2) pe_int (nomark _)) (pss_one (ps_set (i := 3) nd rfl (Or.inl rfl) (pe_op op_cat (pe_lc (own := [("_law_p", 6)]) (tt := tYes) rfl nd (pi_list (pv 3)) (blkOk_by (N := ["_law_mug_here", "_law_wide_here", "_law_way", "_law_some", "_law_lap", "_law_found", "_law_p"]) (sc := defScope s_w_frame) (by decide +kernel)) (fun _ _ _ _ _ => (pg_name (i := 6) nd rfl (Or.inl rfl))) (fun _ _ _ _ _ => pts_nil) (fun _ _ _ _ _ => (pe_tup (pa_cons (pe_ix (r := rIxT K) ix_tup (pv 6) pe_int (fun _ _ => rfl)) (pa_cons (pe_callB cq_abs (by rfl) T.abs bt_abs (pa_cons (pe_ix (r := rIxT K) ix_tup (pv 6) pe_int (fun _ _ => rfl)) pa_nil)) (pa_cons (pe_ix (r := rIxT K) ix_tup (pv 6) pe_int (fun _ _ => rfl)) pa_nil)))))) (pe_lst (pa_cons (pe_tup (pa_cons (pe_op op_add pe_int (pe_callO O_w_dip (hr.mono (by decide)) (by rfl) (pa_cons (pv 0) (pa_cons (pv 1) pa_nil)))) (pa_cons pe_int (pa_cons pe_int pa_nil)))) (pa_cons (pe_tup (pa_cons (pe_un un_neg pe_int) (pa_cons pe_int (pa_cons pe_int pa_nil)))) pa_nil)))))) (pss_one (ps_if (pt_cmpR op_lt (pv 2) pe_int (nomark _)) (pss_one (ps_set (i := 3) nd rfl (Or.inl rfl) (pe_op op_cat (pv 3) (pe_lst (pa_cons (pe_tup (pa_cons (pe_un un_neg pe_int) (pa_cons (pe_un un_neg pe_int) (pa_cons pe_int pa_nil)))) (pa_cons (pe_tup (pa_cons pe_int (pa_cons (pe_un un_neg pe_int) (pa_cons pe_int pa_nil)))) (pa_cons (pe_tup (pa_cons pe_int (pa_cons (pe_op op_add pe_int (pe_callO O_w_dip (hr.mono (by decide)) (by rfl) (pa_cons (pv 0) (pa_cons (pv 1) pa_nil)))) (pa_cons pe_int pa_nil)))) pa_nil))))))) pss_nil))) (pss_cons (ps_for PassesOwn.never rfl (pi_range1 rfl T.range (pa_cons (pe_callO O_w_dip (hr.mono (by decide)) (by rfl) (pa_cons (pv 0) (pa_cons pe_int pa_nil))) pa_nil)) (pg_name (i := 4) nd rfl (Or.inl rfl)) (pss_one (ps_setLc (i := 3) (y := "_law_some") (own := [("_law_p", 6)]) (tt := tYes) rfl nd rfl rfl (sw_true rfl rfl rfl (by decide +kernel)) (pi_list (pv 3)) (blkOk_by (N := ["_law_mug_here", "_law_wide_here", "_law_way", "_law_some", "_law_lap", "_law_found", "_law_p"]) (sc := defScope s_w_frame) (by decide +kernel)) (fun _ _ _ _ _ => (pg_name (i := 6) nd rfl (Or.inl rfl))) (fun _ _ _ _ _ => pts_nil) (fun _ _ _ _ _ => (pe_tup (pa_cons (pe_op op_sub pe_int (pe_ix (r := rIxT K) ix_tup (pv 6) pe_int (fun _ _ => rfl))) (pa_cons (pe_ix (r := rIxT K) ix_tup (pv 6) pe_int (fun _ _ => rfl)) (pa_cons (pe_ix (r := rIxT K) ix_tup (pv 6) pe_int (fun _ _ => rfl)) pa_nil)))))))) (pss_cons (ps_set (i := 5) nd rfl (Or.inl rfl) (pe_callO O_w_hull (hr.mono (by decide)) (by rfl) (pa_cons (pe_op op_cat (pv 3) (pe_lst (pa_cons (pe_tup (pa_cons pe_int (pa_cons pe_int (pa_cons pe_int pa_nil)))) pa_nil))) pa_nil))) (pss_cons (ps_if (pt_cmpR op_gt (pe_callB cq_len (by rfl) T.len bt_len (pa_cons (pv 5) pa_nil)) pe_int (nomark _)) (pss_one (ps_ret (pv 5))) pss_nil) (pss_one (ps_ret (pe_callO O_w_hull (hr.mono (by decide)) (by rfl) (pa_cons (pe_op op_cat (pe_op op_cat (pe_callTy cq_list (by rfl) T.list bt_list (pa_cons (pv 5) pa_nil)) (pe_lst (pa_cons (pe_tup (pa_cons pe_int (pa_cons pe_int (pa_cons pe_int pa_nil)))) (pa_cons (pe_tup (pa_cons (pe_op op_sub pe_int (pv 1)) (pa_cons pe_int (pa_cons pe_int pa_nil)))) (pa_cons (pe_tup (pa_cons pe_int (pa_cons (pv 1) (pa_cons pe_int pa_nil)))) pa_nil))))) (pe_lst (pa_cons (pe_tup (pa_cons pe_int (pa_cons (pe_op op_sub pe_int (pv 1)) (pa_cons pe_int pa_nil)))) pa_nil))) pa_nil))))))))), ?_⟩
  try dsimp only [cxn_K, cxn_P, cxn_w, cx_K]
  have hn0 : 0 ≤ n ∧ n ≤ 1000 := by omega
  have hd : 0 < n ∧ n ≤ 100000 := by omega
  walk_at "k rm"
  rename_i H1 d1 o1 k1 hm1 ho1 hd1 H2 d2 o2 k2 hm2 ho2 hd2
  obtain ⟨c, hc⟩ : ∃ c : Nat, 2 + d2 = c := ⟨(2 + d2).toNat, by omega⟩
  rw [hc]
  refine lc_RM (K := K) (F := MugF) (Pt K) (PtP 11) hm2 ho2 (by omega) (fun i H' o' QY hi k hm' ho' hy => ?_) fun H3 v3 o3 zs k3 hm3 ho3 hz hzs n3 => ?_
  · walk_at "k rd"
    refine ⟨rfl, ?_⟩
    walk_at "k rm"
    exact hy _ _ _ _ (by walk_at "k mk") (by walk_at "k hm") (by assumption) (by assumption) (by assumption)
  · have k03 : Mk K m H H3 := by walk_at "k mk"
    have n3 := Nl.hm hm2 n3
    walk_at "k rd"
    refine x_cutM (fun σ' H' => Mk K m H H' ∧ (∃ o', H' m = some o' ∧ MugF o') ∧ ∃ va z L, σ' = [some (.ref m), some (.int n), some (.int d1), some va, none, none, z] ∧ Hm K m (Pt K) H' va L ∧ (∀ p ∈ L, PtP 12 p) ∧ L.length ≤ 7) ?_ fun σ' H' hM => ?_
    · walk_at "k rd"
      refine x_ite (fun e => ?_) fun e => ?_
      · walk_at "k rd"
        refine lc_L (R := Pt K) (xs := zs) (Pt K) (fun p => (p.1, (p.2.1.natAbs : Int), p.2.2)) n3.ll (by omega) (fun i x u H' QY hx s r hy => ?_) fun H4 v4 s4 n4 => ?_
        · walk_at "k rd"
          refine ⟨rfl, ?_⟩
          walk_at "k rd"
          exact hy _ _ (by walk_at "k sa") (by walk_at "k fx")
        · have n4 := Nl.hm hm3 n4
          have hm4 := s4 _ _ hm3
          walk_at "k rd"
          refine x_dip hm4 ho3 hd fun H5 d5 o5 k5 hm5 ho5 hd5 => ?_
          walk_at "k rd"
          rename_i t1 H6 nt1 s6 e6 t2 H7 nt2 s7 e7 l8 H8 nl8 s8 e8
          have pA : Hs K (Pt K) H8 (.ref l8) [(1 + d5, 0, 1), (-1, 0, 1)] := ⟨l8, _, rfl, e8, .cons (by walk_at "k fx") (.cons (by walk_at "k fx") .nil)⟩
          refine x_cat (R := Pt K) (Hm.hs (m := m) (by walk_at "k hl")) pA (by rw [List.length_map]; simp; omega) fun H9 v9 s9 n9 => ?_
          have hm9 : H9 m = some o5 := by walk_at "k hm"
          have hm8 : H8 m = some o5 := by walk_at "k hm"
          walk_at "k rd"
          refine ⟨by walk_at "k mk", ⟨_, hm9, ho5⟩, _, _, _, rfl, Nl.hm hm8 n9, fun p hp => ?_, ?_⟩
          · rcases List.mem_append.mp hp with hp | hp
            · obtain ⟨t, ht, rfl⟩ := List.mem_map.mp hp
              have z := ptp_abs (hzs t ht)
              exact ⟨z.1, bd_up z.2 (by decide)⟩
            · simp only [List.mem_cons, List.not_mem_nil, or_false] at hp
              rcases hp with rfl | rfl
              · exact ptp_int (by unfold Sm; omega) (by unfold Sm; decide) (by decide)
              · exact ptp_int (by unfold Sm; decide) (by unfold Sm; decide) (by decide)
          · rw [List.length_append, List.length_map]
            simp
            omega
      · walk_at "k rd"
        refine x_ite (fun e => ?_) fun e => ?_
        · walk_at "k rd"
          rename_i t1 H4 nt1 s4 e4 t2 H5 nt2 s5 e5
          refine x_dip (by walk_at "k hm") ho3 hd fun H6 d6 o6 k6 hm6 ho6 hd6 => ?_
          walk_at "k rd"
          rename_i t3 H7 nt3 s7 e7 l8 H8 nl8 s8 e8
          have pA : Hs K (Pt K) H8 (.ref l8) [(-1, -1, 1), (1, -1, 1), (0, 1 + d6, 1)] := ⟨l8, _, rfl, e8, .cons (by walk_at "k fx") (.cons (by walk_at "k fx") (.cons (by walk_at "k fx") .nil))⟩
          refine x_cat (R := Pt K) (Hm.hs (m := m) (by walk_at "k hl")) pA (by simp; omega) fun H9 v9 s9 n9 => ?_
          have hm9 : H9 m = some o6 := by walk_at "k hm"
          have hm8 : H8 m = some o6 := by walk_at "k hm"
          walk_at "k rd"
          refine ⟨by walk_at "k mk", ⟨_, hm9, ho6⟩, _, _, _, rfl, Nl.hm hm8 n9, fun p hp => ?_, ?_⟩
          · rcases List.mem_append.mp hp with hp | hp
            · exact ⟨(hzs p hp).1, bd_up (hzs p hp).2 (by decide)⟩
            · simp only [List.mem_cons, List.not_mem_nil, or_false] at hp
              rcases hp with rfl | rfl | rfl
              · exact ptp_int (by unfold Sm; decide) (by unfold Sm; decide) (by decide)
              · exact ptp_int (by unfold Sm; decide) (by unfold Sm; decide) (by decide)
              · exact ptp_int (by unfold Sm; decide) (by unfold Sm; omega) (by decide)
          · rw [List.length_append]
            simp
            omega
        · walk_at "k rd"
          exact ⟨k03, ⟨_, hm3, ho3⟩, _, _, _, rfl, n3, fun p hp => ⟨(hzs p hp).1, bd_up (hzs p hp).2 (by decide)⟩, by omega⟩
    · obtain ⟨kM, ⟨oM, hmM, hoM⟩, va, z6, L, rfl, hA, hL, hLl⟩ := hM
      walk_at "k rm"
      rename_i H4 d4 o4 k4 hm4 ho4 hd4
      obtain ⟨c4, hc4⟩ : ∃ c : Nat, d4 = c := ⟨d4.toNat, by omega⟩
      rw [hc4]
      refine fk_R (n := c4) (by omega) (fun i σ' H' => Mk K m H4 H' ∧ (∃ o', H' m = some o' ∧ MugF o') ∧ ∃ vb z4 z6 L', σ' = [some (.ref m), some (.int n), some (.int d1), some vb, z4, none, z6] ∧ Hm K m (Pt K) H' vb L' ∧ (∀ p ∈ L', PtP 12 p) ∧ L'.length ≤ 7) ⟨Mk.refl _ _, ⟨_, hm4, ho4⟩, _, _, _, _, rfl, by walk_at "k hl", hL, hLl⟩ (fun i σ' H' hi p => ?_) fun σ' H' p => ?_
      · obtain ⟨k5, ⟨o5, hm5, ho5⟩, vb, z4, z6, L', rfl, hB, hL', hLl'⟩ := p
        walk_at "k rd"
        refine lc_L (R := Pt K) (xs := L') (Pt K) (fun p => (0 - p.2.1, p.1, p.2.2)) hB.ll (by omega) (fun i x u H' QY hx s r hy => ?_) fun H6 v6 s6 n6 => ?_
        · walk_at "k rd"
          refine ⟨rfl, ?_⟩
          walk_at "k rd"
          exact hy _ _ (by walk_at "k sa") (by walk_at "k fx")
        · walk_at "k rd"
          refine ⟨by walk_at "k mk", ⟨_, s6 _ _ hm5, ho5⟩, _, _, _, _, rfl, Nl.hm hm5 n6, fun p hp => ?_, by rw [List.length_map]; exact hLl'⟩
          obtain ⟨t, ht, rfl⟩ := List.mem_map.mp hp
          exact ptp_turn (hL' t ht)
      · obtain ⟨k5, ⟨o5, hm5, ho5⟩, vb, z4, z6, L', rfl, hB, hL', hLl'⟩ := p
        walk_at "k rd"
        rename_i t6 H6 nt6 s6 e6 l7 H7 nl7 s7 e7
        have pA : Hs K (Pt K) H7 (.ref l7) [(0, 0, 1)] := ⟨l7, _, rfl, e7, .cons (by walk_at "k fx") .nil⟩
        refine x_cat (R := Pt K) (Hm.hs (m := m) (by walk_at "k hl")) pA (by simp; omega) fun H8 v8 s8 n8 => ?_
        have hP : ∀ p ∈ L' ++ [((0, 0, 1) : P3)], PtP 12 p := fun p hp => by
          rcases List.mem_append.mp hp with hp | hp
          · exact hL' p hp
          · rw [List.mem_singleton.mp hp]
            exact ⟨vp_nought, bd_nought (by decide)⟩
        have hl8 : (L' ++ [((0, 0, 1) : P3)]).length ≤ 8 := by simp; omega
        obtain ⟨hp8, lc8⟩ := hp_of (n := 12) (by simp) hP (by decide) (by omega) (by omega)
        walk_at "k rd"
        · rename_i H9 v9 s9 r9
          have ho5' := ho5
          refine x_ite (fun e => ?_) fun e => ?_
          · have e : 2 < (hul (L' ++ [((0, 0, 1) : P3)])).length := by have := of_decide_eq_true e; omega
            walk_at "k rd"
            exact q _ _ _ _ (by walk_at "k mk") (by walk_at "k hm") ho5 r9 (fig_hul hp8 lc8 (by omega) (by simp) e)
          · have e : (hul (L' ++ [((0, 0, 1) : P3)])).length ≤ 2 := by have := of_decide_eq_false e; omega
            walk_at "k rd"
            refine x_listP (xs := hul (L' ++ [((0, 0, 1) : P3)])) r9 fun H10 v10 s10 r10 => ?_
            walk_at "k rd"
            rename_i t1 H11 nt1 s11 e11 t2 H12 nt2 s12 e12 t3 H13 nt3 s13 e13 l14 H14 nl14 s14 e14
            have pB : Hs K (Pt K) H14 (.ref l14) [(0, 0, 1), (0 - n, 1, 1), (1, n, 1)] := ⟨l14, _, rfl, e14, .cons (by walk_at "k fx") (.cons (by walk_at "k fx") (.cons (by walk_at "k fx") .nil))⟩
            refine x_cat (R := Pt K) (by walk_at "k fx") pB (by simp; omega) fun H15 v15 s15 n15 => ?_
            have n15 := n15.hs
            walk_at "k rd"
            rename_i t4 H16 nt4 s16 e16 l17 H17 nl17 s17 e17
            have pC : Hs K (Pt K) H17 (.ref l17) [(2, 0 - n, 1)] := ⟨l17, _, rfl, e17, .cons (by walk_at "k fx") .nil⟩
            refine x_cat (R := Pt K) (by walk_at "k fx") pC (by simp; omega) fun H18 v18 s18 n18 => ?_
            have hP2 : ∀ p ∈ hul (L' ++ [((0, 0, 1) : P3)]) ++ [(0, 0, 1), (0 - n, 1, 1), (1, n, 1)] ++ [(2, 0 - n, 1)], PtP 12 p := fun p hp => by
              rcases List.mem_append.mp hp with hp | hp
              · rcases List.mem_append.mp hp with hp | hp
                · exact hP p (hul_sub hp8.ne hp8.vp p hp)
                · simp only [List.mem_cons, List.not_mem_nil, or_false] at hp
                  rcases hp with rfl | rfl | rfl
                  · exact ⟨vp_nought, bd_nought (by decide)⟩
                  · exact ptp_int (by unfold Sm; omega) (by unfold Sm; decide) (by decide)
                  · exact ptp_int (by unfold Sm; decide) (by unfold Sm; omega) (by decide)
              · rw [List.mem_singleton.mp hp]
                exact ptp_int (by unfold Sm; decide) (by unfold Sm; omega) (by decide)
            have hl18 : (hul (L' ++ [((0, 0, 1) : P3)]) ++ [(0, 0, 1), (0 - n, 1, 1), (1, n, 1)] ++ [(2, 0 - n, 1)]).length ≤ 6 := by
              simp only [List.length_append, List.length_cons, List.length_nil] at e ⊢
              omega
            obtain ⟨hp18, lc18⟩ := hp_of (n := 12) (by simp) hP2 (by decide) (by omega) (by omega)
            walk_at "k rd"
            · refine q _ _ _ _ (by walk_at "k mk") (by walk_at "k hm") ho5 (by assumption) (fig_hul hp18 lc18 (by omega) (by simp) ?_)
              exact hul_area (fun p hp => (hP2 p hp).1) (a := (0 - n, 1)) (b := (1, n)) (c := (2, 0 - n)) (by simp) (by simp) (by simp) (frame_area hn.1)
            · exact hp18
        · exact hp8
end
end K87
namespace K87
open PySem PySem.Spec PyProof.Rows L2 K8
/-! ### the notes that are drawn -/
theorem lay_mem {α : Type} {f : α → PyData} : ∀ xs : List α, (∀ x ∈ xs, (f x).canLay0 = true) → PyData.canLayAll0 (xs.map f) = true
  | [], _ => by simp only [List.map_nil, PyData.canLayAll0]
  | x :: xs, h => by
    rw [List.map_cons]
    simp only [PyData.canLayAll0, h x List.mem_cons_self, lay_mem xs fun y hy => h y (List.mem_cons_of_mem _ hy), Bool.and_self]
def ntD (n : Nte) : PyData := .tuple [.str n.1, ptD n.2.1, .tuple [.int n.2.2.1, .int n.2.2.2]]
theorem ok_made : PyData.strOk "made" = true := by decide +kernel
theorem ok_barred : PyData.strOk "barred" = true := by decide +kernel
theorem ntD_lay {n : Nte} (h : n.1 = "made" ∨ n.1 = "barred") : (ntD n).canLay0 = true := by
  have e : PyData.strOk n.1 = true := by
    rcases h with e | e
    · rw [e]; exact ok_made
    · rw [e]; exact ok_barred
  have z := ptD_lay n.2.1
  simp only [ntD, PyData.canLay0, PyData.canLayAll0, e, z, Bool.and_self]
theorem ntD_dep (n : Nte) : (ntD n).depth ≤ 10 := by
  simp [ntD, ptD, PyData.depth, PyData.depthAll]
theorem sh_notes {ns : List Nte} (h : ∀ n ∈ ns, n.1 = "made" ∨ n.1 = "barred") : SeqAt.shaped (.tuple (ns.map ntD)) = true := by
  have h3 := dep_all ntD_dep ns
  refine Bool.and_eq_true_iff.mpr ⟨by simp only [PyData.canLay0]; exact lay_mem ns fun n hn => ntD_lay (h n hn), decide_eq_true ?_⟩
  simp only [PyData.depth]
  omega
section
variable {K : PySem.W.Frag} {H : Hp} {v : V} {Q : VK} {E : XK} {m : Addr} {o : HO} {n : Int} {ns : List Nte}
theorem dp_nt {n : Nte} (h : Nt K H v n) : Dp K H v (ntD n) := by
  obtain ⟨a, b, c, rfl, s, p, q⟩ := h
  obtain ⟨d, rfl, hd⟩ := q
  exact .tup s (.cons (.str _) (.cons (dp_pt p) (.cons (.tup hd (.cons (.int _) (.cons (.int _) .nil))) .nil)))
theorem x_neN0 {p : Addr} (h : ∀ n ∈ ns, n.1 = "made" ∨ n.1 = "barred") (t : Tl K (Nt K) H v ns) (e : H p = some (.tup [])) (q : Q (.bl (!ns.isEmpty)) H) : rNeD K v (.ref p) H Q := by
  refine ⟨_, _, dp_tl (f := ntD) (fun _ _ => dp_nt) t, .tup (SqT.of e) .nil, sh_notes h, rfl, ?_⟩
  cases ns with
  | nil => simpa [PyData.eqv, PyData.eqvAll] using q
  | cons x xs => simpa [PyData.eqv, PyData.eqvAll] using q
theorem nt_new {p : Addr} {w : Str} {vp vt : V} {a : P3} {t : P2} (h : H p = some (.tup [.str w, vp, vt])) (r1 : Pt K H vp a) (r2 : Pr K H vt t) : Nt K H (.ref p) (w, a, t) := ⟨p, vp, vt, rfl, SqT.of h, r1, r2⟩
end
theorem note_ok {w : Str} {a : P3} {t : P2} {n : Nat} (h : w = "made" ∨ w = "barred") (pa : PtP n a) (st : SpanP t) (hn : n ≤ 897) : NtV (w, ledP a t, t) := by
  have lo := ledP_ok pa.1 pa.2 st.2.2.2 st.2.1
  exact ⟨h, lo.1, bd_up lo.2 (by omega), st.1, st.2.1, st.2.2.1, bq_up st.2.2.2 (by decide)⟩
theorem note_pac {w : Str} {a : P3} {t : P2} {n : Nat} (pa : PtP n a) (st : SpanP t) (hn : n ≤ 34) : Bd 40 (pac (w, ledP a t, t)) := by
  have lo := ledP_ok pa.1 pa.2 st.2.2.2 st.2.1
  have z := ledP_ok (t := (t.2, t.1)) lo.1 lo.2 (r := 3) ⟨st.2.2.2.y, st.2.2.2.x⟩ st.1
  exact bd_up z.2 (by omega)
def pr_w_log (K : PySem.W.Frag) : Sp := fun vs H Q _ => ∃ (m : Addr) (o : HO) (k n : Int), vs = [.ref m, .int k, .int n] ∧ H m = some o ∧ MugF o ∧ (0 ≤ k ∧ k ≤ 6) ∧ (1 ≤ n ∧ n ≤ 90) ∧ Drw K m H (Tl K (Nt K)) Wn Q
def pr_w_near (K : PySem.W.Frag) : Sp := fun vs H Q _ => ∃ m o v ns, vs = [.ref m, v] ∧ H m = some o ∧ MugF o ∧ Tl K (Nt K) H v ns ∧ Drw K m H (Pt K) (PtP 800) Q ∧ Wn ns
abbrev Ok_w_log (P : Program) (w : World) (K : PySem.W.Frag) (mg : Str → Option Value) (base : Heap) : Prop := OkD P w K mg base CX0 4 "_law_log" ["_law_mug_here", "_law_many", "_law_wide_here"] (pr_w_log K)
abbrev Ok_w_near (P : Program) (w : World) (K : PySem.W.Frag) (mg : Str → Option Value) (base : Heap) : Prop := OkD P w K mg base CX0 7 "_law_near" ["_law_mug_here", "_law_notes"] (pr_w_near K)
section
variable {P : Program} {w : World} {K : PySem.W.Frag} {mg : Str → Option Value} {base : Heap} {nA rA cA : Addr} {f : Addr} {fd : FuncData}
theorem ok_w_log (T : Ty K mg nA rA) (O_w_pick : Ok_w_pick P w K mg base) (O_w_span : Ok_w_span P w K mg base) (O_w_point : Ok_w_point P w K mg base) (O_w_dip : Ok_w_dip P w K mg base) (O_w_led : Ok_w_led P w K mg base) (F : FnP K "_law_log" s_w_log f fd) : FnOk P w K mg base CX0 4 f fd ["_law_mug_here", "_law_many", "_law_wide_here"] (pr_w_log K) := by
  refine F.ok sc_w_log (fun vs H Q E h => (by obtain ⟨_, _, _, _, rfl, _⟩ := h; rfl)) (fun cdv A outer s H vs Q E hr h => ?_)
  obtain ⟨m, o, k, n, rfl, hm, ho, hk, hn, q⟩ := h
  have nd := sc_w_log.nd
  refine ⟨_, PSs.nox (pss_cons (ps_par (i := 3) (j := 4) rfl nd rfl rfl (by decide) rfl rfl (pa_cons (pe_lst pa_nil) (pa_cons (pe_lst (pa_cons (pe_tup (pa_cons pe_int (pa_cons pe_int (pa_cons pe_int pa_nil)))) pa_nil)) pa_nil)) rfl) (pss_cons (ps_set (i := 5) nd rfl (Or.inl rfl) (pe_callO O_w_pick (hr.mono (by decide)) (by rfl) (pa_cons (pv 0) (pa_cons (pe_lst (pa_cons pe_int (pa_cons pe_int (pa_cons pe_int (pa_cons pe_int pa_nil))))) pa_nil)))) (pss_cons (ps_for PassesOwn.never rfl (pi_range1 rfl T.range (pa_cons (pv 1) pa_nil)) (pg_name (i := 6) nd rfl (Or.inl rfl)) (pss_cons (ps_par (i := 7) (j := 8) rfl nd rfl rfl (by decide) rfl rfl (pa_cons (pe_callO O_w_pick (hr.mono (by decide)) (by rfl) (pa_cons (pv 0) (pa_cons (pe_lst (pa_cons pe_str (pa_cons pe_str (pa_cons pe_str pa_nil)))) pa_nil))) (pa_cons (pe_callO O_w_span (hr.mono (by decide)) (by rfl) (pa_cons (pv 0) pa_nil)) pa_nil)) rfl) (pss_cons (ps_set (i := 9) nd rfl (Or.inl rfl) (pe_callO O_w_point (hr.mono (by decide)) (by rfl) (pa_cons (pv 0) (pa_cons (pe_ifExp (pt_cmpR op_eq (pv 7) pe_str (nomark _)) (pv 2) (pe_op op_mulW (pv 5) (pv 2))) pa_nil)))) (Evl.pss_cut (ps_if (pt_cmpR op_eq (pe_callO O_w_dip (hr.mono (by decide)) (by rfl) (pa_cons (pv 0) (pa_cons pe_int pa_nil))) pe_int (nomark _)) (pss_one (ps_set (i := 9) nd rfl (Or.inl rfl) (pe_callO O_w_led (hr.mono (by decide)) (by rfl) (pa_cons (pe_callO O_w_pick (hr.mono (by decide)) (by rfl) (pa_cons (pv 0) (pa_cons (pv 4) pa_nil))) (pa_cons (pe_callO O_w_pick (hr.mono (by decide)) (by rfl) (pa_cons (pv 0) (pa_cons (pe_lst (pa_cons (pe_tup (pa_cons pe_int (pa_cons pe_int pa_nil))) (pa_cons (pe_tup (pa_cons pe_int (pa_cons pe_int pa_nil))) (pa_cons (pe_tup (pa_cons pe_int (pa_cons pe_int pa_nil))) pa_nil)))) pa_nil))) pa_nil))))) pss_nil) (pss_cons (ps_expr (pe_bm PySem.F.plainAttrs_list PySem.F.slot_list_append PySem.F.type_list_append mt_append (pv 4) (pa_cons (pv 9) pa_nil))) (pss_one (ps_expr (pe_bm PySem.F.plainAttrs_list PySem.F.slot_list_append PySem.F.type_list_append mt_append (pv 3) (pa_cons (pe_tup (pa_cons (pv 7) (pa_cons (pe_callO O_w_led (hr.mono (by decide)) (by rfl) (pa_cons (pv 9) (pa_cons (pv 8) pa_nil))) (pa_cons (pv 8) pa_nil)))) pa_nil))))))))) (pss_one (ps_ret (pe_callTy cq_tuple (by rfl) T.tuple bt_tuple (pa_cons (pv 3) pa_nil))))))), ?_⟩
  try dsimp only [cxn_K, cxn_P, cxn_w, cx_K]
  obtain ⟨c, rfl⟩ : ∃ c : Nat, k = c := ⟨k.toNat, by omega⟩
  walk_at "k rm"
  rename_i lf H1 nlf s1 ef t2 H2 nt2 s2 e2 lp H3 nlp s3 ep l4 H4 nl4 s4 e4
  have hm3 : H3 m = some o := by walk_at "k hm"
  have hm2 : H2 m = some o := by walk_at "k hm"
  have nf : lf ≠ m := fun z => by rw [z, hm] at nlf; cases nlf
  have np : lp ≠ m := fun z => by rw [z, hm2] at nlp; cases nlp
  have nfp : lf ≠ lp := fun z => by rw [← z, s2 _ _ ef] at nlp; cases nlp
  have hlp0 : H lp = none := by
    cases z : H lp with
    | none => rfl
    | some u => rw [s2 _ _ (s1 _ _ z)] at nlp; cases nlp
  refine x_pick (R := Ri) (xs := [1, 2, 2, 3]) (by walk_at "k hm") ho (sqm_ints hm3 nl4 e4) (fun H5 u o5 far k5 hm5 ho5 r5 hx => ?_) (by decide) (by decide)
  cases r5
  have hx : 1 ≤ far ∧ far ≤ 3 := by
    simp only [List.mem_cons, List.not_mem_nil, or_false] at hx
    omega
  have sfar : Sm 2 far := by unfold Sm; omega
  have sn : Sm 7 n := by unfold Sm; omega
  have hf5 : Lat K (Nt K) H5 lf [] := by
    refine Lat.upk k5 nf (Lat.ups s4 (Lat.ups s3 (Lat.ups s2 ⟨[], ef, .nil⟩)))
  have hp5 : Lat K (Pt K) H5 lp [(0, 0, 1)] := by
    refine Lat.upk k5 np (Lat.ups s4 ⟨_, ep, .cons (by walk_at "k fx") .nil⟩)
  walk_at "k rd"
  refine fk_R (n := c) (by omega) (fun i σ' H' => Mk K m H H' ∧ (∃ o', H' m = some o' ∧ MugF o') ∧ ∃ z6 z7 z8 z9 ns ps, σ' = [some (.ref m), some (.int c), some (.int n), some (.ref lf), some (.ref lp), some (.int far), z6, z7, z8, z9] ∧ Lat K (Nt K) H' lf ns ∧ (∀ n ∈ ns, NtV n ∧ Bd 40 (pac n)) ∧ ns.length = i ∧ Lat K (Pt K) H' lp ps ∧ (∀ p ∈ ps, PtP (12 + 2 * i) p) ∧ ps ≠ [] ∧ ps.length ≤ 1 + i)
    ⟨by walk_at "k mk", ⟨_, hm5, ho5⟩, none, none, none, none, [], _, rfl, hf5, by (intro _ z; cases z), rfl, hp5, (fun p hp => by rw [List.mem_singleton.mp hp]; exact ⟨vp_nought, bd_nought (by omega)⟩), by simp, by simp⟩ (fun i σ' H' hi p => ?_) fun σ' H' p => ?_
  · obtain ⟨kI, ⟨oI, hmI, hoI⟩, z6, z7, z8, z9, ns, ps, rfl, hF, hns, hnl, hP, hps, hp0, hpl⟩ := p
    walk_at "k rm"
    rename_i l6 H6 nl6 s6 e6
    refine x_pick (R := Rs) (xs := ["made", "made", "barred"]) (by walk_at "k hm") hoI (sqm_strs hmI nl6 e6) (fun H7 u o7 word k7 hm7 ho7 r7 hx => ?_) (by decide) (by decide)
    cases r7
    have hw : word = "made" ∨ word = "barred" := by
      simp only [List.mem_cons, List.not_mem_nil, or_false] at hx
      rcases hx with h | h | h
      · exact .inl h
      · exact .inl h
      · exact .inr h
    walk_at "k rm"
    rename_i H8 u8 o8 span k8 hm8 ho8 r8 sp8
    have hF8 : Lat K (Nt K) H8 lf ns := Lat.upk k8 nf (Lat.upk k7 nf (Lat.ups s6 hF))
    have hP8 : Lat K (Pt K) H8 lp ps := Lat.upk k8 np (Lat.upk k7 np (Lat.ups s6 hP))
    have rest : ∀ (wd : Int), (0 ≤ wd ∧ wd ≤ 1000) → ∀ Q', (∀ H9 u9 o9 a9, Mk K m H8 H9 → H9 m = some o9 → MugF o9 → Pt K H9 u9 a9 → PtP 11 a9 → Q' u9 H9) → pr_w_point K [.ref m, .int wd] H8 Q' E0 := fun wd hwd Q' hq => x_point hm8 ho8 hwd hq
    refine x_ite (fun e => ?_) fun e => ?_
    all_goals
      walk_at "k rd"
      refine rest _ (by first | omega | (constructor <;> grind)) _ fun H9 u9 o9 a9 k9 hm9 ho9 r9 pa9 => ?_
      have hF9 := Lat.upk k9 nf hF8
      have hP9 := Lat.upk k9 np hP8
      walk_at "k rd"
      refine x_cutM (fun σ' H' => Mk K m H H' ∧ (∃ o', H' m = some o' ∧ MugF o') ∧ ∃ z6 va a vs', σ' = [some (.ref m), some (.int c), some (.int n), some (.ref lf), some (.ref lp), some (.int far), z6, some (.str word), some vs', some va] ∧ Pr K H' vs' span ∧ Pt K H' va a ∧ PtP (12 + 2 * (i + 1)) a ∧ Lat K (Nt K) H' lf ns ∧ Lat K (Pt K) H' lp ps) ?_ fun σ' H' hM => ?_
      · walk_at "k rm"
        rename_i HA dA oA kA hmA hoA hdA
        have hFA := Lat.upk kA nf hF9
        have hPA := Lat.upk kA np hP9
        refine x_ite (fun e => ?_) fun e => ?_
        · walk_at "k rd"
          refine x_pick (R := Pt K) (xs := ps) hmA hoA (hPA.sqm np) (fun HB uB oB aB kB hmB hoB rB hxB => ?_) hp0 (by omega)
          have pB := hps aB hxB
          have hFB := Lat.upk kB nf hFA
          have hPB := Lat.upk kB np hPA
          walk_at "k rd"
          rename_i t1 HC nt1 sC eC t2 HD nt2 sD eD t3 HE nt3 sE eE lG HG nlG sG eG
          have hmE : HE m = some oB := by walk_at "k hm"
          refine x_pick (R := Pr K) (xs := [(1, 1), (2, 1), (1, 2)]) (by walk_at "k hm") hoB (sqm_new hmE nlG eG (.cons (by walk_at "k fx") (.cons (by walk_at "k fx") (.cons (by walk_at "k fx") .nil)))) (fun HI uI oI rI kI' hmI' hoI' rI' hxI => ?_) (by decide) (by decide)
          have bI : Bq 2 rI ∧ 0 < rI.2 := by
            simp only [List.mem_cons, List.not_mem_nil, or_false] at hxI
            rcases hxI with rfl | rfl | rfl
            · exact ⟨⟨by unfold Sm; decide, by unfold Sm; decide⟩, by decide⟩
            · exact ⟨⟨by unfold Sm; decide, by unfold Sm; decide⟩, by decide⟩
            · exact ⟨⟨by unfold Sm; decide, by unfold Sm; decide⟩, by decide⟩
          have lo := ledP_ok pB.1 pB.2 bI.1 bI.2
          have hFI := Lat.upk kI' nf (Lat.ups sG (Lat.ups sE (Lat.ups sD (Lat.ups sC hFB))))
          have hPI := Lat.upk kI' np (Lat.ups sG (Lat.ups sE (Lat.ups sD (Lat.ups sC hPB))))
          walk_at "k rd"
          · rename_i HJ uJ sJ rJ
            refine ⟨by walk_at "k mk", ⟨_, sJ _ _ hmI', hoI'⟩, _, _, _, _, rfl, by walk_at "k fx", rJ, ⟨lo.1, bd_up lo.2 (by omega)⟩, Lat.ups sJ hFI, Lat.ups sJ hPI⟩
          · exact ⟨bd_up pB.2 (by omega), bq_up bI.1 (by decide), pB.1.1, bI.2⟩
        · walk_at "k rd"
          exact ⟨by walk_at "k mk", ⟨_, hmA, hoA⟩, _, _, _, _, rfl, by walk_at "k fx", by walk_at "k fx", ⟨pa9.1, bd_up pa9.2 (by omega)⟩, hFA, hPA⟩
      · obtain ⟨kM, ⟨oM, hmM, hoM⟩, z6', va, a, vs', rfl, rs, ra, pa, hFM, hPM⟩ := hM
        walk_at "k rd"
        refine x_tylL hPM ?_
        walk_at "k rd"
        refine x_appL (R := Pt K) hPM ra (fun HA kA hPA => ?_) (by omega)
        have hFA := Lat.upk kA nfp hFM
        have hmA : HA m = some oM := kA.km _ _ (Ne.symm np) hmM
        walk_at "k rd"
        refine x_tylL hFA ?_
        walk_at "k rd"
        · rename_i HB uB sB rB t5 HC nt5 sC eC
          have hFC := Lat.ups sC (Lat.ups sB hFA)
          refine x_appL (R := Nt K) hFC (nt_new eC (up_s sC rB) (by walk_at "k fx")) (fun HD kD hFD => ?_) (by omega)
          walk_at "k rd"
          refine ⟨mk_side (((mk_side kM kA hlp0).trans (sm_mk sB)).trans (sm_mk sC)) kD nlf, ⟨_, kD.km _ _ (Ne.symm nf) (sC _ _ (sB _ _ hmA)), hoM⟩, _, _, _, _, _, _, rfl, hFD, fun n' hn' => ?_, by rw [List.length_append, hnl]; rfl, Lat.upk kD (Ne.symm nfp) (Lat.ups sC (Lat.ups sB hPA)), fun p hp => ?_, by simp, by rw [List.length_append]; simp; omega⟩
          · rcases List.mem_append.mp hn' with h | h
            · exact hns n' h
            · rw [List.mem_singleton.mp h]
              exact ⟨note_ok hw pa sp8 (by omega), note_pac pa sp8 (by omega)⟩
          · rcases List.mem_append.mp hp with h | h
            · exact ⟨(hps p h).1, bd_up (hps p h).2 (by omega)⟩
            · rw [List.mem_singleton.mp h]
              exact pa
        · exact ⟨bd_up pa.2 (by omega), bq_up sp8.2.2.2 (by decide), pa.1.1, sp8.2.1⟩
  · obtain ⟨kI, ⟨oI, hmI, hoI⟩, z6, z7, z8, z9, ns, ps, rfl, hF, hns, hnl, hP, hps, hp0, hpl⟩ := p
    walk_at "k rd"
    refine x_tupL (R := Nt K) hF.hs.ll fun H6 u6 s6 t6 => ?_
    exact q _ _ _ _ (by walk_at "k mk") (s6 _ _ hmI) hoI t6 ⟨fun n' hn' => (hns n' hn').1, fun n' hn' => (hns n' hn').2, by omega⟩
end
end K87
namespace K87
open PySem PySem.Spec PyProof.Rows L2 K8
/-! ### a velocity near, other notes -/
def pr_w_others (K : PySem.W.Frag) : Sp := fun vs H Q _ => ∃ (m : Addr) (o : HO) (v u : V) (ns : List Nte), vs = [.ref m, v, u] ∧ H m = some o ∧ MugF o ∧ Tl K (Nt K) H v ns ∧ Drw K m H (Tl K (Nt K)) On Q ∧ Wn ns
abbrev Ok_w_others (P : Program) (w : World) (K : PySem.W.Frag) (mg : Str → Option Value) (base : Heap) : Prop := OkD P w K mg base CX0 8 "_law_others" ["_law_mug_here", "_law_notes", "_law_wide_here"] (pr_w_others K)
theorem pac_ptp {ns : List Nte} {n : Nte} (h : Wn ns) (hn : n ∈ ns) : PtP 40 (pac n) := ⟨pac_vp (h.nv n hn), h.bd n hn⟩
theorem lea_ptp {ns : List Nte} (h : Wn ns) : ∀ p ∈ lea ns, PtP 40 p := fun p hp => ⟨h.pg.cnv.vp p hp, h.lbd p hp⟩
section
variable {K : PySem.W.Frag} {H : Hp} {v u : V} {Q : VK} {E : XK} {m : Addr} {o : HO} {ns : List Nte}
theorem hs_ne {xs : List P3} (hm : H m = some o) (ho : MugF o) (h : Hs K (Pt K) H v xs) : Hm K m (Pt K) H v xs := by
  obtain ⟨a, vs, e, h, p⟩ := h
  refine ⟨a, vs, e, fun z => ?_, h, p⟩
  obtain ⟨c, b, k, rfl, _⟩ := ho
  rw [z, hm] at h
  have h := HO.lst.inj (Option.some.inj h)
  rw [← h] at p
  cases p with
  | cons r _ =>
    obtain ⟨b, e, _⟩ := r
    cases e
theorem x_near (hm : H m = some o) (ho : MugF o) (t : Tl K (Nt K) H v ns) (h : ∀ H' u o' x, Mk K m H H' → H' m = some o' → MugF o' → Pt K H' u x → PtP 800 x → Q u H') (hw : Wn ns) : pr_w_near K [.ref m, v] H Q E := ⟨m, o, v, ns, rfl, hm, ho, t, h, hw⟩
end
theorem rts1 : ∀ r ∈ [((1, 1) : P2), (1, 1), (9, 10), (10, 9)], Bq 4 r ∧ 0 < r.2 := fun r h => by
  simp only [List.mem_cons, List.not_mem_nil, or_false] at h
  rcases h with rfl | rfl | rfl | rfl <;> exact ⟨⟨by decide, by decide⟩, by decide⟩
theorem rts2 : ∀ r ∈ [((0, 1) : P2), (1, 2), (1, 1), (3, 1)], Bq 4 r ∧ 0 < r.2 := fun r h => by
  simp only [List.mem_cons, List.not_mem_nil, or_false] at h
  rcases h with rfl | rfl | rfl | rfl <;> exact ⟨⟨by decide, by decide⟩, by decide⟩
theorem rts3 : ∀ r ∈ [((9, 10) : P2), (10, 9), (2, 1)], Bq 4 r ∧ 0 < r.2 := fun r h => by
  simp only [List.mem_cons, List.not_mem_nil, or_false] at h
  rcases h with rfl | rfl | rfl <;> exact ⟨⟨by decide, by decide⟩, by decide⟩
theorem rt4 {r : P2} {n : Nat} {l : List P2} (h : r ∈ l) (k : ∀ r ∈ l, Bq n r ∧ 0 < r.2) : Bq n r ∧ 0 < r.2 := k r h
section
variable {P : Program} {w : World} {K : PySem.W.Frag} {mg : Str → Option Value} {base : Heap} {nA rA cA : Addr} {f : Addr} {fd : FuncData}
theorem ok_w_near (T : Ty K mg nA rA) (O_w_least : Ok_w_least P w K mg base) (O_w_dip : Ok_w_dip P w K mg base) (O_w_paces : Ok_w_paces P w K mg base) (O_w_led : Ok_w_led P w K mg base) (O_w_pick : Ok_w_pick P w K mg base) (O_w_pace : Ok_w_pace P w K mg base) (O_w_between : Ok_w_between P w K mg base) (O_w_less : Ok_w_less P w K mg base) (O_w_sum : Ok_w_sum P w K mg base) (O_w_point : Ok_w_point P w K mg base) (F : FnP K "_law_near" s_w_near f fd) : FnOk P w K mg base CX0 7 f fd ["_law_mug_here", "_law_notes"] (pr_w_near K) := by
  refine F.ok sc_w_near (fun vs H Q E h => (by obtain ⟨_, _, _, _, rfl, _⟩ := h; rfl)) (fun cdv A outer s H vs Q E hr h => ?_)
  obtain ⟨m, o, v, ns, rfl, hm, ho, hT, q, hW⟩ := h
  have nd := sc_w_near.nd
  refine ⟨_, PSs.nox (pss_cons (ps_par (i := 2) (j := 3) rfl nd rfl rfl (by decide) rfl rfl (pa_cons (pe_callO O_w_dip (hr.mono (by decide)) (by rfl) (pa_cons (pv 0) (pa_cons pe_int pa_nil))) (pa_cons (pe_callO O_w_least (hr.mono (by decide)) (by rfl) (pa_cons (pv 1) pa_nil)) pa_nil)) rfl) (pss_cons (ps_set (i := 4) nd rfl (Or.inl rfl) (pe_callO O_w_paces (hr.mono (by decide)) (by rfl) (pa_cons (pv 1) (pa_cons pe_str pa_nil)))) (Evl.pss_cut (ps_if (PW.pt (pw_and (pt_cmpR op_eq (pv 2) pe_int (nomark _)) (pw_and1 (pt_cmpR (op_neD hr.units) (pv 1) (pe_tup pa_nil) (nomark _))))) (pss_one (ps_ret (pe_callO O_w_led (hr.mono (by decide)) (by rfl) (pa_cons (pe_callO O_w_pace (hr.mono (by decide)) (by rfl) (pa_cons (pe_callO O_w_pick (hr.mono (by decide)) (by rfl) (pa_cons (pv 0) (pa_cons (pv 1) pa_nil))) pa_nil)) (pa_cons (pe_callO O_w_pick (hr.mono (by decide)) (by rfl) (pa_cons (pv 0) (pa_cons (pe_lst (pa_cons (pe_tup (pa_cons pe_int (pa_cons pe_int pa_nil))) (pa_cons (pe_tup (pa_cons pe_int (pa_cons pe_int pa_nil))) (pa_cons (pe_tup (pa_cons pe_int (pa_cons pe_int pa_nil))) (pa_cons (pe_tup (pa_cons pe_int (pa_cons pe_int pa_nil))) pa_nil))))) pa_nil))) pa_nil))))) pss_nil) (Evl.pss_cut (ps_if (pt_cmpR op_eq (pv 2) pe_int (nomark _)) (pss_one (ps_ret (pe_callO O_w_between (hr.mono (by decide)) (by rfl) (pa_cons (pv 0) (pa_cons (pv 3) pa_nil))))) pss_nil) (Evl.pss_cut (ps_if (PW.pt (pw_and (pt_cmpR op_lt (pv 2) pe_int (nomark _)) (pw_and1 (pt_cmpR (op_neD hr.units) (pv 4) (pe_lst pa_nil) (nomark _))))) (pss_cons (ps_set (i := 5) nd rfl (Or.inl rfl) (pe_callO O_w_pick (hr.mono (by decide)) (by rfl) (pa_cons (pv 0) (pa_cons (pv 4) pa_nil)))) (pss_cons (ps_set (i := 6) nd rfl (Or.inl rfl) (pe_callO O_w_less (hr.mono (by decide)) (by rfl) (pa_cons (pv 5) (pa_cons (pe_callO O_w_between (hr.mono (by decide)) (by rfl) (pa_cons (pv 0) (pa_cons (pv 3) pa_nil))) pa_nil)))) (pss_cons (ps_set (i := 7) nd rfl (Or.inl rfl) (pe_callO O_w_sum (hr.mono (by decide)) (by rfl) (pa_cons (pv 5) (pa_cons (pe_callO O_w_led (hr.mono (by decide)) (by rfl) (pa_cons (pv 6) (pa_cons (pe_callO O_w_pick (hr.mono (by decide)) (by rfl) (pa_cons (pv 0) (pa_cons (pe_lst (pa_cons (pe_tup (pa_cons pe_int (pa_cons pe_int pa_nil))) (pa_cons (pe_tup (pa_cons pe_int (pa_cons pe_int pa_nil))) (pa_cons (pe_tup (pa_cons pe_int (pa_cons pe_int pa_nil))) (pa_cons (pe_tup (pa_cons pe_int (pa_cons pe_int pa_nil))) pa_nil))))) pa_nil))) pa_nil))) pa_nil)))) (pss_one (ps_ret (pe_ifExp (pt_cmpR op_eq (pv 2) pe_int (nomark _)) (pv 7) (pe_callO O_w_led (hr.mono (by decide)) (by rfl) (pa_cons (pv 7) (pa_cons (pe_callO O_w_pick (hr.mono (by decide)) (by rfl) (pa_cons (pv 0) (pa_cons (pe_lst (pa_cons (pe_tup (pa_cons pe_int (pa_cons pe_int pa_nil))) (pa_cons (pe_tup (pa_cons pe_int (pa_cons pe_int pa_nil))) (pa_cons (pe_tup (pa_cons pe_int (pa_cons pe_int pa_nil))) pa_nil)))) pa_nil))) pa_nil))))))))) pss_nil) (pss_one (ps_ret (pe_callO O_w_point (hr.mono (by decide)) (by rfl) (pa_cons (pv 0) (pa_cons pe_int pa_nil)))))))))), ?_⟩
  try dsimp only [cxn_K, cxn_P, cxn_w, cx_K]
  have hl : (lea ns).length ≤ 14 := hW.llen
  have hl0 : lea ns ≠ [] := hW.pg.cnv.ne
  have hlp := lea_ptp hW
  have hbp : ∀ p ∈ pacs ns "barred", PtP 40 p := fun p hp => by
    obtain ⟨n, hn, rfl⟩ := mem_pacs hp
    exact pac_ptp hW hn
  have hbl : (pacs ns "barred").length ≤ 6 := Nat.le_trans (pacs_len ns "barred") hW.few
  walk_at "k rm"
  · rename_i H1 d1 o1 k1 hm1 ho1 hd1 H2 u2 s2 r2 H3 u3 s3 r3
    have hm3 : H3 m = some o1 := by walk_at "k hm"
    have r3 := hs_ne hm3 ho1 r3
    have t3 : Tl K (Nt K) H3 v ns := by walk_at "k fx"
    have l3 : Tl K (Pt K) H3 u2 (lea ns) := by walk_at "k fx"
    refine x_cutM (fun σ' H' => Same H3 H' ∧ σ' = [some (.ref m), some v, some (.int d1), some u2, some u3, none, none, none]) ?_ fun σ' H4 hM => ?_
    · walk_at "k rd"
      refine x_ite (fun e => ?_) fun e => ?_
      · walk_at "k rd"
        rename_i p4 H4 np4 s4 e4
        refine x_neN0 (ns := ns) (fun n hn => (hW.nv n hn).wd) (up_s s4 t3) e4 ?_
        walk_at "k rd"
        refine x_ite (fun e2 => ?_) fun e2 => ?_
        · have hne : ns ≠ [] := fun z => by rw [z] at e2; cases e2
          walk_at "k rd"
          refine x_pick (R := Nt K) (xs := ns) (by walk_at "k hm") ho1 (.inl (up_s s4 t3)) (fun H5 u5 o5 n5 k5 hm5 ho5 r5 hx5 => ?_) hne (by have := hW.few; omega)
          have p5 := pac_ptp hW hx5
          walk_at "k rd"
          · rename_i H6 u6 s6 r6 t7 H7 nt7 s7 e7 t8 H8 nt8 s8 e8 t9 H9 nt9 s9 e9 tA HA ntA sA eA lB HB nlB sB eB
            have hmA : HA m = some o5 := by walk_at "k hm"
            refine x_pick (R := Pr K) (xs := [(1, 1), (1, 1), (9, 10), (10, 9)]) (by walk_at "k hm") ho5 (sqm_new hmA nlB eB (.cons (by walk_at "k fx") (.cons (by walk_at "k fx") (.cons (by walk_at "k fx") (.cons (by walk_at "k fx") .nil))))) (fun HC uC oC rC kC hmC hoC rrC hxC => ?_) (by decide) (by decide)
            have bC := rt4 hxC rts1
            have lo := ledP_ok p5.1 p5.2 bC.1 bC.2
            walk_at "k rd"
            · rename_i HD uD sD rD
              exact q _ _ _ _ (by walk_at "k mk") (by walk_at "k hm") hoC rD ⟨lo.1, bd_up lo.2 (by decide)⟩
            · exact ⟨bd_up p5.2 (by decide), bq_up bC.1 (by decide), p5.1.1, bC.2⟩
          · exact hW.nv _ hx5
        · walk_at "k rd"
          exact ⟨s4, rfl⟩
      · walk_at "k rd"
        exact ⟨same_refl _, rfl⟩
    · obtain ⟨s4, rfl⟩ := hM
      have hm4 := s4 _ _ hm3
      have l4 := up_s (R := Tl K (Pt K)) s4 l3
      have r4 := Hm.ups s4 r3
      refine x_cutM (fun σ' H' => Same H4 H' ∧ σ' = [some (.ref m), some v, some (.int d1), some u2, some u3, none, none, none]) ?_ fun σ' H5 hM => ?_
      · walk_at "k rd"
        refine x_ite (fun e => ?_) fun e => ?_
        · walk_at "k rd"
          refine x_between hm4 ho1 l4 (fun H6 u6 o6 a6 k6 hm6 ho6 r6 p6 => ?_) ⟨hl0, hlp, hl⟩
          exact q _ _ _ _ (by walk_at "k mk") hm6 ho6 r6 ⟨p6.1, bd_up p6.2 (by decide)⟩
        · walk_at "k rd"
          exact ⟨same_refl _, rfl⟩
      · obtain ⟨s5, rfl⟩ := hM
        have hm5 := s5 _ _ hm4
        have l5 := up_s (R := Tl K (Pt K)) s5 l4
        have r5 := Hm.ups s5 r4
        refine x_cutM (fun σ' H' => Same H5 H' ∧ σ' = [some (.ref m), some v, some (.int d1), some u2, some u3, none, none, none]) ?_ fun σ' H6 hM => ?_
        · walk_at "k rd"
          refine x_ite (fun e => ?_) fun e => ?_
          · walk_at "k rd"
            rename_i p6 H6 np6 s6 e6
            refine x_neL0 (R := Pt K) (f := ptD) (fun _ _ => dp_pt) ptD_lay (fun x => Nat.le_trans (ptD_dep x) (by decide)) (xs := pacs ns "barred") (Hm.ups s6 r5).ll e6 ?_
            walk_at "k rd"
            refine x_ite (fun e2 => ?_) fun e2 => ?_
            · have hne : pacs ns "barred" ≠ [] := fun z => by rw [z] at e2; cases e2
              have l6 := up_s (R := Tl K (Pt K)) s6 l5
              walk_at "k rd"
              refine x_pick (R := Pt K) (xs := pacs ns "barred") (by walk_at "k hm") ho1 (Hm.ups s6 r5).sqm (fun H7 u7 o7 a7 k7 hm7 ho7 r7 hx7 => ?_) hne (by omega)
              have p7 := hbp _ hx7
              have l7 := up_k (K := K) (R := Tl K (Pt K)) k7 l6
              walk_at "k rd"
              refine x_between hm7 ho7 l7 (fun H8 u8 o8 a8 k8 hm8 ho8 r8 p8 => ?_) ⟨hl0, hlp, hl⟩
              have an := anti_ok p8.1 p8.2
              have p9 := sumP_ok p7.1 p7.2 an.1 an.2
              walk_at "k rd"
              · rename_i H9 u9 s9 r9 t1 Ha n1 s1 e1 t2 Hb n2 s2' e2' t3' Hc n3 s3' e3' t4' Hd n4 s4' e4' l5' He n5 s5' e5'
                have hmD : Hd m = some o8 := by walk_at "k hm"
                refine x_pick (R := Pr K) (xs := [(0, 1), (1, 2), (1, 1), (3, 1)]) (by walk_at "k hm") ho8 (sqm_new hmD n5 e5' (.cons (by walk_at "k fx") (.cons (by walk_at "k fx") (.cons (by walk_at "k fx") (.cons (by walk_at "k fx") .nil))))) (fun HC uC oC rC kC hmC hoC rrC hxC => ?_) (by decide) (by decide)
                have bC := rt4 hxC rts2
                have lo := ledP_ok p9.1 p9.2 bC.1 bC.2
                have pS := sumP_ok p7.1 p7.2 lo.1 lo.2
                walk_at "k rd"
                · rename_i HD uD sD rD HE uE sE rE
                  refine x_ite (fun e => ?_) fun e => ?_
                  · walk_at "k rd"
                    exact q _ _ _ _ (by walk_at "k mk") (by walk_at "k hm") hoC rE ⟨pS.1, bd_up pS.2 (by decide)⟩
                  · walk_at "k rd"
                    rename_i t1'' Hf n1'' s1'' e1'' t2'' Hg n2'' s2'' e2'' t3'' Hh n3'' s3'' e3'' l4'' Hi n4'' s4'' e4''
                    have hmH : Hh m = some oC := by walk_at "k hm"
                    refine x_pick (R := Pr K) (xs := [(9, 10), (10, 9), (2, 1)]) (by walk_at "k hm") hoC (sqm_new hmH n4'' e4'' (.cons (by walk_at "k fx") (.cons (by walk_at "k fx") (.cons (by walk_at "k fx") .nil)))) (fun HJ uJ oJ rJ kJ hmJ hoJ rrJ hxJ => ?_) (by decide) (by decide)
                    have bJ := rt4 hxJ rts3
                    have lo2 := ledP_ok pS.1 pS.2 bJ.1 bJ.2
                    walk_at "k rd"
                    · rename_i HK uK sK rK
                      exact q _ _ _ _ (by walk_at "k mk") (by walk_at "k hm") hoJ rK ⟨lo2.1, bd_up lo2.2 (by decide)⟩
                    · exact ⟨bd_up pS.2 (by decide), bq_up bJ.1 (by decide), pS.1.1, bJ.2⟩
                · exact ⟨bd_up p7.2 (by decide), bd_up lo.2 (by decide), p7.1.1, lo.1.1⟩
                · exact ⟨bd_up p9.2 (by decide), bq_up bC.1 (by decide), p9.1.1, bC.2⟩
              · exact ⟨bd_up p7.2 (by decide), bd_up p8.2 (by decide), p7.1.1, p8.1.1⟩
            · walk_at "k rd"
              exact ⟨s6, rfl⟩
          · walk_at "k rd"
            exact ⟨same_refl _, rfl⟩
        · obtain ⟨s6, rfl⟩ := hM
          have hm6 := s6 _ _ hm5
          walk_at "k rd"
          refine x_point hm6 ho1 (by decide) fun H7 u7 o7 a7 k7 hm7 ho7 r7 p7 => ?_
          exact q _ _ _ _ (by walk_at "k mk") hm7 ho7 r7 ⟨p7.1, bd_up p7.2 (by decide)⟩
  · exact hW.on
  · exact hW
end
end K87
namespace K87
open PySem PySem.Spec PyProof.Rows L2 K8
/-! ### other notes, a boat's figure -/
def pr_w_boat (K : PySem.W.Frag) : Sp := fun vs H Q _ => ∃ (m : Addr) (o : HO) (v : V) (n : Int) (ns : List Nte), vs = [.ref m, v, .int n] ∧ H m = some o ∧ MugF o ∧ Tl K (Nt K) H v ns ∧ Drw K m H (Tl K (Pt K)) FigP Q ∧ Wn ns ∧ (1 ≤ n ∧ n ≤ 1000)
abbrev Ok_w_boat (P : Program) (w : World) (K : PySem.W.Frag) (mg : Str → Option Value) (base : Heap) : Prop := OkD P w K mg base CX0 8 "_law_boat" ["_law_mug_here", "_law_notes", "_law_wide_here"] (pr_w_boat K)
structure FigQ (P : List P3) : Prop where
  hp : HP P
  fix : hul P = P
  nou : hasB P (0, 0, 1) = true
  lc : Lc 3700 P
  few : P.length ≤ 46
theorem hold_trans {n : P2} {c s p : P3} (hc : 0 < c.2.2) (hs : 0 < s.2.2) (hp : 0 < p.2.2) (h1 : hold n c s) (h2 : hold n s p) : hold n c p := by
  unfold hold at *
  refine le_of_mul_le hs ?_
  have k1 := Int.mul_le_mul_of_nonneg_right h2 (Int.le_of_lt hc)
  have k2 := Int.mul_le_mul_of_nonneg_right h1 (Int.le_of_lt hp)
  rw [Int.mul_right_comm] at k1
  rw [Int.mul_right_comm (n.1 * s.1 + n.2 * s.2.1) p.2.2] at k1
  rw [Int.mul_right_comm (n.1 * c.1 + n.2 * c.2.1) s.2.2] at k2
  exact Int.le_trans k1 k2
theorem figq_hul {ps : List P3} (h : HP ps) (l : Lc 3700 ps) (f : ps.length ≤ 23) (k : ∀ n : P2, ∃ s ∈ ps, hold n s (0, 0, 1)) : FigQ (hul ps) := by
  have hs := hul_sub h.ne h.vp
  have hl := hul_len ps
  refine ⟨⟨hul_ne h.ne h.vp, fun p hp => h.vp p (hs p hp), fun p hp => h.bd p (hs p hp), lc_sub h.lc hs, by omega⟩, hul_again h.ne h.vp, ?_, lc_sub l hs, by omega⟩
  refine List.all_eq_true.mpr fun e he => decide_eq_true ?_
  obtain ⟨_, h2, h3⟩ := hul_sides h.ne h.vp e he
  obtain ⟨s, hs1, hs2⟩ := k e.1
  exact hold_trans (h.vp _ (hs _ h2)).1 (h.vp s hs1).1 (by decide) (h3 s hs1) hs2
theorem FigQ.fig {P : List P3} (h : FigQ P) (t : 2 < P.length) : FigP P := ⟨⟨h.hp, h.fix, t, h.nou⟩, h.lc, h.few⟩
theorem nou_in {ps : List P3} (z : ((0, 0, 1) : P3) ∈ ps) : ∀ n : P2, ∃ s ∈ ps, hold n s (0, 0, 1) := fun n => ⟨_, z, Int.le_refl _⟩
theorem nou_led {n : P2} {s : P3} (hs : Vp s) (h : hold n s (0, 0, 1)) : hold n (ledP s (1, 2)) (0, 0, 1) := by
  have hw : 0 < s.2.2 * 2 := Int.mul_pos hs.1 (by decide)
  have hg : 0 < g3 (s.1 * 1, s.2.1 * 1, s.2.2 * 2) := g3_posw hw
  obtain ⟨e1, e2, _⟩ := low_eqs (s.1 * 1, s.2.1 * 1, s.2.2 * 2)
  unfold hold at *
  show (n.1 * 0 + n.2 * 0) * _ ≤ (n.1 * (ledP s (1, 2)).1 + n.2 * (ledP s (1, 2)).2.1) * 1
  have h : (n.1 * 0 + n.2 * 0) * s.2.2 ≤ (n.1 * s.1 + n.2 * s.2.1) * 1 := h
  simp only [Int.mul_zero, Int.add_zero, Int.zero_mul, Int.mul_one] at *
  refine le_of_mul_le hg ?_
  have k : (n.1 * (ledP s (1, 2)).1 + n.2 * (ledP s (1, 2)).2.1) * g3 (s.1, s.2.1, s.2.2 * 2) = n.1 * s.1 + n.2 * s.2.1 := by
    have e1 : (ledP s (1, 2)).1 * g3 (s.1, s.2.1, s.2.2 * 2) = s.1 := by
      unfold ledP
      simp only [Int.mul_one]
      exact e1
    have e2 : (ledP s (1, 2)).2.1 * g3 (s.1, s.2.1, s.2.2 * 2) = s.2.1 := by
      unfold ledP
      simp only [Int.mul_one]
      exact e2
    rw [Int.add_mul, Int.mul_assoc, Int.mul_assoc, e1, e2]
  rw [k, Int.zero_mul]
  exact h
section
variable {P : Program} {w : World} {K : PySem.W.Frag} {mg : Str → Option Value} {base : Heap} {nA rA cA : Addr} {f : Addr} {fd : FuncData}
theorem ok_w_others (T : Ty K mg nA rA) (O_w_least : Ok_w_least P w K mg base) (O_w_dip : Ok_w_dip P w K mg base) (O_w_span : Ok_w_span P w K mg base) (O_w_pick : Ok_w_pick P w K mg base) (O_w_led : Ok_w_led P w K mg base) (O_w_pace : Ok_w_pace P w K mg base) (O_w_between : Ok_w_between P w K mg base) (O_w_near : Ok_w_near P w K mg base) (F : FnP K "_law_others" s_w_others f fd) : FnOk P w K mg base CX0 8 f fd ["_law_mug_here", "_law_notes", "_law_wide_here"] (pr_w_others K) := by
  refine F.ok sc_w_others (fun vs H Q E h => (by obtain ⟨_, _, _, _, _, rfl, _⟩ := h; rfl)) (fun cdv A outer s H vs Q E hr h => ?_)
  obtain ⟨m, o, v, u, ns, rfl, hm, ho, hT, q, hW⟩ := h
  have nd := sc_w_others.nd
  refine ⟨_, PSs.nox (pss_cons (ps_par (i := 3) (j := 4) rfl nd rfl rfl (by decide) rfl rfl (pa_cons (pe_lst pa_nil) (pa_cons (pe_callO O_w_least (hr.mono (by decide)) (by rfl) (pa_cons (pv 1) pa_nil)) pa_nil)) rfl) (pss_cons (ps_for PassesOwn.never rfl (pi_range1 rfl T.range (pa_cons (pe_callO O_w_dip (hr.mono (by decide)) (by rfl) (pa_cons (pv 0) (pa_cons pe_int pa_nil))) pa_nil)) (pg_name (i := 5) nd rfl (Or.inl rfl)) (pss_cons (ps_par (i := 6) (j := 7) rfl nd rfl rfl (by decide) rfl rfl (pa_cons (pe_callO O_w_dip (hr.mono (by decide)) (by rfl) (pa_cons (pv 0) (pa_cons pe_int pa_nil))) (pa_cons (pe_callO O_w_span (hr.mono (by decide)) (by rfl) (pa_cons (pv 0) pa_nil)) pa_nil)) rfl) (pss_one (ps_if (PW.pt (pw_and (pt_cmpR op_lt (pv 6) pe_int (nomark _)) (pw_and1 (pt_cmpR (op_neD hr.units) (pv 1) (pe_tup pa_nil) (nomark _))))) (pss_cons (ps_set (i := 8) nd rfl (Or.inl rfl) (pe_callO O_w_pick (hr.mono (by decide)) (by rfl) (pa_cons (pv 0) (pa_cons (pv 1) pa_nil)))) (pss_one (ps_expr (pe_bm PySem.F.plainAttrs_list PySem.F.slot_list_append PySem.F.type_list_append mt_append (pv 3) (pa_cons (pe_tup (pa_cons (pe_ix (r := rIxT K) ix_tup (pv 8) pe_int (fun _ _ => rfl)) (pa_cons (pe_callO O_w_led (hr.mono (by decide)) (by rfl) (pa_cons (pe_callO O_w_pace (hr.mono (by decide)) (by rfl) (pa_cons (pv 8) pa_nil)) (pa_cons (pv 7) pa_nil))) (pa_cons (pv 7) pa_nil)))) pa_nil))))) (pss_one (ps_if (pt_cmpR op_lt (pv 6) pe_int (nomark _)) (pss_one (ps_expr (pe_bm PySem.F.plainAttrs_list PySem.F.slot_list_append PySem.F.type_list_append mt_append (pv 3) (pa_cons (pe_tup (pa_cons pe_str (pa_cons (pe_callO O_w_led (hr.mono (by decide)) (by rfl) (pa_cons (pe_callO O_w_between (hr.mono (by decide)) (by rfl) (pa_cons (pv 0) (pa_cons (pv 4) pa_nil))) (pa_cons (pv 7) pa_nil))) (pa_cons (pv 7) pa_nil)))) pa_nil)))) (pss_one (ps_expr (pe_bm PySem.F.plainAttrs_list PySem.F.slot_list_append PySem.F.type_list_append mt_append (pv 3) (pa_cons (pe_tup (pa_cons (pe_callO O_w_pick (hr.mono (by decide)) (by rfl) (pa_cons (pv 0) (pa_cons (pe_lst (pa_cons pe_str (pa_cons pe_str (pa_cons pe_str pa_nil)))) pa_nil))) (pa_cons (pe_callO O_w_led (hr.mono (by decide)) (by rfl) (pa_cons (pe_callO O_w_near (hr.mono (by decide)) (by rfl) (pa_cons (pv 0) (pa_cons (pv 1) pa_nil))) (pa_cons (pv 7) pa_nil))) (pa_cons (pv 7) pa_nil)))) pa_nil)))))))))) (pss_one (ps_ret (pe_callTy cq_tuple (by rfl) T.tuple bt_tuple (pa_cons (pv 3) pa_nil)))))), ?_⟩
  try dsimp only [cxn_K, cxn_P, cxn_w, cx_K]
  have hl : (lea ns).length ≤ 14 := hW.llen
  have hl0 : lea ns ≠ [] := hW.pg.cnv.ne
  have hlp := lea_ptp hW
  walk_at "k rd"
  · rename_i lf H1 nlf s1 ef H2 u2 s2 r2
    have nf : lf ≠ m := fun z => by rw [z, hm] at nlf; cases nlf
    walk_at "k rm"
    rename_i H3 d3 o3 k3 hm3 ho3 hd3
    obtain ⟨c, rfl⟩ : ∃ c : Nat, d3 = c := ⟨d3.toNat, by omega⟩
    have hf3 : Lat K (Nt K) H3 lf [] := Lat.upk k3 nf (Lat.ups s2 ⟨[], ef, .nil⟩)
    have t3 : Tl K (Nt K) H3 v ns := by walk_at "k fx"
    have l3 : Tl K (Pt K) H3 u2 (lea ns) := by walk_at "k fx"
    refine fk_R (n := c) (by omega) (fun i σ' H' => Mk K m H H' ∧ (∃ o', H' m = some o' ∧ MugF o') ∧ Tl K (Nt K) H' v ns ∧ Tl K (Pt K) H' u2 (lea ns) ∧ ∃ z5 z6 z7 z8 os, σ' = [some (.ref m), some v, some u, some (.ref lf), some u2, z5, z6, z7, z8] ∧ Lat K (Nt K) H' lf os ∧ (∀ n ∈ os, NtV n) ∧ os.length = i)
      ⟨by walk_at "k mk", ⟨_, hm3, ho3⟩, t3, l3, none, none, none, none, [], rfl, hf3, (by intro _ z; cases z), rfl⟩ (fun i σ' H' hi p => ?_) fun σ' H' p => ?_
    · obtain ⟨kI, ⟨oI, hmI, hoI⟩, tI, lI, z5, z6, z7, z8, os, rfl, hF, hos, hol⟩ := p
      walk_at "k rm"
      rename_i H4 d4 o4 k4 hm4 ho4 hd4 H5 u5 o5 span k5 hm5 ho5 r5 sp5
      have hF5 := Lat.upk k5 nf (Lat.upk k4 nf hF)
      have t5 : Tl K (Nt K) H5 v ns := by walk_at "k fx"
      have l5 : Tl K (Pt K) H5 u2 (lea ns) := by walk_at "k fx"
      refine x_ite (fun e => ?_) fun e => ?_
      rotate_left
      · have s6 := same_refl H5
        have hm6 := s6 _ _ hm5
        have hF6 := Lat.ups s6 hF5
        have t6 := up_s (R := Tl K (Nt K)) s6 t5
        have l6 := up_s (R := Tl K (Pt K)) s6 l5
        have r6 := up_s (R := Pr K) s6 r5
        walk_at "k rd"
        refine x_ite (fun e3 => ?_) fun e3 => ?_
        · walk_at "k rd"
          refine x_tylL hF6 ?_
          walk_at "k rd"
          refine x_between hm6 ho5 l6 (fun H7 u7 o7 a7 k7 hm7 ho7 r7 p7 => ?_) ⟨hl0, hlp, hl⟩
          have hF7 := Lat.upk k7 nf hF6
          have rs7 := up_kPr k7 r6
          walk_at "k rd"
          · rename_i H9 u9 s9 r9 tA HA ntA sA eA
            refine x_appL (R := Nt K) (Lat.ups sA (Lat.ups s9 hF7)) (nt_new eA (by walk_at "k fx") (by walk_at "k fx")) (fun HB kB hFB => ?_) (by omega)
            walk_at "k rd"
            refine ⟨mk_side (by walk_at "k mk") kB nlf, ⟨_, kB.km _ _ (Ne.symm nf) (by walk_at "k hm"), ho7⟩, by walk_at "k fx", by walk_at "k fx", _, _, _, _, _, rfl, hFB, fun n' hn' => ?_, by rw [List.length_append, hol]; rfl⟩
            rcases List.mem_append.mp hn' with h | h
            · exact hos n' h
            · rw [List.mem_singleton.mp h]
              exact note_ok (.inl rfl) p7 sp5 (by decide)
          · exact ⟨bd_up p7.2 (by decide), bq_up sp5.2.2.2 (by decide), p7.1.1, sp5.2.1⟩
        · walk_at "k rd"
          refine x_tylL hF6 ?_
          walk_at "k rd"
          rename_i lw Hw nw sw ew
          refine x_pick (R := Rs) (xs := ["made", "barred", "barred"]) (by walk_at "k hm") ho5 (sqm_strs hm6 nw ew) (fun H7 u7 o7 word k7 hm7 ho7 r7 hx7 => ?_) (by decide) (by decide)
          cases r7
          have hw7 : word = "made" ∨ word = "barred" := by
            simp only [List.mem_cons, List.not_mem_nil, or_false] at hx7
            rcases hx7 with h | h | h
            · exact .inl h
            · exact .inr h
            · exact .inr h
          have t7 : Tl K (Nt K) H7 v ns := up_kTn k7 (up_s sw t6)
          walk_at "k rd"
          refine x_near hm7 ho7 t7 (fun H8 u8 o8 a8 k8 hm8 ho8 r8 p8 => ?_) hW
          have hF8 := Lat.upk k8 nf (Lat.upk k7 nf (Lat.ups sw hF6))
          have rs8 := up_kPr k8 (up_kPr k7 (up_s sw r6))
          walk_at "k rd"
          · rename_i H9 u9 s9 r9 tA HA ntA sA eA
            refine x_appL (R := Nt K) (Lat.ups sA (Lat.ups s9 hF8)) (nt_new eA (by walk_at "k fx") (by walk_at "k fx")) (fun HB kB hFB => ?_) (by omega)
            walk_at "k rd"
            refine ⟨mk_side (by walk_at "k mk") kB nlf, ⟨_, kB.km _ _ (Ne.symm nf) (by walk_at "k hm"), ho8⟩, by walk_at "k fx", by walk_at "k fx", _, _, _, _, _, rfl, hFB, fun n' hn' => ?_, by rw [List.length_append, hol]; rfl⟩
            rcases List.mem_append.mp hn' with h | h
            · exact hos n' h
            · rw [List.mem_singleton.mp h]
              exact note_ok hw7 p8 sp5 (by decide)
          · exact ⟨bd_up p8.2 (by decide), bq_up sp5.2.2.2 (by decide), p8.1.1, sp5.2.1⟩
      · walk_at "k rd"
        rename_i p6 H6 np6 s6 e6
        refine x_neN0 (ns := ns) (fun n hn => (hW.nv n hn).wd) (up_s s6 t5) e6 ?_
        have hm6 := s6 _ _ hm5
        have hF6 := Lat.ups s6 hF5
        have t6 := up_s (R := Tl K (Nt K)) s6 t5
        have l6 := up_s (R := Tl K (Pt K)) s6 l5
        have r6 := up_s (R := Pr K) s6 r5
        walk_at "k rd"
        refine x_ite (fun e2 => ?_) fun e2 => ?_
        · have hne : ns ≠ [] := fun z => by rw [z] at e2; cases e2
          walk_at "k rd"
          refine x_pick (R := Nt K) (xs := ns) hm6 ho5 (.inl t6) (fun H7 u7 o7 n7 k7 hm7 ho7 r7 hx7 => ?_) hne (by have := hW.few; omega)
          have p7 := pac_ptp hW hx7
          have hF7 := Lat.upk k7 nf hF6
          have rs7 := up_kPr k7 r6
          walk_at "k rd"
          refine x_tylL hF7 ?_
          walk_at "k rd"
          · rename_i H8 u8 s8 r8 H9 u9 s9 r9 tA HA ntA sA eA
            refine x_appL (R := Nt K) (Lat.ups sA (Lat.ups s9 (Lat.ups s8 hF7))) (nt_new eA (by walk_at "k fx") (by walk_at "k fx")) (fun HB kB hFB => ?_) (by omega)
            walk_at "k rd"
            refine ⟨mk_side (by walk_at "k mk") kB nlf, ⟨_, kB.km _ _ (Ne.symm nf) (by walk_at "k hm"), ho7⟩, by walk_at "k fx", by walk_at "k fx", _, _, _, _, _, rfl, hFB, fun n' hn' => ?_, by rw [List.length_append, hol]; rfl⟩
            rcases List.mem_append.mp hn' with h | h
            · exact hos n' h
            · rw [List.mem_singleton.mp h]
              exact note_ok (hW.nv _ hx7).wd p7 sp5 (by decide)
          · exact ⟨bd_up p7.2 (by decide), bq_up sp5.2.2.2 (by decide), p7.1.1, sp5.2.1⟩
          · exact hW.nv _ hx7
        · walk_at "k rd"
          refine x_ite (fun e3 => ?_) fun e3 => ?_
          · walk_at "k rd"
            refine x_tylL hF6 ?_
            walk_at "k rd"
            refine x_between hm6 ho5 l6 (fun H7 u7 o7 a7 k7 hm7 ho7 r7 p7 => ?_) ⟨hl0, hlp, hl⟩
            have hF7 := Lat.upk k7 nf hF6
            have rs7 := up_kPr k7 r6
            walk_at "k rd"
            · rename_i H9 u9 s9 r9 tA HA ntA sA eA
              refine x_appL (R := Nt K) (Lat.ups sA (Lat.ups s9 hF7)) (nt_new eA (by walk_at "k fx") (by walk_at "k fx")) (fun HB kB hFB => ?_) (by omega)
              walk_at "k rd"
              refine ⟨mk_side (by walk_at "k mk") kB nlf, ⟨_, kB.km _ _ (Ne.symm nf) (by walk_at "k hm"), ho7⟩, by walk_at "k fx", by walk_at "k fx", _, _, _, _, _, rfl, hFB, fun n' hn' => ?_, by rw [List.length_append, hol]; rfl⟩
              rcases List.mem_append.mp hn' with h | h
              · exact hos n' h
              · rw [List.mem_singleton.mp h]
                exact note_ok (.inl rfl) p7 sp5 (by decide)
            · exact ⟨bd_up p7.2 (by decide), bq_up sp5.2.2.2 (by decide), p7.1.1, sp5.2.1⟩
          · walk_at "k rd"
            refine x_tylL hF6 ?_
            walk_at "k rd"
            rename_i lw Hw nw sw ew
            refine x_pick (R := Rs) (xs := ["made", "barred", "barred"]) (by walk_at "k hm") ho5 (sqm_strs hm6 nw ew) (fun H7 u7 o7 word k7 hm7 ho7 r7 hx7 => ?_) (by decide) (by decide)
            cases r7
            have hw7 : word = "made" ∨ word = "barred" := by
              simp only [List.mem_cons, List.not_mem_nil, or_false] at hx7
              rcases hx7 with h | h | h
              · exact .inl h
              · exact .inr h
              · exact .inr h
            have t7 : Tl K (Nt K) H7 v ns := up_kTn k7 (up_s sw t6)
            walk_at "k rd"
            refine x_near hm7 ho7 t7 (fun H8 u8 o8 a8 k8 hm8 ho8 r8 p8 => ?_) hW
            have hF8 := Lat.upk k8 nf (Lat.upk k7 nf (Lat.ups sw hF6))
            have rs8 := up_kPr k8 (up_kPr k7 (up_s sw r6))
            walk_at "k rd"
            · rename_i H9 u9 s9 r9 tA HA ntA sA eA
              refine x_appL (R := Nt K) (Lat.ups sA (Lat.ups s9 hF8)) (nt_new eA (by walk_at "k fx") (by walk_at "k fx")) (fun HB kB hFB => ?_) (by omega)
              walk_at "k rd"
              refine ⟨mk_side (by walk_at "k mk") kB nlf, ⟨_, kB.km _ _ (Ne.symm nf) (by walk_at "k hm"), ho8⟩, by walk_at "k fx", by walk_at "k fx", _, _, _, _, _, rfl, hFB, fun n' hn' => ?_, by rw [List.length_append, hol]; rfl⟩
              rcases List.mem_append.mp hn' with h | h
              · exact hos n' h
              · rw [List.mem_singleton.mp h]
                exact note_ok hw7 p8 sp5 (by decide)
            · exact ⟨bd_up p8.2 (by decide), bq_up sp5.2.2.2 (by decide), p8.1.1, sp5.2.1⟩
    · obtain ⟨kI, ⟨oI, hmI, hoI⟩, tI, lI, z5, z6, z7, z8, os, rfl, hF, hos, hol⟩ := p
      walk_at "k rd"
      refine x_tupL (R := Nt K) hF.hs.ll fun H6 u6 s6 t6 => ?_
      exact q _ _ _ _ (by walk_at "k mk") (s6 _ _ hmI) hoI t6 ⟨hos, by omega⟩
  · exact hW
end
end K87
namespace K87
open PySem PySem.Spec PyProof.Rows L2 K8
section
variable {P : Program} {w : World} {K : PySem.W.Frag} {mg : Str → Option Value} {base : Heap} {nA rA cA : Addr} {f : Addr} {fd : FuncData}
theorem x_frame {K : PySem.W.Frag} {H : Hp} {Q : VK} {E : XK} {m : Addr} {o : HO} {n : Int} (hm : H m = some o) (ho : MugF o) (hn : 1 ≤ n ∧ n ≤ 1000) (h : ∀ H' u o' x, Mk K m H H' → H' m = some o' → MugF o' → Tl K (Pt K) H' u x → FigP x → Q u H') : pr_w_frame K [.ref m, .int n] H Q E := ⟨m, o, n, rfl, hm, ho, hn, h⟩
theorem ok_w_boat (T : Ty K mg nA rA) (O_w_dip : Ok_w_dip P w K mg base) (O_w_least : Ok_w_least P w K mg base) (O_w_hull : Ok_w_hull P w K mg base) (O_w_between : Ok_w_between P w K mg base) (O_w_near : Ok_w_near P w K mg base) (O_w_grown : Ok_w_grown P w K mg base) (O_w_frame : Ok_w_frame P w K mg base) (F : FnP K "_law_boat" s_w_boat f fd) : FnOk P w K mg base CX0 8 f fd ["_law_mug_here", "_law_notes", "_law_wide_here"] (pr_w_boat K) := by
  refine F.ok sc_w_boat (fun vs H Q E h => (by obtain ⟨_, _, _, _, _, rfl, _⟩ := h; rfl)) (fun cdv A outer s H vs Q E hr h => ?_)
  obtain ⟨m, o, v, n, ns, rfl, hm, ho, hT, q, hW, hn⟩ := h
  have nd := sc_w_boat.nd
  refine ⟨_, PSs.nox (pss_cons (ps_asg (pe_tup (pa_cons (pe_callO O_w_least (hr.mono (by decide)) (by rfl) (pa_cons (pv 1) pa_nil)) (pa_cons (pe_callO O_w_dip (hr.mono (by decide)) (by rfl) (pa_cons (pv 0) (pa_cons pe_int pa_nil))) pa_nil))) (pg_tup (n := 2) rfl (pgs_cons (pg_name (i := 3) nd rfl (Or.inr rfl)) (pgs_cons (pg_name (i := 4) nd rfl (Or.inl rfl)) pgs_nil)))) (pss_cons (ps_set (i := 5) nd rfl (Or.inl rfl) (pe_callO O_w_hull (hr.mono (by decide)) (by rfl) (pa_cons (pe_op op_cat (pe_lst (pa_cons (pe_tup (pa_cons pe_int (pa_cons pe_int (pa_cons pe_int pa_nil)))) pa_nil)) (pe_lc (own := [("_law_lap", 6)]) (tt := tYes) rfl nd (pi_range1 rfl T.range (pa_cons pe_int pa_nil)) (blkOk_by (N := ["_law_mug_here", "_law_notes", "_law_wide_here", "_law_least_here", "_law_way", "_law_found", "_law_lap"]) (sc := defScope s_w_boat) (by decide +kernel)) (fun _ _ _ _ _ => (pg_name (i := 6) nd rfl (Or.inl rfl))) (fun _ _ _ _ _ => pts_nil) (fun _ _ _ _ _ => (pe_callO O_w_between (hr.mono (by decide)) (by rfl) (pa_cons (pv 0) (pa_cons (pv 3) pa_nil)))))) pa_nil))) (Evl.pss_cut (ps_if (pt_cmpR op_eq (pv 4) pe_int (nomark _)) (pss_one (ps_set (i := 5) nd rfl (Or.inl rfl) (pe_callO O_w_hull (hr.mono (by decide)) (by rfl) (pa_cons (pe_op op_cat (pe_callTy cq_list (by rfl) T.list bt_list (pa_cons (pv 5) pa_nil)) (pe_lst (pa_cons (pe_callO O_w_near (hr.mono (by decide)) (by rfl) (pa_cons (pv 0) (pa_cons (pv 1) pa_nil))) pa_nil))) pa_nil)))) pss_nil) (Evl.pss_cut (ps_if (pt_cmpR op_eq (pv 4) pe_int (nomark _)) (pss_one (ps_set (i := 5) nd rfl (Or.inl rfl) (pe_callO O_w_grown (hr.mono (by decide)) (by rfl) (pa_cons (pv 3) (pa_cons (pe_tup (pa_cons pe_int (pa_cons pe_int pa_nil))) pa_nil))))) pss_nil) (pss_one (ps_ret (pe_ifExp (PW.pt (pw_and (pt_cmpR op_lt (pv 4) pe_int (nomark _)) (pw_and1 (pt_cmpR op_gt (pe_callB cq_len (by rfl) T.len bt_len (pa_cons (pv 5) pa_nil)) pe_int (nomark _))))) (pv 5) (pe_callO O_w_frame (hr.mono (by decide)) (by rfl) (pa_cons (pv 0) (pa_cons (pv 2) pa_nil)))))))))), ?_⟩
  try dsimp only [cxn_K, cxn_P, cxn_w, cx_K]
  have hl : (lea ns).length ≤ 14 := hW.llen
  have hl0 : lea ns ≠ [] := hW.pg.cnv.ne
  have hlp := lea_ptp hW
  walk_at "k rm"
  · rename_i H1 u1 s1 r1 H2 d2 o2 k2 hm2 ho2 hd2 p3 H3 np3 s3 e3
    refine x_gnew e3 rfl ?_
    have l3 : Tl K (Pt K) H3 u1 (lea ns) := by walk_at "k fx"
    have hm3 := s3 _ _ hm2
    walk_at "k rd"
    rename_i t4 H4 nt4 s4 e4 lz H5 nlz s5 ez
    have hm4 := s4 _ _ hm3
    have hm5 := s5 _ _ hm4
    have nz : lz ≠ m := fun z => by rw [z, hm4] at nlz; cases nlz
    have hz5 : Lat K (Pt K) H5 lz [(0, 0, 1)] := ⟨_, ez, .cons (by walk_at "k fx") .nil⟩
    have l5 : Tl K (Pt K) H5 u1 (lea ns) := up_s s5 (up_s s4 l3)
    refine lc_RM (K := K) (F := MugF) (n := 3) (Pt K) (PtP 700) hm5 ho2 (by decide) (fun i H' o' QY hi k hm' ho' hy => ?_) fun H6 v6 o6 zs k6 hm6 ho6 hz hzs n6 => ?_
    · have l' := up_k (K := K) (R := Tl K (Pt K)) k l5
      walk_at "k rd"
      refine ⟨rfl, ?_⟩
      walk_at "k rd"
      exact x_between hm' ho' l' (fun H7 u7 o7 a7 k7 hm7 ho7 r7 p7 => hy _ _ _ _ k7 hm7 ho7 r7 p7) ⟨hl0, hlp, hl⟩
    · have hz6 := Lat.upk k6 nz hz5
      have l6 := up_k (K := K) (R := Tl K (Pt K)) k6 l5
      have hP : ∀ p ∈ ((0, 0, 1) : P3) :: zs, PtP 700 p := fun p hp => by
        rcases List.mem_cons.mp hp with e | e
        · rw [e]; exact ⟨vp_nought, bd_nought (by decide)⟩
        · exact hzs p e
      have hl4 : (((0, 0, 1) : P3) :: zs).length = 4 := by rw [List.length_cons, hz]
      obtain ⟨hp1, lc1⟩ := hp_of (n := 700) (by simp) hP (by decide) (by omega) (by omega)
      have lc1' : Lc 2801 (((0, 0, 1) : P3) :: zs) := by
        have l := lc_all (n := 700) (ps := ((0, 0, 1) : P3) :: zs) fun p hp => ⟨(hP p hp).1.1, (hP p hp).2.w⟩
        rw [hl4] at l
        exact l
      have fq1 := figq_hul hp1 lc1 (by omega) (nou_in List.mem_cons_self)
      have hsub := hul_sub hp1.ne hp1.vp
      have hl8 : (hul (((0, 0, 1) : P3) :: zs)).length ≤ 8 := by
        have := hul_len (((0, 0, 1) : P3) :: zs)
        omega
      refine x_cat (R := Pt K) hz6.hs n6.hs (by simp; omega) fun H7 v7 s7 n7 => ?_
      have n7 : Nl K (Pt K) H6 H7 v7 (((0, 0, 1) : P3) :: zs) := n7
      walk_at "k rd"
      · rename_i H8 v8 s8 r8
        have hm8 : H8 m = some o6 := by walk_at "k hm"
        have l8 : Tl K (Pt K) H8 u1 (lea ns) := up_s s8 (up_s s7 l6)
        have t8 : Tl K (Nt K) H8 v ns := by walk_at "k fx"
        have k08 : Mk K m H H8 := by walk_at "k mk"
        refine x_cutM (fun σ' H' => Mk K m H H' ∧ (∃ o', H' m = some o' ∧ MugF o') ∧ Tl K (Pt K) H' u1 (lea ns) ∧ ∃ vf P, σ' = [some (.ref m), some v, some (.int n), some u1, some (.int d2), some vf, none] ∧ Tl K (Pt K) H' vf P ∧ FigQ P) ?_ fun σ' H9 hM => ?_
        · walk_at "k rd"
          refine x_ite (fun e => ?_) fun e => ?_
          · walk_at "k rd"
            refine x_listP (xs := hul (((0, 0, 1) : P3) :: zs)) r8 fun H10 v10 s10 r10 => ?_
            walk_at "k rd"
            have hm10 := s10 _ _ hm8
            have r10 := hs_ne hm10 ho6 r10
            refine x_near hm10 ho6 (up_s s10 t8) (fun H11 u11 o11 a11 k11 hm11 ho11 r11 p11 => ?_) hW
            walk_at "k rd"
            rename_i lq H12 nlq s12 eq
            have rN : Hs K (Pt K) H12 (.ref lq) [a11] := hs_one eq (up_s s12 r11)
            refine x_cat (R := Pt K) (Hm.ups s12 (Hm.upk k11 r10)).hs rN (by simp; omega) fun H13 v13 s13 n13 => ?_
            have hP2 : ∀ p ∈ hul (((0, 0, 1) : P3) :: zs) ++ [a11], PtP 800 p := fun p hp => by
              rcases List.mem_append.mp hp with h | h
              · exact ⟨(hP p (hsub p h)).1, bd_up (hP p (hsub p h)).2 (by decide)⟩
              · rw [List.mem_singleton.mp h]; exact p11
            have lcq : Lc 3700 (hul (((0, 0, 1) : P3) :: zs) ++ [a11]) := lc_up (lc_app (lc_sub lc1' hsub) (lc_cons (n := 800) lc_nil p11.2.w p11.1.1)) (by decide)
            have hpq : HP (hul (((0, 0, 1) : P3) :: zs) ++ [a11]) := ⟨by simp, fun p hp => (hP2 p hp).1, fun p hp => bd_up (hP2 p hp).2 (by decide), lc_up lcq (by decide), by simp; omega⟩
            have fq2 := figq_hul hpq lcq (by simp; omega) fun n' => by
              obtain ⟨s, hs1, hs2⟩ := hul_sup hp1.ne hp1.vp n' (0, 0, 1) List.mem_cons_self
              exact ⟨s, List.mem_append_left _ hs1, hs2⟩
            walk_at "k rd"
            · rename_i H14 v14 s14 r14
              exact ⟨(((k08.trans (sm_mk s10)).trans k11).trans (sm_mk s12)).trans ((sm_mk s13).trans (sm_mk s14)), ⟨_, s14 _ _ (s13 _ _ (s12 _ _ hm11)), ho11⟩, up_s s14 (up_s s13 (up_s s12 (up_kTp k11 (up_s s10 l8)))), _, _, rfl, r14, fq2⟩
            · exact hpq
          · walk_at "k rd"
            exact ⟨k08, ⟨_, hm8, ho6⟩, l8, _, _, rfl, r8, fq1⟩
        · obtain ⟨k9, ⟨o9, hm9, ho9⟩, l9, vf, P9, rfl, f9, fq9⟩ := hM
          refine x_cutM (fun σ' H' => Mk K m H H' ∧ (∃ o', H' m = some o' ∧ MugF o') ∧ ∃ vf P, σ' = [some (.ref m), some v, some (.int n), some u1, some (.int d2), some vf, none] ∧ Tl K (Pt K) H' vf P ∧ FigQ P) ?_ fun σ' H10 hM => ?_
          · walk_at "k rd"
            refine x_ite (fun e => ?_) fun e => ?_
            · have hG : ∀ p ∈ (lea ns).map (fun p => ledP p (1, 2)), PtP 42 p := fun p hp => by
                obtain ⟨t, ht, rfl⟩ := List.mem_map.mp hp
                exact ledP_ok (r := 2) (hlp t ht).1 (hlp t ht).2 ⟨by decide, by decide⟩ (by decide)
              have hlg : ((lea ns).map (fun p => ledP p (1, 2))).length ≤ 14 := by rw [List.length_map]; exact hl
              obtain ⟨hpg, lcg⟩ := hp_of (n := 42) (by intro z; exact hl0 (List.map_eq_nil_iff.mp z)) hG (by decide) (by omega) (by omega)
              have fqg := figq_hul hpg lcg (by omega) fun n' => by
                obtain ⟨s, hs1, hs2⟩ := hul_sup hW.hp.ne hW.hp.vp n' (0, 0, 1) List.mem_cons_self
                exact ⟨_, List.mem_map_of_mem hs1, nou_led (hlp s hs1).1 hs2⟩
              walk_at "k rd"
              · rename_i p10 H10 np10 s10 e10 H11 v11 s11 r11
                exact ⟨(k9.trans (sm_mk s10)).trans (sm_mk s11), ⟨_, s11 _ _ (s10 _ _ hm9), ho9⟩, _, _, rfl, r11, fqg⟩
              · exact ⟨fun p hp => ⟨bd_up (hlp p hp).2 (by decide), (hlp p hp).1.1⟩, by omega, ⟨by decide, by decide⟩, by decide, hpg⟩
            · walk_at "k rd"
              exact ⟨k9, ⟨_, hm9, ho9⟩, _, _, rfl, f9, fq9⟩
          · obtain ⟨k10, ⟨o10, hm10, ho10⟩, vg, P10, rfl, f10, fq10⟩ := hM
            have frm : pr_w_frame K [.ref m, .int n] H10 Q E0 := x_frame hm10 ho10 hn fun H11 u11 o11 x11 k11 hm11 ho11 r11 p11 => q _ _ _ _ (k10.trans k11) hm11 ho11 r11 p11
            walk_at "k rd"
            refine x_ite (fun e => ?_) fun e => ?_
            · walk_at "k rd"
              refine x_ite (fun e2 => ?_) fun e2 => ?_
              · walk_at "k rd"
                exact q _ _ _ _ k10 hm10 ho10 f10 (fq10.fig (by have := of_decide_eq_true e2; omega))
              · walk_at "k rd"
                exact frm
            · walk_at "k rd"
              exact frm
      · exact hp1
  · exact hW
end
end K87
namespace K87
open PySem PySem.Spec PyProof.Rows L2 K8
/-! ### what the program tells, refusals caught -/
def pr_w_told (K : PySem.W.Frag) (cA : Addr) : Sp := fun vs H Q _ => ∃ v u t ns os P, vs = [v, u, t] ∧ Tl K (Nt K) H v ns ∧ Tl K (Nt K) H u os ∧ Tl K (Pt K) H t P ∧ (Wn ns ∧ On os ∧ Fig P ∧ HP (lea ns ++ P)) ∧
  (opn ns = true → ∀ H' l, Same H H' → H' l = some (.lst [.bl (os.all (tld ns)), .str (wrd ns P)]) → Q (.ref l) H') ∧
  (opn ns = false → ∀ H' l a b, Same H H' → H' l = some (.lst [.ref a, .ref b]) → H' a = some (.tup [.str "refused"]) → H' b = some (.tup [.str "refused"]) → Q (.ref l) H')
abbrev Ok_w_told (P : Program) (w : World) (K : PySem.W.Frag) (mg : Str → Option Value) (base : Heap) (cA : Addr) : Prop := OkD P w K mg base CX0 10 "_law_told" ["_law_notes", "_law_others_here", "_law_some"] (pr_w_told K cA)
section
variable {P : Program} {w : World} {K : PySem.W.Frag} {mg : Str → Option Value} {base : Heap} {nA rA cA : Addr} {f : Addr} {fd : FuncData}
theorem ok_w_told (T : Ty K mg nA rA) (Z : Tn K mg cA) (O_tells_all : Ok_tells_all P w K mg base cA) (O_told_beside : Ok_told_beside P w K mg base cA) (F : FnP K "_law_told" s_w_told f fd) : FnOk P w K mg base CX0 10 f fd ["_law_notes", "_law_others_here", "_law_some"] (pr_w_told K cA) := by
  refine F.ok sc_w_told (fun vs H Q E h => (by obtain ⟨_, _, _, _, _, _, rfl, _⟩ := h; rfl)) (fun cdv A outer s H vs Q E hr h => ?_)
  obtain ⟨v, u, t, ns, os, S, rfl, h1, h2, h3, ⟨hW, hO, hF, hP⟩, q, qe⟩ := h
  have nd := sc_w_told.nd
  refine ⟨_, PSs.nox (pss_cons (ps_set (i := 3) nd rfl (Or.inl rfl) (pe_lst pa_nil)) (pss_cons (ps_try_only (tb := fun W => tDrop (tBM K "list" rAppend (tVar 3) (tCons (tCallS (pr_tells_all K cA) (WE W) (tCons (tVar 0) (tCons (tVar 1) tNil))) tNil))) (ts := fun _ _ _ => tDrop (tBM K "list" rAppend (tVar 3) (tCons (tTup (tCons (tC (.str "refused")) tNil)) tNil))) rfl rfl ⟨rfl, by decide, .inl Z.g⟩ takes0 (fun W pn xe tk _ => (pss_one (ps_expr (pe_bm PySem.F.plainAttrs_list PySem.F.slot_list_append PySem.F.type_list_append mt_append (pv 3) (pa_cons (pe_callT O_tells_all (hr.mono (by decide)) (by rfl) tk (pa_cons (pv 0) (pa_cons (pv 1) pa_nil))) pa_nil))))) (fun a oe cls d pn _ _ => (pss_one (ps_expr (pe_bm PySem.F.plainAttrs_list PySem.F.slot_list_append PySem.F.type_list_append mt_append (pv 3) (pa_cons (pe_tup (pa_cons pe_str pa_nil)) pa_nil)))))) (pss_cons (ps_try_only (tb := fun W => tDrop (tBM K "list" rAppend (tVar 3) (tCons (tCallS (pr_told_beside K cA) (WE W) (tCons (tVar 0) (tCons (tVar 2) tNil))) tNil))) (ts := fun _ _ _ => tDrop (tBM K "list" rAppend (tVar 3) (tCons (tTup (tCons (tC (.str "refused")) tNil)) tNil))) rfl rfl ⟨rfl, by decide, .inl Z.g⟩ takes0 (fun W pn xe tk _ => (pss_one (ps_expr (pe_bm PySem.F.plainAttrs_list PySem.F.slot_list_append PySem.F.type_list_append mt_append (pv 3) (pa_cons (pe_callT O_told_beside (hr.mono (by decide)) (by rfl) tk (pa_cons (pv 0) (pa_cons (pv 2) pa_nil))) pa_nil))))) (fun a oe cls d pn _ _ => (pss_one (ps_expr (pe_bm PySem.F.plainAttrs_list PySem.F.slot_list_append PySem.F.type_list_append mt_append (pv 3) (pa_cons (pe_tup (pa_cons pe_str pa_nil)) pa_nil)))))) (pss_one (ps_ret (pv 3)))))), ?_⟩
  try dsimp only [cxn_K, cxn_P, cxn_w, cx_K]
  walk_at "k rd"
  rename_i l H1 nl s1 e1
  have a1 := up_s (R := Tl K (Nt K)) s1 h1
  have a2 := up_s (R := Tl K (Nt K)) s1 h2
  have a3 := up_s (R := Tl K (Pt K)) s1 h3
  refine x_callS ?_
  walk_at "k rd"
  refine ⟨_, _, ns, os, rfl, a1, a2, ⟨hW, hO⟩, fun e H2 s2 => ?_, fun e H2 s2 => ⟨true, Z.e, fun _ a ha => ?_, fun z => nomatch z⟩⟩
  · have e2 := s2 _ _ e1
    walk_at "k rd"
    refine x_app (K := K) e2 (by simp) fun H3 k3 e3 => ?_
    have b1 := up_k (K := K) (R := Tl K (Nt K)) k3 (up_s s2 a1)
    have b3 := up_k (K := K) (R := Tl K (Pt K)) k3 (up_s s2 a3)
    walk_at "k rd"
    refine x_callS ?_
    walk_at "k rd"
    refine ⟨_, _, ns, S, rfl, b1, b3, ⟨hW, hF, hP⟩, fun e H4 s4 => ?_, fun z => by rw [e] at z; cases z⟩
    have e4 := s4 _ _ e3
    walk_at "k rd"
    refine x_app (K := K) e4 (by simp) fun H5 k5 e5 => ?_
    walk_at "k rd"
    refine q e H5 l (fun b o hb => ?_) e5
    have n : b ≠ l := ne_of_none hb nl
    exact k5.km _ _ n (s4 _ _ (k3.km _ _ n (s2 _ _ (s1 _ _ hb))))
  · have e2 := s2 _ _ e1
    walk_at "k rd"
    rename_i ta H3 nta s3 ea
    have e3 := s3 _ _ e2
    refine x_app (K := K) e3 (by simp) fun H4 k4 e4 => ?_
    have nal : ta ≠ l := fun z => by rw [z, e2] at nta; cases nta
    have ea4 := k4.km _ _ nal ea
    have b1 := up_k (K := K) (R := Tl K (Nt K)) k4 (up_s s3 (up_s s2 a1))
    have b3 := up_k (K := K) (R := Tl K (Pt K)) k4 (up_s s3 (up_s s2 a3))
    walk_at "k rd"
    refine x_callS ?_
    walk_at "k rd"
    refine ⟨_, _, ns, S, rfl, b1, b3, ⟨hW, hF, hP⟩, (fun z => by rw [e] at z; cases z), fun _ H5 s5 => ⟨true, Z.e, fun _ a ha => ?_, fun z => nomatch z⟩⟩
    have e5 := s5 _ _ e4
    have ea5 := s5 _ _ ea4
    walk_at "k rd"
    rename_i tb H6 ntb s6 eb
    have e6 := s6 _ _ e5
    have ea6 := s6 _ _ ea5
    refine x_app (K := K) e6 (by simp) fun H7 k7 e7 => ?_
    have nbl : tb ≠ l := fun z => by rw [z, e5] at ntb; cases ntb
    walk_at "k rd"
    refine qe e H7 l ta tb (fun b o hb => ?_) e7 (k7.km _ _ nal ea6) (k7.km _ _ nbl eb)
    have n : b ≠ l := ne_of_none hb nl
    exact k7.km _ _ n (s6 _ _ (s5 _ _ (k4.km _ _ n (s3 _ _ (s2 _ _ (s1 _ _ hb))))))
end
end K87
namespace K87
open PySem PySem.Spec PyProof.Rows L2 K8
/-! ### one number, the law -/
def pr_w_right (K : PySem.W.Frag) : Sp := fun vs H Q _ => ∃ m o, vs = [.ref m] ∧ H m = some o ∧ MugF o ∧ ∀ H', Mk K m H H' → Q (.bl true) H'
abbrev Ok_w_right (P : Program) (w : World) (K : PySem.W.Frag) (mg : Str → Option Value) (base : Heap) : Prop := OkG P w K mg base 11 "_law_right" ["_law_mug_here"] (pr_w_right K)
theorem x_callK {sp : Sp} {gV : List V → List V → List V} {E : XK} {t tk : TA} {σ : L2.St} {H : Hp} {Q : VK} (h : t σ H fun vs H1 => tk σ H1 fun zs H2 => sp (gV vs zs) H2 Q E) : tCallK sp gV E t tk σ H Q := h
theorem x_isB {H : Hp} {Q : VK} {a b : Bool} (q : Q (.bl (decide (a = b))) H) : rIsB (.bl a) (.bl b) H Q := ⟨a, b, rfl, rfl, q⟩
theorem self_told {ns : List Nte} (h : Wn ns) (o : opn ns = true) : ns.all (tld ns) = true := by
  refine List.all_eq_true.mpr fun n hn => ?_
  have hv := pac_vp (h.nv n hn)
  have hP := h.one hv (pac_bd (h.nv n hn))
  unfold tld
  refine decide_eq_true ?_
  rcases (h.nv n hn).wd with e | e
  · have hm : pac n ∈ ((0, 0, 1) : P3) :: pacs ns "made" := List.mem_cons_of_mem _ (List.mem_map.mpr ⟨n, List.mem_filter.mpr ⟨hn, decide_eq_true e⟩, rfl⟩)
    have k : hasB (lea ns) (pac n) = true := hul_has h.hp.ne h.hp.vp _ hm
    unfold wrd due
    rw [if_pos e, if_pos (by rw [List.all_cons, k]; rfl)]
  · have hm : pac n ∈ pacs ns "barred" := List.mem_map.mpr ⟨n, List.mem_filter.mpr ⟨hn, decide_eq_true e⟩, rfl⟩
    have k : ¬ hasB (lea ns) (pac n) = true := fun z => by
      have : (pacs ns "barred").any (hasB (lea ns)) = true := List.any_eq_true.mpr ⟨_, hm, z⟩
      unfold opn at o
      rw [this] at o
      cases o
    have k2 : brs ns [pac n] = true := List.any_eq_true.mpr ⟨_, hm, hul_has hP.ne hP.vp _ (by simp)⟩
    have ne : ¬ n.1 = "made" := fun z => by rw [e] at z; exact absurd z (by decide)
    unfold wrd due
    rw [if_neg ne, if_neg (by rw [List.all_cons]; simp [k]), if_pos k2]
theorem not_contains (bs : List Bool) : (!bs.contains false) = bs.all id := by
  induction bs with
  | nil => rfl
  | cons b bs ih =>
    rw [List.contains_cons, List.all_cons, ← ih]
    cases b <;> rfl
def rfD : PyData := .list [.tuple [.str "refused"], .tuple [.str "refused"]]
theorem rfD_sh : SeqAt.shaped rfD = true := by decide +kernel
theorem rfD_eq : PyData.eqv rfD rfD = true := by simp [rfD, PyData.eqv, PyData.eqvAll]
def wdD (b : Bool) (s : Str) : PyData := .list [.bool b, .str s]
theorem wdD_len (b : Bool) {s : Str} (h : s = "sure" ∨ s = "open" ∨ s = "never") : (wdD b s).shown.length ≤ sizeLine := by
  rcases h with rfl | rfl | rfl
  · cases b <;> decide +kernel
  · cases b <;> decide +kernel
  · cases b <;> decide +kernel
theorem wrd_or (ns : List Nte) (P : List P3) : wrd ns P = "sure" ∨ wrd ns P = "open" ∨ wrd ns P = "never" := by
  unfold wrd
  split
  · exact .inl rfl
  · split
    · exact .inr (.inr rfl)
    · exact .inr (.inl rfl)
section
variable {K : PySem.W.Frag} {H : Hp} {Q : VK} {E : XK} {m : Addr} {o : HO} {v u : V} {ns : List Nte} {n k : Int}
theorem dp_wd {l : Addr} {b : Bool} {s : Str} (h : H l = some (.lst [.bl b, .str s])) : Dp K H (.ref l) (wdD b s) := .lst (SqL.of h) (.cons (.bl _) (.cons (.str _) .nil))
theorem x_repr {l : Addr} {b : Bool} {s : Str} (h : H l = some (.lst [.bl b, .str s])) (k : s = "sure" ∨ s = "open" ∨ s = "never") (q : Q (.str (wdD b s).shown) H) : rRepr K [.ref l] H Q :=
  ⟨l, wdD b s, rfl, dp_wd h, by simp [wdD, PyData.showable, PyData.showableAll], by simp [wdD, PyData.hasDict, PyData.hasDictAll], by simp [wdD, PyData.depth, PyData.depthAll], wdD_len b k, q⟩
theorem dp_rf {l a b : Addr} (h : H l = some (.lst [.ref a, .ref b])) (ha : H a = some (.tup [.str "refused"])) (hb : H b = some (.tup [.str "refused"])) : Dp K H (.ref l) rfD :=
  .lst (SqL.of h) (.cons (.tup (SqT.of ha) (.cons (.str _) .nil)) (.cons (.tup (SqT.of hb) (.cons (.str _) .nil)) .nil))
theorem x_log (hm : H m = some o) (ho : MugF o) (hk : 0 ≤ k ∧ k ≤ 6) (hn : 1 ≤ n ∧ n ≤ 90) (h : ∀ H' u o' x, Mk K m H H' → H' m = some o' → MugF o' → Tl K (Nt K) H' u x → Wn x → Q u H') : pr_w_log K [.ref m, .int k, .int n] H Q E := ⟨m, o, k, n, rfl, hm, ho, hk, hn, h⟩
theorem x_others (hm : H m = some o) (ho : MugF o) (t : Tl K (Nt K) H v ns) (h : ∀ H' u o' x, Mk K m H H' → H' m = some o' → MugF o' → Tl K (Nt K) H' u x → On x → Q u H') (hw : Wn ns) : pr_w_others K [.ref m, v, u] H Q E := ⟨m, o, v, u, ns, rfl, hm, ho, t, h, hw⟩
theorem x_boat (hm : H m = some o) (ho : MugF o) (t : Tl K (Nt K) H v ns) (h : ∀ H' u o' x, Mk K m H H' → H' m = some o' → MugF o' → Tl K (Pt K) H' u x → FigP x → Q u H') (hw : Wn ns) (hn : 1 ≤ n ∧ n ≤ 1000) : pr_w_boat K [.ref m, v, .int n] H Q E := ⟨m, o, v, n, ns, rfl, hm, ho, t, h, hw, hn⟩
end
section
variable {P : Program} {w : World} {K : PySem.W.Frag} {mg : Str → Option Value} {base : Heap} {nA rA cA : Addr} {f : Addr} {fd : FuncData}
theorem ok_w_right (T : Ty K mg nA rA) (O_w_wide : Ok_w_wide P w K mg base) (O_w_log : Ok_w_log P w K mg base) (O_w_pick : Ok_w_pick P w K mg base) (O_w_boat : Ok_w_boat P w K mg base) (O_w_others : Ok_w_others P w K mg base) (O_w_is_open : Ok_w_is_open P w K mg base) (Z : Tn K mg cA) {fK : Addr} {fdK : FuncData} (gK : mg "tells_all" = some (.ref fK)) (kK : PySem.W.keepIn K (.ref fK) = true) (bK : KBinds K fdK ["notes", "others"] ["others", "notes"] swp swp) (FK : FnOk P w K mg base (CX P w) 9 fK fdK ["notes", "others"] (pr_tells_all K cA)) (O_w_told : Ok_w_told P w K mg base cA) (O_w_least : Ok_w_least P w K mg base) (O_w_has : Ok_w_has P w K mg base) (O_w_bars : Ok_w_bars P w K mg base) (O_w_all_told : Ok_w_all_told P w K mg base)  (F : FnP K "_law_right" s_w_right f fd) : FnG P w K mg base 11 f fd ["_law_mug_here"] (pr_w_right K) := by
  refine FnG.ok F sc_w_right (fun vs H Q E h => (by obtain ⟨_, _, rfl, _⟩ := h; rfl)) (fun cdv A outer s H vs Q E hg hr h => ?_)
  obtain ⟨m, o, rfl, hm, ho, q⟩ := h
  have nd := sc_w_right.nd
  refine ⟨_, PSs.nox (pss_cons (ps_set (i := 1) nd rfl (Or.inl rfl) (pe_callO O_w_wide (hr.mono (by decide)) (by rfl) (pa_cons (pv 0) pa_nil))) (pss_cons (ps_set (i := 2) nd rfl (Or.inl rfl) (pe_callO O_w_log (hr.mono (by decide)) (by rfl) (pa_cons (pv 0) (pa_cons (pe_callO O_w_pick (hr.mono (by decide)) (by rfl) (pa_cons (pv 0) (pa_cons (pe_lst (pa_cons pe_int (pa_cons pe_int (pa_cons pe_int (pa_cons pe_int (pa_cons pe_int (pa_cons pe_int (pa_cons pe_int pa_nil)))))))) pa_nil))) (pa_cons (pv 1) pa_nil))))) (pss_cons (ps_par (i := 3) (j := 4) rfl nd rfl rfl (by decide) rfl rfl (pa_cons (pe_callO O_w_others (hr.mono (by decide)) (by rfl) (pa_cons (pv 0) (pa_cons (pv 2) (pa_cons (pv 1) pa_nil)))) (pa_cons (pe_callO O_w_boat (hr.mono (by decide)) (by rfl) (pa_cons (pv 0) (pa_cons (pv 2) (pa_cons (pv 1) pa_nil)))) pa_nil)) rfl) (pss_cons (ps_if (pt_not (pt_val (pe_callO O_w_is_open (hr.mono (by decide)) (by rfl) (pa_cons (pv 2) pa_nil)))) (pss_one (ps_ret (pe_cmpR (op_eqD hr.units) (pe_callO O_w_told (hr.mono (by decide)) (by rfl) (pa_cons (pv 2) (pa_cons (pv 3) (pa_cons (pv 4) pa_nil)))) (pe_lst (pa_cons (pe_tup (pa_cons pe_str pa_nil)) (pa_cons (pe_tup (pa_cons pe_str pa_nil)) pa_nil))) (nomark _)))) pss_nil) (pss_cons (ps_asg (pe_tup (pa_cons (pe_callO O_w_least (hr.mono (by decide)) (by rfl) (pa_cons (pv 2) pa_nil)) (pa_cons pe_str pa_nil))) (pg_tup (n := 2) rfl (pgs_cons (pg_name (i := 5) nd rfl (Or.inr rfl)) (pgs_cons (pg_name (i := 6) nd rfl (Or.inl rfl)) pgs_nil)))) (Evl.pss_cut (ps_if (pt_cmpR op_notIn_seq pe_bl (pe_lc (own := [("_law_p", 8)]) (tt := tYes) rfl nd (pi_tup (pv 4)) (blkOk_by (N := ["_law_mug_here", "_law_wide_here", "_law_notes", "_law_others_here", "_law_some", "_law_least_here", "_law_word", "_law_due", "_law_p"]) (sc := defScope s_w_right) (by decide +kernel)) (fun _ _ _ _ _ => (pg_name (i := 8) nd rfl (Or.inl rfl))) (fun _ _ _ _ _ => pts_nil) (fun _ _ _ _ _ => (pe_callO O_w_has (hr.mono (by decide)) (by rfl) (pa_cons (pv 5) (pa_cons (pv 8) pa_nil))))) (by rfl)) (pss_one (ps_set (i := 6) nd rfl (Or.inl rfl) pe_str)) (pss_one (ps_if (pt_val (pe_callO O_w_bars (hr.mono (by decide)) (by rfl) (pa_cons (pv 2) (pa_cons (pv 4) pa_nil)))) (pss_one (ps_set (i := 6) nd rfl (Or.inl rfl) pe_str)) pss_nil))) (pss_cons (ps_set (i := 7) nd rfl (Or.inl rfl) (pe_lst (pa_cons (pe_callO O_w_all_told (hr.mono (by decide)) (by rfl) (pa_cons (pv 2) (pa_cons (pv 3) pa_nil))) (pa_cons (pv 6) pa_nil)))) (pss_one (ps_ret (pe_and (pe_cmpR op_eq (pe_callB (cr_repr hg hr.units) (by rfl) T.repr bt_repr (pa_cons (pe_callO O_w_told (hr.mono (by decide)) (by rfl) (pa_cons (pv 2) (pa_cons (pv 3) (pa_cons (pv 4) pa_nil)))) pa_nil)) (pe_callB (cr_repr hg hr.units) (by rfl) T.repr bt_repr (pa_cons (pv 7) pa_nil)) (nomark _)) (pe_one (pe_cmpR op_isBl (pe_call0K FK (hr.mono (by decide)) (by rfl) gK kK bK pass_no (pk_cons (pv 2) (pk_cons (pv 2) pk_nil))) pe_bl (nomark _))))))))))))), ?_⟩
  try dsimp only [cxn_K, cxn_P, cxn_w, cx_K]
  walk_at "k rm"
  rename_i H1 d1 o1 k1 hm1 ho1 hd1 l2 H2 nl2 s2 e2
  refine x_pick (R := Ri) (xs := [0, 1, 2, 3, 4, 5, 6]) (by walk_at "k hm") ho1 (sqm_ints hm1 nl2 e2) (fun H3 u3 o3 many k3 hm3 ho3 r3 hx3 => ?_) (by decide) (by decide)
  cases r3
  have hx3 : 0 ≤ many ∧ many ≤ 6 := by
    simp only [List.mem_cons, List.not_mem_nil, or_false] at hx3
    omega
  walk_at "k rd"
  refine x_log hm3 ho3 hx3 hd1 fun H4 u4 o4 ns k4 hm4 ho4 r4 hW => ?_
  walk_at "k rd"
  refine x_others hm4 ho4 r4 (fun H5 u5 o5 os k5 hm5 ho5 r5 hO => ?_) hW
  have r45 := up_kTn k5 r4
  walk_at "k rd"
  refine x_boat hm5 ho5 r45 (fun H6 u6 o6 S k6 hm6 ho6 r6 hF => ?_) hW ⟨hd1.1, by omega⟩
  have rn6 := up_kTn k6 r45
  have ro6 := up_kTn k6 r5
  have hPm : HP (lea ns ++ S) := hW.more (fun p hp => ⟨hF.1.hp.vp p hp, hF.1.hp.bd p hp⟩) hF.2.1 hF.2.2
  have hPg := fig_pg hF.1.hp hF.1.fix
  have k06 : Mk K m H H6 := by walk_at "k mk"
  clear k1 k3 k4 k5 k6
  walk_at "k rd"
  · rename_i H7 s7
    have rn7 := up_s (R := Tl K (Nt K)) s7 rn6
    have ro7 := up_s (R := Tl K (Nt K)) s7 ro6
    have rs7 := up_s (R := Tl K (Pt K)) s7 r6
    cases eo : opn ns with
    | false =>
      walk_at "k rd"
      refine ⟨_, _, _, ns, os, S, rfl, rn7, ro7, rs7, ⟨hW, hO, hF.1, hPm⟩, (fun z => by rw [eo] at z; cases z), fun _ H8 l a b s8 e8 ea eb => ?_⟩
      walk_at "k rd"
      rename_i t1 H9 n9 s9 e9 t2 Ha na sa e10 l3 Hb nb sb e11
      refine ⟨rfD, rfD, dp_rf (sb _ _ (sa _ _ (s9 _ _ e8))) (sb _ _ (sa _ _ (s9 _ _ ea))) (sb _ _ (sa _ _ (s9 _ _ eb))), dp_rf e11 (sb _ _ (sa _ _ e9)) (sb _ _ e10), rfD_sh, rfD_sh, ?_⟩
      rw [rfD_eq]
      exact q _ (by walk_at "k mk")
    | true =>
      walk_at "k rd"
      · rename_i H8 u8 s8 r8 p9 H9 n9 s9 e9
        refine x_gnew e9 rfl ?_
        have rn9 := up_s (R := Tl K (Nt K)) s9 (up_s s8 rn7)
        have ro9 := up_s (R := Tl K (Nt K)) s9 (up_s s8 ro7)
        have rs9 := up_s (R := Tl K (Pt K)) s9 (up_s s8 rs7)
        have rl9 := up_s (R := Tl K (Pt K)) s9 r8
        walk_at "k rd"
        refine x_cutM (fun σ' H' => Same H9 H' ∧ ∃ z, σ' = [some (.ref m), some (.int d1), some u4, some u5, some u6, some u8, some (.str (wrd ns S)), none, z]) ?_ fun σ' HM hM => ?_
        · walk_at "k rd"
          refine lc_T (R := Pt K) (xs := S) Rb (hasB (lea ns)) rs9 (by have := hF.2.2; omega) (fun i x ux H' QY hx s r hy => ?_) fun H' v' s n => ?_
          · have rl' := up_s (R := Tl K (Pt K)) s rl9
            walk_at "k rd"
            refine ⟨rfl, ?_⟩
            walk_at "k rd"
            · exact hy _ _ (by walk_at "k sa") rfl
            · exact ⟨hW.pg, hF.1.hp.bd x (List.mem_of_getElem? hx)⟩
          · refine x_inB n.ll ?_
            walk_at "k rd"
            rw [if_pos rfl, not_contains, List.all_map]
            refine x_ite (fun e => ?_) fun e => ?_
            · have e : S.all (hasB (lea ns)) = true := e
              walk_at "k rd"
              refine ⟨s, none, ?_⟩
              unfold wrd
              rw [if_pos e]
              rfl
            · have e : ¬ (S.all (hasB (lea ns)) = true) := fun z => by
                have e : S.all (hasB (lea ns)) = false := e
                rw [z] at e
                cases e
              walk_at "k rd"
              refine x_spb2 (R1 := Tl K (Nt K)) (R2 := Sq K (Pt K)) (up_s s rn9) (.inl (up_s s rs9)) (fun Hb sb => ?_) ⟨hW, hPm⟩
              walk_at "k rd"
              refine x_ite (fun e2 => ?_) fun e2 => ?_
              · walk_at "k rd"
                refine ⟨by walk_at "k sa", none, ?_⟩
                unfold wrd
                rw [if_neg e, if_pos e2]
                rfl
              · walk_at "k rd"
                refine ⟨by walk_at "k sa", none, ?_⟩
                unfold wrd
                rw [if_neg e, if_neg (by rw [e2]; decide)]
                rfl
        · obtain ⟨sM, z, rfl⟩ := hM
          have rnM := up_s (R := Tl K (Nt K)) sM rn9
          have roM := up_s (R := Tl K (Nt K)) sM ro9
          have rsM := up_s (R := Tl K (Pt K)) sM rs9
          walk_at "k rd"
          · rename_i Ha sa l Hb nl sb eb
            have rnb := up_s (R := Tl K (Nt K)) sb (up_s sa rnM)
            have rob := up_s (R := Tl K (Nt K)) sb (up_s sa roM)
            have rsb := up_s (R := Tl K (Pt K)) sb (up_s sa rsM)
            refine ⟨_, _, _, ns, os, S, rfl, rnb, rob, rsb, ⟨hW, hO, hF.1, hPm⟩, (fun _ Hc lc sc ec => ?_), fun z => by rw [eo] at z; cases z⟩
            have eb2 := sc _ _ eb
            have rnc := up_s (R := Tl K (Nt K)) sc rnb
            walk_at "k rd"
            refine x_repr ec (wrd_or ns S) ?_
            walk_at "k rd"
            refine x_repr eb2 (wrd_or ns S) ?_
            walk_at "k rd"
            rw [decide_eq_true rfl]
            walk_at "k rd"
            refine x_callK ?_
            walk_at "k rd"
            show pr_tells_all K cA [u4, u4] _ _ _
            refine ⟨_, _, ns, ns, rfl, rnc, rnc, ⟨hW, hW.on⟩, (fun _ Hd sd => ?_), fun z => by rw [eo] at z; cases z⟩
            walk_at "k rd"
            refine x_isB ?_
            rw [self_told hW eo]
            exact q _ (by walk_at "k mk")
          · exact ⟨hW, hO⟩
      · exact hW
  · exact hW
end
end K87
namespace K87
open PySem PySem.Spec PyProof.Rows L2 K8
/-! ### the whole law -/
def pr_law (K : PySem.W.Frag) : Sp := fun vs H Q _ => ∃ (a : Addr) (ns : List Int), vs = [.ref a] ∧ SqL K H a (ns.map V.int) ∧ ns.length ≤ 1000 ∧ ∀ H', Q (.bl true) H'
section
variable {β : Type} {K : PySem.W.Frag} {σ : L2.St} {H : Hp} {Q : VK} {te : TE} {g : TG} {sl : List Nat}
/-- [f i for i in range(n)], nothing else touched -/
theorem lc_RS {n : Nat} (S : Rel β) [MonoT K S] (P : β → Prop) (hn : n ≤ 100000)
    (hs : ∀ (i : Nat) H' (QY : VK), i < n → Same H H' → (∀ y H4 z, Same H' H4 → S H4 y z → P z → QY y H4) → g (.int (i : Nat)) (wipe σ sl) H' fun σ2 H2 => wipe σ2 sl = wipe σ sl ∧ te σ2 H2 QY)
    (hd : ∀ H' v' zs, Same H H' → zs.length = n → (∀ z ∈ zs, P z) → Nl K S H H' v' zs → Q v' H') : ∃ j : Int, [V.int (n : Int)] = [.int j] ∧ -(2 ^ 62) ≤ j ∧ j < 2 ^ 62 ∧ lcK g tYes te sl σ Q (Itr 0 j.toNat) H := by
  refine ⟨n, rfl, by omega, by omega, ?_⟩
  rw [Int.toNat_natCast]
  refine lc_walk (K := K) walk_range S (fun i z => ∃ y, z = some y ∧ P y) (eok_same H) hn trivial (fun _ _ => trivial) (fun i H x H' y => by rw [y.1]; exact same_refl H) (fun _ _ => trivial) (fun i x H2 H3 QY QN hi e3 g3 y qy qn => ?_) fun H' v' zs e gg hz hT hv => ?_
  · obtain ⟨_, rfl⟩ := y
    have z : (0 : Int) + (i : Nat) = (i : Nat) := by omega
    show g (V.int (0 + (i : Nat))) _ _ _
    rw [z]
    exact hs i H3 QY hi e3 fun y4 H4 z e4 s4 p4 => qy y4 H4 z e4 trivial s4 ⟨z, rfl, p4⟩
  · obtain ⟨l1, l2⟩ := fm_all hz hT
    exact hd H' v' _ e l1 l2 hv
end
section
variable {P : Program} {w : World} {K : PySem.W.Frag} {mg : Str → Option Value} {base : Heap} {nA rA cA : Addr} {f : Addr} {fd : FuncData}
theorem ok_law (T : Ty K mg nA rA) (O_w_right : Ok_w_right P w K mg base) (O_w_mug : Ok_w_mug P w K mg base) (F : FnP K "law" s_law f fd) : FnG P w K mg base 12 f fd ["_law_script"] (pr_law K) := by
  refine FnG.ok F sc_law (fun vs H Q E h => (by obtain ⟨_, _, rfl, _⟩ := h; rfl)) (fun cdv A outer s H vs Q E hg hr h => ?_)
  obtain ⟨a, ns, rfl, hs, hl, q⟩ := h
  have nd := sc_law.nd
  refine ⟨_, PSs.nox (pss_one (ps_ret (pe_callB (cr_all rfl) (by rfl) T.all bt_all (pa_cons (pe_lc (own := [("_law_lap", 1)]) (tt := tYes) rfl nd (pi_range1 rfl T.range (pa_cons (pe_callB (cq_max rfl) (by rfl) T.max bt_max (pa_cons pe_int (pa_cons (pe_callB (cq_min rfl) (by rfl) T.min bt_min (pa_cons (pe_callB cq_len (by rfl) T.len bt_len (pa_cons (pv 0) pa_nil)) (pa_cons pe_int pa_nil))) pa_nil))) pa_nil)) (blkOk_by (N := ["_law_script", "_law_lap"]) (sc := defScope s_law) (by decide +kernel)) (fun _ _ _ _ _ => (pg_name (i := 1) nd rfl (Or.inl rfl))) (fun _ _ _ _ _ => pts_nil) (fun _ _ _ _ _ => (pe_callG O_w_right hg (hr.mono (by decide)) (by rfl) (pa_cons (pe_callO O_w_mug (hr.mono (by decide)) (by rfl) (pa_cons (pv 0) (pa_cons (pv 1) pa_nil))) pa_nil)))) pa_nil)))), ?_⟩
  try dsimp only [cxn_K, cxn_P, cxn_w, cx_K]
  have hL : Ll K Ri H (.ref a) ns := ⟨a, _, rfl, hs, paired_of_int H ns⟩
  walk_at "k rd"
  obtain ⟨c, hc⟩ : ∃ c : Nat, max 1 (min (ns.length : Int) 3) = c := ⟨(max 1 (min (ns.length : Int) 3)).toNat, by omega⟩
  rw [hc]
  refine lc_RS (K := K) Rb (fun b => b = true) (by omega) (fun i H' QY hi s hy => ?_) fun H' v' zs s hz hzs n => ?_
  · walk_at "k rd"
    refine ⟨rfl, ?_⟩
    walk_at "k rd"
    refine ⟨a, ns, _, rfl, s.seq hs, hl, ⟨by omega, by omega⟩, fun H2 m o nm s2 hm ho => ?_⟩
    walk_at "k rd"
    refine ⟨m, o, rfl, hm, ho, fun H3 k3 => ?_⟩
    exact hy _ _ true (fun b x hb => k3.km _ _ (ne_of_none hb nm) (s2 _ _ hb)) rfl rfl
  · walk_at "k rd"
    have e : zs.all id = true := List.all_eq_true.mpr fun z hz => hzs z hz
    rw [e]
    exact q _
end
end K87
namespace K87
open PySem PySem.Spec PyProof.Rows L2 K8
theorem prB_ok {K : PySem.W.Frag} {a : Addr} {i j : Int} (h : prB K a i j = true) (H : Hp) : Pr K H (.ref a) (i, j) := by
  unfold prB at h
  split at h
  · rename_i x tx y ty q
    obtain ⟨o, its, n, h1, h2, h3, h4, h5⟩ := itT_ok q
    obtain ⟨k1, k2⟩ := Bool.and_eq_true_iff.mp h
    have k1 := of_decide_eq_true k1
    have k2 := of_decide_eq_true k2
    subst k1 k2
    exact ⟨a, rfl, .inr ⟨o, its, n, h1, h2, h3, h4, by rw [h5]; exact .cons ⟨_, rfl⟩ (.cons ⟨_, rfl⟩ .nil)⟩⟩
  · cases h
theorem rndB_ok {K : PySem.W.Frag} {a : Addr} (h : rndB K a = true) (H : Hp) : Tl K (Pr K) H (.ref a) [(1, 0), (0, 1), (-1, 0), (0, -1)] := by
  unfold rndB at h
  split at h
  · rename_i b c d e q
    obtain ⟨o, its, n, h1, h2, h3, h4, h5⟩ := itT_ok q
    obtain ⟨k1, k⟩ := Bool.and_eq_true_iff.mp h
    obtain ⟨k2, k⟩ := Bool.and_eq_true_iff.mp k
    obtain ⟨k3, k4⟩ := Bool.and_eq_true_iff.mp k
    exact ⟨a, [.ref b, .ref c, .ref d, .ref e], rfl, .inr ⟨o, its, n, h1, h2, h3, h4, by rw [h5]; exact .cons rfl (.cons rfl (.cons rfl (.cons rfl .nil)))⟩,
      .cons (prB_ok k1 H) (.cons (prB_ok k2 H) (.cons (prB_ok k3 H) (.cons (prB_ok k4 H) .nil)))⟩
  · cases h
theorem bind1 {K : PySem.W.Frag} {x a : Str} {st : Stmt} {f : Addr} {fd : FuncData} (F : FnP K x st f fd) (h : ∀ (kV doc pm : Value) (an : Option Addr) (cdv ct u : Value), bindArgs (PySem.W.fnOf x x (defArgs st) (defBody st) (defScope st) .none kV doc pm an cdv ct) ⟨[u], []⟩ = pure [(a, u)]) : Binds K fd [a] [] :=
  F.bindsN fun kV doc pm an cdv ct us hl => by
    match us, hl with
    | [u], _ => exact h kV doc pm an cdv ct u
theorem bind2 {K : PySem.W.Frag} {x a b : Str} {st : Stmt} {f : Addr} {fd : FuncData} (F : FnP K x st f fd) (h : ∀ (kV doc pm : Value) (an : Option Addr) (cdv ct u v : Value), bindArgs (PySem.W.fnOf x x (defArgs st) (defBody st) (defScope st) .none kV doc pm an cdv ct) ⟨[u, v], []⟩ = pure [(a, u), (b, v)]) : Binds K fd [a, b] [] :=
  F.bindsN fun kV doc pm an cdv ct us hl => by
    match us, hl with
    | [u, v], _ => exact h kV doc pm an cdv ct u v
theorem bind3 {K : PySem.W.Frag} {x a b c : Str} {st : Stmt} {f : Addr} {fd : FuncData} (F : FnP K x st f fd) (h : ∀ (kV doc pm : Value) (an : Option Addr) (cdv ct u v z : Value), bindArgs (PySem.W.fnOf x x (defArgs st) (defBody st) (defScope st) .none kV doc pm an cdv ct) ⟨[u, v, z], []⟩ = pure [(a, u), (b, v), (c, z)]) : Binds K fd [a, b, c] [] :=
  F.bindsN fun kV doc pm an cdv ct us hl => by
    match us, hl with
    | [u, v, z], _ => exact h kV doc pm an cdv ct u v z
theorem kbind_tells {K : PySem.W.Frag} {f : Addr} {fd : FuncData} (F : FnP K "tells_all" s_tells_all f fd) : KBinds K fd ["notes", "others"] ["others", "notes"] swp swp := by
  refine ⟨fun s us ws X hl => ?_, fun r z => swp_rel r z⟩
  obtain ⟨rfl, a, b, rfl⟩ := swp_len hl
  obtain ⟨oc, od, dV, kV, doc, pm, an, cdv, ct, osl, rfl, lk, hcd, hD, hK⟩ := F.ex
  rcases hD with ⟨_, rfl⟩ | ⟨e, _⟩
  · exact BindsTo.of_eq (by rfl)
  · exact absurd rfl e
theorem facts {P : Program} {w : World} {K : PySem.W.Frag} {h : Heap} {mg : Str → Option Value} {f : Addr} (X : K.In h) (G : h.Ns mainGlobals mg) (hfa : mg ("law" : Str) = some (.ref f)) (c : He.SaysX faAll fnAll [] [] exK w h K) :
    ∃ fd : FuncData, (∀ (s : Shared) (v : Value), BindsTo s fd ⟨[v], []⟩ [("_law_script", v)]) ∧ ∀ base : Heap, K.In base → base.Ns mainGlobals mg → FnG P w K mg base 12 f fd ["_law_script"] (pr_law K) := by
  have cd := c.t.d
  obtain ⟨m1, m⟩ := Bool.and_eq_true_iff.mp (show exK K = true from c.more)
  obtain ⟨m2, m⟩ := Bool.and_eq_true_iff.mp m
  obtain ⟨m3, m4⟩ := Bool.and_eq_true_iff.mp m
  obtain ⟨fd_is_whole, F_is_whole⟩ := cd.def_ 0 (d := dd "is_whole" s_is_whole) rfl
  have F_is_whole : FnP K "is_whole" s_is_whole (He.ga K "is_whole") fd_is_whole := F_is_whole
  have g_is_whole : mg "is_whole" = some (.ref (He.ga K "is_whole")) := He.glo_ok X G (cd.fact 0 (f := .glo "is_whole") rfl)
  obtain ⟨fd_are_wholes, F_are_wholes⟩ := cd.def_ 1 (d := dd "are_wholes" s_are_wholes) rfl
  have F_are_wholes : FnP K "are_wholes" s_are_wholes (He.ga K "are_wholes") fd_are_wholes := F_are_wholes
  have g_are_wholes : mg "are_wholes" = some (.ref (He.ga K "are_wholes")) := He.glo_ok X G (cd.fact 1 (f := .glo "are_wholes") rfl)
  obtain ⟨fd_common_divisor, F_common_divisor⟩ := cd.def_ 2 (d := dd "common_divisor" s_common_divisor) rfl
  have F_common_divisor : FnP K "common_divisor" s_common_divisor (He.ga K "common_divisor") fd_common_divisor := F_common_divisor
  have g_common_divisor : mg "common_divisor" = some (.ref (He.ga K "common_divisor")) := He.glo_ok X G (cd.fact 2 (f := .glo "common_divisor") rfl)
  obtain ⟨fd_lowest, F_lowest⟩ := cd.def_ 3 (d := dd "lowest" s_lowest) rfl
  have F_lowest : FnP K "lowest" s_lowest (He.ga K "lowest") fd_lowest := F_lowest
  have g_lowest : mg "lowest" = some (.ref (He.ga K "lowest")) := He.glo_ok X G (cd.fact 3 (f := .glo "lowest") rfl)
  obtain ⟨fd_is_lowest, F_is_lowest⟩ := cd.def_ 4 (d := dd "is_lowest" s_is_lowest) rfl
  have F_is_lowest : FnP K "is_lowest" s_is_lowest (He.ga K "is_lowest") fd_is_lowest := F_is_lowest
  have g_is_lowest : mg "is_lowest" = some (.ref (He.ga K "is_lowest")) := He.glo_ok X G (cd.fact 4 (f := .glo "is_lowest") rfl)
  obtain ⟨fd_is_ratio, F_is_ratio⟩ := cd.def_ 5 (d := dd "is_ratio" s_is_ratio) rfl
  have F_is_ratio : FnP K "is_ratio" s_is_ratio (He.ga K "is_ratio") fd_is_ratio := F_is_ratio
  have g_is_ratio : mg "is_ratio" = some (.ref (He.ga K "is_ratio")) := He.glo_ok X G (cd.fact 5 (f := .glo "is_ratio") rfl)
  obtain ⟨fd_is_length, F_is_length⟩ := cd.def_ 6 (d := dd "is_length" s_is_length) rfl
  have F_is_length : FnP K "is_length" s_is_length (He.ga K "is_length") fd_is_length := F_is_length
  have g_is_length : mg "is_length" = some (.ref (He.ga K "is_length")) := He.glo_ok X G (cd.fact 6 (f := .glo "is_length") rfl)
  obtain ⟨fd_is_vector, F_is_vector⟩ := cd.def_ 7 (d := dd "is_vector" s_is_vector) rfl
  have F_is_vector : FnP K "is_vector" s_is_vector (He.ga K "is_vector") fd_is_vector := F_is_vector
  have g_is_vector : mg "is_vector" = some (.ref (He.ga K "is_vector")) := He.glo_ok X G (cd.fact 7 (f := .glo "is_vector") rfl)
  obtain ⟨fd_vector_over, F_vector_over⟩ := cd.def_ 8 (d := dd "vector_over" s_vector_over) rfl
  have F_vector_over : FnP K "vector_over" s_vector_over (He.ga K "vector_over") fd_vector_over := F_vector_over
  have g_vector_over : mg "vector_over" = some (.ref (He.ga K "vector_over")) := He.glo_ok X G (cd.fact 8 (f := .glo "vector_over") rfl)
  obtain ⟨fd_step_between, F_step_between⟩ := cd.def_ 9 (d := dd "step_between" s_step_between) rfl
  have F_step_between : FnP K "step_between" s_step_between (He.ga K "step_between") fd_step_between := F_step_between
  have g_step_between : mg "step_between" = some (.ref (He.ga K "step_between")) := He.glo_ok X G (cd.fact 9 (f := .glo "step_between") rfl)
  obtain ⟨fd_side_at, F_side_at⟩ := cd.def_ 10 (d := dd "side_at" s_side_at) rfl
  have F_side_at : FnP K "side_at" s_side_at (He.ga K "side_at") fd_side_at := F_side_at
  have g_side_at : mg "side_at" = some (.ref (He.ga K "side_at")) := He.glo_ok X G (cd.fact 10 (f := .glo "side_at") rfl)
  obtain ⟨fd_side_left, F_side_left⟩ := cd.def_ 11 (d := dd "side_left" s_side_left) rfl
  have F_side_left : FnP K "side_left" s_side_left (He.ga K "side_left") fd_side_left := F_side_left
  have g_side_left : mg "side_left" = some (.ref (He.ga K "side_left")) := He.glo_ok X G (cd.fact 11 (f := .glo "side_left") rfl)
  obtain ⟨fd_value_at, F_value_at⟩ := cd.def_ 12 (d := dd "value_at" s_value_at) rfl
  have F_value_at : FnP K "value_at" s_value_at (He.ga K "value_at") fd_value_at := F_value_at
  have g_value_at : mg "value_at" = some (.ref (He.ga K "value_at")) := He.glo_ok X G (cd.fact 12 (f := .glo "value_at") rfl)
  obtain ⟨fd_are_held, F_are_held⟩ := cd.def_ 13 (d := dd "are_held" s_are_held) rfl
  have F_are_held : FnP K "are_held" s_are_held (He.ga K "are_held") fd_are_held := F_are_held
  have g_are_held : mg "are_held" = some (.ref (He.ga K "are_held")) := He.glo_ok X G (cd.fact 13 (f := .glo "are_held") rfl)
  obtain ⟨fd_chain, F_chain⟩ := cd.def_ 14 (d := dd "chain" s_chain) rfl
  have F_chain : FnP K "chain" s_chain (He.ga K "chain") fd_chain := F_chain
  have g_chain : mg "chain" = some (.ref (He.ga K "chain")) := He.glo_ok X G (cd.fact 14 (f := .glo "chain") rfl)
  obtain ⟨fd_is_left, F_is_left⟩ := cd.def_ 15 (d := dd "is_left" s_is_left) rfl
  have F_is_left : FnP K "is_left" s_is_left (He.ga K "is_left") fd_is_left := F_is_left
  have g_is_left : mg "is_left" = some (.ref (He.ga K "is_left")) := He.glo_ok X G (cd.fact 15 (f := .glo "is_left") rfl)
  obtain ⟨fd_hull, F_hull⟩ := cd.def_ 16 (d := dd "hull" s_hull) rfl
  have F_hull : FnP K "hull" s_hull (He.ga K "hull") fd_hull := F_hull
  have g_hull : mg "hull" = some (.ref (He.ga K "hull")) := He.glo_ok X G (cd.fact 16 (f := .glo "hull") rfl)
  obtain ⟨fd_is_shape, F_is_shape⟩ := cd.def_ 17 (d := dd "is_shape" s_is_shape) rfl
  have F_is_shape : FnP K "is_shape" s_is_shape (He.ga K "is_shape") fd_is_shape := F_is_shape
  have g_is_shape : mg "is_shape" = some (.ref (He.ga K "is_shape")) := He.glo_ok X G (cd.fact 17 (f := .glo "is_shape") rfl)
  obtain ⟨fd_next_corner, F_next_corner⟩ := cd.def_ 18 (d := dd "next_corner" s_next_corner) rfl
  have F_next_corner : FnP K "next_corner" s_next_corner (He.ga K "next_corner") fd_next_corner := F_next_corner
  have g_next_corner : mg "next_corner" = some (.ref (He.ga K "next_corner")) := He.glo_ok X G (cd.fact 18 (f := .glo "next_corner") rfl)
  obtain ⟨fd_sides, F_sides⟩ := cd.def_ 19 (d := dd "sides" s_sides) rfl
  have F_sides : FnP K "sides" s_sides (He.ga K "sides") fd_sides := F_sides
  have g_sides : mg "sides" = some (.ref (He.ga K "sides")) := He.glo_ok X G (cd.fact 19 (f := .glo "sides") rfl)
  obtain ⟨fd_has, F_has⟩ := cd.def_ 20 (d := dd "has" s_has) rfl
  have F_has : FnP K "has" s_has (He.ga K "has") fd_has := F_has
  have g_has : mg "has" = some (.ref (He.ga K "has")) := He.glo_ok X G (cd.fact 20 (f := .glo "has") rfl)
  obtain ⟨fd_within, F_within⟩ := cd.def_ 21 (d := dd "within" s_within) rfl
  have F_within : FnP K "within" s_within (He.ga K "within") fd_within := F_within
  have g_within : mg "within" = some (.ref (He.ga K "within")) := He.glo_ok X G (cd.fact 21 (f := .glo "within") rfl)
  obtain ⟨fd_is_sailed, F_is_sailed⟩ := cd.def_ 22 (d := dd "is_sailed" s_is_sailed) rfl
  have F_is_sailed : FnP K "is_sailed" s_is_sailed (He.ga K "is_sailed") fd_is_sailed := F_is_sailed
  have g_is_sailed : mg "is_sailed" = some (.ref (He.ga K "is_sailed")) := He.glo_ok X G (cd.fact 22 (f := .glo "is_sailed") rfl)
  obtain ⟨fd_check_figure, F_check_figure⟩ := cd.def_ 23 (d := dd "check_figure" s_check_figure) rfl
  have F_check_figure : FnP K "check_figure" s_check_figure (He.ga K "check_figure") fd_check_figure := F_check_figure
  have g_check_figure : mg "check_figure" = some (.ref (He.ga K "check_figure")) := He.glo_ok X G (cd.fact 23 (f := .glo "check_figure") rfl)
  obtain ⟨fd_is_note, F_is_note⟩ := cd.def_ 24 (d := dd "is_note" s_is_note) rfl
  have F_is_note : FnP K "is_note" s_is_note (He.ga K "is_note") fd_is_note := F_is_note
  have g_is_note : mg "is_note" = some (.ref (He.ga K "is_note")) := He.glo_ok X G (cd.fact 24 (f := .glo "is_note") rfl)
  obtain ⟨fd_check_notes, F_check_notes⟩ := cd.def_ 25 (d := dd "check_notes" s_check_notes) rfl
  have F_check_notes : FnP K "check_notes" s_check_notes (He.ga K "check_notes") fd_check_notes := F_check_notes
  have g_check_notes : mg "check_notes" = some (.ref (He.ga K "check_notes")) := He.glo_ok X G (cd.fact 25 (f := .glo "check_notes") rfl)
  obtain ⟨fd_noted, F_noted⟩ := cd.def_ 26 (d := dd "noted" s_noted) rfl
  have F_noted : FnP K "noted" s_noted (He.ga K "noted") fd_noted := F_noted
  have g_noted : mg "noted" = some (.ref (He.ga K "noted")) := He.glo_ok X G (cd.fact 26 (f := .glo "noted") rfl)
  obtain ⟨fd_velocities_with, F_velocities_with⟩ := cd.def_ 27 (d := dd "velocities_with" s_velocities_with) rfl
  have F_velocities_with : FnP K "velocities_with" s_velocities_with (He.ga K "velocities_with") fd_velocities_with := F_velocities_with
  have g_velocities_with : mg "velocities_with" = some (.ref (He.ga K "velocities_with")) := He.glo_ok X G (cd.fact 27 (f := .glo "velocities_with") rfl)
  obtain ⟨fd_least, F_least⟩ := cd.def_ 28 (d := dd "least" s_least) rfl
  have F_least : FnP K "least" s_least (He.ga K "least") fd_least := F_least
  have g_least : mg "least" = some (.ref (He.ga K "least")) := He.glo_ok X G (cd.fact 28 (f := .glo "least") rfl)
  obtain ⟨fd_lets, F_lets⟩ := cd.def_ 29 (d := dd "lets" s_lets) rfl
  have F_lets : FnP K "lets" s_lets (He.ga K "lets") fd_lets := F_lets
  have g_lets : mg "lets" = some (.ref (He.ga K "lets")) := He.glo_ok X G (cd.fact 29 (f := .glo "lets") rfl)
  obtain ⟨fd_check_some, F_check_some⟩ := cd.def_ 30 (d := dd "check_some" s_check_some) rfl
  have F_check_some : FnP K "check_some" s_check_some (He.ga K "check_some") fd_check_some := F_check_some
  have g_check_some : mg "check_some" = some (.ref (He.ga K "check_some")) := He.glo_ok X G (cd.fact 30 (f := .glo "check_some") rfl)
  obtain ⟨fd_word_with, F_word_with⟩ := cd.def_ 31 (d := dd "word_with" s_word_with) rfl
  have F_word_with : FnP K "word_with" s_word_with (He.ga K "word_with") fd_word_with := F_word_with
  have g_word_with : mg "word_with" = some (.ref (He.ga K "word_with")) := He.glo_ok X G (cd.fact 31 (f := .glo "word_with") rfl)
  obtain ⟨fd_told_beside, F_told_beside⟩ := cd.def_ 32 (d := dd "told_beside" s_told_beside) rfl
  have F_told_beside : FnP K "told_beside" s_told_beside (He.ga K "told_beside") fd_told_beside := F_told_beside
  have g_told_beside : mg "told_beside" = some (.ref (He.ga K "told_beside")) := He.glo_ok X G (cd.fact 32 (f := .glo "told_beside") rfl)
  obtain ⟨fd_is_told, F_is_told⟩ := cd.def_ 33 (d := dd "is_told" s_is_told) rfl
  have F_is_told : FnP K "is_told" s_is_told (He.ga K "is_told") fd_is_told := F_is_told
  have g_is_told : mg "is_told" = some (.ref (He.ga K "is_told")) := He.glo_ok X G (cd.fact 33 (f := .glo "is_told") rfl)
  obtain ⟨fd_tells_all, F_tells_all⟩ := cd.def_ 34 (d := dd "tells_all" s_tells_all) rfl
  have F_tells_all : FnP K "tells_all" s_tells_all (He.ga K "tells_all") fd_tells_all := F_tells_all
  have g_tells_all : mg "tells_all" = some (.ref (He.ga K "tells_all")) := He.glo_ok X G (cd.fact 34 (f := .glo "tells_all") rfl)
  obtain ⟨fd_w_mug, F_w_mug⟩ := cd.def_ 35 (d := dd "_law_mug" s_w_mug) rfl
  have F_w_mug : FnP K "_law_mug" s_w_mug (He.ga K "_law_mug") fd_w_mug := F_w_mug
  have g_w_mug : mg "_law_mug" = some (.ref (He.ga K "_law_mug")) := He.glo_ok X G (cd.fact 35 (f := .glo "_law_mug") rfl)
  obtain ⟨fd_w_dip, F_w_dip⟩ := cd.def_ 36 (d := dd "_law_dip" s_w_dip) rfl
  have F_w_dip : FnP K "_law_dip" s_w_dip (He.ga K "_law_dip") fd_w_dip := F_w_dip
  have g_w_dip : mg "_law_dip" = some (.ref (He.ga K "_law_dip")) := He.glo_ok X G (cd.fact 36 (f := .glo "_law_dip") rfl)
  obtain ⟨fd_w_pick, F_w_pick⟩ := cd.def_ 37 (d := dd "_law_pick" s_w_pick) rfl
  have F_w_pick : FnP K "_law_pick" s_w_pick (He.ga K "_law_pick") fd_w_pick := F_w_pick
  have g_w_pick : mg "_law_pick" = some (.ref (He.ga K "_law_pick")) := He.glo_ok X G (cd.fact 37 (f := .glo "_law_pick") rfl)
  obtain ⟨fd_w_whole, F_w_whole⟩ := cd.def_ 38 (d := dd "_law_whole" s_w_whole) rfl
  have F_w_whole : FnP K "_law_whole" s_w_whole (He.ga K "_law_whole") fd_w_whole := F_w_whole
  have g_w_whole : mg "_law_whole" = some (.ref (He.ga K "_law_whole")) := He.glo_ok X G (cd.fact 38 (f := .glo "_law_whole") rfl)
  obtain ⟨fd_w_gcd, F_w_gcd⟩ := cd.def_ 39 (d := dd "_law_gcd" s_w_gcd) rfl
  have F_w_gcd : FnP K "_law_gcd" s_w_gcd (He.ga K "_law_gcd") fd_w_gcd := F_w_gcd
  have g_w_gcd : mg "_law_gcd" = some (.ref (He.ga K "_law_gcd")) := He.glo_ok X G (cd.fact 39 (f := .glo "_law_gcd") rfl)
  obtain ⟨fd_w_ratio, F_w_ratio⟩ := cd.def_ 40 (d := dd "_law_ratio" s_w_ratio) rfl
  have F_w_ratio : FnP K "_law_ratio" s_w_ratio (He.ga K "_law_ratio") fd_w_ratio := F_w_ratio
  have g_w_ratio : mg "_law_ratio" = some (.ref (He.ga K "_law_ratio")) := He.glo_ok X G (cd.fact 40 (f := .glo "_law_ratio") rfl)
  obtain ⟨fd_w_spot, F_w_spot⟩ := cd.def_ 41 (d := dd "_law_spot" s_w_spot) rfl
  have F_w_spot : FnP K "_law_spot" s_w_spot (He.ga K "_law_spot") fd_w_spot := F_w_spot
  have g_w_spot : mg "_law_spot" = some (.ref (He.ga K "_law_spot")) := He.glo_ok X G (cd.fact 41 (f := .glo "_law_spot") rfl)
  obtain ⟨fd_w_sum, F_w_sum⟩ := cd.def_ 42 (d := dd "_law_sum" s_w_sum) rfl
  have F_w_sum : FnP K "_law_sum" s_w_sum (He.ga K "_law_sum") fd_w_sum := F_w_sum
  have g_w_sum : mg "_law_sum" = some (.ref (He.ga K "_law_sum")) := He.glo_ok X G (cd.fact 42 (f := .glo "_law_sum") rfl)
  obtain ⟨fd_w_anti, F_w_anti⟩ := cd.def_ 43 (d := dd "_law_anti" s_w_anti) rfl
  have F_w_anti : FnP K "_law_anti" s_w_anti (He.ga K "_law_anti") fd_w_anti := F_w_anti
  have g_w_anti : mg "_law_anti" = some (.ref (He.ga K "_law_anti")) := He.glo_ok X G (cd.fact 43 (f := .glo "_law_anti") rfl)
  obtain ⟨fd_w_less, F_w_less⟩ := cd.def_ 44 (d := dd "_law_less" s_w_less) rfl
  have F_w_less : FnP K "_law_less" s_w_less (He.ga K "_law_less") fd_w_less := F_w_less
  have g_w_less : mg "_law_less" = some (.ref (He.ga K "_law_less")) := He.glo_ok X G (cd.fact 44 (f := .glo "_law_less") rfl)
  obtain ⟨fd_w_led, F_w_led⟩ := cd.def_ 45 (d := dd "_law_led" s_w_led) rfl
  have F_w_led : FnP K "_law_led" s_w_led (He.ga K "_law_led") fd_w_led := F_w_led
  have g_w_led : mg "_law_led" = some (.ref (He.ga K "_law_led")) := He.glo_ok X G (cd.fact 45 (f := .glo "_law_led") rfl)
  obtain ⟨fd_w_bend, F_w_bend⟩ := cd.def_ 46 (d := dd "_law_bend" s_w_bend) rfl
  have F_w_bend : FnP K "_law_bend" s_w_bend (He.ga K "_law_bend") fd_w_bend := F_w_bend
  have g_w_bend : mg "_law_bend" = some (.ref (He.ga K "_law_bend")) := He.glo_ok X G (cd.fact 46 (f := .glo "_law_bend") rfl)
  obtain ⟨fd_w_hull, F_w_hull⟩ := cd.def_ 47 (d := dd "_law_hull" s_w_hull) rfl
  have F_w_hull : FnP K "_law_hull" s_w_hull (He.ga K "_law_hull") fd_w_hull := F_w_hull
  have g_w_hull : mg "_law_hull" = some (.ref (He.ga K "_law_hull")) := He.glo_ok X G (cd.fact 47 (f := .glo "_law_hull") rfl)
  obtain ⟨fd_w_high, F_w_high⟩ := cd.def_ 48 (d := dd "_law_high" s_w_high) rfl
  have F_w_high : FnP K "_law_high" s_w_high (He.ga K "_law_high") fd_w_high := F_w_high
  have g_w_high : mg "_law_high" = some (.ref (He.ga K "_law_high")) := He.glo_ok X G (cd.fact 48 (f := .glo "_law_high") rfl)
  obtain ⟨fd_w_side, F_w_side⟩ := cd.def_ 49 (d := dd "_law_side" s_w_side) rfl
  have F_w_side : FnP K "_law_side" s_w_side (He.ga K "_law_side") fd_w_side := F_w_side
  have g_w_side : mg "_law_side" = some (.ref (He.ga K "_law_side")) := He.glo_ok X G (cd.fact 49 (f := .glo "_law_side") rfl)
  obtain ⟨fd_w_normals, F_w_normals⟩ := cd.def_ 50 (d := dd "_law_normals" s_w_normals) rfl
  have F_w_normals : FnP K "_law_normals" s_w_normals (He.ga K "_law_normals") fd_w_normals := F_w_normals
  have g_w_normals : mg "_law_normals" = some (.ref (He.ga K "_law_normals")) := He.glo_ok X G (cd.fact 50 (f := .glo "_law_normals") rfl)
  obtain ⟨fd_w_sides, F_w_sides⟩ := cd.def_ 51 (d := dd "_law_sides" s_w_sides) rfl
  have F_w_sides : FnP K "_law_sides" s_w_sides (He.ga K "_law_sides") fd_w_sides := F_w_sides
  have g_w_sides : mg "_law_sides" = some (.ref (He.ga K "_law_sides")) := He.glo_ok X G (cd.fact 51 (f := .glo "_law_sides") rfl)
  obtain ⟨fd_w_over, F_w_over⟩ := cd.def_ 52 (d := dd "_law_over" s_w_over) rfl
  have F_w_over : FnP K "_law_over" s_w_over (He.ga K "_law_over") fd_w_over := F_w_over
  have g_w_over : mg "_law_over" = some (.ref (He.ga K "_law_over")) := He.glo_ok X G (cd.fact 52 (f := .glo "_law_over") rfl)
  obtain ⟨fd_w_has, F_w_has⟩ := cd.def_ 53 (d := dd "_law_has" s_w_has) rfl
  have F_w_has : FnP K "_law_has" s_w_has (He.ga K "_law_has") fd_w_has := F_w_has
  have g_w_has : mg "_law_has" = some (.ref (He.ga K "_law_has")) := He.glo_ok X G (cd.fact 53 (f := .glo "_law_has") rfl)
  obtain ⟨fd_w_grown, F_w_grown⟩ := cd.def_ 54 (d := dd "_law_grown" s_w_grown) rfl
  have F_w_grown : FnP K "_law_grown" s_w_grown (He.ga K "_law_grown") fd_w_grown := F_w_grown
  have g_w_grown : mg "_law_grown" = some (.ref (He.ga K "_law_grown")) := He.glo_ok X G (cd.fact 54 (f := .glo "_law_grown") rfl)
  obtain ⟨fd_w_point, F_w_point⟩ := cd.def_ 55 (d := dd "_law_point" s_w_point) rfl
  have F_w_point : FnP K "_law_point" s_w_point (He.ga K "_law_point") fd_w_point := F_w_point
  have g_w_point : mg "_law_point" = some (.ref (He.ga K "_law_point")) := He.glo_ok X G (cd.fact 55 (f := .glo "_law_point") rfl)
  obtain ⟨fd_w_frame, F_w_frame⟩ := cd.def_ 56 (d := dd "_law_frame" s_w_frame) rfl
  have F_w_frame : FnP K "_law_frame" s_w_frame (He.ga K "_law_frame") fd_w_frame := F_w_frame
  have g_w_frame : mg "_law_frame" = some (.ref (He.ga K "_law_frame")) := He.glo_ok X G (cd.fact 56 (f := .glo "_law_frame") rfl)
  obtain ⟨fd_w_span, F_w_span⟩ := cd.def_ 57 (d := dd "_law_span" s_w_span) rfl
  have F_w_span : FnP K "_law_span" s_w_span (He.ga K "_law_span") fd_w_span := F_w_span
  have g_w_span : mg "_law_span" = some (.ref (He.ga K "_law_span")) := He.glo_ok X G (cd.fact 57 (f := .glo "_law_span") rfl)
  obtain ⟨fd_w_wide, F_w_wide⟩ := cd.def_ 58 (d := dd "_law_wide" s_w_wide) rfl
  have F_w_wide : FnP K "_law_wide" s_w_wide (He.ga K "_law_wide") fd_w_wide := F_w_wide
  have g_w_wide : mg "_law_wide" = some (.ref (He.ga K "_law_wide")) := He.glo_ok X G (cd.fact 58 (f := .glo "_law_wide") rfl)
  obtain ⟨fd_w_between, F_w_between⟩ := cd.def_ 59 (d := dd "_law_between" s_w_between) rfl
  have F_w_between : FnP K "_law_between" s_w_between (He.ga K "_law_between") fd_w_between := F_w_between
  have g_w_between : mg "_law_between" = some (.ref (He.ga K "_law_between")) := He.glo_ok X G (cd.fact 59 (f := .glo "_law_between") rfl)
  obtain ⟨fd_w_log, F_w_log⟩ := cd.def_ 60 (d := dd "_law_log" s_w_log) rfl
  have F_w_log : FnP K "_law_log" s_w_log (He.ga K "_law_log") fd_w_log := F_w_log
  have g_w_log : mg "_law_log" = some (.ref (He.ga K "_law_log")) := He.glo_ok X G (cd.fact 60 (f := .glo "_law_log") rfl)
  obtain ⟨fd_w_pace, F_w_pace⟩ := cd.def_ 61 (d := dd "_law_pace" s_w_pace) rfl
  have F_w_pace : FnP K "_law_pace" s_w_pace (He.ga K "_law_pace") fd_w_pace := F_w_pace
  have g_w_pace : mg "_law_pace" = some (.ref (He.ga K "_law_pace")) := He.glo_ok X G (cd.fact 61 (f := .glo "_law_pace") rfl)
  obtain ⟨fd_w_paces, F_w_paces⟩ := cd.def_ 62 (d := dd "_law_paces" s_w_paces) rfl
  have F_w_paces : FnP K "_law_paces" s_w_paces (He.ga K "_law_paces") fd_w_paces := F_w_paces
  have g_w_paces : mg "_law_paces" = some (.ref (He.ga K "_law_paces")) := He.glo_ok X G (cd.fact 62 (f := .glo "_law_paces") rfl)
  obtain ⟨fd_w_least, F_w_least⟩ := cd.def_ 63 (d := dd "_law_least" s_w_least) rfl
  have F_w_least : FnP K "_law_least" s_w_least (He.ga K "_law_least") fd_w_least := F_w_least
  have g_w_least : mg "_law_least" = some (.ref (He.ga K "_law_least")) := He.glo_ok X G (cd.fact 63 (f := .glo "_law_least") rfl)
  obtain ⟨fd_w_is_open, F_w_is_open⟩ := cd.def_ 64 (d := dd "_law_is_open" s_w_is_open) rfl
  have F_w_is_open : FnP K "_law_is_open" s_w_is_open (He.ga K "_law_is_open") fd_w_is_open := F_w_is_open
  have g_w_is_open : mg "_law_is_open" = some (.ref (He.ga K "_law_is_open")) := He.glo_ok X G (cd.fact 64 (f := .glo "_law_is_open") rfl)
  obtain ⟨fd_w_bars, F_w_bars⟩ := cd.def_ 65 (d := dd "_law_bars" s_w_bars) rfl
  have F_w_bars : FnP K "_law_bars" s_w_bars (He.ga K "_law_bars") fd_w_bars := F_w_bars
  have g_w_bars : mg "_law_bars" = some (.ref (He.ga K "_law_bars")) := He.glo_ok X G (cd.fact 65 (f := .glo "_law_bars") rfl)
  obtain ⟨fd_w_word_of, F_w_word_of⟩ := cd.def_ 66 (d := dd "_law_word_of" s_w_word_of) rfl
  have F_w_word_of : FnP K "_law_word_of" s_w_word_of (He.ga K "_law_word_of") fd_w_word_of := F_w_word_of
  have g_w_word_of : mg "_law_word_of" = some (.ref (He.ga K "_law_word_of")) := He.glo_ok X G (cd.fact 66 (f := .glo "_law_word_of") rfl)
  obtain ⟨fd_w_near, F_w_near⟩ := cd.def_ 67 (d := dd "_law_near" s_w_near) rfl
  have F_w_near : FnP K "_law_near" s_w_near (He.ga K "_law_near") fd_w_near := F_w_near
  have g_w_near : mg "_law_near" = some (.ref (He.ga K "_law_near")) := He.glo_ok X G (cd.fact 67 (f := .glo "_law_near") rfl)
  obtain ⟨fd_w_told, F_w_told⟩ := cd.def_ 68 (d := dd "_law_told" s_w_told) rfl
  have F_w_told : FnP K "_law_told" s_w_told (He.ga K "_law_told") fd_w_told := F_w_told
  have g_w_told : mg "_law_told" = some (.ref (He.ga K "_law_told")) := He.glo_ok X G (cd.fact 68 (f := .glo "_law_told") rfl)
  obtain ⟨fd_w_all_told, F_w_all_told⟩ := cd.def_ 69 (d := dd "_law_all_told" s_w_all_told) rfl
  have F_w_all_told : FnP K "_law_all_told" s_w_all_told (He.ga K "_law_all_told") fd_w_all_told := F_w_all_told
  have g_w_all_told : mg "_law_all_told" = some (.ref (He.ga K "_law_all_told")) := He.glo_ok X G (cd.fact 69 (f := .glo "_law_all_told") rfl)
  obtain ⟨fd_w_others, F_w_others⟩ := cd.def_ 70 (d := dd "_law_others" s_w_others) rfl
  have F_w_others : FnP K "_law_others" s_w_others (He.ga K "_law_others") fd_w_others := F_w_others
  have g_w_others : mg "_law_others" = some (.ref (He.ga K "_law_others")) := He.glo_ok X G (cd.fact 70 (f := .glo "_law_others") rfl)
  obtain ⟨fd_w_boat, F_w_boat⟩ := cd.def_ 71 (d := dd "_law_boat" s_w_boat) rfl
  have F_w_boat : FnP K "_law_boat" s_w_boat (He.ga K "_law_boat") fd_w_boat := F_w_boat
  have g_w_boat : mg "_law_boat" = some (.ref (He.ga K "_law_boat")) := He.glo_ok X G (cd.fact 71 (f := .glo "_law_boat") rfl)
  obtain ⟨fd_w_right, F_w_right⟩ := cd.def_ 72 (d := dd "_law_right" s_w_right) rfl
  have F_w_right : FnP K "_law_right" s_w_right (He.ga K "_law_right") fd_w_right := F_w_right
  have g_w_right : mg "_law_right" = some (.ref (He.ga K "_law_right")) := He.glo_ok X G (cd.fact 72 (f := .glo "_law_right") rfl)
  obtain ⟨fd_law, F_law⟩ := cd.def_ 73 (d := dd "law" s_law) rfl
  have F_law : FnP K "law" s_law (He.ga K "law") fd_law := F_law
  have g_law : mg "law" = some (.ref (He.ga K "law")) := He.glo_ok X G (cd.fact 73 (f := .glo "law") rfl)
  have z_abs : mg "abs" = none := He.free_ok X G (cd.fact 74 (f := .free "abs") rfl)
  have z_all : mg "all" = none := He.free_ok X G (cd.fact 75 (f := .free "all") rfl)
  have z_any : mg "any" = none := He.free_ok X G (cd.fact 76 (f := .free "any") rfl)
  have z_bool : mg "bool" = none := He.free_ok X G (cd.fact 77 (f := .free "bool") rfl)
  have z_divmod : mg "divmod" = none := He.free_ok X G (cd.fact 78 (f := .free "divmod") rfl)
  have z_enumerate : mg "enumerate" = none := He.free_ok X G (cd.fact 79 (f := .free "enumerate") rfl)
  have z_int : mg "int" = none := He.free_ok X G (cd.fact 80 (f := .free "int") rfl)
  have z_isinstance : mg "isinstance" = none := He.free_ok X G (cd.fact 81 (f := .free "isinstance") rfl)
  have z_len : mg "len" = none := He.free_ok X G (cd.fact 82 (f := .free "len") rfl)
  have z_list : mg "list" = none := He.free_ok X G (cd.fact 83 (f := .free "list") rfl)
  have z_max : mg "max" = none := He.free_ok X G (cd.fact 84 (f := .free "max") rfl)
  have z_min : mg "min" = none := He.free_ok X G (cd.fact 85 (f := .free "min") rfl)
  have z_range : mg "range" = none := He.free_ok X G (cd.fact 86 (f := .free "range") rfl)
  have z_repr : mg "repr" = none := He.free_ok X G (cd.fact 87 (f := .free "repr") rfl)
  have z_set : mg "set" = none := He.free_ok X G (cd.fact 88 (f := .free "set") rfl)
  have z_sorted : mg "sorted" = none := He.free_ok X G (cd.fact 89 (f := .free "sorted") rfl)
  have z_str : mg "str" = none := He.free_ok X G (cd.fact 90 (f := .free "str") rfl)
  have z_sum : mg "sum" = none := He.free_ok X G (cd.fact 91 (f := .free "sum") rfl)
  have z_tuple : mg "tuple" = none := He.free_ok X G (cd.fact 92 (f := .free "tuple") rfl)
  have gN : mg "NOUGHT" = some (.ref (He.ga K "NOUGHT")) := He.glo_ok X G (cd.fact 93 (f := .glo "NOUGHT") rfl)
  have gR : mg "ROUND" = some (.ref (He.ga K "ROUND")) := He.glo_ok X G (cd.fact 94 (f := .glo "ROUND") rfl)
  have gM := He.int_ok X G (cd.fact 95 (f := .int "MOST_NOTES" 12) rfl)
  have gE : mg "NoFigureFits" = some (.ref (He.ga K "NoFigureFits")) := He.glo_ok X G (cd.fact 96 (f := .glo "NoFigureFits") rfl)
  obtain ⟨x1, x2, x3, x4⟩ := He.exc_ok (cd.fact 97 (f := .exc "NoFigureFits") rfl)
  have x5 := He.exm_ok (cd.fact 98 (f := .exm "NoFigureFits" "NoFigureFits" true) rfl)
  have gG : mg "gcd" = some (.builtin "math.gcd") := PySem.W.mg_of X G (of_decide_eq_true m1)
  have gL : mg "lcm" = some (.builtin "math.lcm") := PySem.W.mg_of X G (of_decide_eq_true m2)
  have T : Ty K mg (He.ga K "NOUGHT") (He.ga K "ROUND") := { abs := z_abs, all := z_all, any := z_any, bool := z_bool, divmod := z_divmod, enumerate := z_enumerate, int := z_int, isinstance := z_isinstance, len := z_len, list := z_list, max := z_max, min := z_min, range := z_range, repr := z_repr, set := z_set, sorted := z_sorted, str := z_str, sum := z_sum, tuple := z_tuple, gcd := gG, lcm := gL, nought := gN, noughtT := fun H => ⟨_, rfl, He.tupB_ok m3 H⟩, round := gR, roundT := fun H => rndB_ok m4 H, most := gM }
  have Z : Tn K mg (He.ga K "NoFigureFits") := ⟨gE, x1, x2, x3, x4, x5⟩
  have e := hfa.symm.trans g_law
  cases e
  have bL := FunD.bindsA (ps := ["_law_script"]) F_law fun _ _ _ _ _ _ us hl => match us, hl with | [_], _ => rfl
  refine ⟨fd_law, fun s v => bL s [v] rfl, fun base _ _ => ?_⟩
  have O_is_whole : Ok_is_whole P w K mg base := okd_of F_is_whole g_is_whole (bind1 F_is_whole (fun _ _ _ _ _ _ _ => rfl)) (ok_is_whole (T := T)  (F := F_is_whole))
  have O_common_divisor : Ok_common_divisor P w K mg base := okd_of F_common_divisor g_common_divisor (bind1 F_common_divisor (fun _ _ _ _ _ _ _ => rfl)) (ok_common_divisor (T := T)  (F := F_common_divisor))
  have O_step_between : Ok_step_between P w K mg base := okd_of F_step_between g_step_between (bind2 F_step_between (fun _ _ _ _ _ _ _ _ => rfl)) (ok_step_between (T := T)  (F := F_step_between))
  have O_value_at : Ok_value_at P w K mg base := okd_of F_value_at g_value_at (bind2 F_value_at (fun _ _ _ _ _ _ _ _ => rfl)) (ok_value_at (T := T)  (F := F_value_at))
  have O_is_left : Ok_is_left P w K mg base := okd_of F_is_left g_is_left (bind3 F_is_left (fun _ _ _ _ _ _ _ _ _ => rfl)) (ok_is_left (T := T)  (F := F_is_left))
  have O_next_corner : Ok_next_corner P w K mg base := okd_of F_next_corner g_next_corner (bind2 F_next_corner (fun _ _ _ _ _ _ _ _ => rfl)) (ok_next_corner (T := T)  (F := F_next_corner))
  have O_w_mug : Ok_w_mug P w K mg base := okd_of F_w_mug g_w_mug (bind2 F_w_mug (fun _ _ _ _ _ _ _ _ => rfl)) (ok_w_mug (T := T)  (F := F_w_mug))
  have O_w_dip : Ok_w_dip P w K mg base := okd_of F_w_dip g_w_dip (bind2 F_w_dip (fun _ _ _ _ _ _ _ _ => rfl)) (ok_w_dip (T := T)  (F := F_w_dip))
  have O_w_gcd : Ok_w_gcd P w K mg base := okd_of F_w_gcd g_w_gcd (bind2 F_w_gcd (fun _ _ _ _ _ _ _ _ => rfl)) (ok_w_gcd (T := T)  (F := F_w_gcd))
  have O_w_anti : Ok_w_anti P w K mg base := okd_of F_w_anti g_w_anti (bind1 F_w_anti (fun _ _ _ _ _ _ _ => rfl)) (ok_w_anti (T := T)  (F := F_w_anti))
  have O_w_bend : Ok_w_bend P w K mg base := okd_of F_w_bend g_w_bend (bind3 F_w_bend (fun _ _ _ _ _ _ _ _ _ => rfl)) (ok_w_bend (T := T)  (F := F_w_bend))
  have O_w_high : Ok_w_high P w K mg base := okd_of F_w_high g_w_high (bind3 F_w_high (fun _ _ _ _ _ _ _ _ _ => rfl)) (ok_w_high (T := T)  (F := F_w_high))
  have O_w_normals : Ok_w_normals P w K mg base := okd_of F_w_normals g_w_normals (bind1 F_w_normals (fun _ _ _ _ _ _ _ => rfl)) (ok_w_normals (T := T)  (F := F_w_normals))
  have O_w_over : Ok_w_over P w K mg base := okd_of F_w_over g_w_over (bind2 F_w_over (fun _ _ _ _ _ _ _ _ => rfl)) (ok_w_over (T := T)  (F := F_w_over))
  have O_are_wholes : Ok_are_wholes P w K mg base := okd_of F_are_wholes g_are_wholes (bind2 F_are_wholes (fun _ _ _ _ _ _ _ _ => rfl)) (ok_are_wholes (T := T) (O_is_whole := O_is_whole) (F := F_are_wholes))
  have O_lowest : Ok_lowest P w K mg base := okd_of F_lowest g_lowest (bind1 F_lowest (fun _ _ _ _ _ _ _ => rfl)) (ok_lowest (T := T) (O_common_divisor := O_common_divisor) (F := F_lowest))
  have O_is_lowest : Ok_is_lowest P w K mg base := okd_of F_is_lowest g_is_lowest (bind1 F_is_lowest (fun _ _ _ _ _ _ _ => rfl)) (ok_is_lowest (T := T) (O_common_divisor := O_common_divisor) (F := F_is_lowest))
  have O_are_held : Ok_are_held P w K mg base := okd_of F_are_held g_are_held (bind2 F_are_held (fun _ _ _ _ _ _ _ _ => rfl)) (ok_are_held (T := T) (O_value_at := O_value_at) (F := F_are_held))
  have O_chain : Ok_chain P w K mg base := okd_of F_chain g_chain (bind1 F_chain (fun _ _ _ _ _ _ _ => rfl)) (ok_chain (T := T) (O_is_left := O_is_left) (F := F_chain))
  have O_w_pick : Ok_w_pick P w K mg base := okd_of F_w_pick g_w_pick (bind2 F_w_pick (fun _ _ _ _ _ _ _ _ => rfl)) (ok_w_pick (T := T) (O_w_dip := O_w_dip) (F := F_w_pick))
  have O_w_whole : Ok_w_whole P w K mg base := okd_of F_w_whole g_w_whole (bind2 F_w_whole (fun _ _ _ _ _ _ _ _ => rfl)) (ok_w_whole (T := T) (O_w_dip := O_w_dip) (F := F_w_whole))
  have O_w_ratio : Ok_w_ratio P w K mg base := okd_of F_w_ratio g_w_ratio (bind2 F_w_ratio (fun _ _ _ _ _ _ _ _ => rfl)) (ok_w_ratio (T := T) (O_w_gcd := O_w_gcd) (F := F_w_ratio))
  have O_w_spot : Ok_w_spot P w K mg base := okd_of F_w_spot g_w_spot (bind3 F_w_spot (fun _ _ _ _ _ _ _ _ _ => rfl)) (ok_w_spot (T := T) (O_w_gcd := O_w_gcd) (F := F_w_spot))
  have O_w_side : Ok_w_side P w K mg base := okd_of F_w_side g_w_side (bind3 F_w_side (fun _ _ _ _ _ _ _ _ _ => rfl)) (ok_w_side (T := T) (O_w_high := O_w_high) (O_w_gcd := O_w_gcd) (F := F_w_side))
  have O_is_ratio : Ok_is_ratio P w K mg base := okd_of F_is_ratio g_is_ratio (bind1 F_is_ratio (fun _ _ _ _ _ _ _ => rfl)) (ok_is_ratio (T := T) (O_is_lowest := O_is_lowest) (O_are_wholes := O_are_wholes) (F := F_is_ratio))
  have O_is_vector : Ok_is_vector P w K mg base := okd_of F_is_vector g_is_vector (bind1 F_is_vector (fun _ _ _ _ _ _ _ => rfl)) (ok_is_vector (T := T) (O_is_lowest := O_is_lowest) (O_are_wholes := O_are_wholes) (F := F_is_vector))
  have O_vector_over : Ok_vector_over P w K mg base := okd_of F_vector_over g_vector_over (bind2 F_vector_over (fun _ _ _ _ _ _ _ _ => rfl)) (ok_vector_over (T := T) (O_lowest := O_lowest) (F := F_vector_over))
  have O_side_at : Ok_side_at P w K mg base := okd_of F_side_at g_side_at (bind2 F_side_at (fun _ _ _ _ _ _ _ _ => rfl)) (ok_side_at (T := T) (O_lowest := O_lowest) (F := F_side_at))
  have O_hull : Ok_hull P w K mg base := okd_of F_hull g_hull (bind1 F_hull (fun _ _ _ _ _ _ _ => rfl)) (ok_hull (T := T) (O_chain := O_chain) (O_lowest := O_lowest) (F := F_hull))
  have O_w_sum : Ok_w_sum P w K mg base := okd_of F_w_sum g_w_sum (bind2 F_w_sum (fun _ _ _ _ _ _ _ _ => rfl)) (ok_w_sum (T := T) (O_w_spot := O_w_spot) (F := F_w_sum))
  have O_w_led : Ok_w_led P w K mg base := okd_of F_w_led g_w_led (bind2 F_w_led (fun _ _ _ _ _ _ _ _ => rfl)) (ok_w_led (T := T) (O_w_spot := O_w_spot) (F := F_w_led))
  have O_w_hull : Ok_w_hull P w K mg base := okd_of F_w_hull g_w_hull (bind1 F_w_hull (fun _ _ _ _ _ _ _ => rfl)) (ok_w_hull (T := T) (O_w_gcd := O_w_gcd) (O_w_bend := O_w_bend) (O_w_spot := O_w_spot) (F := F_w_hull))
  have O_w_sides : Ok_w_sides P w K mg base := okd_of F_w_sides g_w_sides (bind1 F_w_sides (fun _ _ _ _ _ _ _ => rfl)) (ok_w_sides (T := T) (O_w_normals := O_w_normals) (O_w_side := O_w_side) (F := F_w_sides))
  have O_w_point : Ok_w_point P w K mg base := okd_of F_w_point g_w_point (bind2 F_w_point (fun _ _ _ _ _ _ _ _ => rfl)) (ok_w_point (T := T) (O_w_pick := O_w_pick) (O_w_spot := O_w_spot) (O_w_whole := O_w_whole) (F := F_w_point))
  have O_w_span : Ok_w_span P w K mg base := okd_of F_w_span g_w_span (bind1 F_w_span (fun _ _ _ _ _ _ _ => rfl)) (ok_w_span (T := T) (O_w_ratio := O_w_ratio) (O_w_pick := O_w_pick) (O_w_dip := O_w_dip) (F := F_w_span))
  have O_w_wide : Ok_w_wide P w K mg base := okd_of F_w_wide g_w_wide (bind1 F_w_wide (fun _ _ _ _ _ _ _ => rfl)) (ok_w_wide (T := T) (O_w_pick := O_w_pick) (F := F_w_wide))
  have O_is_length : Ok_is_length P w K mg base := okd_of F_is_length g_is_length (bind1 F_is_length (fun _ _ _ _ _ _ _ => rfl)) (ok_is_length (T := T) (O_is_ratio := O_is_ratio) (F := F_is_length))
  have O_side_left : Ok_side_left P w K mg base := okd_of F_side_left g_side_left (bind2 F_side_left (fun _ _ _ _ _ _ _ _ => rfl)) (ok_side_left (T := T) (O_step_between := O_step_between) (O_side_at := O_side_at) (F := F_side_left))
  have O_is_shape : Ok_is_shape P w K mg base := okd_of F_is_shape g_is_shape (bind1 F_is_shape (fun _ _ _ _ _ _ _ => rfl)) (ok_is_shape (T := T) (O_is_vector := O_is_vector) (O_hull := O_hull) (F := F_is_shape))
  have O_noted : Ok_noted P w K mg base := okd_of F_noted g_noted (bind1 F_noted (fun _ _ _ _ _ _ _ => rfl)) (ok_noted (T := T) (O_vector_over := O_vector_over) (F := F_noted))
  have O_w_less : Ok_w_less P w K mg base := okd_of F_w_less g_w_less (bind2 F_w_less (fun _ _ _ _ _ _ _ _ => rfl)) (ok_w_less (T := T) (O_w_sum := O_w_sum) (O_w_anti := O_w_anti) (F := F_w_less))
  have O_w_has : Ok_w_has P w K mg base := okd_of F_w_has g_w_has (bind2 F_w_has (fun _ _ _ _ _ _ _ _ => rfl)) (ok_w_has (T := T) (O_w_sides := O_w_sides) (O_w_over := O_w_over) (F := F_w_has))
  have O_w_grown : Ok_w_grown P w K mg base := okd_of F_w_grown g_w_grown (bind2 F_w_grown (fun _ _ _ _ _ _ _ _ => rfl)) (ok_w_grown (T := T) (O_w_hull := O_w_hull) (O_w_led := O_w_led) (F := F_w_grown))
  have O_w_frame : Ok_w_frame P w K mg base := okd_of F_w_frame g_w_frame (bind2 F_w_frame (fun _ _ _ _ _ _ _ _ => rfl)) (ok_w_frame (T := T) (O_w_dip := O_w_dip) (O_w_point := O_w_point) (O_w_hull := O_w_hull) (F := F_w_frame))
  have O_w_between : Ok_w_between P w K mg base := okd_of F_w_between g_w_between (bind2 F_w_between (fun _ _ _ _ _ _ _ _ => rfl)) (ok_w_between (T := T) (O_w_dip := O_w_dip) (O_w_pick := O_w_pick) (O_w_sum := O_w_sum) (O_w_led := O_w_led) (F := F_w_between))
  have O_w_log : Ok_w_log P w K mg base := okd_of F_w_log g_w_log (bind3 F_w_log (fun _ _ _ _ _ _ _ _ _ => rfl)) (ok_w_log (T := T) (O_w_pick := O_w_pick) (O_w_span := O_w_span) (O_w_point := O_w_point) (O_w_dip := O_w_dip) (O_w_led := O_w_led) (F := F_w_log))
  have O_w_pace : Ok_w_pace P w K mg base := okd_of F_w_pace g_w_pace (bind1 F_w_pace (fun _ _ _ _ _ _ _ => rfl)) (ok_w_pace (T := T) (O_w_led := O_w_led) (F := F_w_pace))
  have O_sides : Ok_sides P w K mg base := okd_of F_sides g_sides (bind1 F_sides (fun _ _ _ _ _ _ _ => rfl)) (ok_sides (T := T) (O_side_at := O_side_at) (O_step_between := O_step_between) (O_side_left := O_side_left) (O_next_corner := O_next_corner) (F := F_sides))
  have O_is_note : Ok_is_note P w K mg base := okd_of F_is_note g_is_note (bind1 F_is_note (fun _ _ _ _ _ _ _ => rfl)) (ok_is_note (T := T) (O_is_length := O_is_length) (O_is_vector := O_is_vector) (F := F_is_note))
  have O_velocities_with : Ok_velocities_with P w K mg base := okd_of F_velocities_with g_velocities_with (bind2 F_velocities_with (fun _ _ _ _ _ _ _ _ => rfl)) (ok_velocities_with (T := T) (O_noted := O_noted) (F := F_velocities_with))
  have O_w_paces : Ok_w_paces P w K mg base := okd_of F_w_paces g_w_paces (bind2 F_w_paces (fun _ _ _ _ _ _ _ _ => rfl)) (ok_w_paces (T := T) (O_w_pace := O_w_pace) (F := F_w_paces))
  have O_has : Ok_has P w K mg base := okd_of F_has g_has (bind2 F_has (fun _ _ _ _ _ _ _ _ => rfl)) (ok_has (T := T) (O_are_held := O_are_held) (O_sides := O_sides) (F := F_has))
  have O_within : Ok_within P w K mg base := okd_of F_within g_within (bind2 F_within (fun _ _ _ _ _ _ _ _ => rfl)) (ok_within (T := T) (O_sides := O_sides) (O_are_held := O_are_held) (F := F_within))
  have O_check_notes : Ok_check_notes P w K mg base := okd_of F_check_notes g_check_notes (bind1 F_check_notes (fun _ _ _ _ _ _ _ => rfl)) (ok_check_notes (T := T) (O_is_note := O_is_note) (F := F_check_notes))
  have O_least : Ok_least P w K mg base := okd_of F_least g_least (bind1 F_least (fun _ _ _ _ _ _ _ => rfl)) (ok_least (T := T) (O_hull := O_hull) (O_velocities_with := O_velocities_with) (F := F_least))
  have O_lets : Ok_lets P w K mg base := okd_of F_lets g_lets (bind2 F_lets (fun _ _ _ _ _ _ _ _ => rfl)) (ok_lets (T := T) (O_sides := O_sides) (O_velocities_with := O_velocities_with) (O_are_held := O_are_held) (F := F_lets))
  have O_w_least : Ok_w_least P w K mg base := okd_of F_w_least g_w_least (bind1 F_w_least (fun _ _ _ _ _ _ _ => rfl)) (ok_w_least (T := T) (O_w_hull := O_w_hull) (O_w_paces := O_w_paces) (F := F_w_least))
  have O_is_sailed : Ok_is_sailed P w K mg base := okd_of F_is_sailed g_is_sailed (bind1 F_is_sailed (fun _ _ _ _ _ _ _ => rfl)) (ok_is_sailed (T := T) (O_has := O_has) (O_is_shape := O_is_shape) (F := F_is_sailed))
  have O_check_some : Ok_check_some P w K mg base (He.ga K "NoFigureFits") := okd_of F_check_some g_check_some (bind1 F_check_some (fun _ _ _ _ _ _ _ => rfl)) (ok_check_some (T := T) (Z := Z) (O_lets := O_lets) (O_least := O_least) (F := F_check_some))
  have O_word_with : Ok_word_with P w K mg base := okd_of F_word_with g_word_with (bind2 F_word_with (fun _ _ _ _ _ _ _ _ => rfl)) (ok_word_with (T := T) (O_least := O_least) (O_within := O_within) (O_lets := O_lets) (O_hull := O_hull) (F := F_word_with))
  have O_w_is_open : Ok_w_is_open P w K mg base := okd_of F_w_is_open g_w_is_open (bind1 F_w_is_open (fun _ _ _ _ _ _ _ => rfl)) (ok_w_is_open (T := T) (O_w_least := O_w_least) (O_w_paces := O_w_paces) (O_w_has := O_w_has) (F := F_w_is_open))
  have O_w_bars : Ok_w_bars P w K mg base := okd_of F_w_bars g_w_bars (bind2 F_w_bars (fun _ _ _ _ _ _ _ _ => rfl)) (ok_w_bars (T := T) (O_w_hull := O_w_hull) (O_w_least := O_w_least) (O_w_paces := O_w_paces) (O_w_has := O_w_has) (F := F_w_bars))
  have O_w_near : Ok_w_near P w K mg base := okd_of F_w_near g_w_near (bind2 F_w_near (fun _ _ _ _ _ _ _ _ => rfl)) (ok_w_near (T := T) (O_w_least := O_w_least) (O_w_dip := O_w_dip) (O_w_paces := O_w_paces) (O_w_led := O_w_led) (O_w_pick := O_w_pick) (O_w_pace := O_w_pace) (O_w_between := O_w_between) (O_w_less := O_w_less) (O_w_sum := O_w_sum) (O_w_point := O_w_point) (F := F_w_near))
  have O_check_figure : Ok_check_figure P w K mg base := okd_of F_check_figure g_check_figure (bind1 F_check_figure (fun _ _ _ _ _ _ _ => rfl)) (ok_check_figure (T := T) (O_is_sailed := O_is_sailed) (F := F_check_figure))
  have O_is_told : Ok_is_told P w K mg base := okd_of F_is_told g_is_told (bind2 F_is_told (fun _ _ _ _ _ _ _ _ => rfl)) (ok_is_told (T := T) (O_word_with := O_word_with) (O_noted := O_noted) (F := F_is_told))
  have O_w_word_of : Ok_w_word_of P w K mg base := okd_of F_w_word_of g_w_word_of (bind2 F_w_word_of (fun _ _ _ _ _ _ _ _ => rfl)) (ok_w_word_of (T := T) (O_w_has := O_w_has) (O_w_least := O_w_least) (O_w_bars := O_w_bars) (F := F_w_word_of))
  have O_w_others : Ok_w_others P w K mg base := okd_of F_w_others g_w_others (bind3 F_w_others (fun _ _ _ _ _ _ _ _ _ => rfl)) (ok_w_others (T := T) (O_w_least := O_w_least) (O_w_dip := O_w_dip) (O_w_span := O_w_span) (O_w_pick := O_w_pick) (O_w_led := O_w_led) (O_w_pace := O_w_pace) (O_w_between := O_w_between) (O_w_near := O_w_near) (F := F_w_others))
  have O_w_boat : Ok_w_boat P w K mg base := okd_of F_w_boat g_w_boat (bind3 F_w_boat (fun _ _ _ _ _ _ _ _ _ => rfl)) (ok_w_boat (T := T) (O_w_dip := O_w_dip) (O_w_least := O_w_least) (O_w_hull := O_w_hull) (O_w_between := O_w_between) (O_w_near := O_w_near) (O_w_grown := O_w_grown) (O_w_frame := O_w_frame) (F := F_w_boat))
  have O_told_beside : Ok_told_beside P w K mg base (He.ga K "NoFigureFits") := okd_of F_told_beside g_told_beside (bind2 F_told_beside (fun _ _ _ _ _ _ _ _ => rfl)) (ok_told_beside (T := T) (Z := Z) (O_check_notes := O_check_notes) (O_check_figure := O_check_figure) (O_check_some := O_check_some) (O_word_with := O_word_with) (F := F_told_beside))
  have O_tells_all : Ok_tells_all P w K mg base (He.ga K "NoFigureFits") := okd_of F_tells_all g_tells_all (bind2 F_tells_all (fun _ _ _ _ _ _ _ _ => rfl)) (ok_tells_all (T := T) (Z := Z) (O_check_notes := O_check_notes) (O_check_some := O_check_some) (O_is_told := O_is_told) (F := F_tells_all))
  have O_w_all_told : Ok_w_all_told P w K mg base := okd_of F_w_all_told g_w_all_told (bind2 F_w_all_told (fun _ _ _ _ _ _ _ _ => rfl)) (ok_w_all_told (T := T) (O_w_word_of := O_w_word_of) (O_w_pace := O_w_pace) (F := F_w_all_told))
  have O_w_told : Ok_w_told P w K mg base (He.ga K "NoFigureFits") := okd_of F_w_told g_w_told (bind3 F_w_told (fun _ _ _ _ _ _ _ _ _ => rfl)) (ok_w_told (T := T) (Z := Z) (O_tells_all := O_tells_all) (O_told_beside := O_told_beside) (F := F_w_told))
  have O_w_right : Ok_w_right P w K mg base := ⟨⟨_, _, g_w_right, F_w_right.kp, bind1 F_w_right (fun _ _ _ _ _ _ _ => rfl), ok_w_right (T := T) (Z := Z) (gK := g_tells_all) (kK := F_tells_all.kp) (bK := kbind_tells F_tells_all) (FK := ok_tells_all (T := T) (Z := Z) (O_check_notes := O_check_notes) (O_check_some := O_check_some) (O_is_told := O_is_told) (F := F_tells_all)) (O_w_wide := O_w_wide) (O_w_log := O_w_log) (O_w_pick := O_w_pick) (O_w_boat := O_w_boat) (O_w_others := O_w_others) (O_w_is_open := O_w_is_open) (O_w_told := O_w_told) (O_w_least := O_w_least) (O_w_has := O_w_has) (O_w_bars := O_w_bars) (O_w_all_told := O_w_all_told) (F := F_w_right)⟩⟩
  exact ok_law (T := T) (O_w_right := O_w_right) (O_w_mug := O_w_mug) (F := F_law)
theorem law_walk {q : Program} {loose : List Str} {XP : (Str → Option Value) → Heap → Prop} (e : (HandSHeadRun.topDef R.prog 89).name = ("law" : Str)) (df : (HandSHeadRun.topDef R.prog 89).params.defaults = []) :
    PySem.W.WalkO q loose XP hk.says (PySem.W.OpenLaw.row PySem.Challenge.rw_windfigure_k87_whole_notes_told_by_notes).toRowW (HandSHeadRun.topDef R.prog 89) [] (fun f vs => PySem.call f vs) := by
  refine walk_ofG (l := PySem.Challenge.rw_windfigure_k87_whole_notes_told_by_notes) (n := 63) (k := 12) (x := "_law_script") rfl (by decide) df ⟨rfl, by decide, by decide⟩ (fun w mg fa h Y G hmg0 => ?_)
  obtain ⟨K, KX, c⟩ := Y
  have hmg : mg ("law" : PySem.Str) = some (.ref fa) := by
    rw [← e]
    exact hmg0
  obtain ⟨fd, hb, hF⟩ := facts (P := PySem.Challenge.rw_windfigure_k87_whole_notes_told_by_notes.prog) (w := w) KX G hmg c
  exact ⟨K, fd, pr_law K, KX, hb, fun H a ns hl _ hS => ⟨a, ns, rfl, hS, by omega, fun _ => rfl⟩, hF⟩
end K87
open PySem PySem.W PySem.Calls PyProof.Rows
theorem PySem.Challenge.cw_windfigure_k87_whole_notes_told_by_notes_holds : PySem.Challenge.rw_windfigure_k87_whole_notes_told_by_notes.Holds := by
  w_on; o_law
  refine HandSHeadRun.head_imp (r := K87.R) (q := view K87.R.prog [89]) (H := K87.hk) (ob := K87.ob) (M := 6000) (loose := K87.nmAll) (d := HandSHeadRun.topDef K87.R.prog 89) (kwd := []) K87.ob_eq K87.runA
    (by kernel_rfl) (by kernel_rfl) (by rfl) (by rfl) (by first | assumption | decide +kernel) (by decide +kernel) ⟨rfl, rfl, rfl, rfl, rfl, by decide +kernel⟩ ?hw ?hc
  case hw => w_witness2
  case hc => exact K87.law_walk (by kernel_rfl) (by kernel_rfl)

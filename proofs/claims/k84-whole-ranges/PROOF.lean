import PyProof.Rows.All
import Wide.All
import OpenK.AllK
import Wide.FinOn
import HandS.ForMost
import HandS.More
import HandS.Property
import HandS.DictComp
import HandS.Defaults
import HandS.Strs
import HandS.SetKeys
import HandS.FStr
import HandS.Style
import HandS.Conv
import HandS.NoneIn
import HandS.Zip
import PySem.Challenge.RW_metersure_k84_whole_ranges_over_days
import KE.KStateDown
import Lean
import HandS.Head0
import HandS.Head1
import HandS.Head2
import HandS.HeadEnd
import HandS.HeadHook1
import HandS.HeadHook2
import KE.SortData
import HandS.Walk
import KE.KDictZip
import HandS.Iter
set_option Elab.async false
set_option linter.all false
set_option maxRecDepth 100000
set_option maxHeartbeats 4000000
/-! The text by places, the scopes, what the walk asks of the top. Printed by gen.py. -/
namespace Mx
open PySem PySem.Spec PyProof.Rows L2
def top (i : Nat) : Stmt := PySem.Challenge.pw_metersure_k84_whole_ranges_over_days.main.body.getD i (.Pass ⟨0, 0, 0, 0⟩)
abbrev s_is_name : Stmt := top 13
abbrev N_is_name : List Str := ["text", "sign"]
abbrev P_is_name : List Str := ["text"]
theorem sc_is_name : FnScope N_is_name P_is_name (defScope s_is_name) := ⟨rfl, rfl, rfl, by decide +kernel, rfl, by decide +kernel, by decide +kernel⟩
abbrev s_are_names : Stmt := top 14
abbrev N_are_names : List Str := ["texts", "text"]
abbrev P_are_names : List Str := ["texts"]
theorem sc_are_names : FnScope N_are_names P_are_names (defScope s_are_names) := ⟨rfl, rfl, rfl, by decide +kernel, rfl, by decide +kernel, by decide +kernel⟩
abbrev s_is_stream : Stmt := top 15
abbrev N_is_stream : List Str := ["stream", "knots", "_", "tail", "head", "low", "high"]
abbrev P_is_stream : List Str := ["stream", "knots"]
theorem sc_is_stream : FnScope N_is_stream P_is_stream (defScope s_is_stream) := ⟨rfl, rfl, rfl, by decide +kernel, rfl, by decide +kernel, by decide +kernel⟩
abbrev s_Plant_init : Stmt := inClass (top 16) 0
abbrev N_Plant_init : List Str := ["self", "knots", "streams", "stream"]
abbrev P_Plant_init : List Str := ["self", "knots", "streams"]
theorem sc_Plant_init : FnScope N_Plant_init P_Plant_init (defScope s_Plant_init) := ⟨rfl, rfl, rfl, by decide +kernel, rfl, by decide +kernel, by decide +kernel⟩
abbrev s_Plant_knots : Stmt := inClass (top 16) 1
abbrev N_Plant_knots : List Str := ["self"]
abbrev P_Plant_knots : List Str := ["self"]
theorem sc_Plant_knots : FnScope N_Plant_knots P_Plant_knots (defScope s_Plant_knots) := ⟨rfl, rfl, rfl, by decide +kernel, rfl, by decide +kernel, by decide +kernel⟩
abbrev s_Plant_streams : Stmt := inClass (top 16) 2
abbrev N_Plant_streams : List Str := ["self"]
abbrev P_Plant_streams : List Str := ["self"]
theorem sc_Plant_streams : FnScope N_Plant_streams P_Plant_streams (defScope s_Plant_streams) := ⟨rfl, rfl, rfl, by decide +kernel, rfl, by decide +kernel, by decide +kernel⟩
abbrev s_Plant_stream_names : Stmt := inClass (top 16) 3
abbrev N_Plant_stream_names : List Str := ["self", "stream"]
abbrev P_Plant_stream_names : List Str := ["self"]
theorem sc_Plant_stream_names : FnScope N_Plant_stream_names P_Plant_stream_names (defScope s_Plant_stream_names) := ⟨rfl, rfl, rfl, by decide +kernel, rfl, by decide +kernel, by decide +kernel⟩
abbrev s_Plant_stream_named : Stmt := inClass (top 16) 4
abbrev N_Plant_stream_named : List Str := ["self", "name", "stream"]
abbrev P_Plant_stream_named : List Str := ["self", "name"]
theorem sc_Plant_stream_named : FnScope N_Plant_stream_named P_Plant_stream_named (defScope s_Plant_stream_named) := ⟨rfl, rfl, rfl, by decide +kernel, rfl, by decide +kernel, by decide +kernel⟩
abbrev s_Plant_check_knot : Stmt := inClass (top 16) 5
abbrev N_Plant_check_knot : List Str := ["self", "knot"]
abbrev P_Plant_check_knot : List Str := ["self", "knot"]
theorem sc_Plant_check_knot : FnScope N_Plant_check_knot P_Plant_check_knot (defScope s_Plant_check_knot) := ⟨rfl, rfl, rfl, by decide +kernel, rfl, by decide +kernel, by decide +kernel⟩
abbrev s_check_flows : Stmt := top 17
abbrev N_check_flows : List Str := ["plant", "flows", "names", "name"]
abbrev P_check_flows : List Str := ["plant", "flows"]
theorem sc_check_flows : FnScope N_check_flows P_check_flows (defScope s_check_flows) := ⟨rfl, rfl, rfl, by decide +kernel, rfl, by decide +kernel, by decide +kernel⟩
abbrev s_lacks : Stmt := top 18
abbrev N_lacks : List Str := ["plant", "flows", "found", "name", "tail", "head", "_", "knot"]
abbrev P_lacks : List Str := ["plant", "flows"]
theorem sc_lacks : FnScope N_lacks P_lacks (defScope s_lacks) := ⟨rfl, rfl, rfl, by decide +kernel, rfl, by decide +kernel, by decide +kernel⟩
abbrev s_is_balanced : Stmt := top 19
abbrev N_is_balanced : List Str := ["plant", "flows", "number"]
abbrev P_is_balanced : List Str := ["plant", "flows"]
theorem sc_is_balanced : FnScope N_is_balanced P_is_balanced (defScope s_is_balanced) := ⟨rfl, rfl, rfl, by decide +kernel, rfl, by decide +kernel, by decide +kernel⟩
abbrev s_lines_of : Stmt := top 21
abbrev N_lines_of : List Str := ["plant", "name", "tail", "head", "_"]
abbrev P_lines_of : List Str := ["plant"]
theorem sc_lines_of : FnScope N_lines_of P_lines_of (defScope s_lines_of) := ⟨rfl, rfl, rfl, by decide +kernel, rfl, by decide +kernel, by decide +kernel⟩
abbrev s_arcs_of : Stmt := top 22
abbrev N_arcs_of : List Str := ["lines", "limits", "flows", "found", "name", "tail", "head", "low", "high"]
abbrev P_arcs_of : List Str := ["lines", "limits", "flows"]
theorem sc_arcs_of : FnScope N_arcs_of P_arcs_of (defScope s_arcs_of) := ⟨rfl, rfl, rfl, by decide +kernel, rfl, by decide +kernel, by decide +kernel⟩
abbrev s_way_between : Stmt := top 23
abbrev N_way_between : List Str := ["arcs", "starts", "ends", "leaving", "arc", "before", "waiting", "at", "place"]
abbrev P_way_between : List Str := ["arcs", "starts", "ends"]
theorem sc_way_between : FnScope N_way_between P_way_between (defScope s_way_between) := ⟨rfl, rfl, rfl, by decide +kernel, rfl, by decide +kernel, by decide +kernel⟩
abbrev s_way_back : Stmt := top 24
abbrev N_way_back : List Str := ["before", "place", "way"]
abbrev P_way_back : List Str := ["before", "place"]
theorem sc_way_back : FnScope N_way_back P_way_back (defScope s_way_back) := ⟨rfl, rfl, rfl, by decide +kernel, rfl, by decide +kernel, by decide +kernel⟩
abbrev s_push : Stmt := top 25
abbrev N_push : List Str := ["flows", "way", "most", "amount", "arc"]
abbrev P_push : List Str := ["flows", "way", "most"]
theorem sc_push : FnScope N_push P_push (defScope s_push) := ⟨rfl, rfl, rfl, by decide +kernel, rfl, by decide +kernel, by decide +kernel⟩
abbrev s_push_all : Stmt := top 26
abbrev N_push_all : List Str := ["lines", "limits", "flows", "start", "end", "most", "pushed", "way"]
abbrev P_push_all : List Str := ["lines", "limits", "flows", "start", "end", "most"]
theorem sc_push_all : FnScope N_push_all P_push_all (defScope s_push_all) := ⟨rfl, rfl, rfl, by decide +kernel, rfl, by decide +kernel, by decide +kernel⟩
abbrev s_leading_to : Stmt := top 27
abbrev N_leading_to : List Str := ["lines", "limits", "flows", "ends", "pairs", "arc"]
abbrev P_leading_to : List Str := ["lines", "limits", "flows", "ends"]
theorem sc_leading_to : FnScope N_leading_to P_leading_to (defScope s_leading_to) := ⟨rfl, rfl, rfl, by decide +kernel, rfl, by decide +kernel, by decide +kernel⟩
abbrev s_led_from : Stmt := top 28
abbrev N_led_from : List Str := ["lines", "limits", "flows", "starts", "pairs", "arc"]
abbrev P_led_from : List Str := ["lines", "limits", "flows", "starts"]
theorem sc_led_from : FnScope N_led_from P_led_from (defScope s_led_from) := ⟨rfl, rfl, rfl, by decide +kernel, rfl, by decide +kernel, by decide +kernel⟩
abbrev s_come_to : Stmt := top 29
abbrev N_come_to : List Str := ["pairs", "starts", "found", "waiting", "place", "one", "other"]
abbrev P_come_to : List Str := ["pairs", "starts"]
theorem sc_come_to : FnScope N_come_to P_come_to (defScope s_come_to) := ⟨rfl, rfl, rfl, by decide +kernel, rfl, by decide +kernel, by decide +kernel⟩
abbrev s_Missing_init : Stmt := inClass (top 31) 0
abbrev N_Missing_init : List Str := ["self", "number", "flows", "least", "greatest"]
abbrev P_Missing_init : List Str := ["self", "number", "flows", "least", "greatest"]
theorem sc_Missing_init : FnScope N_Missing_init P_Missing_init (defScope s_Missing_init) := ⟨rfl, rfl, rfl, by decide +kernel, rfl, by decide +kernel, by decide +kernel⟩
abbrev s_check_limits : Stmt := top 32
abbrev N_check_limits : List Str := ["plant", "limits", "name"]
abbrev P_check_limits : List Str := ["plant", "limits"]
theorem sc_check_limits : FnScope N_check_limits P_check_limits (defScope s_check_limits) := ⟨rfl, rfl, rfl, by decide +kernel, rfl, by decide +kernel, by decide +kernel⟩
abbrev s_crossed : Stmt := top 33
abbrev N_crossed : List Str := ["plant", "limits", "name"]
abbrev P_crossed : List Str := ["plant", "limits"]
theorem sc_crossed : FnScope N_crossed P_crossed (defScope s_crossed) := ⟨rfl, rfl, rfl, by decide +kernel, rfl, by decide +kernel, by decide +kernel⟩
abbrev s_missing_of : Stmt := top 34
abbrev N_missing_of : List Str := ["plant", "flows", "number"]
abbrev P_missing_of : List Str := ["plant", "flows"]
theorem sc_missing_of : FnScope N_missing_of P_missing_of (defScope s_missing_of) := ⟨rfl, rfl, rfl, by decide +kernel, rfl, by decide +kernel, by decide +kernel⟩
abbrev s_least_missing : Stmt := top 35
abbrev N_least_missing : List Str := ["plant", "limits", "lines", "flows", "least", "spared", "lots", "left", "over", "short", "way", "name", "knot"]
abbrev P_least_missing : List Str := ["plant", "limits"]
theorem sc_least_missing : FnScope N_least_missing P_least_missing (defScope s_least_missing) := ⟨rfl, rfl, rfl, by decide +kernel, rfl, by decide +kernel, by decide +kernel⟩
abbrev s_check_readings : Stmt := top 37
abbrev N_check_readings : List Str := ["plant", "readings", "names", "name", "reading", "part"]
abbrev P_check_readings : List Str := ["plant", "readings"]
theorem sc_check_readings : FnScope N_check_readings P_check_readings (defScope s_check_readings) := ⟨rfl, rfl, rfl, by decide +kernel, rfl, by decide +kernel, by decide +kernel⟩
abbrev s_limits_of : Stmt := top 38
abbrev N_limits_of : List Str := ["plant", "readings", "found", "name", "_", "low", "high", "number", "tolerance"]
abbrev P_limits_of : List Str := ["plant", "readings"]
theorem sc_limits_of : FnScope N_limits_of P_limits_of (defScope s_limits_of) := ⟨rfl, rfl, rfl, by decide +kernel, rfl, by decide +kernel, by decide +kernel⟩
abbrev s_do_agree : Stmt := top 39
abbrev N_do_agree : List Str := ["plant", "readings", "flows", "limits", "name"]
abbrev P_do_agree : List Str := ["plant", "readings", "flows"]
theorem sc_do_agree : FnScope N_do_agree P_do_agree (defScope s_do_agree) := ⟨rfl, rfl, rfl, by decide +kernel, rfl, by decide +kernel, by decide +kernel⟩
abbrev s_flows_within : Stmt := top 41
abbrev N_flows_within : List Str := ["plant", "limits", "found"]
abbrev P_flows_within : List Str := ["plant", "limits"]
theorem sc_flows_within : FnScope N_flows_within P_flows_within (defScope s_flows_within) := ⟨rfl, rfl, rfl, by decide +kernel, rfl, by decide +kernel, by decide +kernel⟩
abbrev s_flows_of : Stmt := top 42
abbrev N_flows_of : List Str := ["plant", "readings"]
abbrev P_flows_of : List Str := ["plant", "readings"]
theorem sc_flows_of : FnScope N_flows_of P_flows_of (defScope s_flows_of) := ⟨rfl, rfl, rfl, by decide +kernel, rfl, by decide +kernel, by decide +kernel⟩
abbrev s_Range_init : Stmt := inClass (top 44) 0
abbrev N_Range_init : List Str := ["self", "low", "high", "low_flows", "high_flows", "low_lot", "high_lot"]
abbrev P_Range_init : List Str := ["self", "low", "high", "low_flows", "high_flows", "low_lot", "high_lot"]
theorem sc_Range_init : FnScope N_Range_init P_Range_init (defScope s_Range_init) := ⟨rfl, rfl, rfl, by decide +kernel, rfl, by decide +kernel, by decide +kernel⟩
abbrev s_pushed_to : Stmt := top 45
abbrev N_pushed_to : List Str := ["plant", "lines", "limits", "flows", "start", "end", "most", "pushed", "found", "knot"]
abbrev P_pushed_to : List Str := ["plant", "lines", "limits", "flows", "start", "end", "most"]
theorem sc_pushed_to : FnScope N_pushed_to P_pushed_to (defScope s_pushed_to) := ⟨rfl, rfl, rfl, by decide +kernel, rfl, by decide +kernel, by decide +kernel⟩
abbrev s_range_within : Stmt := top 46
abbrev N_range_within : List Str := ["plant", "limits", "name", "flows", "low_flows", "high_flows", "others", "_", "tail", "head", "low", "high", "less", "low_lot", "more", "high_lot", "line"]
abbrev P_range_within : List Str := ["plant", "limits", "name"]
theorem sc_range_within : FnScope N_range_within P_range_within (defScope s_range_within) := ⟨rfl, rfl, rfl, by decide +kernel, rfl, by decide +kernel, by decide +kernel⟩
abbrev s_range_of : Stmt := top 47
abbrev N_range_of : List Str := ["plant", "readings", "name"]
abbrev P_range_of : List Str := ["plant", "readings", "name"]
theorem sc_range_of : FnScope N_range_of P_range_of (defScope s_range_of) := ⟨rfl, rfl, rfl, by decide +kernel, rfl, by decide +kernel, by decide +kernel⟩
abbrev s_Course_init : Stmt := inClass (top 50) 0
abbrev N_Course_init : List Str := ["self", "flows", "stocks", "day", "evening"]
abbrev P_Course_init : List Str := ["self", "flows", "stocks"]
theorem sc_Course_init : FnScope N_Course_init P_Course_init (defScope s_Course_init) := ⟨rfl, rfl, rfl, by decide +kernel, rfl, by decide +kernel, by decide +kernel⟩
abbrev s_check_days : Stmt := top 51
abbrev N_check_days : List Str := ["plant", "stores", "days", "knot"]
abbrev P_check_days : List Str := ["plant", "stores", "days"]
theorem sc_check_days : FnScope N_check_days P_check_days (defScope s_check_days) := ⟨rfl, rfl, rfl, by decide +kernel, rfl, by decide +kernel, by decide +kernel⟩
abbrev s_check_all : Stmt := top 52
abbrev N_check_all : List Str := ["plant", "stores", "readings", "evenings", "names", "today", "evening", "name", "knot"]
abbrev P_check_all : List Str := ["plant", "stores", "readings", "evenings"]
theorem sc_check_all : FnScope N_check_all P_check_all (defScope s_check_all) := ⟨rfl, rfl, rfl, by decide +kernel, rfl, by decide +kernel, by decide +kernel⟩
abbrev s_day_name : Stmt := top 53
abbrev N_day_name : List Str := ["day", "sign", "place"]
abbrev P_day_name : List Str := ["day", "sign", "place"]
theorem sc_day_name : FnScope N_day_name P_day_name (defScope s_day_name) := ⟨rfl, rfl, rfl, by decide +kernel, rfl, by decide +kernel, by decide +kernel⟩
abbrev s_evening_name : Stmt := top 54
abbrev N_evening_name : List Str := ["plant", "day", "knot"]
abbrev P_evening_name : List Str := ["plant", "day", "knot"]
theorem sc_evening_name : FnScope N_evening_name P_evening_name (defScope s_evening_name) := ⟨rfl, rfl, rfl, by decide +kernel, rfl, by decide +kernel, by decide +kernel⟩
abbrev s_knot_name : Stmt := top 55
abbrev N_knot_name : List Str := ["plant", "day", "days", "knot"]
abbrev P_knot_name : List Str := ["plant", "day", "days", "knot"]
theorem sc_knot_name : FnScope N_knot_name P_knot_name (defScope s_knot_name) := ⟨rfl, rfl, rfl, by decide +kernel, rfl, by decide +kernel, by decide +kernel⟩
abbrev s_laid_out : Stmt := top 56
abbrev N_laid_out : List Str := ["plant", "stores", "days", "knots", "streams", "day", "knot", "place", "ends", "begin", "low", "high", "bounds", "_", "tail", "head"]
abbrev P_laid_out : List Str := ["plant", "stores", "days"]
theorem sc_laid_out : FnScope N_laid_out P_laid_out (defScope s_laid_out) := ⟨rfl, rfl, rfl, by decide +kernel, rfl, by decide +kernel, by decide +kernel⟩
abbrev s_laid_readings : Stmt := top 57
abbrev N_laid_readings : List Str := ["plant", "stores", "readings", "evenings", "names", "found", "place", "name", "knot", "today", "evening"]
abbrev P_laid_readings : List Str := ["plant", "stores", "readings", "evenings"]
theorem sc_laid_readings : FnScope N_laid_readings P_laid_readings (defScope s_laid_readings) := ⟨rfl, rfl, rfl, by decide +kernel, rfl, by decide +kernel, by decide +kernel⟩
abbrev s_course : Stmt := top 58
abbrev N_course : List Str := ["plant", "stores", "readings", "evenings", "told", "days", "flows", "names", "by_day", "stocks", "day", "knot", "place", "name"]
abbrev P_course : List Str := ["plant", "stores", "readings", "evenings"]
theorem sc_course : FnScope N_course P_course (defScope s_course) := ⟨rfl, rfl, rfl, by decide +kernel, rfl, by decide +kernel, by decide +kernel⟩
abbrev s_is_course : Stmt := top 59
abbrev N_is_course : List Str := ["plant", "stores", "readings", "evenings", "course", "told", "days", "names", "flows", "day", "knot", "place", "name"]
abbrev P_is_course : List Str := ["plant", "stores", "readings", "evenings", "course"]
theorem sc_is_course : FnScope N_is_course P_is_course (defScope s_is_course) := ⟨rfl, rfl, rfl, by decide +kernel, rfl, by decide +kernel, by decide +kernel⟩
abbrev s_range_named : Stmt := top 60
abbrev N_range_named : List Str := ["plant", "stores", "readings", "told", "name", "found"]
abbrev P_range_named : List Str := ["plant", "stores", "readings", "told", "name"]
theorem sc_range_named : FnScope N_range_named P_range_named (defScope s_range_named) := ⟨rfl, rfl, rfl, by decide +kernel, rfl, by decide +kernel, by decide +kernel⟩
abbrev s_day_range : Stmt := top 61
abbrev N_day_range : List Str := ["plant", "stores", "readings", "evenings", "name", "day", "told"]
abbrev P_day_range : List Str := ["plant", "stores", "readings", "evenings", "name", "day"]
theorem sc_day_range : FnScope N_day_range P_day_range (defScope s_day_range) := ⟨rfl, rfl, rfl, by decide +kernel, rfl, by decide +kernel, by decide +kernel⟩
abbrev s_stock_range : Stmt := top 62
abbrev N_stock_range : List Str := ["plant", "stores", "readings", "evenings", "knot", "day", "told"]
abbrev P_stock_range : List Str := ["plant", "stores", "readings", "evenings", "knot", "day"]
theorem sc_stock_range : FnScope N_stock_range P_stock_range (defScope s_stock_range) := ⟨rfl, rfl, rfl, by decide +kernel, rfl, by decide +kernel, by decide +kernel⟩
abbrev s__law_row : Stmt := top 64
abbrev N__law_row : List Str := ["_law_cell", "_law_many", "_law_row_here", "_law_rest", "_law_state", "_law_k"]
abbrev P__law_row : List Str := ["_law_cell", "_law_many"]
theorem sc__law_row : FnScope N__law_row P__law_row (defScope s__law_row) := ⟨rfl, rfl, rfl, by decide +kernel, rfl, by decide +kernel, by decide +kernel⟩
abbrev s__law_numbers : Stmt := top 65
abbrev N__law_numbers : List Str := ["_law_script", "_law_many", "_law_cells", "_law_each", "_law_numbers_here", "_law_cell", "_law_number"]
abbrev P__law_numbers : List Str := ["_law_script", "_law_many"]
theorem sc__law_numbers : FnScope N__law_numbers P__law_numbers (defScope s__law_numbers) := ⟨rfl, rfl, rfl, by decide +kernel, rfl, by decide +kernel, by decide +kernel⟩
abbrev s__law_names : Stmt := top 66
abbrev N__law_names : List Str := ["_law_number", "_law_many", "_law_letters", "_law_base", "_law_place", "_law_names_here", "_law_k", "_law_own", "_law_spot"]
abbrev P__law_names : List Str := ["_law_number", "_law_many"]
theorem sc__law_names : FnScope N__law_names P__law_names (defScope s__law_names) := ⟨rfl, rfl, rfl, by decide +kernel, rfl, by decide +kernel, by decide +kernel⟩
abbrev s__law_plant : Stmt := top 67
abbrev N__law_plant : List Str := ["_law_numbers_here", "_law_at", "_law_most_knots", "_law_most_streams", "_law_top", "_law_knots", "_law_streams", "_law_name", "_law_k", "_law_low", "_law_high"]
abbrev P__law_plant : List Str := ["_law_numbers_here", "_law_at", "_law_most_knots", "_law_most_streams", "_law_top"]
theorem sc__law_plant : FnScope N__law_plant P__law_plant (defScope s__law_plant) := ⟨rfl, rfl, rfl, by decide +kernel, rfl, by decide +kernel, by decide +kernel⟩
abbrev s__law_made : Stmt := top 68
abbrev N__law_made : List Str := ["_law_plant_here"]
abbrev P__law_made : List Str := ["_law_plant_here"]
theorem sc__law_made : FnScope N__law_made P__law_made (defScope s__law_made) := ⟨rfl, rfl, rfl, by decide +kernel, rfl, by decide +kernel, by decide +kernel⟩
abbrev s__law_limits : Stmt := top 72
abbrev N__law_limits : List Str := ["_law_streams", "_law_readings_here", "_law_found", "_law_name", "_law_tail", "_law_head", "_law_low", "_law_high"]
abbrev P__law_limits : List Str := ["_law_streams", "_law_readings_here"]
theorem sc__law_limits : FnScope N__law_limits P__law_limits (defScope s__law_limits) := ⟨rfl, rfl, rfl, by decide +kernel, rfl, by decide +kernel, by decide +kernel⟩
abbrev s__law_readings : Stmt := top 73
abbrev N__law_readings : List Str := ["_law_streams", "_law_numbers_here", "_law_at", "_law_top", "_law_readings_here", "_law_k"]
abbrev P__law_readings : List Str := ["_law_streams", "_law_numbers_here", "_law_at", "_law_top"]
theorem sc__law_readings : FnScope N__law_readings P__law_readings (defScope s__law_readings) := ⟨rfl, rfl, rfl, by decide +kernel, rfl, by decide +kernel, by decide +kernel⟩
abbrev s__law_stores : Stmt := top 74
abbrev N__law_stores : List Str := ["_law_knots", "_law_numbers_here", "_law_at", "_law_top", "_law_stores_here", "_law_k", "_law_low"]
abbrev P__law_stores : List Str := ["_law_knots", "_law_numbers_here", "_law_at", "_law_top"]
theorem sc__law_stores : FnScope N__law_stores P__law_stores (defScope s__law_stores) := ⟨rfl, rfl, rfl, by decide +kernel, rfl, by decide +kernel, by decide +kernel⟩
abbrev s__law_courses : Stmt := top 76
abbrev N__law_courses : List Str := ["_law_plant_here", "_law_stores_here", "_law_readings_here", "_law_evenings", "_law_rows", "_law_day", "_law_limits_here", "_law_longer", "_law_flows", "_law_stocks", "_law_before", "_law_row_here", "_law_evening_here", "_law_knot"]
abbrev P__law_courses : List Str := ["_law_plant_here", "_law_stores_here", "_law_readings_here", "_law_evenings"]
theorem sc__law_courses : FnScope N__law_courses P__law_courses (defScope s__law_courses) := ⟨rfl, rfl, rfl, by decide +kernel, rfl, by decide +kernel, by decide +kernel⟩
abbrev s__law_rows_of : Stmt := top 77
abbrev N__law_rows_of : List Str := ["_law_lines", "_law_rows", "_law_name", "_law_tail", "_law_head", "_law_low", "_law_high", "_law_longer", "_law_row_here", "_law_number", "_law_other"]
abbrev P__law_rows_of : List Str := ["_law_lines"]
theorem sc__law_rows_of : FnScope N__law_rows_of P__law_rows_of (defScope s__law_rows_of) := ⟨rfl, rfl, rfl, by decide +kernel, rfl, by decide +kernel, by decide +kernel⟩
abbrev s__law_evening : Stmt := top 78
abbrev N__law_evening : List Str := ["_law_plant_here", "_law_stores_here", "_law_lines", "_law_row_here", "_law_before", "_law_left", "_law_knot", "_law_evening_here", "_law_name", "_law_tail", "_law_head", "_law_low", "_law_high"]
abbrev P__law_evening : List Str := ["_law_plant_here", "_law_stores_here", "_law_lines", "_law_row_here", "_law_before"]
theorem sc__law_evening : FnScope N__law_evening P__law_evening (defScope s__law_evening) := ⟨rfl, rfl, rfl, by decide +kernel, rfl, by decide +kernel, by decide +kernel⟩
abbrev s__law_fits : Stmt := top 79
abbrev N__law_fits : List Str := ["_law_stores_here", "_law_readings_here", "_law_evening_here", "_law_knot"]
abbrev P__law_fits : List Str := ["_law_stores_here", "_law_readings_here", "_law_evening_here"]
theorem sc__law_fits : FnScope N__law_fits P__law_fits (defScope s__law_fits) := ⟨rfl, rfl, rfl, by decide +kernel, rfl, by decide +kernel, by decide +kernel⟩
abbrev s__law_small : Stmt := top 80
abbrev N__law_small : List Str := ["_law_numbers_here", "_law_plant_here", "_law_stores_here", "_law_days", "_law_readings_here", "_law_evenings", "_law_day", "_law_row_here", "_law_knot"]
abbrev P__law_small : List Str := ["_law_numbers_here"]
theorem sc__law_small : FnScope N__law_small P__law_small (defScope s__law_small) := ⟨rfl, rfl, rfl, by decide +kernel, rfl, by decide +kernel, by decide +kernel⟩
abbrev s_law : Stmt := top 81
abbrev N_law : List Str := ["_law_script", "_law_numbers_here", "_law_made_here", "_law_rows", "_law_day", "_law_told", "_law_whole", "_law_evening_here", "_law_first", "_law_plant_here", "_law_stores_here", "_law_readings_here", "_law_evenings", "_law_stream", "_law_knot", "_law_found", "_law_due", "_law_flows", "_law_stocks"]
abbrev P_law : List Str := ["_law_script"]
theorem sc_law : FnScope N_law P_law (defScope s_law) := ⟨rfl, rfl, rfl, by decide +kernel, rfl, by decide +kernel, by decide +kernel⟩
def letters : Str := "abcdefghijklmnopqrstuvwxyz0123456789"
abbrev v_LETTERS : V := .str letters
abbrev v_MOST_FLOW : V := .int 1000000
abbrev v_MOST_KNOTS : V := .int 24
abbrev v_MOST_STREAMS : V := .int 60
abbrev v_ENDS : V := .str "ends"
abbrev FnP (K : PySem.W.Frag) (x q : Str) (st : Stmt) (f : Addr) (fd : FuncData) : Prop := FunD K x q (defArgs st) (defBody st) (defScope st) [] [] f fd
/-- what the walk asks of the top -/
structure Tx (K : PySem.W.Frag) (mg : Str → Option Value) where
  a_is_name : Addr
  d_is_name : FuncData
  F_is_name : FnP K "is_name" "is_name" s_is_name a_is_name d_is_name
  m_is_name : mg "is_name" = some (.ref a_is_name)
  a_are_names : Addr
  d_are_names : FuncData
  F_are_names : FnP K "are_names" "are_names" s_are_names a_are_names d_are_names
  m_are_names : mg "are_names" = some (.ref a_are_names)
  a_is_stream : Addr
  d_is_stream : FuncData
  F_is_stream : FnP K "is_stream" "is_stream" s_is_stream a_is_stream d_is_stream
  m_is_stream : mg "is_stream" = some (.ref a_is_stream)
  a_Plant_init : Addr
  d_Plant_init : FuncData
  F_Plant_init : FnP K "__init__" "Plant.__init__" s_Plant_init a_Plant_init d_Plant_init
  a_Plant_knots : Addr
  d_Plant_knots : FuncData
  F_Plant_knots : FnP K "knots" "Plant.knots" s_Plant_knots a_Plant_knots d_Plant_knots
  a_Plant_streams : Addr
  d_Plant_streams : FuncData
  F_Plant_streams : FnP K "streams" "Plant.streams" s_Plant_streams a_Plant_streams d_Plant_streams
  a_Plant_stream_names : Addr
  d_Plant_stream_names : FuncData
  F_Plant_stream_names : FnP K "stream_names" "Plant.stream_names" s_Plant_stream_names a_Plant_stream_names d_Plant_stream_names
  a_Plant_stream_named : Addr
  d_Plant_stream_named : FuncData
  F_Plant_stream_named : FnP K "stream_named" "Plant.stream_named" s_Plant_stream_named a_Plant_stream_named d_Plant_stream_named
  a_Plant_check_knot : Addr
  d_Plant_check_knot : FuncData
  F_Plant_check_knot : FnP K "check_knot" "Plant.check_knot" s_Plant_check_knot a_Plant_check_knot d_Plant_check_knot
  a_check_flows : Addr
  d_check_flows : FuncData
  F_check_flows : FnP K "check_flows" "check_flows" s_check_flows a_check_flows d_check_flows
  m_check_flows : mg "check_flows" = some (.ref a_check_flows)
  a_lacks : Addr
  d_lacks : FuncData
  F_lacks : FnP K "lacks" "lacks" s_lacks a_lacks d_lacks
  m_lacks : mg "lacks" = some (.ref a_lacks)
  a_is_balanced : Addr
  d_is_balanced : FuncData
  F_is_balanced : FnP K "is_balanced" "is_balanced" s_is_balanced a_is_balanced d_is_balanced
  m_is_balanced : mg "is_balanced" = some (.ref a_is_balanced)
  a_lines_of : Addr
  d_lines_of : FuncData
  F_lines_of : FnP K "lines_of" "lines_of" s_lines_of a_lines_of d_lines_of
  m_lines_of : mg "lines_of" = some (.ref a_lines_of)
  a_arcs_of : Addr
  d_arcs_of : FuncData
  F_arcs_of : FnP K "arcs_of" "arcs_of" s_arcs_of a_arcs_of d_arcs_of
  m_arcs_of : mg "arcs_of" = some (.ref a_arcs_of)
  a_way_between : Addr
  d_way_between : FuncData
  F_way_between : FnP K "way_between" "way_between" s_way_between a_way_between d_way_between
  m_way_between : mg "way_between" = some (.ref a_way_between)
  a_way_back : Addr
  d_way_back : FuncData
  F_way_back : FnP K "way_back" "way_back" s_way_back a_way_back d_way_back
  m_way_back : mg "way_back" = some (.ref a_way_back)
  a_push : Addr
  d_push : FuncData
  F_push : FnP K "push" "push" s_push a_push d_push
  m_push : mg "push" = some (.ref a_push)
  a_push_all : Addr
  d_push_all : FuncData
  F_push_all : FnP K "push_all" "push_all" s_push_all a_push_all d_push_all
  m_push_all : mg "push_all" = some (.ref a_push_all)
  a_leading_to : Addr
  d_leading_to : FuncData
  F_leading_to : FnP K "leading_to" "leading_to" s_leading_to a_leading_to d_leading_to
  m_leading_to : mg "leading_to" = some (.ref a_leading_to)
  a_led_from : Addr
  d_led_from : FuncData
  F_led_from : FnP K "led_from" "led_from" s_led_from a_led_from d_led_from
  m_led_from : mg "led_from" = some (.ref a_led_from)
  a_come_to : Addr
  d_come_to : FuncData
  F_come_to : FnP K "come_to" "come_to" s_come_to a_come_to d_come_to
  m_come_to : mg "come_to" = some (.ref a_come_to)
  a_Missing_init : Addr
  d_Missing_init : FuncData
  F_Missing_init : FnP K "__init__" "Missing.__init__" s_Missing_init a_Missing_init d_Missing_init
  a_check_limits : Addr
  d_check_limits : FuncData
  F_check_limits : FnP K "check_limits" "check_limits" s_check_limits a_check_limits d_check_limits
  m_check_limits : mg "check_limits" = some (.ref a_check_limits)
  a_crossed : Addr
  d_crossed : FuncData
  F_crossed : FnP K "crossed" "crossed" s_crossed a_crossed d_crossed
  m_crossed : mg "crossed" = some (.ref a_crossed)
  a_missing_of : Addr
  d_missing_of : FuncData
  F_missing_of : FnP K "missing_of" "missing_of" s_missing_of a_missing_of d_missing_of
  m_missing_of : mg "missing_of" = some (.ref a_missing_of)
  a_least_missing : Addr
  d_least_missing : FuncData
  F_least_missing : FnP K "least_missing" "least_missing" s_least_missing a_least_missing d_least_missing
  m_least_missing : mg "least_missing" = some (.ref a_least_missing)
  a_check_readings : Addr
  d_check_readings : FuncData
  F_check_readings : FnP K "check_readings" "check_readings" s_check_readings a_check_readings d_check_readings
  m_check_readings : mg "check_readings" = some (.ref a_check_readings)
  a_limits_of : Addr
  d_limits_of : FuncData
  F_limits_of : FnP K "limits_of" "limits_of" s_limits_of a_limits_of d_limits_of
  m_limits_of : mg "limits_of" = some (.ref a_limits_of)
  a_do_agree : Addr
  d_do_agree : FuncData
  F_do_agree : FnP K "do_agree" "do_agree" s_do_agree a_do_agree d_do_agree
  m_do_agree : mg "do_agree" = some (.ref a_do_agree)
  a_flows_within : Addr
  d_flows_within : FuncData
  F_flows_within : FnP K "flows_within" "flows_within" s_flows_within a_flows_within d_flows_within
  m_flows_within : mg "flows_within" = some (.ref a_flows_within)
  a_flows_of : Addr
  d_flows_of : FuncData
  F_flows_of : FnP K "flows_of" "flows_of" s_flows_of a_flows_of d_flows_of
  m_flows_of : mg "flows_of" = some (.ref a_flows_of)
  a_Range_init : Addr
  d_Range_init : FuncData
  F_Range_init : FnP K "__init__" "Range.__init__" s_Range_init a_Range_init d_Range_init
  a_pushed_to : Addr
  d_pushed_to : FuncData
  F_pushed_to : FnP K "pushed_to" "pushed_to" s_pushed_to a_pushed_to d_pushed_to
  m_pushed_to : mg "pushed_to" = some (.ref a_pushed_to)
  a_range_within : Addr
  d_range_within : FuncData
  F_range_within : FnP K "range_within" "range_within" s_range_within a_range_within d_range_within
  m_range_within : mg "range_within" = some (.ref a_range_within)
  a_range_of : Addr
  d_range_of : FuncData
  F_range_of : FnP K "range_of" "range_of" s_range_of a_range_of d_range_of
  m_range_of : mg "range_of" = some (.ref a_range_of)
  a_Course_init : Addr
  d_Course_init : FuncData
  F_Course_init : FnP K "__init__" "Course.__init__" s_Course_init a_Course_init d_Course_init
  a_check_days : Addr
  d_check_days : FuncData
  F_check_days : FnP K "check_days" "check_days" s_check_days a_check_days d_check_days
  m_check_days : mg "check_days" = some (.ref a_check_days)
  a_check_all : Addr
  d_check_all : FuncData
  F_check_all : FnP K "check_all" "check_all" s_check_all a_check_all d_check_all
  m_check_all : mg "check_all" = some (.ref a_check_all)
  a_day_name : Addr
  d_day_name : FuncData
  F_day_name : FnP K "day_name" "day_name" s_day_name a_day_name d_day_name
  m_day_name : mg "day_name" = some (.ref a_day_name)
  a_evening_name : Addr
  d_evening_name : FuncData
  F_evening_name : FnP K "evening_name" "evening_name" s_evening_name a_evening_name d_evening_name
  m_evening_name : mg "evening_name" = some (.ref a_evening_name)
  a_knot_name : Addr
  d_knot_name : FuncData
  F_knot_name : FnP K "knot_name" "knot_name" s_knot_name a_knot_name d_knot_name
  m_knot_name : mg "knot_name" = some (.ref a_knot_name)
  a_laid_out : Addr
  d_laid_out : FuncData
  F_laid_out : FnP K "laid_out" "laid_out" s_laid_out a_laid_out d_laid_out
  m_laid_out : mg "laid_out" = some (.ref a_laid_out)
  a_laid_readings : Addr
  d_laid_readings : FuncData
  F_laid_readings : FnP K "laid_readings" "laid_readings" s_laid_readings a_laid_readings d_laid_readings
  m_laid_readings : mg "laid_readings" = some (.ref a_laid_readings)
  a_course : Addr
  d_course : FuncData
  F_course : FnP K "course" "course" s_course a_course d_course
  m_course : mg "course" = some (.ref a_course)
  a_is_course : Addr
  d_is_course : FuncData
  F_is_course : FnP K "is_course" "is_course" s_is_course a_is_course d_is_course
  m_is_course : mg "is_course" = some (.ref a_is_course)
  a_range_named : Addr
  d_range_named : FuncData
  F_range_named : FnP K "range_named" "range_named" s_range_named a_range_named d_range_named
  m_range_named : mg "range_named" = some (.ref a_range_named)
  a_day_range : Addr
  d_day_range : FuncData
  F_day_range : FnP K "day_range" "day_range" s_day_range a_day_range d_day_range
  m_day_range : mg "day_range" = some (.ref a_day_range)
  a_stock_range : Addr
  d_stock_range : FuncData
  F_stock_range : FnP K "stock_range" "stock_range" s_stock_range a_stock_range d_stock_range
  m_stock_range : mg "stock_range" = some (.ref a_stock_range)
  a__law_row : Addr
  d__law_row : FuncData
  F__law_row : FnP K "_law_row" "_law_row" s__law_row a__law_row d__law_row
  m__law_row : mg "_law_row" = some (.ref a__law_row)
  a__law_numbers : Addr
  d__law_numbers : FuncData
  F__law_numbers : FnP K "_law_numbers" "_law_numbers" s__law_numbers a__law_numbers d__law_numbers
  m__law_numbers : mg "_law_numbers" = some (.ref a__law_numbers)
  a__law_names : Addr
  d__law_names : FuncData
  F__law_names : FnP K "_law_names" "_law_names" s__law_names a__law_names d__law_names
  m__law_names : mg "_law_names" = some (.ref a__law_names)
  a__law_plant : Addr
  d__law_plant : FuncData
  F__law_plant : FnP K "_law_plant" "_law_plant" s__law_plant a__law_plant d__law_plant
  m__law_plant : mg "_law_plant" = some (.ref a__law_plant)
  a__law_made : Addr
  d__law_made : FuncData
  F__law_made : FnP K "_law_made" "_law_made" s__law_made a__law_made d__law_made
  m__law_made : mg "_law_made" = some (.ref a__law_made)
  a__law_limits : Addr
  d__law_limits : FuncData
  F__law_limits : FnP K "_law_limits" "_law_limits" s__law_limits a__law_limits d__law_limits
  m__law_limits : mg "_law_limits" = some (.ref a__law_limits)
  a__law_readings : Addr
  d__law_readings : FuncData
  F__law_readings : FnP K "_law_readings" "_law_readings" s__law_readings a__law_readings d__law_readings
  m__law_readings : mg "_law_readings" = some (.ref a__law_readings)
  a__law_stores : Addr
  d__law_stores : FuncData
  F__law_stores : FnP K "_law_stores" "_law_stores" s__law_stores a__law_stores d__law_stores
  m__law_stores : mg "_law_stores" = some (.ref a__law_stores)
  a__law_courses : Addr
  d__law_courses : FuncData
  F__law_courses : FnP K "_law_courses" "_law_courses" s__law_courses a__law_courses d__law_courses
  m__law_courses : mg "_law_courses" = some (.ref a__law_courses)
  a__law_rows_of : Addr
  d__law_rows_of : FuncData
  F__law_rows_of : FnP K "_law_rows_of" "_law_rows_of" s__law_rows_of a__law_rows_of d__law_rows_of
  m__law_rows_of : mg "_law_rows_of" = some (.ref a__law_rows_of)
  a__law_evening : Addr
  d__law_evening : FuncData
  F__law_evening : FnP K "_law_evening" "_law_evening" s__law_evening a__law_evening d__law_evening
  m__law_evening : mg "_law_evening" = some (.ref a__law_evening)
  a__law_fits : Addr
  d__law_fits : FuncData
  F__law_fits : FnP K "_law_fits" "_law_fits" s__law_fits a__law_fits d__law_fits
  m__law_fits : mg "_law_fits" = some (.ref a__law_fits)
  a__law_small : Addr
  d__law_small : FuncData
  F__law_small : FnP K "_law_small" "_law_small" s__law_small a__law_small d__law_small
  m__law_small : mg "_law_small" = some (.ref a__law_small)
  a_law : Addr
  d_law : FuncData
  F_law : FnP K "law" "law" s_law a_law d_law
  m_law : mg "law" = some (.ref a_law)
  C_Plant : Addr
  c_Plant : Cls K C_Plant
  m_Plant : mg "Plant" = some (.ref C_Plant)
  k_Plant : Mk K C_Plant a_Plant_init
  f_Plant__knots : NoAttr K C_Plant "_knots"
  f_Plant__streams : NoAttr K C_Plant "_streams"
  C_Missing : Addr
  c_Missing : Cls K C_Missing
  m_Missing : mg "Missing" = some (.ref C_Missing)
  k_Missing : Mk K C_Missing a_Missing_init
  f_Missing_number : NoAttr K C_Missing "number"
  f_Missing_flows : NoAttr K C_Missing "flows"
  f_Missing_least : NoAttr K C_Missing "least"
  f_Missing_greatest : NoAttr K C_Missing "greatest"
  C_Range : Addr
  c_Range : Cls K C_Range
  m_Range : mg "Range" = some (.ref C_Range)
  k_Range : Mk K C_Range a_Range_init
  f_Range_low : NoAttr K C_Range "low"
  f_Range_high : NoAttr K C_Range "high"
  f_Range_low_flows : NoAttr K C_Range "low_flows"
  f_Range_high_flows : NoAttr K C_Range "high_flows"
  f_Range_low_lot : NoAttr K C_Range "low_lot"
  f_Range_high_lot : NoAttr K C_Range "high_lot"
  C_Course : Addr
  c_Course : Cls K C_Course
  m_Course : mg "Course" = some (.ref C_Course)
  k_Course : Mk K C_Course a_Course_init
  f_Course_flows : NoAttr K C_Course "flows"
  f_Course_stocks : NoAttr K C_Course "stocks"
  q_Plant_knots : Addr
  p_Plant_knots : PropOf K C_Plant "knots" q_Plant_knots a_Plant_knots
  q_Plant_streams : Addr
  p_Plant_streams : PropOf K C_Plant "streams" q_Plant_streams a_Plant_streams
  h_Plant_stream_names : Meth K C_Plant "stream_names" a_Plant_stream_names
  h_Plant_stream_named : Meth K C_Plant "stream_named" a_Plant_stream_named
  h_Plant_check_knot : Meth K C_Plant "check_knot" a_Plant_check_knot
  g_LETTERS : ∃ t, mg "LETTERS" = some (.str letters t)
  g_MOST_FLOW : ∃ t, mg "MOST_FLOW" = some (.int 1000000 t)
  g_MOST_KNOTS : ∃ t, mg "MOST_KNOTS" = some (.int 24 t)
  g_MOST_STREAMS : ∃ t, mg "MOST_STREAMS" = some (.int 60 t)
  g_ENDS : ∃ t, mg "ENDS" = some (.str "ends" t)
  n_len : mg "len" = none
  n_all : mg "all" = none
  n_any : mg "any" = none
  n_sum : mg "sum" = none
  n_abs : mg "abs" = none
  n_min : mg "min" = none
  n_max : mg "max" = none
  n_int : mg "int" = none
  n_sorted : mg "sorted" = none
  n_set : mg "set" = none
  n_list : mg "list" = none
  n_dict : mg "dict" = none
  n_range : mg "range" = none
  n_enumerate : mg "enumerate" = none
  n_zip : mg "zip" = none
section
variable {K : PySem.W.Frag} {mg : Str → Option Value}
theorem b_is_name (T : Tx K mg) : Binds K T.d_is_name P_is_name [] := T.F_is_name.bindsN fun _ _ _ _ _ _ us hl => match us, hl with | [_], _ => rfl
theorem b_are_names (T : Tx K mg) : Binds K T.d_are_names P_are_names [] := T.F_are_names.bindsN fun _ _ _ _ _ _ us hl => match us, hl with | [_], _ => rfl
theorem b_is_stream (T : Tx K mg) : Binds K T.d_is_stream P_is_stream [] := T.F_is_stream.bindsN fun _ _ _ _ _ _ us hl => match us, hl with | [_, _], _ => rfl
theorem b_Plant_init (T : Tx K mg) : Binds K T.d_Plant_init P_Plant_init [] := T.F_Plant_init.bindsN fun _ _ _ _ _ _ us hl => match us, hl with | [_, _, _], _ => rfl
theorem b_Plant_knots (T : Tx K mg) : Binds K T.d_Plant_knots P_Plant_knots [] := T.F_Plant_knots.bindsN fun _ _ _ _ _ _ us hl => match us, hl with | [_], _ => rfl
theorem b_Plant_streams (T : Tx K mg) : Binds K T.d_Plant_streams P_Plant_streams [] := T.F_Plant_streams.bindsN fun _ _ _ _ _ _ us hl => match us, hl with | [_], _ => rfl
theorem b_Plant_stream_names (T : Tx K mg) : Binds K T.d_Plant_stream_names P_Plant_stream_names [] := T.F_Plant_stream_names.bindsN fun _ _ _ _ _ _ us hl => match us, hl with | [_], _ => rfl
theorem b_Plant_stream_named (T : Tx K mg) : Binds K T.d_Plant_stream_named P_Plant_stream_named [] := T.F_Plant_stream_named.bindsN fun _ _ _ _ _ _ us hl => match us, hl with | [_, _], _ => rfl
theorem b_Plant_check_knot (T : Tx K mg) : Binds K T.d_Plant_check_knot P_Plant_check_knot [] := T.F_Plant_check_knot.bindsN fun _ _ _ _ _ _ us hl => match us, hl with | [_, _], _ => rfl
theorem b_check_flows (T : Tx K mg) : Binds K T.d_check_flows P_check_flows [] := T.F_check_flows.bindsN fun _ _ _ _ _ _ us hl => match us, hl with | [_, _], _ => rfl
theorem b_lacks (T : Tx K mg) : Binds K T.d_lacks P_lacks [] := T.F_lacks.bindsN fun _ _ _ _ _ _ us hl => match us, hl with | [_, _], _ => rfl
theorem b_is_balanced (T : Tx K mg) : Binds K T.d_is_balanced P_is_balanced [] := T.F_is_balanced.bindsN fun _ _ _ _ _ _ us hl => match us, hl with | [_, _], _ => rfl
theorem b_lines_of (T : Tx K mg) : Binds K T.d_lines_of P_lines_of [] := T.F_lines_of.bindsN fun _ _ _ _ _ _ us hl => match us, hl with | [_], _ => rfl
theorem b_arcs_of (T : Tx K mg) : Binds K T.d_arcs_of P_arcs_of [] := T.F_arcs_of.bindsN fun _ _ _ _ _ _ us hl => match us, hl with | [_, _, _], _ => rfl
theorem b_way_between (T : Tx K mg) : Binds K T.d_way_between P_way_between [] := T.F_way_between.bindsN fun _ _ _ _ _ _ us hl => match us, hl with | [_, _, _], _ => rfl
theorem b_way_back (T : Tx K mg) : Binds K T.d_way_back P_way_back [] := T.F_way_back.bindsN fun _ _ _ _ _ _ us hl => match us, hl with | [_, _], _ => rfl
theorem b_push (T : Tx K mg) : Binds K T.d_push P_push [] := T.F_push.bindsN fun _ _ _ _ _ _ us hl => match us, hl with | [_, _, _], _ => rfl
theorem b_push_all (T : Tx K mg) : Binds K T.d_push_all P_push_all [] := T.F_push_all.bindsN fun _ _ _ _ _ _ us hl => match us, hl with | [_, _, _, _, _, _], _ => rfl
theorem b_leading_to (T : Tx K mg) : Binds K T.d_leading_to P_leading_to [] := T.F_leading_to.bindsN fun _ _ _ _ _ _ us hl => match us, hl with | [_, _, _, _], _ => rfl
theorem b_led_from (T : Tx K mg) : Binds K T.d_led_from P_led_from [] := T.F_led_from.bindsN fun _ _ _ _ _ _ us hl => match us, hl with | [_, _, _, _], _ => rfl
theorem b_come_to (T : Tx K mg) : Binds K T.d_come_to P_come_to [] := T.F_come_to.bindsN fun _ _ _ _ _ _ us hl => match us, hl with | [_, _], _ => rfl
theorem b_Missing_init (T : Tx K mg) : Binds K T.d_Missing_init P_Missing_init [] := T.F_Missing_init.bindsN fun _ _ _ _ _ _ us hl => match us, hl with | [_, _, _, _, _], _ => rfl
theorem b_check_limits (T : Tx K mg) : Binds K T.d_check_limits P_check_limits [] := T.F_check_limits.bindsN fun _ _ _ _ _ _ us hl => match us, hl with | [_, _], _ => rfl
theorem b_crossed (T : Tx K mg) : Binds K T.d_crossed P_crossed [] := T.F_crossed.bindsN fun _ _ _ _ _ _ us hl => match us, hl with | [_, _], _ => rfl
theorem b_missing_of (T : Tx K mg) : Binds K T.d_missing_of P_missing_of [] := T.F_missing_of.bindsN fun _ _ _ _ _ _ us hl => match us, hl with | [_, _], _ => rfl
theorem b_least_missing (T : Tx K mg) : Binds K T.d_least_missing P_least_missing [] := T.F_least_missing.bindsN fun _ _ _ _ _ _ us hl => match us, hl with | [_, _], _ => rfl
theorem b_check_readings (T : Tx K mg) : Binds K T.d_check_readings P_check_readings [] := T.F_check_readings.bindsN fun _ _ _ _ _ _ us hl => match us, hl with | [_, _], _ => rfl
theorem b_limits_of (T : Tx K mg) : Binds K T.d_limits_of P_limits_of [] := T.F_limits_of.bindsN fun _ _ _ _ _ _ us hl => match us, hl with | [_, _], _ => rfl
theorem b_do_agree (T : Tx K mg) : Binds K T.d_do_agree P_do_agree [] := T.F_do_agree.bindsN fun _ _ _ _ _ _ us hl => match us, hl with | [_, _, _], _ => rfl
theorem b_flows_within (T : Tx K mg) : Binds K T.d_flows_within P_flows_within [] := T.F_flows_within.bindsN fun _ _ _ _ _ _ us hl => match us, hl with | [_, _], _ => rfl
theorem b_flows_of (T : Tx K mg) : Binds K T.d_flows_of P_flows_of [] := T.F_flows_of.bindsN fun _ _ _ _ _ _ us hl => match us, hl with | [_, _], _ => rfl
theorem b_Range_init (T : Tx K mg) : Binds K T.d_Range_init P_Range_init [] := T.F_Range_init.bindsN fun _ _ _ _ _ _ us hl => match us, hl with | [_, _, _, _, _, _, _], _ => rfl
theorem b_pushed_to (T : Tx K mg) : Binds K T.d_pushed_to P_pushed_to [] := T.F_pushed_to.bindsN fun _ _ _ _ _ _ us hl => match us, hl with | [_, _, _, _, _, _, _], _ => rfl
theorem b_range_within (T : Tx K mg) : Binds K T.d_range_within P_range_within [] := T.F_range_within.bindsN fun _ _ _ _ _ _ us hl => match us, hl with | [_, _, _], _ => rfl
theorem b_range_of (T : Tx K mg) : Binds K T.d_range_of P_range_of [] := T.F_range_of.bindsN fun _ _ _ _ _ _ us hl => match us, hl with | [_, _, _], _ => rfl
theorem b_Course_init (T : Tx K mg) : Binds K T.d_Course_init P_Course_init [] := T.F_Course_init.bindsN fun _ _ _ _ _ _ us hl => match us, hl with | [_, _, _], _ => rfl
theorem b_check_days (T : Tx K mg) : Binds K T.d_check_days P_check_days [] := T.F_check_days.bindsN fun _ _ _ _ _ _ us hl => match us, hl with | [_, _, _], _ => rfl
theorem b_check_all (T : Tx K mg) : Binds K T.d_check_all P_check_all [] := T.F_check_all.bindsN fun _ _ _ _ _ _ us hl => match us, hl with | [_, _, _, _], _ => rfl
theorem b_day_name (T : Tx K mg) : Binds K T.d_day_name P_day_name [] := T.F_day_name.bindsN fun _ _ _ _ _ _ us hl => match us, hl with | [_, _, _], _ => rfl
theorem b_evening_name (T : Tx K mg) : Binds K T.d_evening_name P_evening_name [] := T.F_evening_name.bindsN fun _ _ _ _ _ _ us hl => match us, hl with | [_, _, _], _ => rfl
theorem b_knot_name (T : Tx K mg) : Binds K T.d_knot_name P_knot_name [] := T.F_knot_name.bindsN fun _ _ _ _ _ _ us hl => match us, hl with | [_, _, _, _], _ => rfl
theorem b_laid_out (T : Tx K mg) : Binds K T.d_laid_out P_laid_out [] := T.F_laid_out.bindsN fun _ _ _ _ _ _ us hl => match us, hl with | [_, _, _], _ => rfl
theorem b_laid_readings (T : Tx K mg) : Binds K T.d_laid_readings P_laid_readings [] := T.F_laid_readings.bindsN fun _ _ _ _ _ _ us hl => match us, hl with | [_, _, _, _], _ => rfl
theorem b_course (T : Tx K mg) : Binds K T.d_course P_course [] := T.F_course.bindsN fun _ _ _ _ _ _ us hl => match us, hl with | [_, _, _, _], _ => rfl
theorem b_is_course (T : Tx K mg) : Binds K T.d_is_course P_is_course [] := T.F_is_course.bindsN fun _ _ _ _ _ _ us hl => match us, hl with | [_, _, _, _, _], _ => rfl
theorem b_range_named (T : Tx K mg) : Binds K T.d_range_named P_range_named [] := T.F_range_named.bindsN fun _ _ _ _ _ _ us hl => match us, hl with | [_, _, _, _, _], _ => rfl
theorem b_day_range (T : Tx K mg) : Binds K T.d_day_range P_day_range [] := T.F_day_range.bindsN fun _ _ _ _ _ _ us hl => match us, hl with | [_, _, _, _, _, _], _ => rfl
theorem b_stock_range (T : Tx K mg) : Binds K T.d_stock_range P_stock_range [] := T.F_stock_range.bindsN fun _ _ _ _ _ _ us hl => match us, hl with | [_, _, _, _, _, _], _ => rfl
theorem b__law_row (T : Tx K mg) : Binds K T.d__law_row P__law_row [] := T.F__law_row.bindsN fun _ _ _ _ _ _ us hl => match us, hl with | [_, _], _ => rfl
theorem b__law_numbers (T : Tx K mg) : Binds K T.d__law_numbers P__law_numbers [] := T.F__law_numbers.bindsN fun _ _ _ _ _ _ us hl => match us, hl with | [_, _], _ => rfl
theorem b__law_names (T : Tx K mg) : Binds K T.d__law_names P__law_names [] := T.F__law_names.bindsN fun _ _ _ _ _ _ us hl => match us, hl with | [_, _], _ => rfl
theorem b__law_plant (T : Tx K mg) : Binds K T.d__law_plant P__law_plant [] := T.F__law_plant.bindsN fun _ _ _ _ _ _ us hl => match us, hl with | [_, _, _, _, _], _ => rfl
theorem b__law_made (T : Tx K mg) : Binds K T.d__law_made P__law_made [] := T.F__law_made.bindsN fun _ _ _ _ _ _ us hl => match us, hl with | [_], _ => rfl
theorem b__law_limits (T : Tx K mg) : Binds K T.d__law_limits P__law_limits [] := T.F__law_limits.bindsN fun _ _ _ _ _ _ us hl => match us, hl with | [_, _], _ => rfl
theorem b__law_readings (T : Tx K mg) : Binds K T.d__law_readings P__law_readings [] := T.F__law_readings.bindsN fun _ _ _ _ _ _ us hl => match us, hl with | [_, _, _, _], _ => rfl
theorem b__law_stores (T : Tx K mg) : Binds K T.d__law_stores P__law_stores [] := T.F__law_stores.bindsN fun _ _ _ _ _ _ us hl => match us, hl with | [_, _, _, _], _ => rfl
theorem b__law_courses (T : Tx K mg) : Binds K T.d__law_courses P__law_courses [] := T.F__law_courses.bindsN fun _ _ _ _ _ _ us hl => match us, hl with | [_, _, _, _], _ => rfl
theorem b__law_rows_of (T : Tx K mg) : Binds K T.d__law_rows_of P__law_rows_of [] := T.F__law_rows_of.bindsN fun _ _ _ _ _ _ us hl => match us, hl with | [_], _ => rfl
theorem b__law_evening (T : Tx K mg) : Binds K T.d__law_evening P__law_evening [] := T.F__law_evening.bindsN fun _ _ _ _ _ _ us hl => match us, hl with | [_, _, _, _, _], _ => rfl
theorem b__law_fits (T : Tx K mg) : Binds K T.d__law_fits P__law_fits [] := T.F__law_fits.bindsN fun _ _ _ _ _ _ us hl => match us, hl with | [_, _, _], _ => rfl
theorem b__law_small (T : Tx K mg) : Binds K T.d__law_small P__law_small [] := T.F__law_small.bindsN fun _ _ _ _ _ _ us hl => match us, hl with | [_], _ => rfl
theorem b_law (T : Tx K mg) : Binds K T.d_law P_law [] := T.F_law.bindsN fun _ _ _ _ _ _ us hl => match us, hl with | [_], _ => rfl
end
end Mx

set_option Elab.async false
set_option linter.all false
set_option maxRecDepth 100000
set_option maxHeartbeats 0
/-! The head. Printed by head.py. -/
namespace Hd
open PySem PySem.Spec PyProof.Rows L2 Mx
/-- a property: its class, its name, its getter -/
structure Gt where
  C : Str
  f : Str
  d : He.DefD
def gtP (K : PySem.W.Frag) (g : Gt) : Addr := He.ma K (He.ga K g.C) g.f
def gtA (K : PySem.W.Frag) (g : Gt) : Addr := match PySem.W.recIn K (gtP K g) "property" with
  | some (.ref a :: _) => a
  | _ => 0
def fnX : Option Obj → He.FnW
  | some ⟨_, _, .func z, _⟩ => some (z.name, z.qualname, z.params, z.body, z.scope, z.globals, z.closure, z.builtins)
  | _ => none
def cdX (K : PySem.W.Frag) (q : Str) : Option Obj → Bool
  | some ⟨_, _, .func z, _⟩ => PySem.W.codeIn K z.code q && (He.dflB K z.defaults [] && He.kwdB K z.kwdefaults [])
  | _ => false
def rcX (K : PySem.W.Frag) (g : Gt) : Bool := match PySem.W.recIn K (gtP K g) "property" with
  | some (.ref _ :: _) => true
  | _ => false
def Gt.ok (K : PySem.W.Frag) (g : Gt) : Bool := He.eqO (PySem.W.findIn K (.ref (He.ga K g.C)) g.f) (some (some (.ref (gtP K g)))) && (He.eqO (PySem.W.specialIn K (.ref (gtP K g)) "__get__") (some (some (.builtin "property.__get__"))) &&
  (decide (PySem.W.takesIn K (.ref (gtP K g)) = some true) && (rcX K g && (PySem.W.keepIn K (.ref (gtA K g)) && cdX K g.d.qual (K.lookup (gtA K g))))))
theorem gt_fn {K : PySem.W.Frag} {g : Gt} (e : fnX (K.lookup (gtA K g)) = g.d.val) (c : g.ok K = true) : ∃ fd, FunD K g.d.name g.d.qual g.d.params g.d.body g.d.scope [] [] (gtA K g) fd := by
  obtain ⟨_, c⟩ := He.ba c
  obtain ⟨_, c⟩ := He.ba c
  obtain ⟨_, c⟩ := He.ba c
  obtain ⟨_, c⟩ := He.ba c
  obtain ⟨kp, c⟩ := He.ba c
  cases q : K.lookup (gtA K g) with
  | none =>
    rw [q] at c
    cases c
  | some ob =>
    obtain ⟨oc, od, dt, osl⟩ := ob
    rw [q] at c e
    cases dt with
    | func z =>
      obtain ⟨c1, c⟩ := He.ba (show (PySem.W.codeIn K z.code g.d.qual && (He.dflB K z.defaults [] && He.kwdB K z.kwdefaults [])) = true from c)
      obtain ⟨c2, c3⟩ := He.ba c
      obtain ⟨m1, m2, m3, m4, m5, m6, m7, m8, m9, m10, m11, m12, m13, m14, m15⟩ := z
      have e2 : (some (m1, m2, m3, m4, m5, m6, m7, m15) : He.FnW) = some (g.d.name, g.d.qual, g.d.params, .stmts g.d.body, g.d.scope, mainGlobals, [], builtinsNs) := e
      simp only [Option.some.injEq, Prod.mk.injEq] at e2
      obtain ⟨rfl, rfl, rfl, rfl, rfl, rfl, rfl, rfl⟩ := e2
      exact ⟨_, ⟨oc, od, m8, m9, m10, m11, m12, m13, m14, osl, rfl, q, c1, He.dflB_ok c2, He.kwdB_ok c3⟩, kp⟩
    | _ => cases c
theorem gt_prop {K : PySem.W.Frag} {g : Gt} (c : g.ok K = true) : PropOf K (He.ga K g.C) g.f (gtP K g) (gtA K g) := by
  obtain ⟨c1, c⟩ := He.ba c
  obtain ⟨c2, c⟩ := He.ba c
  obtain ⟨c3, c⟩ := He.ba c
  obtain ⟨c4, _⟩ := He.ba c
  refine ⟨He.eqO_ok c1, He.eqO_ok c2, of_decide_eq_true c3, ?_⟩
  unfold rcX at c4
  unfold gtA
  cases q : PySem.W.recIn K (gtP K g) "property" with
  | none => rw [q] at c4; cases c4
  | some l =>
    rw [q] at c4
    cases l with
    | nil => cases c4
    | cons v r =>
      cases v with
      | ref a => exact ⟨r, rfl⟩
      | _ => cases c4
/-! the Hook: He.hookD and the properties -/
abbrev AlG : Type := He.AlD × (Bool × List He.FnW)
def obG (fa : List He.Fa) (fn : List He.DefD) (gt : List Gt) (K : PySem.W.Frag) : AlG := (He.obsD fa fn K, (gt.all fun g => g.ok K, gt.map fun g => fnX (K.lookup (gtA K g))))
def vlG (fn : List He.DefD) (gt : List Gt) : AlG := (He.valD fn, (true, gt.map fun g => g.d.val))
/-- what objects name, step by step, each step once more only the new ones (nothing is sought twice: it costs the kernel much) -/
def nxA (r : Addr → Option Obj) (as : List Addr) : List Addr := as.flatMap fun a => match r a with
  | some o => He.refsD o
  | none => []
def stA (r : Addr → Option Obj) : Nat → List Addr → List Addr
  | 0, as => as
  | n + 1, as => as ++ stA r n (nxA r as)
def obGG (n : Nat) (fa : List He.Fa) (fn : List He.DefD) (gt : List Gt) (r : Addr → Option Obj) : AlG := obG fa fn gt (He.frG r (stA r n [mainGlobals]))
def hkG (n : Nat) (fa : List He.Fa) (fn : List He.DefD) (gt : List Gt) : PySem.W.Hook where
  α := AlG
  obs := fun s => obGG n fa fn gt s.heap.get?
  val := fun _ => vlG fn gt
  says := fun _ h => ∃ K : PySem.W.Frag, K.In h ∧ obG fa fn gt K = vlG fn gt
  of := fun _ _ e => ⟨_, He.frG_in, e⟩
  keeps := fun _ _ _ ⟨K, x, c⟩ k => ⟨K, PySem.W.Frag.In.keeps x k, c⟩
theorem obGG_eq {n : Nat} {fa : List He.Fa} {fn : List He.DefD} {gt : List Gt} {r : Addr → Option Obj} {s : Shared} (h : ∀ a, r a = s.heap.get? a) : obGG n fa fn gt r = (hkG n fa fn gt).obs s := by
  rw [show r = s.heap.get? from funext h]
  rfl
theorem gt_all {fa : List He.Fa} {fn : List He.DefD} {gt : List Gt} {K : PySem.W.Frag} (c : obG fa fn gt K = vlG fn gt) (i : Nat) {g : Gt} (h : gt[i]? = some g) : (∃ fd, FunD K g.d.name g.d.qual g.d.params g.d.body g.d.scope [] [] (gtA K g) fd) ∧ PropOf K (He.ga K g.C) g.f (gtP K g) (gtA K g) := by
  have c1 : (gt.all fun g => g.ok K) = true := congrArg (fun z : AlG => z.2.1) c
  have c2 : gt.map (fun g => fnX (K.lookup (gtA K g))) = gt.map fun g => g.d.val := congrArg (fun z : AlG => z.2.2) c
  have c3 := List.all_eq_true.mp c1 g (List.mem_of_getElem? h)
  have c4 : (gt.map (fun g => fnX (K.lookup (gtA K g))))[i]? = (gt.map fun g => g.d.val)[i]? := by rw [c2]
  rw [List.getElem?_map, List.getElem?_map, h] at c4
  exact ⟨gt_fn (Option.some.inj c4) c3, gt_prop c3⟩
def dd_is_name : He.DefD := ⟨("is_name", none), "is_name", "is_name", defArgs s_is_name, defBody s_is_name, defScope s_is_name, [], []⟩
def dd_are_names : He.DefD := ⟨("are_names", none), "are_names", "are_names", defArgs s_are_names, defBody s_are_names, defScope s_are_names, [], []⟩
def dd_is_stream : He.DefD := ⟨("is_stream", none), "is_stream", "is_stream", defArgs s_is_stream, defBody s_is_stream, defScope s_is_stream, [], []⟩
def dd_Plant_init : He.DefD := ⟨("Plant", some "__init__"), "__init__", "Plant.__init__", defArgs s_Plant_init, defBody s_Plant_init, defScope s_Plant_init, [], []⟩
def dd_Plant_knots : He.DefD := ⟨("Plant", some "knots"), "knots", "Plant.knots", defArgs s_Plant_knots, defBody s_Plant_knots, defScope s_Plant_knots, [], []⟩
def gg_Plant_knots : Gt := ⟨"Plant", "knots", dd_Plant_knots⟩
def dd_Plant_streams : He.DefD := ⟨("Plant", some "streams"), "streams", "Plant.streams", defArgs s_Plant_streams, defBody s_Plant_streams, defScope s_Plant_streams, [], []⟩
def gg_Plant_streams : Gt := ⟨"Plant", "streams", dd_Plant_streams⟩
def dd_Plant_stream_names : He.DefD := ⟨("Plant", some "stream_names"), "stream_names", "Plant.stream_names", defArgs s_Plant_stream_names, defBody s_Plant_stream_names, defScope s_Plant_stream_names, [], []⟩
def dd_Plant_stream_named : He.DefD := ⟨("Plant", some "stream_named"), "stream_named", "Plant.stream_named", defArgs s_Plant_stream_named, defBody s_Plant_stream_named, defScope s_Plant_stream_named, [], []⟩
def dd_Plant_check_knot : He.DefD := ⟨("Plant", some "check_knot"), "check_knot", "Plant.check_knot", defArgs s_Plant_check_knot, defBody s_Plant_check_knot, defScope s_Plant_check_knot, [], []⟩
def dd_check_flows : He.DefD := ⟨("check_flows", none), "check_flows", "check_flows", defArgs s_check_flows, defBody s_check_flows, defScope s_check_flows, [], []⟩
def dd_lacks : He.DefD := ⟨("lacks", none), "lacks", "lacks", defArgs s_lacks, defBody s_lacks, defScope s_lacks, [], []⟩
def dd_is_balanced : He.DefD := ⟨("is_balanced", none), "is_balanced", "is_balanced", defArgs s_is_balanced, defBody s_is_balanced, defScope s_is_balanced, [], []⟩
def dd_lines_of : He.DefD := ⟨("lines_of", none), "lines_of", "lines_of", defArgs s_lines_of, defBody s_lines_of, defScope s_lines_of, [], []⟩
def dd_arcs_of : He.DefD := ⟨("arcs_of", none), "arcs_of", "arcs_of", defArgs s_arcs_of, defBody s_arcs_of, defScope s_arcs_of, [], []⟩
def dd_way_between : He.DefD := ⟨("way_between", none), "way_between", "way_between", defArgs s_way_between, defBody s_way_between, defScope s_way_between, [], []⟩
def dd_way_back : He.DefD := ⟨("way_back", none), "way_back", "way_back", defArgs s_way_back, defBody s_way_back, defScope s_way_back, [], []⟩
def dd_push : He.DefD := ⟨("push", none), "push", "push", defArgs s_push, defBody s_push, defScope s_push, [], []⟩
def dd_push_all : He.DefD := ⟨("push_all", none), "push_all", "push_all", defArgs s_push_all, defBody s_push_all, defScope s_push_all, [], []⟩
def dd_leading_to : He.DefD := ⟨("leading_to", none), "leading_to", "leading_to", defArgs s_leading_to, defBody s_leading_to, defScope s_leading_to, [], []⟩
def dd_led_from : He.DefD := ⟨("led_from", none), "led_from", "led_from", defArgs s_led_from, defBody s_led_from, defScope s_led_from, [], []⟩
def dd_come_to : He.DefD := ⟨("come_to", none), "come_to", "come_to", defArgs s_come_to, defBody s_come_to, defScope s_come_to, [], []⟩
def dd_Missing_init : He.DefD := ⟨("Missing", some "__init__"), "__init__", "Missing.__init__", defArgs s_Missing_init, defBody s_Missing_init, defScope s_Missing_init, [], []⟩
def dd_check_limits : He.DefD := ⟨("check_limits", none), "check_limits", "check_limits", defArgs s_check_limits, defBody s_check_limits, defScope s_check_limits, [], []⟩
def dd_crossed : He.DefD := ⟨("crossed", none), "crossed", "crossed", defArgs s_crossed, defBody s_crossed, defScope s_crossed, [], []⟩
def dd_missing_of : He.DefD := ⟨("missing_of", none), "missing_of", "missing_of", defArgs s_missing_of, defBody s_missing_of, defScope s_missing_of, [], []⟩
def dd_least_missing : He.DefD := ⟨("least_missing", none), "least_missing", "least_missing", defArgs s_least_missing, defBody s_least_missing, defScope s_least_missing, [], []⟩
def dd_check_readings : He.DefD := ⟨("check_readings", none), "check_readings", "check_readings", defArgs s_check_readings, defBody s_check_readings, defScope s_check_readings, [], []⟩
def dd_limits_of : He.DefD := ⟨("limits_of", none), "limits_of", "limits_of", defArgs s_limits_of, defBody s_limits_of, defScope s_limits_of, [], []⟩
def dd_do_agree : He.DefD := ⟨("do_agree", none), "do_agree", "do_agree", defArgs s_do_agree, defBody s_do_agree, defScope s_do_agree, [], []⟩
def dd_flows_within : He.DefD := ⟨("flows_within", none), "flows_within", "flows_within", defArgs s_flows_within, defBody s_flows_within, defScope s_flows_within, [], []⟩
def dd_flows_of : He.DefD := ⟨("flows_of", none), "flows_of", "flows_of", defArgs s_flows_of, defBody s_flows_of, defScope s_flows_of, [], []⟩
def dd_Range_init : He.DefD := ⟨("Range", some "__init__"), "__init__", "Range.__init__", defArgs s_Range_init, defBody s_Range_init, defScope s_Range_init, [], []⟩
def dd_pushed_to : He.DefD := ⟨("pushed_to", none), "pushed_to", "pushed_to", defArgs s_pushed_to, defBody s_pushed_to, defScope s_pushed_to, [], []⟩
def dd_range_within : He.DefD := ⟨("range_within", none), "range_within", "range_within", defArgs s_range_within, defBody s_range_within, defScope s_range_within, [], []⟩
def dd_range_of : He.DefD := ⟨("range_of", none), "range_of", "range_of", defArgs s_range_of, defBody s_range_of, defScope s_range_of, [], []⟩
def dd_Course_init : He.DefD := ⟨("Course", some "__init__"), "__init__", "Course.__init__", defArgs s_Course_init, defBody s_Course_init, defScope s_Course_init, [], []⟩
def dd_check_days : He.DefD := ⟨("check_days", none), "check_days", "check_days", defArgs s_check_days, defBody s_check_days, defScope s_check_days, [], []⟩
def dd_check_all : He.DefD := ⟨("check_all", none), "check_all", "check_all", defArgs s_check_all, defBody s_check_all, defScope s_check_all, [], []⟩
def dd_day_name : He.DefD := ⟨("day_name", none), "day_name", "day_name", defArgs s_day_name, defBody s_day_name, defScope s_day_name, [], []⟩
def dd_evening_name : He.DefD := ⟨("evening_name", none), "evening_name", "evening_name", defArgs s_evening_name, defBody s_evening_name, defScope s_evening_name, [], []⟩
def dd_knot_name : He.DefD := ⟨("knot_name", none), "knot_name", "knot_name", defArgs s_knot_name, defBody s_knot_name, defScope s_knot_name, [], []⟩
def dd_laid_out : He.DefD := ⟨("laid_out", none), "laid_out", "laid_out", defArgs s_laid_out, defBody s_laid_out, defScope s_laid_out, [], []⟩
def dd_laid_readings : He.DefD := ⟨("laid_readings", none), "laid_readings", "laid_readings", defArgs s_laid_readings, defBody s_laid_readings, defScope s_laid_readings, [], []⟩
def dd_course : He.DefD := ⟨("course", none), "course", "course", defArgs s_course, defBody s_course, defScope s_course, [], []⟩
def dd_is_course : He.DefD := ⟨("is_course", none), "is_course", "is_course", defArgs s_is_course, defBody s_is_course, defScope s_is_course, [], []⟩
def dd_range_named : He.DefD := ⟨("range_named", none), "range_named", "range_named", defArgs s_range_named, defBody s_range_named, defScope s_range_named, [], []⟩
def dd_day_range : He.DefD := ⟨("day_range", none), "day_range", "day_range", defArgs s_day_range, defBody s_day_range, defScope s_day_range, [], []⟩
def dd_stock_range : He.DefD := ⟨("stock_range", none), "stock_range", "stock_range", defArgs s_stock_range, defBody s_stock_range, defScope s_stock_range, [], []⟩
def dd__law_row : He.DefD := ⟨("_law_row", none), "_law_row", "_law_row", defArgs s__law_row, defBody s__law_row, defScope s__law_row, [], []⟩
def dd__law_numbers : He.DefD := ⟨("_law_numbers", none), "_law_numbers", "_law_numbers", defArgs s__law_numbers, defBody s__law_numbers, defScope s__law_numbers, [], []⟩
def dd__law_names : He.DefD := ⟨("_law_names", none), "_law_names", "_law_names", defArgs s__law_names, defBody s__law_names, defScope s__law_names, [], []⟩
def dd__law_plant : He.DefD := ⟨("_law_plant", none), "_law_plant", "_law_plant", defArgs s__law_plant, defBody s__law_plant, defScope s__law_plant, [], []⟩
def dd__law_made : He.DefD := ⟨("_law_made", none), "_law_made", "_law_made", defArgs s__law_made, defBody s__law_made, defScope s__law_made, [], []⟩
def dd__law_limits : He.DefD := ⟨("_law_limits", none), "_law_limits", "_law_limits", defArgs s__law_limits, defBody s__law_limits, defScope s__law_limits, [], []⟩
def dd__law_readings : He.DefD := ⟨("_law_readings", none), "_law_readings", "_law_readings", defArgs s__law_readings, defBody s__law_readings, defScope s__law_readings, [], []⟩
def dd__law_stores : He.DefD := ⟨("_law_stores", none), "_law_stores", "_law_stores", defArgs s__law_stores, defBody s__law_stores, defScope s__law_stores, [], []⟩
def dd__law_courses : He.DefD := ⟨("_law_courses", none), "_law_courses", "_law_courses", defArgs s__law_courses, defBody s__law_courses, defScope s__law_courses, [], []⟩
def dd__law_rows_of : He.DefD := ⟨("_law_rows_of", none), "_law_rows_of", "_law_rows_of", defArgs s__law_rows_of, defBody s__law_rows_of, defScope s__law_rows_of, [], []⟩
def dd__law_evening : He.DefD := ⟨("_law_evening", none), "_law_evening", "_law_evening", defArgs s__law_evening, defBody s__law_evening, defScope s__law_evening, [], []⟩
def dd__law_fits : He.DefD := ⟨("_law_fits", none), "_law_fits", "_law_fits", defArgs s__law_fits, defBody s__law_fits, defScope s__law_fits, [], []⟩
def dd__law_small : He.DefD := ⟨("_law_small", none), "_law_small", "_law_small", defArgs s__law_small, defBody s__law_small, defScope s__law_small, [], []⟩
def dd_law : He.DefD := ⟨("law", none), "law", "law", defArgs s_law, defBody s_law, defScope s_law, [], []⟩
def fns0 : List He.DefD := [dd_is_name, dd_are_names, dd_is_stream, dd_Plant_init, dd_Plant_stream_names, dd_Plant_stream_named, dd_Plant_check_knot, dd_check_flows, dd_lacks, dd_is_balanced, dd_lines_of, dd_arcs_of]
def fns1 : List He.DefD := [dd_way_between, dd_way_back, dd_push, dd_push_all, dd_leading_to, dd_led_from, dd_come_to, dd_Missing_init, dd_check_limits, dd_crossed, dd_missing_of, dd_least_missing]
def fns2 : List He.DefD := [dd_check_readings, dd_limits_of, dd_do_agree, dd_flows_within, dd_flows_of, dd_Range_init, dd_pushed_to, dd_range_within, dd_range_of, dd_Course_init, dd_check_days, dd_check_all]
def fns3 : List He.DefD := [dd_day_name, dd_evening_name, dd_knot_name, dd_laid_out, dd_laid_readings, dd_course, dd_is_course, dd_range_named, dd_day_range, dd_stock_range, dd__law_row, dd__law_numbers]
def fns4 : List He.DefD := [dd__law_names, dd__law_plant, dd__law_made, dd__law_limits, dd__law_readings, dd__law_stores, dd__law_courses, dd__law_rows_of, dd__law_evening, dd__law_fits, dd__law_small, dd_law]
def fns : List He.DefD := fns0 ++ fns1 ++ fns2 ++ fns3 ++ fns4
def fas0 : List He.Fa := [.glo "is_name", .glo "are_names", .glo "is_stream", .glo "check_flows", .glo "lacks", .glo "is_balanced", .glo "lines_of", .glo "arcs_of", .glo "way_between", .glo "way_back", .glo "push", .glo "push_all"]
def fas1 : List He.Fa := [.glo "leading_to", .glo "led_from", .glo "come_to", .glo "check_limits", .glo "crossed", .glo "missing_of", .glo "least_missing", .glo "check_readings", .glo "limits_of", .glo "do_agree", .glo "flows_within", .glo "flows_of"]
def fas2 : List He.Fa := [.glo "pushed_to", .glo "range_within", .glo "range_of", .glo "check_days", .glo "check_all", .glo "day_name", .glo "evening_name", .glo "knot_name", .glo "laid_out", .glo "laid_readings", .glo "course", .glo "is_course"]
def fas3 : List He.Fa := [.glo "range_named", .glo "day_range", .glo "stock_range", .glo "_law_row", .glo "_law_numbers", .glo "_law_names", .glo "_law_plant", .glo "_law_made", .glo "_law_limits", .glo "_law_readings", .glo "_law_stores", .glo "_law_courses"]
def fas4 : List He.Fa := [.glo "_law_rows_of", .glo "_law_evening", .glo "_law_fits", .glo "_law_small", .glo "law", .glo "Plant", .cls "Plant", .mkr "Plant", .noat "Plant" "_knots", .noat "Plant" "_streams", .glo "Missing", .cls "Missing"]
def fas5 : List He.Fa := [.mkr "Missing", .noat "Missing" "number", .noat "Missing" "flows", .noat "Missing" "least", .noat "Missing" "greatest", .glo "Range", .cls "Range", .mkr "Range", .noat "Range" "low", .noat "Range" "high", .noat "Range" "low_flows", .noat "Range" "high_flows"]
def fas6 : List He.Fa := [.noat "Range" "low_lot", .noat "Range" "high_lot", .glo "Course", .cls "Course", .mkr "Course", .noat "Course" "flows", .noat "Course" "stocks", .meth "Plant" "stream_names", .meth "Plant" "stream_named", .meth "Plant" "check_knot", .str "LETTERS" letters, .int "MOST_FLOW" 1000000]
def fas7 : List He.Fa := [.int "MOST_KNOTS" 24, .int "MOST_STREAMS" 60, .str "ENDS" "ends", .free "len", .free "all", .free "any", .free "sum", .free "abs", .free "min", .free "max", .free "int", .free "sorted"]
def fas8 : List He.Fa := [.free "set", .free "list", .free "dict", .free "range", .free "enumerate", .free "zip"]
def fas : List He.Fa := fas0 ++ fas1 ++ fas2 ++ fas3 ++ fas4 ++ fas5 ++ fas6 ++ fas7 ++ fas8
def gts : List Gt := [gg_Plant_knots, gg_Plant_streams]
abbrev RR : PySem.W.OpenRow := PySem.W.OpenLaw.row PySem.Challenge.rw_metersure_k84_whole_ranges_over_days
abbrev hk : PySem.W.Hook := hkG 5 fas fns gts
def ob (s : PySem.W.SharedT) : AlG := obGG 5 fas fns gts (HandSHeadRun.getT s)
theorem ob_eq (s : PySem.W.SharedT) : ob s = hk.obs s.abs := obGG_eq (HandSHeadRun.getT_eq s)
def tops0 : List Str := ["_wall", "MeterError", "InvalidPlant", "InvalidReadings", "TooLarge", "UnknownKnot", "UnknownStream", "LETTERS", "MOST_FLOW", "MOST_KNOTS", "MOST_STREAMS", "is_name"]
def tops1 : List Str := ["are_names", "is_stream", "Plant", "check_flows", "lacks", "is_balanced", "lines_of", "arcs_of", "way_between", "way_back", "push", "push_all"]
def tops2 : List Str := ["leading_to", "led_from", "come_to", "Missing", "check_limits", "crossed", "missing_of", "least_missing", "check_readings", "limits_of", "do_agree", "flows_within"]
def tops3 : List Str := ["flows_of", "Range", "pushed_to", "range_within", "range_of", "ENDS", "Course", "check_days", "check_all", "day_name", "evening_name", "knot_name"]
def tops4 : List Str := ["laid_out", "laid_readings", "course", "is_course", "range_named", "day_range", "stock_range", "_law_row", "_law_numbers", "_law_names", "_law_plant", "_law_made"]
def tops5 : List Str := ["_law_some", "_law_all_flows", "_law_is_even", "_law_limits", "_law_readings", "_law_stores", "_law_laid", "_law_courses", "_law_rows_of", "_law_evening", "_law_fits", "_law_small"]
def tops : List Str := tops0 ++ tops1 ++ tops2 ++ tops3 ++ tops4 ++ tops5
theorem run (w : World) : HandSHeadRun.RunEq RR (PySem.W.view RR.prog [81]) hk ob 6000 tops w := by
  intro os
  kernel_rfl
end Hd
namespace Hd
open PySem PySem.W PySem.Calls PyProof.Rows
abbrev lawD : DefRec := HandSHeadRun.topDef (OpenLaw.row PySem.Challenge.rw_metersure_k84_whole_ranges_over_days).prog 81
theorem head0 (hc : WalkO (view RR.prog [81]) tops (XL (view RR.prog [81]) []) hk.says RR.toRowW lawD [] fun f vs => PySem.call f vs) : PySem.Challenge.rw_metersure_k84_whole_ranges_over_days.Holds := by
  w_on; o_law
  refine HandSHeadRun.head_any (r := OpenLaw.row PySem.Challenge.rw_metersure_k84_whole_ranges_over_days) (q := view (OpenLaw.row PySem.Challenge.rw_metersure_k84_whole_ranges_over_days).prog [81]) (H := hk) (ob := ob) (M := 6000) (loose := tops) (d := HandSHeadRun.topDef (OpenLaw.row PySem.Challenge.rw_metersure_k84_whole_ranges_over_days).prog 81) (kwd := []) ob_eq
    (by kernel_rfl) (fun s => by kernel_rfl) run (by kernel_rfl) (by kernel_rfl) (by kernel_rfl) (by rfl) (by first | assumption | decide +kernel) (by decide +kernel) ⟨rfl, rfl, rfl, rfl, rfl, by decide +kernel⟩ ?hw hc
  case hw => w_witness2
theorem law_nm : lawD.name = ("law" : PySem.Str) := by kernel_rfl
theorem law_df : lawD.params.defaults = [] := by kernel_rfl
end Hd

set_option linter.all false
/-! Flows on lines: what is left at a knot, residual arcs, pushing along a way, the cut. Core Lean alone. -/
namespace Mt
variable {α : Type} [DecidableEq α]

structure Edge (α : Type) where
  nm : α
  tl : α
  hd : α

def con (f : α → Int) (k : α) (e : Edge α) : Int := (if e.hd = k then f e.nm else 0) - (if e.tl = k then f e.nm else 0)
def net (E : List (Edge α)) (f : α → Int) (k : α) : Int := (E.map (con f k)).sum
def setF (f : α → Int) (n : α) (x : Int) : α → Int := fun m => if m = n then x else f m
theorem setF_same (f : α → Int) (n : α) (x : Int) : setF f n x n = x := if_pos rfl
theorem setF_ne (f : α → Int) {n m : α} (x : Int) (h : m ≠ n) : setF f n x m = f m := if_neg h

theorem net_nil (f : α → Int) (k : α) : net [] f k = 0 := rfl
theorem net_cons (e : Edge α) (E : List (Edge α)) (f : α → Int) (k : α) : net (e :: E) f k = con f k e + net E f k := by
  unfold net
  rw [List.map_cons, List.sum_cons]
theorem net_congr {E : List (Edge α)} {f g : α → Int} (h : ∀ e ∈ E, f e.nm = g e.nm) (k : α) : net E f k = net E g k := by
  induction E with
  | nil => rfl
  | cons e E ih =>
    rw [net_cons, net_cons, ih fun x hx => h x (List.mem_cons_of_mem _ hx)]
    unfold con
    rw [h e List.mem_cons_self]
theorem net_set_out {E : List (Edge α)} {f : α → Int} {n : α} {x : Int} (h : n ∉ E.map (·.nm)) (k : α) : net E (setF f n x) k = net E f k :=
  net_congr (fun e he => setF_ne f x fun z => h (List.mem_map.mpr ⟨e, he, z⟩)) k
theorem net_set {E : List (Edge α)} (nd : (E.map (·.nm)).Nodup) {e : Edge α} (he : e ∈ E) (f : α → Int) (x : Int) (k : α) :
    net E (setF f e.nm x) k = net E f k + ((if e.hd = k then x - f e.nm else 0) - (if e.tl = k then x - f e.nm else 0)) := by
  induction E with
  | nil => cases he
  | cons d E ih =>
    rw [List.map_cons, List.nodup_cons] at nd
    rw [net_cons, net_cons]
    rcases List.mem_cons.mp he with rfl | he
    · rw [net_set_out nd.1]
      unfold con
      rw [setF_same]
      split <;> split <;> omega
    · rw [ih nd.2 he]
      have hne : d.nm ≠ e.nm := fun z => nd.1 (z ▸ List.mem_map.mpr ⟨e, he, rfl⟩)
      unfold con
      rw [setF_ne _ _ hne]
      omega

/-! ### arcs -/
structure Arc (α : Type) where
  src : α
  dst : α
  nm : α
  sg : Int
  room : Int
def fwd (L : α → Int × Int) (f : α → Int) (e : Edge α) : Arc α := ⟨e.tl, e.hd, e.nm, 1, (L e.nm).2 - f e.nm⟩
def bwd (L : α → Int × Int) (f : α → Int) (e : Edge α) : Arc α := ⟨e.hd, e.tl, e.nm, -1, f e.nm - (L e.nm).1⟩
def IsArc (E : List (Edge α)) (L : α → Int × Int) (f : α → Int) (a : Arc α) : Prop :=
  ∃ e ∈ E, (a = fwd L f e ∧ f e.nm < (L e.nm).2) ∨ (a = bwd L f e ∧ (L e.nm).1 < f e.nm)
/-- an arc along a line, whichever way -/
def Along (E : List (Edge α)) (a : Arc α) : Prop := ∃ e ∈ E, a.nm = e.nm ∧ ((a.src = e.tl ∧ a.dst = e.hd ∧ a.sg = 1) ∨ (a.src = e.hd ∧ a.dst = e.tl ∧ a.sg = -1))
theorem IsArc.along {E : List (Edge α)} {L : α → Int × Int} {f : α → Int} {a : Arc α} (h : IsArc E L f a) : Along E a := by
  obtain ⟨e, he, ⟨rfl, _⟩ | ⟨rfl, _⟩⟩ := h
  · exact ⟨e, he, rfl, .inl ⟨rfl, rfl, rfl⟩⟩
  · exact ⟨e, he, rfl, .inr ⟨rfl, rfl, rfl⟩⟩
theorem IsArc.room_pos {E : List (Edge α)} {L : α → Int × Int} {f : α → Int} {a : Arc α} (h : IsArc E L f a) : 0 < a.room := by
  obtain ⟨e, he, ⟨rfl, h⟩ | ⟨rfl, h⟩⟩ := h
  · show 0 < (L e.nm).2 - f e.nm
    omega
  · show 0 < f e.nm - (L e.nm).1
    omega

def Chain : α → List (Arc α) → α → Prop
  | u, [], v => u = v
  | u, a :: r, v => a.src = u ∧ Chain a.dst r v
theorem Chain.append : ∀ {u v w : α} {p q : List (Arc α)}, Chain u p v → Chain v q w → Chain u (p ++ q) w
  | _, _, _, [], _, h, k => by
    have e : _ = _ := h
    subst e
    exact k
  | _, _, _, a :: p, _, h, k => ⟨h.1, Chain.append (p := p) h.2 k⟩

def step (m : Int) (g : α → Int) (a : Arc α) : α → Int := setF g a.nm (g a.nm + a.sg * m)
def pushF (f : α → Int) (way : List (Arc α)) (m : Int) : α → Int := way.foldl (step m) f

theorem nodes_names {E : List (Edge α)} (nd : (E.map (·.nm)).Nodup) : ∀ {u v : α} {way : List (Arc α)}, (∀ a ∈ way, Along E a) → Chain u way v → (u :: way.map (·.dst)).Nodup → (way.map (·.nm)).Nodup
  | _, _, [], _, _, _ => List.nodup_nil
  | u, v, a :: r, ha, hc, hn => by
    rw [List.map_cons, List.nodup_cons]
    obtain ⟨hs, hc⟩ := hc
    rw [List.map_cons, List.nodup_cons] at hn
    refine ⟨fun hm => ?_, nodes_names nd (fun x hx => ha x (List.mem_cons_of_mem _ hx)) hc hn.2⟩
    obtain ⟨b, hb, eb⟩ := List.mem_map.mp hm
    obtain ⟨e, he, en, ew⟩ := ha a List.mem_cons_self
    obtain ⟨e', he', en', ew'⟩ := ha b (List.mem_cons_of_mem _ hb)
    have ee : e = e' := by
      have q : e.nm = e'.nm := by rw [← en, ← en', eb]
      clear hm ew ew' en en' hc hn ha eb hb hs
      induction E with
      | nil => cases he
      | cons d E ih =>
        rw [List.map_cons, List.nodup_cons] at nd
        rcases List.mem_cons.mp he with h1 | h1 <;> rcases List.mem_cons.mp he' with h2 | h2
        · rw [h1, h2]
        · exact absurd (List.mem_map.mpr ⟨e', h2, by rw [← q, h1]⟩) nd.1
        · exact absurd (List.mem_map.mpr ⟨e, h1, by rw [q, h2]⟩) nd.1
        · exact ih nd.2 h1 h2
    subst ee
    have h1 : b.dst ≠ u := fun z => hn.1 (List.mem_cons_of_mem _ (z ▸ List.mem_map.mpr ⟨b, hb, rfl⟩))
    have h2 : b.dst ≠ a.dst := fun z => (List.nodup_cons.mp hn.2).1 (z ▸ List.mem_map.mpr ⟨b, hb, rfl⟩)
    rcases ew with ⟨s1, d1, _⟩ | ⟨s1, d1, _⟩ <;> rcases ew' with ⟨s2, d2, _⟩ | ⟨s2, d2, _⟩
    · exact h2 (d2.trans d1.symm)
    · exact h1 (d2.trans (s1.symm.trans hs))
    · exact h1 (d2.trans (s1.symm.trans hs))
    · exact h2 (d2.trans d1.symm)

theorem pushF_out {m : Int} : ∀ {way : List (Arc α)} {f : α → Int} {n : α}, n ∉ way.map (·.nm) → pushF f way m n = f n
  | [], _, _, _ => rfl
  | a :: r, f, n, h => by
    rw [List.map_cons, List.mem_cons, not_or] at h
    show pushF (step m f a) r m n = f n
    rw [pushF_out h.2]
    exact setF_ne _ _ h.1
theorem pushF_in {m : Int} : ∀ {way : List (Arc α)} {f : α → Int} {a : Arc α}, (way.map (·.nm)).Nodup → a ∈ way → pushF f way m a.nm = f a.nm + a.sg * m
  | b :: r, f, a, nd, h => by
    rw [List.map_cons, List.nodup_cons] at nd
    show pushF (step m f b) r m a.nm = _
    rcases List.mem_cons.mp h with rfl | h
    · rw [pushF_out nd.1]
      exact setF_same _ _ _
    · rw [pushF_in nd.2 h]
      have hne : a.nm ≠ b.nm := fun z => nd.1 (z ▸ List.mem_map.mpr ⟨a, h, rfl⟩)
      show setF _ _ _ _ + _ = _
      rw [setF_ne _ _ hne]
theorem net_push {E : List (Edge α)} (nd : (E.map (·.nm)).Nodup) {m : Int} (k : α) : ∀ {way : List (Arc α)} {f : α → Int} {u v : α}, (∀ a ∈ way, Along E a) → Chain u way v →
    net E (pushF f way m) k = net E f k + ((if v = k then m else 0) - (if u = k then m else 0))
  | [], f, u, v, _, h => by
    have e : u = v := h
    subst e
    show net E f k = _
    omega
  | a :: r, f, u, v, ha, h => by
    obtain ⟨hs, h⟩ := h
    show net E (pushF (step m f a) r m) k = _
    rw [net_push nd k (fun x hx => ha x (List.mem_cons_of_mem _ hx)) h]
    obtain ⟨e, he, en, ew⟩ := ha a List.mem_cons_self
    unfold step
    rw [en, net_set nd he]
    subst hs
    rcases ew with ⟨s1, d1, g1⟩ | ⟨s1, d1, g1⟩
    · rw [s1, d1, g1]
      split <;> split <;> split <;> omega
    · rw [s1, d1, g1]
      split <;> split <;> split <;> omega
def Within (E : List (Edge α)) (L : α → Int × Int) (f : α → Int) : Prop := ∀ e ∈ E, (L e.nm).1 ≤ f e.nm ∧ f e.nm ≤ (L e.nm).2
theorem within_push {E : List (Edge α)} (nd : (E.map (·.nm)).Nodup) {L : α → Int × Int} {m : Int} {way : List (Arc α)} {f : α → Int} {u v : α} (ha : ∀ a ∈ way, IsArc E L f a) (hc : Chain u way v) (hn : (u :: way.map (·.dst)).Nodup)
    (h0 : 0 ≤ m) (hm : ∀ a ∈ way, m ≤ a.room) (hw : Within E L f) : Within E L (pushF f way m) := fun e he => by
  have wn := nodes_names nd (fun a h => (ha a h).along) hc hn
  by_cases hin : e.nm ∈ way.map (·.nm)
  · obtain ⟨a, h, ea⟩ := List.mem_map.mp hin
    have hr := hm a h
    obtain ⟨d, hd, ew⟩ := ha a h
    have hw' := hw e he
    rw [← ea, pushF_in wn h]
    rw [← ea] at hw'
    rcases ew with ⟨rfl, q⟩ | ⟨rfl, q⟩
    · have hr' : m ≤ (L d.nm).2 - f d.nm := hr
      show (L d.nm).1 ≤ f d.nm + 1 * m ∧ f d.nm + 1 * m ≤ (L d.nm).2
      have w1 : (L d.nm).1 ≤ f d.nm := hw'.1
      omega
    · have hr' : m ≤ f d.nm - (L d.nm).1 := hr
      show (L d.nm).1 ≤ f d.nm + -1 * m ∧ f d.nm + -1 * m ≤ (L d.nm).2
      have w1 : f d.nm ≤ (L d.nm).2 := hw'.2
      omega
  · rw [pushF_out hin]
    exact hw e he

/-! ### sums over a lot -/
theorem sum_add {β : Type} (a b : β → Int) : ∀ l : List β, (l.map fun k => a k + b k).sum = (l.map a).sum + (l.map b).sum
  | [] => rfl
  | x :: l => by
    rw [List.map_cons, List.map_cons, List.map_cons, List.sum_cons, List.sum_cons, List.sum_cons, sum_add a b l]
    omega
theorem sum_sub {β : Type} (a b : β → Int) : ∀ l : List β, (l.map fun k => a k - b k).sum = (l.map a).sum - (l.map b).sum
  | [] => rfl
  | x :: l => by
    rw [List.map_cons, List.map_cons, List.map_cons, List.sum_cons, List.sum_cons, List.sum_cons, sum_sub a b l]
    omega
theorem sum_zero {β : Type} {a : β → Int} : ∀ {l : List β}, (∀ x ∈ l, a x = 0) → (l.map a).sum = 0
  | [], _ => rfl
  | x :: l, h => by
    rw [List.map_cons, List.sum_cons, h x List.mem_cons_self, sum_zero fun y hy => h y (List.mem_cons_of_mem _ hy)]
    rfl
theorem sum_le {β : Type} {a b : β → Int} : ∀ {l : List β}, (∀ x ∈ l, a x ≤ b x) → (l.map a).sum ≤ (l.map b).sum
  | [], _ => Int.le_refl _
  | x :: l, h => by
    rw [List.map_cons, List.map_cons, List.sum_cons, List.sum_cons]
    have h1 := h x List.mem_cons_self
    have h2 := sum_le fun y hy => h y (List.mem_cons_of_mem _ hy)
    omega
theorem sum_nonneg {β : Type} {a : β → Int} {l : List β} (h : ∀ x ∈ l, 0 ≤ a x) : 0 ≤ (l.map a).sum := by
  have := sum_le (a := fun _ => 0) (b := a) h
  rw [sum_zero fun _ _ => rfl] at this
  exact this
theorem sum_pos_of {β : Type} {a : β → Int} : ∀ {l : List β}, (∀ x ∈ l, 0 ≤ a x) → (l.map a).sum = 0 → ∀ x ∈ l, a x = 0
  | x :: l, h, hs, y, hy => by
    rw [List.map_cons, List.sum_cons] at hs
    have h1 := h x List.mem_cons_self
    have h2 := sum_nonneg fun y hy => h y (List.mem_cons_of_mem _ hy)
    rcases List.mem_cons.mp hy with rfl | hy
    · omega
    · exact sum_pos_of (fun z hz => h z (List.mem_cons_of_mem _ hz)) (by omega) y hy
theorem sum_one {S : α → Prop} [DecidablePred S] (x : Int) : ∀ {K : List α} {c : α}, K.Nodup → c ∈ K → ((K.filter fun k => decide (S k)).map fun k => if c = k then x else 0).sum = if S c then x else 0
  | [], _, _, h => by cases h
  | d :: K, c, nd, h => by
    rw [List.nodup_cons] at nd
    by_cases hcd : c = d
    · subst hcd
      have z : ((K.filter fun k => decide (S k)).map fun k => if c = k then x else 0).sum = 0 := sum_zero fun y hy => by
        rw [if_neg]
        rintro rfl
        exact nd.1 (List.mem_filter.mp hy).1
      by_cases hs : S c
      · rw [List.filter_cons_of_pos (by simp [hs]), List.map_cons, List.sum_cons, z, if_pos rfl, if_pos hs]
        omega
      · rw [List.filter_cons_of_neg (by simp [hs]), z, if_neg hs]
    · have ih := sum_one (S := S) x nd.2 ((List.mem_cons.mp h).resolve_left hcd)
      by_cases hs : S d
      · rw [List.filter_cons_of_pos (by simp [hs]), List.map_cons, List.sum_cons, if_neg hcd, ih]
        omega
      · rw [List.filter_cons_of_neg (by simp [hs]), ih]

/-- what comes into a lot less what goes out of it -/
def netS (E : List (Edge α)) (f : α → Int) (S : α → Prop) [DecidablePred S] : Int := (E.map fun e => (if S e.hd then f e.nm else 0) - (if S e.tl then f e.nm else 0)).sum
theorem sum_net {K : List α} (nd : K.Nodup) (S : α → Prop) [DecidablePred S] (f : α → Int) : ∀ {E : List (Edge α)}, (∀ e ∈ E, e.tl ∈ K ∧ e.hd ∈ K) → ((K.filter fun k => decide (S k)).map (net E f)).sum = netS E f S
  | [], _ => sum_zero fun _ _ => rfl
  | e :: E, h => by
    have ih := sum_net nd S f (E := E) fun x hx => h x (List.mem_cons_of_mem _ hx)
    have e1 : (net (e :: E) f) = fun k => con f k e + net E f k := funext fun k => net_cons e E f k
    have h1 := h e List.mem_cons_self
    rw [e1, sum_add, ih]
    unfold netS
    rw [List.map_cons, List.sum_cons]
    have e2 : ((K.filter fun k => decide (S k)).map fun k => con f k e).sum = (if S e.hd then f e.nm else 0) - (if S e.tl then f e.nm else 0) := by
      unfold con
      rw [sum_sub, sum_one _ nd h1.2, sum_one _ nd h1.1]
    rw [e2]
/-- nothing can be pushed out of S -/
def Closed (E : List (Edge α)) (L : α → Int × Int) (f : α → Int) (S : α → Prop) : Prop := ∀ e ∈ E, (S e.tl → f e.nm < (L e.nm).2 → S e.hd) ∧ (S e.hd → (L e.nm).1 < f e.nm → S e.tl)
theorem cut {E : List (Edge α)} {L : α → Int × Int} {f g : α → Int} {S : α → Prop} [DecidablePred S] (hc : Closed E L f S) (hg : Within E L g) : netS E f S ≤ netS E g S := by
  refine sum_le fun e he => ?_
  obtain ⟨h1, h2⟩ := hc e he
  obtain ⟨g1, g2⟩ := hg e he
  by_cases a : S e.tl <;> by_cases b : S e.hd
  · simp only [if_pos a, if_pos b]
    omega
  · rw [if_pos a, if_neg b, if_pos a, if_neg b]
    by_cases q : f e.nm < (L e.nm).2
    · exact absurd (h1 a q) b
    · omega
  · rw [if_neg a, if_pos b, if_neg a, if_pos b]
    by_cases q : (L e.nm).1 < f e.nm
    · exact absurd (h2 b q) a
    · omega
  · simp only [if_neg a, if_neg b]
    omega
end Mt

set_option linter.all false
/-! Feasible flows: no way left, the ends of ranges, each number between. -/
namespace Mt
variable {α : Type} [DecidableEq α]

def lines (E : List (Edge α)) : List (Edge α) := E.filter fun e => decide (e.tl ≠ e.hd)
def others (E : List (Edge α)) (n : α) : List (Edge α) := (lines E).filter fun e => decide (e.nm ≠ n)
theorem mem_lines {E : List (Edge α)} {e : Edge α} : e ∈ lines E ↔ e ∈ E ∧ e.tl ≠ e.hd := by
  unfold lines
  rw [List.mem_filter, decide_eq_true_iff]
theorem mem_others {E : List (Edge α)} {n : α} {e : Edge α} : e ∈ others E n ↔ (e ∈ E ∧ e.tl ≠ e.hd) ∧ e.nm ≠ n := by
  unfold others
  rw [List.mem_filter, decide_eq_true_iff, mem_lines]
theorem sub_map {β γ : Type} (h : β → γ) (p : β → Bool) : ∀ l : List β, ((l.filter p).map h).Sublist (l.map h) := fun l => (List.filter_sublist (p := p) (l := l)).map h
theorem nd_lines {E : List (Edge α)} (nd : (E.map (·.nm)).Nodup) : ((lines E).map (·.nm)).Nodup := nd.sublist (sub_map _ _ _)
theorem nd_others {E : List (Edge α)} {n : α} (nd : (E.map (·.nm)).Nodup) : ((others E n).map (·.nm)).Nodup := (nd_lines nd).sublist (sub_map _ _ _)
theorem net_lines (E : List (Edge α)) (f : α → Int) (k : α) : net (lines E) f k = net E f k := by
  induction E with
  | nil => rfl
  | cons e E ih =>
    unfold lines at ih ⊢
    by_cases h : e.tl = e.hd
    · rw [List.filter_cons_of_neg (by simp [h]), ih, net_cons]
      unfold con
      rw [h]
      omega
    · rw [List.filter_cons_of_pos (by simp [h]), net_cons, net_cons, ih]
theorem netS_lines (E : List (Edge α)) (f : α → Int) (S : α → Prop) [DecidablePred S] : netS (lines E) f S = netS E f S := by
  induction E with
  | nil => rfl
  | cons e E ih =>
    unfold lines netS at ih ⊢
    by_cases h : e.tl = e.hd
    · rw [List.filter_cons_of_neg (by simp [h]), ih, List.map_cons, List.sum_cons]
      rw [h]
      omega
    · rw [List.filter_cons_of_pos (by simp [h]), List.map_cons, List.map_cons, List.sum_cons, List.sum_cons, ih]
theorem within_sub {E E' : List (Edge α)} {L : α → Int × Int} {f : α → Int} (hs : ∀ e ∈ E', e ∈ E) (h : Within E L f) : Within E' L f := fun e he => h e (hs e he)

structure Net (E : List (Edge α)) (K : List α) : Prop where
  nd : (E.map (·.nm)).Nodup
  kn : K.Nodup
  ends : ∀ e ∈ E, e.tl ∈ K ∧ e.hd ∈ K
structure Feas (E : List (Edge α)) (K : List α) (L : α → Int × Int) (f : α → Int) : Prop where
  win : Within E L f
  bal : ∀ k ∈ K, net E f k = 0

theorem total {E : List (Edge α)} {K : List α} (N : Net E K) (f : α → Int) : (K.map (net E f)).sum = 0 := by
  have h := sum_net N.kn (fun _ => True) f N.ends
  have e1 : (K.filter fun k => decide True) = K := List.filter_eq_self.mpr fun _ _ => rfl
  rw [e1] at h
  rw [h]
  exact sum_zero fun e _ => by
    simp only [if_pos]
    omega
theorem netS_zero {E : List (Edge α)} {K : List α} (N : Net E K) {f : α → Int} (h : ∀ k ∈ K, net E f k = 0) (S : α → Prop) [DecidablePred S] : netS E f S = 0 := by
  rw [← sum_net N.kn S f N.ends]
  exact sum_zero fun k hk => h k (List.mem_filter.mp hk).1
/-- nothing is missing: the flows are balanced -/
theorem bal_of {E : List (Edge α)} {K : List α} (N : Net E K) {f : α → Int} (h : ∀ k ∈ K, 0 ≤ net E f k) : ∀ k ∈ K, net E f k = 0 := sum_pos_of h (total N f)
/-- no way from what is over to what is short: if there are feasible flows, these are balanced -/
theorem bal_of_cut {E : List (Edge α)} {K : List α} (N : Net E K) {L : α → Int × Int} {f g : α → Int} {S : α → Prop} (hc : Closed (lines E) L f S)
    (ho : ∀ k ∈ K, 0 < net E f k → S k) (hs : ∀ k ∈ K, net E f k < 0 → ¬ S k) (hg : Feas E K L g) : ∀ k ∈ K, net E f k = 0 := by
  haveI : DecidablePred S := fun x => Classical.propDecidable _
  have h1 : netS (lines E) f S ≤ netS (lines E) g S := cut hc (within_sub (fun e he => (mem_lines.mp he).1) hg.win)
  rw [netS_lines, netS_lines, netS_zero N hg.bal, ← sum_net N.kn S f N.ends] at h1
  have hp : ∀ k ∈ K.filter fun k => decide (S k), 0 ≤ net E f k := fun k hk => by
    obtain ⟨a, b⟩ := List.mem_filter.mp hk
    have b' : S k := of_decide_eq_true b
    by_cases q : net E f k < 0
    · exact absurd b' (hs k a q)
    · omega
  have h2 := sum_nonneg hp
  have h3 := sum_pos_of hp (by omega)
  have h4 : ∀ k ∈ K, 0 ≤ -net E f k := fun k hk => by
    by_cases q : 0 < net E f k
    · have := h3 k (List.mem_filter.mpr ⟨hk, decide_eq_true (ho k hk q)⟩)
      omega
    · omega
  have h5 : (K.map fun k => -net E f k).sum = 0 := by
    have e : (fun k => -net E f k) = fun k => (fun _ => (0 : Int)) k - net E f k := funext fun k => by simp
    rw [e, sum_sub, total N f, sum_zero fun _ _ => rfl]
    rfl
  intro k hk
  have := sum_pos_of h4 h5 k hk
  omega

/-! ### one line set apart -/
theorem net_apart {E : List (Edge α)} (nd : (E.map (·.nm)).Nodup) {d : Edge α} (hd : d ∈ E) (hne : d.tl ≠ d.hd) (f : α → Int) (k : α) : net E f k = con f k d + net (others E d.nm) f k := by
  rw [← net_lines]
  have nd' := nd_lines nd
  have hd' : d ∈ lines E := mem_lines.mpr ⟨hd, hne⟩
  unfold others
  generalize lines E = F at nd' hd'
  induction F with
  | nil => cases hd'
  | cons e F ih =>
    rw [List.map_cons, List.nodup_cons] at nd'
    rw [net_cons]
    rcases List.mem_cons.mp hd' with h | h
    · subst h
      rw [List.filter_cons_of_neg (by simp)]
      congr 2
      refine (List.filter_eq_self.mpr fun x hx => decide_eq_true (show ¬ x.nm = d.nm from fun z => nd'.1 (List.mem_map.mpr ⟨x, hx, z⟩))).symm
    · have hn : e.nm ≠ d.nm := fun z => nd'.1 (List.mem_map.mpr ⟨d, h, z.symm⟩)
      rw [List.filter_cons_of_pos (by simp [hn]), net_cons, ih nd'.2 h]
      omega
theorem netS_apart {E : List (Edge α)} (nd : (E.map (·.nm)).Nodup) {d : Edge α} (hd : d ∈ E) (hne : d.tl ≠ d.hd) (f : α → Int) (S : α → Prop) [DecidablePred S] :
    netS E f S = ((if S d.hd then f d.nm else 0) - (if S d.tl then f d.nm else 0)) + netS (others E d.nm) f S := by
  rw [← netS_lines]
  have nd' := nd_lines nd
  have hd' : d ∈ lines E := mem_lines.mpr ⟨hd, hne⟩
  unfold others
  generalize lines E = F at nd' hd'
  unfold netS
  induction F with
  | nil => cases hd'
  | cons e F ih =>
    rw [List.map_cons, List.nodup_cons] at nd'
    rw [List.map_cons, List.sum_cons]
    rcases List.mem_cons.mp hd' with h | h
    · subst h
      rw [List.filter_cons_of_neg (by simp)]
      congr 3
      refine (List.filter_eq_self.mpr fun x hx => decide_eq_true (show ¬ x.nm = d.nm from fun z => nd'.1 (List.mem_map.mpr ⟨x, hx, z⟩))).symm
    · have hn : e.nm ≠ d.nm := fun z => nd'.1 (List.mem_map.mpr ⟨d, h, z.symm⟩)
      rw [List.filter_cons_of_pos (by simp [hn]), List.map_cons, List.sum_cons, ih nd'.2 h]
      omega
/-- f' (balanced, the others within) can't have less at d: nothing can be pushed from d's tail to its head by the others -/
theorem low_cut {E : List (Edge α)} {K : List α} (N : Net E K) {d : Edge α} (hd : d ∈ E) (hne : d.tl ≠ d.hd) {L : α → Int × Int} {f g : α → Int} {S : α → Prop} (hf : ∀ k ∈ K, net E f k = 0)
    (hc : Closed (others E d.nm) L f S) (ht : S d.tl) (hh : ¬ S d.hd) (hg : Feas E K L g) : f d.nm ≤ g d.nm := by
  haveI : DecidablePred S := fun x => Classical.propDecidable _
  have h1 : netS (others E d.nm) f S ≤ netS (others E d.nm) g S := cut hc (within_sub (fun e he => (mem_others.mp he).1.1) hg.win)
  have h2 := netS_zero N hf S
  have h3 := netS_zero N hg.bal S
  rw [netS_apart N.nd hd hne, if_neg hh, if_pos ht] at h2 h3
  omega
theorem high_cut {E : List (Edge α)} {K : List α} (N : Net E K) {d : Edge α} (hd : d ∈ E) (hne : d.tl ≠ d.hd) {L : α → Int × Int} {f g : α → Int} {S : α → Prop} (hf : ∀ k ∈ K, net E f k = 0)
    (hc : Closed (others E d.nm) L f S) (hh : S d.hd) (ht : ¬ S d.tl) (hg : Feas E K L g) : g d.nm ≤ f d.nm := by
  haveI : DecidablePred S := fun x => Classical.propDecidable _
  have h1 : netS (others E d.nm) f S ≤ netS (others E d.nm) g S := cut hc (within_sub (fun e he => (mem_others.mp he).1.1) hg.win)
  have h2 := netS_zero N hf S
  have h3 := netS_zero N hg.bal S
  rw [netS_apart N.nd hd hne, if_pos hh, if_neg ht] at h2 h3
  omega
theorem con_set (f : α → Int) (d : Edge α) (x : Int) (k : α) : con (setF f d.nm x) k d = (if d.hd = k then x else 0) - (if d.tl = k then x else 0) := by
  unfold con
  rw [setF_same]
theorem others_out (E : List (Edge α)) (n : α) : n ∉ (others E n).map (·.nm) := fun h => by
  obtain ⟨e, he, z⟩ := List.mem_map.mp h
  exact (mem_others.mp he).2 z
/-- behind pushing m from d's tail to its head by the others, d gives back m -/
theorem bal_less {E : List (Edge α)} {K : List α} (N : Net E K) {d : Edge α} (hd : d ∈ E) (hne : d.tl ≠ d.hd) {f f' : α → Int} {m : Int} (hf : ∀ k ∈ K, net E f k = 0)
    (hp : ∀ k, net (others E d.nm) f' k = net (others E d.nm) f k + ((if d.hd = k then m else 0) - (if d.tl = k then m else 0))) : ∀ k ∈ K, net E (setF f' d.nm (f d.nm - m)) k = 0 := fun k hk => by
  have h1 := hf k hk
  rw [net_apart N.nd hd hne] at h1 ⊢
  rw [con_set, net_set_out (others_out E d.nm), hp]
  unfold con at h1
  generalize net (others E d.nm) f k = z at h1 ⊢
  split <;> split <;> simp_all <;> omega
theorem bal_more {E : List (Edge α)} {K : List α} (N : Net E K) {d : Edge α} (hd : d ∈ E) (hne : d.tl ≠ d.hd) {f f' : α → Int} {m : Int} (hf : ∀ k ∈ K, net E f k = 0)
    (hp : ∀ k, net (others E d.nm) f' k = net (others E d.nm) f k + ((if d.tl = k then m else 0) - (if d.hd = k then m else 0))) : ∀ k ∈ K, net E (setF f' d.nm (f d.nm + m)) k = 0 := by
  have := bal_less N hd hne hf (m := -m) (f' := f') fun k => by
    rw [hp]
    split <;> split <;> omega
  have e : f d.nm - -m = f d.nm + m := by omega
  rw [e] at this
  exact this
theorem within_apart {E : List (Edge α)} (N : (E.map (·.nm)).Nodup) {d : Edge α} (hd : d ∈ E) (hne : d.tl ≠ d.hd) {L : α → Int × Int} {f f' : α → Int} {x : Int} (hw : Within E L f) (hw' : Within (others E d.nm) L f') (hx : (L d.nm).1 ≤ x ∧ x ≤ (L d.nm).2)
    (hl : ∀ e ∈ E, e.tl = e.hd → f' e.nm = f e.nm) : Within E L (setF f' d.nm x) := fun e he => by
  by_cases h : e.nm = d.nm
  · rw [h, setF_same]
    exact hx
  · rw [setF_ne _ _ h]
    by_cases q : e.tl = e.hd
    · rw [hl e he q]
      exact hw e he
    · exact hw' e (mem_others.mpr ⟨⟨he, q⟩, h⟩)

/-! ### what can be reached; a simple way -/
inductive Reach (E : List (Edge α)) (L : α → Int × Int) (f : α → Int) (u : α) : α → Prop where
  | here : Reach E L f u u
  | on {a : Arc α} (h : Reach E L f u a.src) (ha : IsArc E L f a) : Reach E L f u a.dst
theorem Reach.closed {E : List (Edge α)} {L : α → Int × Int} {f : α → Int} {u : α} : Closed E L f (Reach E L f u) := fun e he =>
  ⟨fun h q => Reach.on (a := fwd L f e) h ⟨e, he, .inl ⟨rfl, q⟩⟩, fun h q => Reach.on (a := bwd L f e) h ⟨e, he, .inr ⟨rfl, q⟩⟩⟩
theorem chain_take : ∀ {way : List (Arc α)} {u v w : α}, Chain u way v → w ∈ u :: way.map (·.dst) → ∃ n, Chain u (way.take n) w
  | [], u, v, w, _, h => ⟨0, (show u = w from (List.mem_singleton.mp h).symm)⟩
  | a :: r, u, v, w, hc, h => by
    rcases List.mem_cons.mp h with rfl | h
    · exact ⟨0, rfl⟩
    · obtain ⟨n, hn⟩ := chain_take hc.2 h
      exact ⟨n + 1, hc.1, hn⟩
structure Simple (E : List (Edge α)) (L : α → Int × Int) (f : α → Int) (u : α) (way : List (Arc α)) (v : α) : Prop where
  arcs : ∀ a ∈ way, IsArc E L f a
  chain : Chain u way v
  nd : (u :: way.map (·.dst)).Nodup
theorem Reach.simple {E : List (Edge α)} {L : α → Int × Int} {f : α → Int} {u v : α} (h : Reach E L f u v) : ∃ way, Simple E L f u way v := by
  induction h with
  | here => exact ⟨[], ⟨fun _ h => (nomatch h), rfl, List.nodup_cons.mpr ⟨List.not_mem_nil, List.nodup_nil⟩⟩⟩
  | @on a h ha ih =>
    obtain ⟨way, s1, s2, s3⟩ := ih
    by_cases hm : a.dst ∈ u :: way.map (·.dst)
    · obtain ⟨n, hn⟩ := chain_take s2 hm
      refine ⟨way.take n, fun x hx => s1 x (List.mem_of_mem_take hx), hn, s3.sublist ?_⟩
      rw [List.map_take]
      exact (List.take_sublist _ _).cons₂ _
    · refine ⟨way ++ [a], fun x hx => ?_, s2.append ⟨rfl, rfl⟩, ?_⟩
      · rcases List.mem_append.mp hx with hx | hx
        · exact s1 x hx
        · rw [List.mem_singleton.mp hx]
          exact ha
      · rw [List.map_append, ← List.cons_append]
        refine List.nodup_append.mpr ⟨s3, by simp, fun x hx y hy => ?_⟩
        rintro rfl
        have : x = a.dst := by simpa using hy
        exact hm (this ▸ hx)
/-- one more at d -/
theorem one_more {E : List (Edge α)} {K : List α} (N : Net E K) {d : Edge α} (hd : d ∈ E) {L : α → Int × Int} {f g : α → Int} (hf : Feas E K L f) (hg : Feas E K L g) (hlt : f d.nm < g d.nm) :
    ∃ f', Feas E K L f' ∧ f' d.nm = f d.nm + 1 := by
  have hgd := hg.win d hd
  have hfd := hf.win d hd
  by_cases hne : d.tl = d.hd
  · refine ⟨setF f d.nm (f d.nm + 1), ⟨fun e he => ?_, fun k hk => ?_⟩, setF_same _ _ _⟩
    · by_cases h : e.nm = d.nm
      · rw [h, setF_same]
        omega
      · rw [setF_ne _ _ h]
        exact hf.win e he
    · rw [net_set N.nd hd, hf.bal k hk, hne]
      omega
  · by_cases hr : Reach (others E d.nm) L f d.hd d.tl
    · obtain ⟨way, w⟩ := hr.simple
      have nd' := nd_others (n := d.nm) N.nd
      have hw : Within (others E d.nm) L f := within_sub (fun e he => (mem_others.mp he).1.1) hf.win
      have h1 := within_push nd' w.arcs w.chain w.nd (m := 1) (by decide) (fun a ha => by have := (w.arcs a ha).room_pos; omega) hw
      have h2 : ∀ k, net (others E d.nm) (pushF f way 1) k = net (others E d.nm) f k + ((if d.tl = k then 1 else 0) - (if d.hd = k then 1 else 0)) := fun k => net_push nd' k (fun a ha => (w.arcs a ha).along) w.chain
      have hout : ∀ n, n ∉ (others E d.nm).map (·.nm) → pushF f way 1 n = f n := fun n hn => pushF_out fun z => hn (by
        obtain ⟨a, ha, e⟩ := List.mem_map.mp z
        obtain ⟨x, hx, en, _⟩ := (w.arcs a ha).along
        exact List.mem_map.mpr ⟨x, hx, by rw [← en, e]⟩)
      refine ⟨setF (pushF f way 1) d.nm (f d.nm + 1), ⟨within_apart N.nd hd hne hf.win h1 ⟨by omega, by omega⟩ fun e he q => hout _ fun z => ?_, bal_more N hd hne hf.bal h2⟩, setF_same _ _ _⟩
      obtain ⟨x, hx, ex⟩ := List.mem_map.mp z
      obtain ⟨⟨x1, x2⟩, _⟩ := mem_others.mp hx
      have : x = e := nd_inj N.nd x1 he ex
      exact x2 (this ▸ q)
    · have := high_cut N hd hne hf.bal Reach.closed .here hr hg
      omega
where
  nd_inj : ∀ {E : List (Edge α)}, (E.map (·.nm)).Nodup → ∀ {x e : Edge α}, x ∈ E → e ∈ E → x.nm = e.nm → x = e := by
    intro E nd x e hx he q
    induction E with
    | nil => cases he
    | cons d E ih =>
      rw [List.map_cons, List.nodup_cons] at nd
      rcases List.mem_cons.mp hx with h1 | h1 <;> rcases List.mem_cons.mp he with h2 | h2
      · rw [h1, h2]
      · exact absurd (List.mem_map.mpr ⟨e, h2, by rw [← q, h1]⟩) nd.1
      · exact absurd (List.mem_map.mpr ⟨x, h1, by rw [q, h2]⟩) nd.1
      · exact ih nd.2 h1 h2
/-- each number between two that are taken is taken -/
theorem between {E : List (Edge α)} {K : List α} (N : Net E K) {d : Edge α} (hd : d ∈ E) {L : α → Int × Int} {f g : α → Int} (hf : Feas E K L f) (hg : Feas E K L g) {z : Int} (h1 : f d.nm ≤ z) (h2 : z ≤ g d.nm) :
    ∃ f', Feas E K L f' ∧ f' d.nm = z := by
  have key : ∀ n : Nat, ∀ f, Feas E K L f → f d.nm ≤ z → z - f d.nm = n → ∃ f', Feas E K L f' ∧ f' d.nm = z := by
    intro n
    induction n with
    | zero =>
      intro f hf _ e
      exact ⟨f, hf, by omega⟩
    | succ n ih =>
      intro f hf _ e
      obtain ⟨f', hf', e'⟩ := one_more N hd hf hg (by omega)
      exact ih f' hf' (by omega) (by omega)
  exact key (z - f d.nm).toNat f hf h1 (by omega)
end Mt

set_option linter.all false
namespace Mt
variable {α : Type} [DecidableEq α]
theorem net_snoc (E : List (Edge α)) (f : α → Int) (e : Edge α) (n : α) : net (E ++ [e]) f n = net E f n + con f n e := by
  unfold net
  rw [List.map_append, List.sum_append]
  simp
theorem net_step (E : List (Edge α)) (f : α → Int) (e : Edge α) (n : α) :
    setF (setF (fun k => net E f k) e.tl (net E f e.tl - f e.nm)) e.hd (setF (fun k => net E f k) e.tl (net E f e.tl - f e.nm) e.hd + f e.nm) n = net (E ++ [e]) f n := by
  rw [net_snoc]
  unfold con
  by_cases h1 : n = e.hd
  · by_cases h2 : e.hd = e.tl
    · subst h1
      rw [setF_same, h2, setF_same, if_pos rfl]
      omega
    · subst h1
      rw [setF_same, setF_ne _ _ h2, if_pos rfl, if_neg (fun z => h2 z.symm)]
      omega
  · rw [setF_ne _ _ h1, if_neg (fun z => h1 z.symm)]
    by_cases h2 : n = e.tl
    · subst h2
      rw [setF_same, if_pos rfl]
      omega
    · rw [setF_ne _ _ h2, if_neg (fun z => h2 z.symm)]
      omega
end Mt

set_option linter.all false
namespace Mt
variable {α : Type} [DecidableEq α]
theorem nd_le : ∀ {l m : List α}, l.Nodup → (∀ x ∈ l, x ∈ m) → l.length ≤ m.length
  | [], _, _, _ => Nat.zero_le _
  | a :: l, m, nd, h => by
    rw [List.nodup_cons] at nd
    have ha : a ∈ m := h a List.mem_cons_self
    have h2 : ∀ x ∈ l, x ∈ m.erase a := fun x hx => by
      have hne : x ≠ a := fun z => nd.1 (z ▸ hx)
      exact (List.mem_erase_of_ne hne).mpr (h x (List.mem_cons_of_mem _ hx))
    have := nd_le nd.2 h2
    rw [List.length_erase_of_mem ha] at this
    have hp : 0 < m.length := List.length_pos_of_mem ha
    rw [List.length_cons]
    omega
/-- what led where: the searched places in order, with the arc each was come by -/
def Tree (A : List (Arc α)) (S : α → Prop) (B : List (α × Option (Arc α))) : Prop :=
  ∀ (j : Nat) (k : α) (o : Option (Arc α)), B[j]? = some (k, o) → match o with
    | none => S k
    | some a => a ∈ A ∧ a.dst = k ∧ ∃ (i : Nat) (o' : Option (Arc α)), i < j ∧ B[i]? = some (a.src, o')
theorem Tree.snoc {A : List (Arc α)} {S : α → Prop} {B : List (α × Option (Arc α))} (t : Tree A S B) {a : Arc α} (ha : a ∈ A) {i : Nat} {o' : Option (Arc α)} (hi : B[i]? = some (a.src, o')) : Tree A S (B ++ [(a.dst, some a)]) := by
  intro j k o h
  have hil := (List.getElem?_eq_some_iff.mp hi).1
  by_cases hj : j < B.length
  · rw [List.getElem?_append_left hj] at h
    have q := t j k o h
    cases o with
    | none => exact q
    | some b =>
      obtain ⟨q1, q2, n, o2, q3, q4⟩ := q
      exact ⟨q1, q2, n, o2, q3, by rw [List.getElem?_append_left (by omega)]; exact q4⟩
  · rw [List.getElem?_append_right (by omega)] at h
    cases hz : j - B.length with
    | zero =>
      rw [hz] at h
      have e : (a.dst, some a) = (k, o) := by simpa using h
      cases e
      exact ⟨ha, rfl, i, o', by omega, by rw [List.getElem?_append_left hil]; exact hi⟩
    | succ n =>
      rw [hz] at h
      simp at h
/-- a way of arcs of A from a start to v, no place twice -/
structure Way (A : List (Arc α)) (S : α → Prop) (v : α) (way : List (Arc α)) : Prop where
  ex : ∃ u, S u ∧ Chain u way v ∧ (u :: way.map (·.dst)).Nodup
  mem : ∀ a ∈ way, a ∈ A
/-- the state of going back: from the place at j the arcs of way (last first) lead to v -/
structure Back (A : List (Arc α)) (B : List (α × Option (Arc α))) (v : α) (j : Nat) (place : α) (way : List (Arc α)) : Prop where
  at_ : ∃ o, B[j]? = some (place, o)
  chain : Chain place way.reverse v
  nd : (place :: way.reverse.map (·.dst)).Nodup
  mem : ∀ a ∈ way, a ∈ A
  inc : ∀ a ∈ way, ∃ (i : Nat) (o : Option (Arc α)), j < i ∧ B[i]? = some (a.dst, o)
theorem keys_at {β : Type} {B : List (α × β)} {i : Nat} {k : α} {o : β} (h : B[i]? = some (k, o)) : (B.map (·.1))[i]? = some k := by
  rw [List.getElem?_map, h]
  rfl
theorem nd_idx : ∀ {l : List α} {i j : Nat} {x : α}, l.Nodup → l[i]? = some x → l[j]? = some x → i = j
  | [], _, _, _, _, h, _ => by simp at h
  | a :: l, i, j, x, nd, h1, h2 => by
    rw [List.nodup_cons] at nd
    match i, j with
    | 0, 0 => rfl
    | 0, j + 1 =>
      have e : a = x := by simpa using h1
      subst e
      exact absurd (List.mem_of_getElem? (show l[j]? = some a by simpa using h2)) nd.1
    | i + 1, 0 =>
      have e : a = x := by simpa using h2
      subst e
      exact absurd (List.mem_of_getElem? (show l[i]? = some a by simpa using h1)) nd.1
    | i + 1, j + 1 =>
      have := nd_idx nd.2 (show l[i]? = some x by simpa using h1) (show l[j]? = some x by simpa using h2)
      omega
theorem Back.step {A : List (Arc α)} {S : α → Prop} {B : List (α × Option (Arc α))} {v place : α} {j : Nat} {way : List (Arc α)} (t : Tree A S B) (ndk : (B.map (·.1)).Nodup) (b : Back A B v j place way) {a : Arc α} (h : B[j]? = some (place, some a)) :
    ∃ i, i < j ∧ Back A B v i a.src (way ++ [a]) := by
  obtain ⟨q1, q2, i, o, q3, q4⟩ := t j place (some a) h
  have er : (way ++ [a]).reverse = a :: way.reverse := by rw [List.reverse_append]; rfl
  refine ⟨i, q3, ⟨o, q4⟩, ?_, ?_, ?_, ?_⟩
  · rw [er]
    refine ⟨rfl, ?_⟩
    rw [q2]
    exact b.chain
  · rw [er, List.map_cons, q2, List.nodup_cons]
    refine ⟨fun hm => ?_, b.nd⟩
    rcases List.mem_cons.mp hm with e | hm
    · have := nd_idx ndk (keys_at q4) (by rw [e]; exact keys_at h)
      omega
    · obtain ⟨c, hc, e⟩ := List.mem_map.mp hm
      obtain ⟨n, o2, n1, n2⟩ := b.inc c (List.mem_reverse.mp hc)
      have := nd_idx ndk (keys_at q4) (by rw [← e]; exact keys_at n2)
      omega
  · intro c hc
    rcases List.mem_append.mp hc with hc | hc
    · exact b.mem c hc
    · rw [List.mem_singleton.mp hc]
      exact q1
  · intro c hc
    rcases List.mem_append.mp hc with hc | hc
    · obtain ⟨n, o2, n1, n2⟩ := b.inc c hc
      exact ⟨n, o2, by omega, n2⟩
    · rw [List.mem_singleton.mp hc, q2]
      exact ⟨j, _, q3, h⟩
theorem Back.done {A : List (Arc α)} {S : α → Prop} {B : List (α × Option (Arc α))} {v place : α} {j : Nat} {way : List (Arc α)} (t : Tree A S B) (b : Back A B v j place way) (h : B[j]? = some (place, none)) : Way A S v way.reverse :=
  ⟨⟨place, t j place none h, b.chain, b.nd⟩, fun a ha => b.mem a (List.mem_reverse.mp ha)⟩
theorem Back.start {A : List (Arc α)} {B : List (α × Option (Arc α))} {v : α} {j : Nat} {o : Option (Arc α)} (h : B[j]? = some (v, o)) : Back A B v j v [] :=
  ⟨⟨o, h⟩, rfl, List.nodup_cons.mpr ⟨List.not_mem_nil, List.nodup_nil⟩, (fun _ h => nomatch h), (fun _ h => nomatch h)⟩
/-- how the search ends: nothing of the ends is come to -/
structure Shut (A : List (Arc α)) (S E R : α → Prop) : Prop where
  sub : ∀ k, S k → R k
  out : ∀ k, E k → ¬ R k
  cl : ∀ a ∈ A, R a.src → R a.dst
end Mt

set_option Elab.async false
set_option linter.all false
set_option maxRecDepth 100000
set_option maxHeartbeats 4000000
/-! Sets of keys (ints, texts) made of a list, their number, sorted. -/
namespace Mx
open PySem PySem.Spec PyProof.Rows L2

def kof (e : Int × Value) : Key := match e.2 with
  | .int k _ => .inl k
  | .str x _ => .inr x
  | _ => .inl 0
def GoodK (w : World) (e : Int × Value) : Prop := ∃ k : Key, keyIs k e.2 = true ∧ e.1 = keyH w k
theorem kof_is {k : Key} {e : Int × Value} (h : keyIs k e.2 = true) : kof e = k := by
  unfold kof
  rcases keyIs_shape h with ⟨i, t, rfl, ev⟩ | ⟨x, t, rfl, ev⟩
  · rw [ev]
  · rw [ev]
theorem key_scans {k : Key} {v : Value} (h : keyIs k v = true) : v.scannable = true := by
  rcases keyIs_shape h with ⟨i, t, rfl, ev⟩ | ⟨x, t, rfl, ev⟩
  · rw [ev]; rfl
  · rw [ev]; rfl

noncomputable def addK (k : Key) (l : List Key) : List Key := @ite _ (k ∈ l) (Classical.propDecidable _) l (k :: l)
/-- the set of keys at a: its members are l, in some order -/
def SetM (w : World) (h : Heap) (a : Addr) (l : List Key) : Prop :=
  ∃ o es ep t, h.get? a = some o ∧ o.ExactSet ∧ o.data = .set es ep t ∧ (∀ e ∈ es.toList, GoodK w e) ∧ (es.toList.map kof).Nodup ∧ (∀ k, k ∈ l ↔ k ∈ es.toList.map kof) ∧
    es.size < scanBound ∧ t.fits es.size = true ∧ es.size = l.length ∧ Ris t.place.toList ∧ (w.params.followText "set-order" = true ∨ t.led = true)

section
variable {P : Program} {w : World} {h h' : Heap} {a : Addr} {l : List Key}
theorem SetM.at (R : SetM w h a l) (k : ∀ o, h.get? a = some o → h'.get? a = some o) : SetM w h' a l := by
  obtain ⟨o, es, ep, t, ho, r⟩ := R
  exact ⟨o, es, ep, t, k o ho, r⟩
theorem SetM.lt (R : SetM w h a l) : a < h.objs.size := by
  obtain ⟨o, es, ep, t, ho, r⟩ := R
  exact Heap.lt_size ho
theorem good_elemsK {l : List (Int × Value)} (g : ∀ e ∈ l, GoodK w e) : ElemsOf (mixKind P w) l := fun e he => by
  obtain ⟨k, h1, h2⟩ := g e he
  exact ⟨⟨k, h1, h2⟩, key_scans h1⟩
theorem good_isK {e : Int × Value} (g : GoodK w e) (k : Key) : (mixKind P w).is k e.2 = true ↔ kof e = k := by
  obtain ⟨k0, h1, _⟩ := g
  constructor
  · intro h
    exact kof_is h
  · intro h
    rw [kof_is h1] at h
    rw [← h]
    exact h1
theorem good_memK {l : List (Int × Value)} (g : ∀ e ∈ l, GoodK w e) (k : Key) : k ∈ l.map kof ↔ ∃ e ∈ l, (mixKind P w).is k e.2 = true := by
  rw [List.mem_map]
  constructor
  · rintro ⟨e, he, q⟩
    exact ⟨e, he, (good_isK (g e he) k).2 q⟩
  · rintro ⟨e, he, q⟩
    exact ⟨e, he, (good_isK (g e he) k).1 q⟩
end

section
variable {P : Program} {w : World} {A : Around} {E : Value → Shared → Prop} {s : Shared} {a : Addr} {l : List Key}
theorem setM_add_tail {g : Bool → Sem Unit} (hg : ∀ (b : Bool) (s₁ : Shared) (Q' : Unit → Shared → Prop), Q' () s₁ → wpAny (model P w) A (g b) Q' E s₁)
    {o : Obj} {es : Array (Int × Value)} {ep : Nat} {t : SetTable} (ho : s.heap.get? a = some o) (hex : o.ExactSet) (hd : o.data = .set es ep t)
    {es1 : Array (Int × Value)} {t2 : SetTable} {l' : List Key} (g1 : ∀ e ∈ es1.toList, GoodK w e) (nd1 : (es1.toList.map kof).Nodup) (m1 : ∀ k, k ∈ l' ↔ k ∈ es1.toList.map kof)
    (hb1 : es1.size < scanBound) (hl1 : es1.size = l'.length) (hf2 : t2.fits es1.size = true) (hr : Ris t2.place.toList) (hl : w.params.followText "set-order" = true ∨ t2.led = true) {wasDummy : Bool} {R : Option Bool → Shared → Prop}
    (hR : ∀ h', Heap.SameBut a s.heap h' → SetM w h' a l' → R (some true) { s with heap := h' }) :
    wpAny (model P w) A (do
        storeSet a es1 t2
        if (!wasDummy && t2.tooFull) = true then do
            g (relayAll t2 es1 (SetTable.grown es1.size)).2.2
            storeSet a (relayAll t2 es1 (SetTable.grown es1.size)).1 (relayAll t2 es1 (SetTable.grown es1.size)).2.1
            pure (some true)
          else pure (some true)) R E s := by
  refine wpAny_bind (wpAny_storeSet_of ho hd ?_ (fits_of_scanBound hb1))
  have ho1 := store_at (es' := es1) (t' := t2) ho hd
  have sb1 := Heap.SameBut.update s.heap a (Obj.putSet es1 t2)
  split
  · have pm := relayAll_perm t2 es1 (SetTable.grown es1.size)
    have hf3 := relayAll_fits t2 es1 (SetTable.grown es1.size)
    have hr3 := relayAll_ris t2 es1 (SetTable.grown es1.size)
    have hl3 := relayAll_led t2 es1 (SetTable.grown es1.size)
    generalize relayAll t2 es1 (SetTable.grown es1.size) = Z at pm hf3 hr3 hl3 ⊢
    obtain ⟨es2, t3, gave⟩ := Z
    dsimp only at pm hf3 hr3 hl3 ⊢
    have hsz : es2.size = es1.size := by rw [← Array.length_toList, pm.length_eq, Array.length_toList]
    have hb2 : es2.size < scanBound := by rw [hsz]; exact hb1
    refine wpAny_bind (hg _ _ _ ?_)
    refine wpAny_bind (wpAny_storeSet_of ho1 rfl ?_ (fits_of_scanBound hb2))
    have ho2 := store_at (es' := es2) (t' := t3) ho1 rfl
    refine wpAny_pure (hR _ (sb1.trans (Heap.SameBut.update _ a _)) ?_)
    exact ⟨_, es2, _, t3, ho2, hex, rfl, fun e he => g1 e (pm.mem_iff.mp he), (pm.map kof).nodup_iff.mpr nd1, fun k => (m1 k).trans (pm.map kof).mem_iff.symm, hb2, hf3, hsz.trans hl1, hr3,
      hl.imp id fun z => by rw [hl3]; exact z⟩
  · exact wpAny_pure (hR _ sb1 ⟨_, es1, _, t2, ho1, hex, rfl, g1, nd1, m1, hb1, hf2, hl1, hr, hl⟩)

theorem addK_pos {k : Key} {l : List Key} (h : k ∈ l) : addK k l = l := if_pos h
theorem addK_neg {k : Key} {l : List Key} (h : ¬ k ∈ l) : addK k l = k :: l := if_neg h
theorem setM_add_hashed {k : Key} {v : Value} {Q : Bool → Shared → Prop} (hkey : keyIs k v = true) (R : SetM w s.heap a l) (room : l.length + 1 < scanBound)
    (hQ : ∀ b h', Heap.SameBut a s.heap h' → SetM w h' a (addK k l) → Q b { s with heap := h' }) :
    wpAny (model P w) A (setAddHashed a v ((mixKind P w).hash k)) Q E s := by
  obtain ⟨o, es, ep, t, ho, hex, hd, g, nd, hm, hb, hf, hn, hr, hl⟩ := R
  have hsc : v.scannable = true := key_scans hkey
  have hel : ElemsOf (mixKind P w) es.toList := good_elemsK g
  unfold setAddHashed setAddHashedIn
  refine wpAny_holding (wpAny_bind (wpAny_setState_of ho hd hf ?_))
  dsimp only
  rw [byScan_of hsc hb hel]
  simp only [↓reduceIte]
  unfold setAddByScan
  refine wpAny_bind ?_
  refine wpAny_bind (wpAny_rule ?_)
  refine wpAny_bind (wpAny_setScan_of (knd := mixKind P w) hkey ho hd hf hel ?_)
  cases hfi : List.findIdx? (fun e => (mixKind P w).is k e.2) es.toList with
  | some j =>
    dsimp only
    obtain ⟨hj, pj, _⟩ := List.findIdx?_eq_some_iff_getElem.mp hfi
    have hSk : k ∈ l := (hm k).2 ((good_memK (P := P) (w := w) g k).2 ⟨es.toList[j], List.getElem_mem hj, pj⟩)
    refine wpAny_pure (wpAny_pure ?_)
    exact hQ false s.heap (Heap.SameBut.refl a s.heap) ⟨o, es, ep, t, ho, hex, hd, g, nd, by rw [addK_pos hSk]; exact hm, hb, hf, by rw [addK_pos hSk]; exact hn, hr, hl⟩
  | none =>
    dsimp only
    have hnk : k ∉ es.toList.map kof := fun z => by
      obtain ⟨e, he, q⟩ := (good_memK (P := P) (w := w) g k).1 z
      have c := List.findIdx?_eq_none_iff.mp hfi e he
      rw [q] at c
      cases c
    have hSk : k ∉ l := fun q => hnk ((hm k).1 q)
    have hgw : ∀ (b : Bool) {s₁ : Shared} {Q' : Unit → Shared → Prop}, Q' () s₁ → wpAny (model P w) A (match b with | true => rule "set.scan.the-table-gave-way" | false => pure ()) Q' E s₁ :=
      fun b s₁ Q' q => by cases b <;> first | exact wpAny_pure q | exact wpAny_rule q
    have pm := layNew_perm t es ((mixKind P w).hash k) v
    have hf1 := layNew_fits t es ((mixKind P w).hash k) v
    have hr1 := layNew_ris t es ((mixKind P w).hash k) v hr
    have hl1 := layNew_led t es ((mixKind P w).hash k) v
    generalize layNew t es ((mixKind P w).hash k) v = Z at pm hf1 hr1 hl1 ⊢
    obtain ⟨es1, t1, wasDummy, gave⟩ := Z
    dsimp only at pm hf1 hr1 hl1 ⊢
    rw [Array.toList_push] at pm
    have pc : es1.toList.Perm (((mixKind P w).hash k, v) :: es.toList) := pm.trans (List.perm_append_singleton _ _)
    have ek : kof ((mixKind P w).hash k, v) = k := kof_is (e := ((mixKind P w).hash k, v)) hkey
    have pk : (es1.toList.map kof).Perm (k :: es.toList.map kof) := by
      have q := pc.map kof
      rw [List.map_cons, ek] at q
      exact q
    have g1 : ∀ e ∈ es1.toList, GoodK w e := fun e he => by
      rcases List.mem_cons.mp (pc.mem_iff.mp he) with z | z
      · rw [z]; exact ⟨k, hkey, rfl⟩
      · exact g e z
    have nd1 : (es1.toList.map kof).Nodup := pk.nodup_iff.mpr (List.nodup_cons.mpr ⟨hnk, nd⟩)
    have m1 : ∀ i, i ∈ (k :: l) ↔ i ∈ es1.toList.map kof := fun i => by
      rw [pk.mem_iff, List.mem_cons, List.mem_cons, hm i]
    have hsz : es1.size = (k :: l).length := by rw [← Array.length_toList, pc.length_eq, List.length_cons, Array.length_toList, hn, List.length_cons]
    have hb1 : es1.size < scanBound := by rw [hsz, List.length_cons]; exact room
    have hled : w.params.followText "set-order" = true ∨ t1.led = true := hl.imp id fun z => by rw [hl1]; exact z
    have fin : ∀ b h', Heap.SameBut a s.heap h' → SetM w h' a (k :: l) → Q b { s with heap := h' } := fun b h' sb r => by
      have q := hQ b h' sb
      rw [addK_neg hSk] at q
      exact q r
    refine wpAny_bind (hgw _ ?_)
    split
    · refine wpAny_bind ?_
      rw [hashByValue_scannable 8 hsc]
      refine wpAny_pure ?_
      refine setM_add_tail ?_ ho hex hd g1 nd1 m1 hb1 hsz ?_ ?_ ?_ ?_
      · intro b s₁ Q' q; cases b <;> first | exact wpAny_pure q | exact wpAny_rule q
      · first | (split <;> first | exact hf1 | exact SetTable.fits_plain_off hf1) | exact hf1
      · first | (split <;> exact hr1) | exact hr1
      · first | (split <;> exact hled) | exact hled
      · intro h' sb r; dsimp only; exact wpAny_pure (fin _ h' sb r)
    · refine wpAny_bind (wpAny_pure ?_)
      simp only [↓reduceIte]
      refine setM_add_tail ?_ ho hex hd g1 nd1 m1 hb1 hsz hf1 hr1 hled ?_
      · intro b s₁ Q' q; cases b <;> first | exact wpAny_pure q | exact wpAny_rule q
      · intro h' sb r; dsimp only; exact wpAny_pure (fin _ h' sb r)
end
end Mx

set_option Elab.async false
set_option linter.all false
set_option maxRecDepth 100000
set_option maxHeartbeats 4000000
namespace Mx
open PySem PySem.Spec PyProof.Rows L2

noncomputable def metK (ks : List Key) : List Key := ks.foldl (fun l k => addK k l) []
theorem metK_snoc (ks : List Key) (k : Key) : metK (ks ++ [k]) = addK k (metK ks) := by
  unfold metK
  rw [List.foldl_append]
  rfl
theorem addK_mem {k j : Key} {l : List Key} : j ∈ addK k l ↔ j = k ∨ j ∈ l := by
  by_cases h : k ∈ l
  · rw [addK_pos h]
    exact ⟨.inr, fun q => q.elim (fun e => e ▸ h) id⟩
  · rw [addK_neg h, List.mem_cons]
theorem addK_nodup {k : Key} {l : List Key} (n : l.Nodup) : (addK k l).Nodup := by
  by_cases h : k ∈ l
  · rw [addK_pos h]
    exact n
  · rw [addK_neg h]
    exact List.nodup_cons.mpr ⟨h, n⟩
theorem addK_len {k : Key} {l : List Key} : (addK k l).length ≤ l.length + 1 := by
  by_cases h : k ∈ l
  · rw [addK_pos h]
    omega
  · rw [addK_neg h]
    exact Nat.le_refl _
theorem metK_all (ks : List Key) : (metK ks).Nodup ∧ (∀ k, k ∈ metK ks ↔ k ∈ ks) ∧ (metK ks).length ≤ ks.length := by
  have key : ∀ (r : List Key) (l : List Key), l.Nodup → (r.foldl (fun l k => addK k l) l).Nodup ∧ (∀ k, k ∈ r.foldl (fun l k => addK k l) l ↔ k ∈ l ∨ k ∈ r) ∧ (r.foldl (fun l k => addK k l) l).length ≤ l.length + r.length := by
    intro r
    induction r with
    | nil => intro l n; exact ⟨n, fun k => by simp, Nat.le_refl _⟩
    | cons a r ih =>
      intro l n
      obtain ⟨h1, h2, h3⟩ := ih (addK a l) (addK_nodup n)
      refine ⟨h1, fun k => (h2 k).trans ?_, ?_⟩
      · rw [addK_mem, List.mem_cons]
        constructor
        · rintro ((h | h) | h)
          · exact .inr (.inl h)
          · exact .inl h
          · exact .inr (.inr h)
        · rintro (h | h | h)
          · exact .inl (.inr h)
          · exact .inl (.inl h)
          · exact .inr h
      · have := addK_len (k := a) (l := l)
        rw [List.length_cons]
        have h3' : (List.foldl (fun l k => addK k l) l (a :: r)).length ≤ (addK a l).length + r.length := h3
        omega
  obtain ⟨h1, h2, h3⟩ := key ks [] List.nodup_nil
  exact ⟨h1, fun k => (h2 k).trans ⟨fun q => q.elim (fun z => nomatch z) id, .inr⟩, by have h3' : (metK ks).length ≤ 0 + ks.length := h3; omega⟩
theorem metK_len (ks : List Key) : (metK ks).length ≤ ks.length := (metK_all ks).2.2

section
variable {P : Program} {w : World} {A : Around} {E : Value → Shared → Prop} {s : Shared} {a : Addr} {l : List Key}
theorem code_set_led1 (x : Value) {Q₁ : Value → Shared → Prop}
    (h : Q₁ (.ref s.heap.objs.size) { s with heap := s.heap.push { cls := .type "set", dict := none, data := .set #[] 0 (.fresh 0 0 (!w.params.followText "set-order")) } }) :
    codeAny (model P w) A (.call (.builtin "set.__new__") ⟨[.type "set", x], []⟩) (wants Q₁ E) s := by
  refine codeAny_of_tree ?_
  show wpAny _ A.in1 (do checkBuiltinCall "set.__new__" ⟨[.type "set", x], []⟩; again (.builtin "set.__new__" ⟨[.type "set", x], []⟩)) _ _ s
  refine wpAny_bind (wpAny_of_eq (PySem.F.newCall_set_1 x) (wpAny_pure ⟨plainId_quiet PySem.F.plain_set_new _, codeAny_builtin PySem.F.entry_set_new ?_⟩))
  rw [Around.under_plainId PySem.F.plain_set_new _]
  unfold Builtin.«set.__new__» Builtin.Frozenset.newClass
  have hsub := sub_set_self
  obtain ⟨hp, g, d, tk, os⟩ := s
  dsimp only
  wp_walk
  refine wpAny_askSetting (wpAny_pure ?_)
  dsimp only
  simp only [newObj]
  refine wpAny_bind (wpAny_alloc (wpAny_pure ?_))
  exact wpAny_pure h
theorem setM_fresh {h : Heap} (w : World) : SetM w (h.push { cls := .type "set", dict := none, data := .set #[] 0 (.fresh 0 0 (!w.params.followText "set-order")) }) h.objs.size [] :=
  ⟨_, #[], 0, _, Heap.get?_push_size _ rfl, ⟨rfl, rfl, rfl⟩, rfl, (fun e he => by simp at he), (by simp), (fun k => by simp), (by decide), (by rfl), rfl, List.Pairwise.nil, by
    show _ ∨ (!w.params.followText "set-order") = true
    cases w.params.followText "set-order"
    · exact .inr rfl
    · exact .inl rfl⟩
end
section
variable {P : Program} {w : World} {A : Around} {R : Result → Shared → Prop} {I : Addr} {fp wr : List Addr} {G : Array GenState → Array GenState → Prop} {n : Nat} {Pv : Nat → Value → Prop} {St : Nat → Shared → Prop}
theorem loopM (W : WalksS P w A.in1 I fp wr G n Pv St) (S : Addr) (hSf : S ∉ fp) (ks : List Key) (hsz : ks.length = n)
    (hval : ∀ i v, Pv i v → ∃ k, ks[i]? = some k ∧ keyIs k v = true) (hb : n + 1 < scanBound) :
    ∀ (k i : Nat) (s : Shared), n - i = k → i ≤ n → St i s → SetM w s.heap S (metK (ks.take i)) →
      (∀ s', Moved (S :: wr) G s s' → SetM w s'.heap S (metK (ks.take n)) → R (.ok (.ret .none)) s') →
      codeAny (model P w) A (.builtin "set.update.loop" ⟨[.ref S, .ref I], []⟩) R s := by
  have hSw : S ∉ wr := fun h => hSf (W.sub _ h)
  have hsub : ∀ b ∈ wr, b ∈ S :: wr := fun b hb => List.mem_cons_of_mem _ hb
  intro k
  induction k with
  | zero =>
    intro i s hk hi hst hS hR
    have hin : i = n := by omega
    subst hin
    refine codeAny_builtin PyProof.Rows.F.entry_set_update_loop ?_
    rw [Around.under_plainId PyProof.Rows.F.plain_set_update_loop _]
    show wpAny _ A.in1 (pyNext (.ref I) >>= _) _ _ s
    refine wpAny_bind (W.done s _ _ hst fun s' hm => ?_)
    show wpAny _ A.in1 (ret Value.none) _ _ s'
    exact wpAny_pure (hR s' (hm.mono hsub) (hS.at fun o e => hm.heap S o hSw e))
  | succ k ih =>
    intro i s hk hi hst hS hR
    have hlt : i < n := by omega
    refine codeAny_builtin PyProof.Rows.F.entry_set_update_loop ?_
    rw [Around.under_plainId PyProof.Rows.F.plain_set_update_loop _]
    show wpAny _ A.in1 (pyNext (.ref I) >>= _) _ _ s
    refine wpAny_bind (W.item i s _ _ hlt hst fun v s' hP hst' hm => ?_)
    obtain ⟨ky, hky, hkv⟩ := hval i v hP
    have hS' : SetM w s'.heap S (metK (ks.take i)) := hS.at fun o e => hm.heap S o hSw e
    show wpAny _ A.in1 (holding [v] (setAdd S v) >>= _) _ _ s'
    refine wpAny_bind (wpAny_holding ?_)
    unfold setAdd
    refine wpAny_holding ?_
    refine wpAny_bind ((mixKind P w).pyHash (k := ky) hkv ?_)
    have hroom : (metK (ks.take i)).length + 1 < scanBound := by
      have h1 := metK_len (ks.take i)
      have h2 := List.length_take_le i ks
      omega
    refine setM_add_hashed (s := { s' with toks := s'.toks + 1 }) hkv hS' hroom fun b h' hsb hS2 => ?_
    have et : ks.take (i + 1) = ks.take i ++ [ky] := by
      rw [List.take_add_one, hky]
      rfl
    have hSi : SetM w h' S (metK (ks.take (i + 1))) := by
      rw [et, metK_snoc]
      exact hS2
    refine wpAny_pure ⟨plainId_quiet PyProof.Rows.F.plain_set_update_loop _, ih (i + 1) _ (by omega) hlt (W.frame _ s' _ _ hst' (Nat.le_succ _) fun b hb o e => ?_) hSi fun s'' hm'' hS'' => ?_⟩
    · rw [hsb.2 b (fun h : b = S => hSf (by rw [← h]; exact hb))]; exact e
    · refine hR s'' (Moved.trans W.gtrans ((hm.mono hsub).then_heap (Nat.le_succ _) fun b o hb e => ?_) hm'') hS''
      rw [hsb.2 b (fun h : b = S => hb (by rw [h]; exact List.mem_cons_self))]; exact e
end
section
variable {P : Program} {w : World} {A : Around} {E : Value → Shared → Prop} {s : Shared}
theorem keys_of_vals : ∀ {ks : List Key} {us : List Value}, Vals (ks.map kV) us → ∀ (i : Nat) (v : Value), us[i]? = some v → ∃ k, ks[i]? = some k ∧ keyIs k v = true
  | [], _, .nil, i, v, h => by simp at h
  | k :: ks, _, .cons r t, 0, v, h => by
    simp at h
    subst h
    refine ⟨k, rfl, ?_⟩
    cases k with
    | inl i => obtain ⟨t, rfl⟩ := r; exact keyIs_int i t
    | inr x => obtain ⟨t, rfl⟩ := r; exact keyIs_str x t
  | k :: ks, _, .cons r t, i + 1, v, h => by
    obtain ⟨k', h1, h2⟩ := keys_of_vals t i v (by simpa using h)
    exact ⟨k', by simpa using h1, h2⟩
set_option maxHeartbeats 3200000 in
theorem call_set_listM {l : Addr} {items : Array Value} {ks : List Key} {Q : Value → Shared → Prop}
    (hh : A.handled = none) (hl : s.heap.IsList l items) (hi : Vals (ks.map kV) items.toList) (hb : ks.length + 1 < scanBound)
    (h : ∀ (h' : Heap) (tk : Nat), SetM w h' s.heap.objs.size (metK ks) →
      (∀ b o, b < s.heap.objs.size → s.heap.get? b = some o → h'.get? b = some o) → Q (.ref s.heap.objs.size) { s with heap := h', toks := tk }) :
    wpAny (model P w) A (call (.type "set") [.ref l]) Q E s := by
  have hsz : ks.length = items.size := by
    have e := hi.length
    rw [List.length_map, Array.length_toList] at e
    exact e
  obtain ⟨c, tl, hmro⟩ := PySem.F.called_set.mro
  have hmade := PySem.F.called_set.made
  have hsub := PySem.F.called_set.sub
  refine wpAny_call (codeAny_of_tree ?_)
  show wpAny _ _ (callAny (.type "set") _) _ _ _
  refine wpAny_pure ⟨Code.quiet_builtin _ (by decide +kernel), codeAny_builtin PySem.F.entry_type_call ?_⟩
  rw [Around.under_plain (weight_type_call_type "set" [.ref l] []) rfl]
  have h1 := PySem.F.called_set.notType
  have h2 := PySem.F.called_set.canCreate
  have hct := PySem.F.typeCall_set_1 (.ref l)
  repeat (any_goals (first | assumption | wp_step))

  refine codeAny_mono (code_set_led1 (.ref l) (E := E) (Q₁ := fun obj s₁ => obj = .ref s.heap.objs.size ∧ s₁ = { s with heap := s.heap.push { cls := .type "set", dict := none, data := .set #[] 0 (.fresh 0 0 (!w.params.followText "set-order")) } }) ⟨rfl, rfl⟩) fun r s₁ hr => ?_
  cases r with
  | error e => exact hr
  | ok fl =>
    cases fl with
    | ret obj =>
      obtain ⟨rfl, rfl⟩ := hr
      have hF := setM_fresh (h := s.heap) w
      have hS : (s.heap.push { cls := .type "set", dict := none, data := .set #[] 0 (.fresh 0 0 (!w.params.followText "set-order")) }).get? s.heap.objs.size = some { cls := .type "set", dict := none, data := .set #[] 0 (.fresh 0 0 (!w.params.followText "set-order")) } := Heap.get?_push_size _ rfl
      generalize (!w.params.followText "set-order") = led at hF hS ⊢
      have hT : Shared.TypeIs { s with heap := s.heap.push { cls := .type "set", dict := none, data := .set #[] 0 (.fresh 0 0 led) } } (.ref s.heap.objs.size) "set" := ⟨_, hS, rfl⟩
      have hli := PySem.F.called_set.init.lookup
      have hbi := PySem.F.called_set.init.bind (.ref s.heap.objs.size)
      repeat (any_goals (first | assumption | wp_step))

      refine codeAny_mono (codeAny_call_builtin (R := wants (fun r s₂ => r = .none ∧ ∃ h' tk, s₂ = { s with heap := h', toks := tk } ∧
          SetM w h' s.heap.objs.size (metK ks) ∧
          (∀ b o, b < s.heap.objs.size → s.heap.get? b = some o → h'.get? b = some o)) E) PySem.F.called_set.init.plain PySem.F.entry_set_init (check_set_init_1 hT ?_)) fun r₂ s₂ hr₂ => ?_
      · obtain ⟨ol, hol, hcl, nl, hdl⟩ := hl
        obtain ⟨ocls, odict, odata, oslots⟩ := ol
        simp only at hcl hdl
        subst hcl; subst hdl
        have hol' : (s.heap.push { cls := .type "set", dict := none, data := .set #[] 0 (.fresh 0 0 led) }).get? l = some { cls := .type "list", dict := odict, data := .seq items nl, slots := oslots } := Heap.get?_push_of_some _ hol
        have hsls := PySem.F.sub_list_set
        have hslf := PySem.F.sub_list_frozenset
        have hne : (Value.type "list" == Value.type "dict") = false := by decide
        have hl1 : (s.heap.push { cls := .type "set", dict := none, data := .set #[] 0 (.fresh 0 0 led) }).IsList l items := ⟨_, hol', rfl, nl, rfl⟩
        unfold Builtin.«set.__init__» noKeywords Builtin.Frozenset.updateFrom
        generalize hPI : pyIter = PI
        wp_walk
        subst hPI

        refine wpAny_pyIter_list hl1 ?_
        refine wpAny_bind (wpAny_runValue ?_)
        have hlS : l < s.heap.objs.size := Heap.lt_size hol
        have hh3 : A.in1.in1.in1.handled = none := by simp [hh]
        have hneI : l ≠ (s.heap.push { cls := .type "set", dict := none, data := .set #[] 0 (.fresh 0 0 led) }).objs.size := by
          rw [Heap.size_push]; exact Nat.ne_of_lt (Nat.lt_succ_of_lt hlS)
        have hSf : s.heap.objs.size ∉ [(s.heap.push { cls := .type "set", dict := none, data := .set #[] 0 (.fresh 0 0 led) }).objs.size, l] := by
          rw [Heap.size_push]; simp only [List.mem_cons, List.mem_singleton, List.not_mem_nil, or_false, not_or]
          exact ⟨Nat.ne_of_lt (Nat.lt_succ_self _), Nat.ne_of_gt hlS⟩
        have hval : ∀ (i : Nat) (v : Value), items[i]? = some v → ∃ k, ks[i]? = some k ∧ keyIs k v = true := fun i v hv =>
          keys_of_vals hi i v (by rw [Array.getElem?_toList]; exact hv)
        refine loopM ((Walks.list hh3 _ l hneI items).toS) s.heap.objs.size
          hSf ks hsz hval (by rw [← hsz]; exact hb) (items.size - 0) 0 _ (by omega) (Nat.zero_le _)
          ⟨⟨_, Heap.get?_push_size _ rfl, rfl, rfl⟩, (hl1.push _)⟩ ?hS0 ?hR
        case hS0 => exact hF.at fun o e => Heap.get?_push_of_some _ e
        case hR =>
          intro s' hm hS'
          obtain ⟨h', g', d', tk', os'⟩ := s'
          have eg : g' = s.gens := hm.gens
          have ed : d' = s.drawn := hm.drawn
          have eo : os' = s.os := hm.os
          subst eg; subst ed; subst eo
          rw [← hsz, List.take_length] at hS'
          show wpAny _ _ _ _ _ _
          refine wpAny_pure ?_
          show wpAny _ _ (ret Value.none) _ _ _
          refine wpAny_pure ⟨rfl, h', tk', rfl, hS', fun b o hb e => ?_⟩
          have hb1 : b ≠ s.heap.objs.size := Nat.ne_of_lt hb
          have hb2 : b ≠ (s.heap.push { cls := .type "set", dict := none, data := .set #[] 0 (.fresh 0 0 led) }).objs.size := by
            rw [Heap.size_push]; exact Nat.ne_of_lt (Nat.lt_succ_of_lt hb)
          exact hm.heap b o (by simp only [List.mem_cons, List.mem_singleton, List.not_mem_nil, or_false, not_or]; exact ⟨hb1, hb2⟩) (Heap.get?_push_of_some _ (Heap.get?_push_of_some _ e))

      · cases r₂ with
        | error e => exact hr₂
        | ok fl₂ =>
          cases fl₂ with
          | ret r =>
            obtain ⟨rfl, h', tk, rfl, hS', hk'⟩ := hr₂
            repeat (any_goals (first | assumption | wp_step))
            exact h _ _ hS' hk'
          | _ => exact hr₂.elim
    | _ => exact hr.elim
end
end Mx

set_option Elab.async false
set_option linter.all false
set_option maxRecDepth 100000
set_option maxHeartbeats 4000000
namespace Mx
open PySem PySem.Spec PyProof.Rows L2

/-- the set of keys at a -/
def SetMO (w : World) (a : Addr) (l : List Key) : HO := .ext fun h => SetM w h a l
section
variable {X : Cx}
theorem setMO_new {w : World} {P : Program} {H : Hp} {h : Heap} {a : Addr} {l : List Key} (R : SetM w h a l) : ObjOk P w H h a (SetMO w a l) := by
  have ⟨o, _, _, _, ho, _⟩ := R
  exact ⟨R, ⟨o, ho⟩, fun h1 h2 p k => SetM.at p k⟩
theorem setMO_get {pins : List (Addr × Obj)} {σ : L2.St} {H : Hp} {s : Shared} {a : Addr} {l : List Key} (I : Inv X pins σ H s) (ha : H a = some (SetMO X.w a l)) : SetM X.w s.heap a l := (I.hok a _ ha).1
/-- set(xs), xs a list of ints or texts -/
def rSetL (K : PySem.W.Frag) (w : World) : List V → Hp → VK → Prop := fun xs H Q => ∃ (a : Addr) (ks : List Key), xs = [.ref a] ∧ SqL K H a (ks.map kV) ∧ ks.length + 1 < 4096 ∧ ∀ p, H p = none → Q (.ref p) (upd H p (SetMO w p (metK ks)))
theorem cr_setL (hc : X.calm = true) : CallR X (.type "set") (rSetL X.K X.w) := by
  intro pins s σ H xs us Q I r h
  obtain ⟨a, ks, rfl, hs, hb, q⟩ := h
  obtain ⟨its, rv, hl, _⟩ := I.list hs
  rw [Vals.ref1 r]
  refine call_set_listM (items := its.toArray) (I.ok.hd hc) hl.isList (by simpa using rv) hb fun h' tk hS hk => ?_
  exact ⟨.ref _, upd H s.heap.objs.size (SetMO X.w s.heap.objs.size (metK ks)), I.laid (t' := tk) (fun b u e => hk b u (Heap.lt_size e) e) (Nat.le_refl _) (setMO_new hS), rfl, q _ (I.hok.fresh (Nat.le_refl _))⟩
/-- len(s) -/
def rLenM (w : World) : List V → Hp → VK → Prop := fun xs H Q => ∃ (a : Addr) (l : List Key), xs = [.ref a] ∧ H a = some (SetMO w a l) ∧ Q (.int (l.length : Nat)) H
theorem cr_lenM : CallR X (.builtin "len") (rLenM X.w) := by
  intro pins s σ H xs us Q I r h
  obtain ⟨a, l, rfl, ha, q⟩ := h
  rw [Vals.ref1 r]
  obtain ⟨o, es, ep, t, ho, hex, hd, g, nd, hm, hb, hf, hn, hr, hl⟩ := setMO_get I ha
  have hb' : es.size < 4096 := hb
  refine call_len_set ho hex hd hf (by omega) ⟨.int (l.length : Nat), H, I.tok _, ⟨_, by rw [hn]⟩, q⟩
theorem sorted_end {A : Around} {s : Shared} {l : List Key} {P : Program} {w : World} {E : Value → Shared → Prop} {a : Addr} {es : Array (Int × Value)} (g : ∀ e ∈ es.toList, GoodK w e) (hm : ∀ k, k ∈ l ↔ k ∈ es.toList.map kof) (nd : (es.toList.map kof).Nodup) {vs : List Value}
    (pm : vs.Perm (es.toList.map (·.2))) : ∃ ks : List Key, ks.Nodup ∧ (∀ k, k ∈ ks ↔ k ∈ l) ∧ ks.length = vs.length ∧ Vals (ks.map kV) vs := by
  have key : ∀ vs : List Value, (∀ v ∈ vs, ∃ e ∈ es.toList, e.2 = v) → Vals ((vs.map fun v => kof (0, v)).map kV) vs := by
    intro vs
    induction vs with
    | nil => intro _; exact .nil
    | cons v vs ih =>
      intro h
      obtain ⟨e, he, ev⟩ := h v List.mem_cons_self
      obtain ⟨k, hk, _⟩ := g e he
      refine .cons ?_ (ih fun u hu => h u (List.mem_cons_of_mem _ hu))
      rw [ev] at hk
      have e1 : kof (0, v) = k := kof_is (e := ((0 : Int), v)) hk
      show RelV (kV (kof (0, v))) v
      rw [e1]
      rcases keyIs_shape hk with ⟨i, t, rfl, rfl⟩ | ⟨x, t, rfl, rfl⟩
      · exact ⟨t, rfl⟩
      · exact ⟨t, rfl⟩
  have pk : (vs.map fun v => kof (0, v)).Perm (es.toList.map kof) := by
    have q := pm.map fun v => kof ((0 : Int), v)
    rw [List.map_map] at q
    exact q
  refine ⟨vs.map fun v => kof (0, v), pk.nodup_iff.mpr nd, fun k => by rw [pk.mem_iff, ← hm k], List.length_map _, key vs fun v hv => ?_⟩
  obtain ⟨e, he, q⟩ := List.mem_map.mp (pm.mem_iff.mp hv)
  exact ⟨e, he, q⟩
theorem vals_strs : ∀ {ks : List Key} {vs : List Value}, Vals (ks.map kV) vs → (∀ k ∈ ks, ∃ x, k = Sum.inr x) → ∃ ss : List Str, ks = ss.map Sum.inr ∧ StrsAre vs ss
  | [], _, .nil, _ => ⟨[], rfl, .nil⟩
  | k :: ks, _, .cons r t, h => by
    obtain ⟨x, rfl⟩ := h k List.mem_cons_self
    obtain ⟨ss, e1, e2⟩ := vals_strs t fun j hj => h j (List.mem_cons_of_mem _ hj)
    obtain ⟨tk, rfl⟩ := r
    exact ⟨x :: ss, by rw [e1] <;> rfl, .cons x tk e2⟩
theorem vals_ints' : ∀ {ks : List Key} {vs : List Value}, Vals (ks.map kV) vs → (∀ k ∈ ks, ∃ x, k = Sum.inl x) → ∃ ss : List Int, ks = ss.map Sum.inl ∧ IntsAre vs ss
  | [], _, .nil, _ => ⟨[], rfl, .nil⟩
  | k :: ks, _, .cons r t, h => by
    obtain ⟨x, rfl⟩ := h k List.mem_cons_self
    obtain ⟨ss, e1, e2⟩ := vals_ints' t fun j hj => h j (List.mem_cons_of_mem _ hj)
    obtain ⟨tk, rfl⟩ := r
    exact ⟨x :: ss, by rw [e1] <;> rfl, .cons x tk e2⟩
theorem nd_of_map {α β : Type} {f : α → β} : ∀ {l : List α}, (l.map f).Nodup → l.Nodup
  | [], _ => List.nodup_nil
  | a :: l, h => by
    rw [List.map_cons, List.nodup_cons] at h
    exact List.nodup_cons.mpr ⟨fun z => h.1 (List.mem_map.mpr ⟨a, z, rfl⟩), nd_of_map h.2⟩
/-- sorted(s), texts -/
def rSortedMS (w : World) : List V → Hp → VK → Prop := fun xs H Q => ∃ (a : Addr) (l : List Key), xs = [.ref a] ∧ H a = some (SetMO w a l) ∧ (∀ k ∈ l, ∃ x, k = Sum.inr x) ∧ l.length < 64 ∧
  ∀ (ys : List Str) (p : Addr), ys.Nodup → (∀ y, y ∈ ys ↔ Sum.inr y ∈ l) → sortedS ys = true → H p = none → Q (.ref p) (upd H p (.lst (ys.map V.str)))
theorem cr_sortedMS (hc : X.calm = true) : CallR X (.builtin "sorted") (rSortedMS X.w) := by
  intro pins s σ H xs us Q I r h
  obtain ⟨a, l, rfl, ha, hstr, h64, q⟩ := h
  rw [Vals.ref1 r]
  obtain ⟨o, es, ep, t, ho, hex, hd, g, nd, hm, hb, hf, hn, hr, hl⟩ := setMO_get I ha
  refine Calls.call_function_entry PyProof.Rows.kind_sorted PyProof.Rows.plain_sorted PyProof.Rows.entry_sorted (PyProof.Rows.args_sorted1 _) ?_
  unfold Builtin.«sorted»
  refine wpAny_bind (m := checkCount "sorted" 1 1 _) (wpAny_pure ?_)
  refine wpAny_bind (collect_set (A := X.A.in1) (I.ok.hd hc) ⟨o, ho, hex.1, hd⟩ hf hb hr hl fun s1 vs k1 hz g1 o1 pm => ?_)
  have hvl : vs.length = l.length := by rw [pm.length_eq, List.length_map, Array.length_toList]; exact hn
  obtain ⟨ks, n1, n2, n3, n4⟩ := sorted_end (A := X.A) (s := s) (P := X.prog) (E := X.xe) (a := a) g hm nd pm
  obtain ⟨ss, e1, hS⟩ := vals_strs n4 fun k hk => hstr k ((n2 k).mp hk)
  have hsl : ss.length = l.length := by rw [← hvl, ← n3, e1, List.length_map]
  refine wpAny_bind (wpAny_newList ?_ (by rw [hvl, sizeLine_eq]; omega))
  have hoL : (s1.heap.push (seqObj "list" vs.toArray 0)).get? s1.heap.objs.size = some (seqObj "list" vs.toArray 0) := Heap.get?_push_size _ rfl
  refine wpAny_bind (wpAny_holding (wpAny_call_entry PyProof.Rows.slot_list_sort ⟨_, hoL, rfl⟩ PyProof.Rows.entry_list_sort
    (list_sort_treeK strKind_oneLt (s := { s1 with heap := s1.heap.push (seqObj "list" vs.toArray 0) }) hoL hS.keysOf (fun v₁ v₂ rest e => keyKind_strs (by rw [← e]; exact hS)) (by rw [hvl]; exact h64) fun st' hp hs => ⟨_, rfl, ?_⟩)
    (PyProof.Rows.args_list_sort _)))
  obtain ⟨ys, p1, p2, p3⟩ := sorted_out_str hS hp hs
  obtain ⟨e', he'⟩ := PyProof.Rows.sortedHeap_at (vs := vs) (out := (arrOf st').map (·.2)) hoL
  have hlen : (ys.map V.str).length ≤ sizeLine := by
    rw [List.length_map, p2.length_eq, hsl]
    exact Nat.le_trans (Nat.le_of_lt h64) (by decide)
  have hkeep : ∀ b u, s.heap.get? b = some u → (sortedHeap (s1.heap.push (seqObj "list" vs.toArray 0)) s1.heap.objs.size vs ((arrOf st').map (·.2))).get? b = some u := fun b u e => by
    have q := k1 b u e
    have hlt := Heap.lt_size q
    rw [PyProof.Rows.sortedHeap_old (Nat.ne_of_lt hlt) (by rw [size_push']; exact Nat.lt_succ_of_lt hlt)]
    exact Heap.get?_push_of_some _ q
  have hnew : H s1.heap.objs.size = none := I.hok.fresh hz
  have J : Inv X pins σ (upd H s1.heap.objs.size (.lst (ys.map V.str))) { s with heap := sortedHeap (s1.heap.push (seqObj "list" vs.toArray 0)) s1.heap.objs.size vs ((arrOf st').map (·.2)), gens := s1.gens, drawn := s1.drawn, toks := s1.toks } :=
    I.call (ch := []) (Un.laid hkeep hz hnew) (I.hok.laid hkeep hz ⟨hlen, ((arrOf st').map (·.2)).toList, e', vals_of_strs p1, by rw [Array.toArray_toList]; exact he'⟩) (by rw [g1]; exact I.bare) (fun _ z => nomatch z)
  have es' : ({ s1 with heap := sortedHeap (s1.heap.push (seqObj "list" vs.toArray 0)) s1.heap.objs.size vs ((arrOf st').map (·.2)) } : Shared) = { s with heap := sortedHeap (s1.heap.push (seqObj "list" vs.toArray 0)) s1.heap.objs.size vs ((arrOf st').map (·.2)), gens := s1.gens, drawn := s1.drawn, toks := s1.toks } := by
    cases s1
    cases s
    cases o1
    rfl
  refine wpAny_pure ⟨_, rfl, .ref s1.heap.objs.size, upd H s1.heap.objs.size (.lst (ys.map V.str)), by rw [es']; exact J, rfl, q ys _ ?_ ?_ p3 hnew⟩
  · refine p2.nodup_iff.mpr ?_
    rw [e1] at n1
    exact nd_of_map n1
  · intro y
    rw [p2.mem_iff, ← n2, e1]
    constructor
    · intro h
      exact List.mem_map.mpr ⟨y, h, rfl⟩
    · intro h
      obtain ⟨z, hz, e⟩ := List.mem_map.mp h
      cases e
      exact hz
/-- sorted(s), ints -/
def rSortedMI (w : World) : List V → Hp → VK → Prop := fun xs H Q => ∃ (a : Addr) (l : List Key), xs = [.ref a] ∧ H a = some (SetMO w a l) ∧ (∀ k ∈ l, ∃ x, k = Sum.inl x) ∧ l.length < 64 ∧
  ∀ (ys : List Int) (p : Addr), (∀ y, y ∈ ys ↔ Sum.inl y ∈ l) → ys.Pairwise (· < ·) → H p = none → Q (.ref p) (upd H p (.lst (ys.map V.int)))
theorem cr_sortedMI (hc : X.calm = true) : CallR X (.builtin "sorted") (rSortedMI X.w) := by
  intro pins s σ H xs us Q I r h
  obtain ⟨a, l, rfl, ha, hstr, h64, q⟩ := h
  rw [Vals.ref1 r]
  obtain ⟨o, es, ep, t, ho, hex, hd, g, nd, hm, hb, hf, hn, hr, hl⟩ := setMO_get I ha
  refine Calls.call_function_entry PyProof.Rows.kind_sorted PyProof.Rows.plain_sorted PyProof.Rows.entry_sorted (PyProof.Rows.args_sorted1 _) ?_
  unfold Builtin.«sorted»
  refine wpAny_bind (m := checkCount "sorted" 1 1 _) (wpAny_pure ?_)
  refine wpAny_bind (collect_set (A := X.A.in1) (I.ok.hd hc) ⟨o, ho, hex.1, hd⟩ hf hb hr hl fun s1 vs k1 hz g1 o1 pm => ?_)
  have hvl : vs.length = l.length := by rw [pm.length_eq, List.length_map, Array.length_toList]; exact hn
  obtain ⟨ks, n1, n2, n3, n4⟩ := sorted_end (A := X.A) (s := s) (P := X.prog) (E := X.xe) (a := a) g hm nd pm
  obtain ⟨ss, e1, hS⟩ := vals_ints' n4 fun k hk => hstr k ((n2 k).mp hk)
  have hsl : ss.length = l.length := by rw [← hvl, ← n3, e1, List.length_map]
  refine wpAny_bind (wpAny_newList ?_ (by rw [hvl, sizeLine_eq]; omega))
  have hoL : (s1.heap.push (seqObj "list" vs.toArray 0)).get? s1.heap.objs.size = some (seqObj "list" vs.toArray 0) := Heap.get?_push_size _ rfl
  refine wpAny_bind (wpAny_holding (wpAny_call_entry PyProof.Rows.slot_list_sort ⟨_, hoL, rfl⟩ PyProof.Rows.entry_list_sort
    (list_sort_tree (s := { s1 with heap := s1.heap.push (seqObj "list" vs.toArray 0) }) hoL hS (by rw [hvl]; exact h64) fun out ys p1 p2 p3 => ⟨_, rfl, ?_⟩)
    (PyProof.Rows.args_list_sort _)))
  obtain ⟨e', he'⟩ := PyProof.Rows.sortedHeap_at (vs := vs) (out := out) hoL
  have hlen : (ys.map V.int).length ≤ sizeLine := by
    rw [List.length_map, p2.length_eq, hsl]
    exact Nat.le_trans (Nat.le_of_lt h64) (by decide)
  have hkeep : ∀ b u, s.heap.get? b = some u → (sortedHeap (s1.heap.push (seqObj "list" vs.toArray 0)) s1.heap.objs.size vs out).get? b = some u := fun b u e => by
    have q := k1 b u e
    have hlt := Heap.lt_size q
    rw [PyProof.Rows.sortedHeap_old (Nat.ne_of_lt hlt) (by rw [size_push']; exact Nat.lt_succ_of_lt hlt)]
    exact Heap.get?_push_of_some _ q
  have hnew : H s1.heap.objs.size = none := I.hok.fresh hz
  have J : Inv X pins σ (upd H s1.heap.objs.size (.lst (ys.map V.int))) { s with heap := sortedHeap (s1.heap.push (seqObj "list" vs.toArray 0)) s1.heap.objs.size vs out, gens := s1.gens, drawn := s1.drawn, toks := s1.toks } :=
    I.call (ch := []) (Un.laid hkeep hz hnew) (I.hok.laid hkeep hz ⟨hlen, out.toList, e', vals_of_ints p1, he'⟩) (by rw [g1]; exact I.bare) (fun _ z => nomatch z)
  have es' : ({ s1 with heap := sortedHeap (s1.heap.push (seqObj "list" vs.toArray 0)) s1.heap.objs.size vs out } : Shared) = { s with heap := sortedHeap (s1.heap.push (seqObj "list" vs.toArray 0)) s1.heap.objs.size vs out, gens := s1.gens, drawn := s1.drawn, toks := s1.toks } := by
    cases s1
    cases s
    cases o1
    rfl
  refine wpAny_pure ⟨_, rfl, .ref s1.heap.objs.size, upd H s1.heap.objs.size (.lst (ys.map V.int)), by rw [es']; exact J, rfl, q ys _ ?_ ?_ hnew⟩
  · intro y
    rw [p2.mem_iff, ← n2, e1]
    constructor
    · intro h
      exact List.mem_map.mpr ⟨y, h, rfl⟩
    · intro h
      obtain ⟨z, hz, e⟩ := List.mem_map.mp h
      cases e
      exact hz
  · refine lt_of_le_nodup ys p3 (p2.nodup_iff.mpr ?_)
    rw [e1] at n1
    exact nd_of_map n1
end
end Mx

set_option Elab.async false
set_option linter.all false
set_option maxRecDepth 100000
set_option maxHeartbeats 4000000
/-! sorted(xs), xs a list of tuples (text, text, text, int, int): some arrangement of its items. -/
namespace Mx
open PySem PySem.Spec PyProof.Rows L2

def d5 (x : Str × Str × Str × Int × Int) : PyData := .tuple [.str x.1, .str x.2.1, .str x.2.2.1, .int x.2.2.2.1, .int x.2.2.2.2]
section
variable {X : Cx}
/-- the items are b.1, read as d5 b.2 -/
def rSort5 (K : PySem.W.Frag) : List V → Hp → VK → Prop := fun vs H Q => ∃ (a : Addr) (bs : List (V × (Str × Str × Str × Int × Int))), vs = [V.ref a] ∧ SqL K H a (bs.map (·.1)) ∧ (∀ b ∈ bs, Dp K H b.1 (d5 b.2)) ∧ bs.length ≤ 1000 ∧
  ∀ (ys : List (V × (Str × Str × Str × Int × Int))) (p : Addr), ys.Perm bs → H p = none → Q (.ref p) (upd H p (.lst (ys.map (·.1))))
theorem each_vals {β : Type} {f : β → V} : ∀ {us : List Value} {bs : List β}, PySem.W.EachIs (fun u b => RelV (f b) u) us bs → Vals (bs.map f) us
  | _, _, .nil => .nil
  | _, _, .cons h t => .cons h (each_vals t)
theorem vals_each {β : Type} {f : β → V} : ∀ {bs : List β} {us : List Value}, Vals (bs.map f) us → PySem.W.EachIs (fun u b => RelV (f b) u) us bs
  | [], _, .nil => .nil
  | b :: bs, _, .cons h t => .cons h (vals_each t)
theorem each_and {β : Type} {f : β → V} {R : Value → β → Prop} : ∀ {bs : List β} {us : List Value}, Vals (bs.map f) us → (∀ b ∈ bs, ∀ u, RelV (f b) u → R u b) → PySem.W.EachIs R us bs
  | [], _, .nil, _ => .nil
  | b :: bs, _, .cons h t, k => .cons (k b List.mem_cons_self _ h) (each_and t fun c hc => k c (List.mem_cons_of_mem _ hc))
theorem d5_alike (x y : Str × Str × Str × Int × Int) : PySem.W.alike (d5 x) (d5 y) = true := by
  unfold d5
  simp [PySem.W.alike, PySem.W.alikeAll]
theorem d5_depth (x : Str × Str × Str × Int × Int) : (d5 x).depth ≤ 8 := by
  unfold d5
  simp [PyData.depth, PyData.depthAll]
theorem cr_sort5 (hu : X.A.units + 64 < cLine) : CallR X (.builtin "sorted") (rSort5 X.K) := by
  intro pins s σ H vs us Q I r h
  obtain ⟨a, bs, rfl, hs, hd, hl, q⟩ := h
  obtain ⟨its, rv, hL, _⟩ := I.list hs
  rw [Vals.ref1 r]
  have hz : bs.length ≤ sizeLine := by rw [sizeLine_eq]; omega
  refine PySem.W.sorted_data (vs := its) (bs := bs) (enc := fun b => d5 b.2) (R := fun u b => RelV b.1 u) hL.isList (vals_each rv)
    (each_and rv fun b hb u ru => Dp.reads I _ _ _ (hd b hb) ru) (PySem.W.AllAlike.of fun b b' => d5_alike b.2 b'.2) (PySem.W.Sortable.tuples fun b => ⟨_, _, rfl⟩) hz
    (fun b _ => by have := d5_depth b.2; omega) fun out ho eo => ?_
  have pm : (bs.mergeSort (PySem.W.dataLe false fun b => d5 b.2)).Perm bs := List.mergeSort_perm _ _
  obtain ⟨ep, he'⟩ := PyProof.Rows.sortedAll_at s.heap its out.toArray
  have hlen : ((bs.mergeSort (PySem.W.dataLe false fun b => d5 b.2)).map (·.1)).length ≤ sizeLine := by rw [List.length_map, pm.length_eq]; exact hz
  exact ⟨.ref _, upd H (s.heap.objs.size + 1) (.lst ((bs.mergeSort (PySem.W.dataLe false fun b => d5 b.2)).map (·.1))), I.laid (t' := s.toks) (fun _ _ => PyProof.Rows.sortedAll_old) (Nat.le_succ _)
    ⟨hlen, out, ep, each_vals eo, he'⟩, rfl, q _ _ pm (I.hok.fresh (Nat.le_succ _))⟩
end
end Mx

set_option Elab.async false
set_option linter.all false
set_option maxRecDepth 100000
set_option maxHeartbeats 4000000
/-! Data over the abstract heap: what a value holds, kept while the heap grows; some rules that were lacking. -/
namespace Mx
open PySem PySem.Spec PyProof.Rows L2

/-- what was known of lists, tuples, instances and dicts is still so (a dict may have been locked) -/
structure Ext (H H' : Hp) : Prop where
  lst : ∀ a xs, H a = some (.lst xs) → H' a = some (.lst xs)
  tup : ∀ a xs, H a = some (.tup xs) → H' a = some (.tup xs)
  ins : ∀ a C dx fs, H a = some (.ins C dx fs) → H' a = some (.ins C dx fs)
  dk : ∀ a kvs, Rd H a (.dK kvs) → Rd H' a (.dK kvs)
theorem Ext.refl (H : Hp) : Ext H H := ⟨fun _ _ h => h, fun _ _ h => h, fun _ _ _ _ h => h, fun _ _ h => h⟩
theorem Ext.trans {H H1 H2 : Hp} (a : Ext H H1) (b : Ext H1 H2) : Ext H H2 :=
  ⟨fun c x h => b.lst c x (a.lst c x h), fun c x h => b.tup c x (a.tup c x h), fun c x y z h => b.ins c x y z (a.ins c x y z h), fun c x h => b.dk c x (a.dk c x h)⟩
theorem Ext.of {H H' : Hp} (s : Same H H') : Ext H H' :=
  ⟨fun c x h => s c _ h, fun c x h => s c _ h, fun c x y z h => s c _ h, fun c x h => h.elim (fun q => .inl (s c _ q)) fun ⟨o, q⟩ => .inr ⟨o, s c _ q⟩⟩
theorem Ext.lock {H H1 : Hp} {d : Addr} {od : Obj} {kvs : List (Key × V)} (h : Rd H d (.dK kvs)) (h1 : H1 d = some (.frz od (.dK kvs))) (hk : ∀ b, b ≠ d → H1 b = H b) : Ext H H1 := by
  have ne : ∀ a o, H a = some o → (∀ ks, o ≠ .dK ks) → (∀ ob ks, o ≠ .frz ob (.dK ks)) → a ≠ d := fun a o e n1 n2 z => by
    subst z
    rcases h with h | ⟨ob, h⟩
    · rw [h] at e
      exact n1 kvs (Option.some.inj e).symm
    · rw [h] at e
      exact n2 ob kvs (Option.some.inj e).symm
  refine ⟨fun a xs e => ?_, fun a xs e => ?_, fun a C dx fs e => ?_, fun a ks e => ?_⟩
  · rw [hk a (ne a _ e (fun _ z => nomatch z) fun _ _ z => nomatch z)]
    exact e
  · rw [hk a (ne a _ e (fun _ z => nomatch z) fun _ _ z => nomatch z)]
    exact e
  · rw [hk a (ne a _ e (fun _ z => nomatch z) fun _ _ z => nomatch z)]
    exact e
  · by_cases q : a = d
    · subst q
      have ek : ks = kvs := by
        rcases h with h | ⟨ob, h⟩ <;> rcases e with e | ⟨ob', e⟩ <;> rw [h] at e <;> cases e <;> rfl
      subst ek
      exact .inr ⟨od, h1⟩
    · rcases e with e | ⟨ob, e⟩
      · exact .inl (by rw [hk a q]; exact e)
      · exact .inr ⟨ob, by rw [hk a q]; exact e⟩
/-- a new object -/
theorem Same.new {H : Hp} {p : Addr} {o : HO} (h : H p = none) : Same H (upd H p o) := fun b u e => by
  rw [upd_ne (ne_of_none e h)]
  exact e
/-- an object that H does not know may change -/
theorem Same.mut {H H' : Hp} {p : Addr} {o : HO} (e : Same H H') (h : H p = none) : Same H (upd H' p o) := fun b u q => by
  rw [upd_ne (ne_of_none q h)]
  exact e b u q
/-- behind a lock -/
theorem Same.unlock {H H1 H' H2 : Hp} {d : Addr} (hk : ∀ b, b ≠ d → H1 b = H b) (s : Same H1 H') (h2 : H2 d = H d) (hk2 : ∀ b, b ≠ d → H2 b = H' b) : Same H H2 := fun b o e => by
  by_cases q : b = d
  · subst q
    rw [h2]
    exact e
  · rw [hk2 b q]
    exact s b o (by rw [hk b q]; exact e)

/-! ### what a value holds -/
abbrev Rep (α : Type) := Hp → V → α → Prop
class Mono {α : Type} (A : Rep α) : Prop where
  mono : ∀ {H H' : Hp} {v : V} {x : α}, Ext H H' → A H v x → A H' v x
theorem Mono.same {α : Type} {A : Rep α} [Mono A] {H H' : Hp} {v : V} {x : α} (s : Same H H') (h : A H v x) : A H' v x := Mono.mono (Ext.of s) h
def rInt : Rep Int := fun _ v i => v = .int i
def rStr : Rep Str := fun _ v s => v = .str s
instance : Mono rInt := ⟨fun _ h => h⟩
instance : Mono rStr := ⟨fun _ h => h⟩
theorem paired_mono {α : Type} {A : Rep α} [Mono A] {H H' : Hp} (e : Ext H H') : ∀ {xs : List V} {l : List α}, Paired (A H) xs l → Paired (A H') xs l
  | _, _, .nil => .nil
  | _, _, .cons h t => .cons (Mono.mono e h) (paired_mono e t)
theorem paired_get' {α β : Type} {F : α → β → Prop} : ∀ {xs : List α} {l : List β} {i : Nat} {x : α}, Paired F xs l → xs[i]? = some x → ∃ y, l[i]? = some y ∧ F x y
  | _, _, _, _, .nil, e => by simp at e
  | _, _, 0, _, .cons h _, e => by simp at e; subst e; exact ⟨_, rfl, h⟩
  | _, _, i + 1, x, .cons _ t, e => by
    obtain ⟨y, h1, h2⟩ := paired_get' (i := i) t (by simpa using e)
    exact ⟨y, by simpa using h1, h2⟩
theorem paired_got {α β : Type} {F : α → β → Prop} : ∀ {xs : List α} {l : List β} {i : Nat} {y : β}, Paired F xs l → l[i]? = some y → ∃ x, xs[i]? = some x ∧ F x y
  | _, _, _, _, .nil, e => by simp at e
  | _, _, 0, _, .cons h _, e => by simp at e; subst e; exact ⟨_, rfl, h⟩
  | _, _, i + 1, x, .cons _ t, e => by
    obtain ⟨y, h1, h2⟩ := paired_got (i := i) t (by simpa using e)
    exact ⟨y, by simpa using h1, h2⟩
theorem paired_snoc {α β : Type} {F : α → β → Prop} {xs : List α} {l : List β} {x : α} {y : β} (h : Paired F xs l) (q : F x y) : Paired F (xs ++ [x]) (l ++ [y]) := Paired.snoc h q
theorem paired_app {α β : Type} {F : α → β → Prop} : ∀ {xs ys : List α} {l m : List β}, Paired F xs l → Paired F ys m → Paired F (xs ++ ys) (l ++ m)
  | _, _, _, _, .nil, h => h
  | _, _, _, _, .cons q t, h => .cons q (paired_app t h)
theorem paired_len {α β : Type} {F : α → β → Prop} {xs : List α} {l : List β} (h : Paired F xs l) : xs.length = l.length := Paired.length h
theorem paired_take {α β : Type} {F : α → β → Prop} : ∀ {xs : List α} {l : List β} (n : Nat), Paired F xs l → Paired F (xs.take n) (l.take n)
  | _, _, 0, _ => .nil
  | _, _, _ + 1, .nil => .nil
  | _, _, n + 1, .cons r t => .cons r (paired_take n t)
theorem paired_mem {α β : Type} {F : α → β → Prop} : ∀ {xs : List α} {l : List β} {x : α}, Paired F xs l → x ∈ xs → ∃ y ∈ l, F x y
  | _, _, _, .nil, h => nomatch h
  | _, _, x, .cons q t, h => by
    rcases List.mem_cons.mp h with rfl | h
    · exact ⟨_, List.mem_cons_self, q⟩
    · obtain ⟨y, h1, h2⟩ := paired_mem t h
      exact ⟨y, List.mem_cons_of_mem _ h1, h2⟩
theorem paired_perm {α β : Type} {F : α → β → Prop} {xs ys : List α} (p : ys.Perm xs) : ∀ {l : List β}, Paired F xs l → ∃ m, m.Perm l ∧ Paired F ys m := by
  induction p with
  | nil => intro l h; exact ⟨l, List.Perm.refl _, h⟩
  | cons x p ih =>
    intro l h
    cases h with
    | cons q t =>
      obtain ⟨m, h1, h2⟩ := ih t
      exact ⟨_, h1.cons _, .cons q h2⟩
  | swap x y r =>
    intro l h
    cases h with
    | cons q1 t =>
      cases t with
      | cons q2 t => exact ⟨_, List.Perm.swap _ _ _, .cons q2 (.cons q1 t)⟩
  | trans p1 p2 ih1 ih2 =>
    intro l h
    obtain ⟨m, h1, h2⟩ := ih2 h
    obtain ⟨m', h3, h4⟩ := ih1 h2
    exact ⟨m', h3.trans h1, h4⟩
theorem ints_eq {H : Hp} : ∀ {xs : List V} {l : List Int}, Paired (rInt H) xs l → xs = l.map V.int
  | _, _, .nil => rfl
  | _, _, .cons h t => by
    have h' : _ = V.int _ := h
    rw [List.map_cons, ← ints_eq t, h']
theorem strs_eq {H : Hp} : ∀ {xs : List V} {l : List Str}, Paired (rStr H) xs l → xs = l.map V.str
  | _, _, .nil => rfl
  | _, _, .cons h t => by
    have h' : _ = V.str _ := h
    rw [List.map_cons, ← strs_eq t, h']
theorem ints_of' {H : Hp} : ∀ l : List Int, Paired (rInt H) (l.map V.int) l
  | [] => .nil
  | _ :: l => .cons rfl (ints_of' l)
theorem strs_of' {H : Hp} : ∀ l : List Str, Paired (rStr H) (l.map V.str) l
  | [] => .nil
  | _ :: l => .cons rfl (strs_of' l)
/-- a list -/
def rL {α : Type} (A : Rep α) : Rep (List α) := fun H v l => ∃ p xs, v = .ref p ∧ H p = some (.lst xs) ∧ Paired (A H) xs l
instance {α : Type} (A : Rep α) [Mono A] : Mono (rL A) := ⟨fun e ⟨p, xs, h1, h2, h3⟩ => ⟨p, xs, h1, e.lst p xs h2, paired_mono e h3⟩⟩
/-- a dict with text keys, its pairs in order -/
def rD {α : Type} (A : Rep α) : Rep (List (Str × α)) := fun H v l => ∃ p ks, v = .ref p ∧ Rd H p (.dK ks) ∧ Paired (fun (q : Key × V) (r : Str × α) => q.1 = Sum.inr r.1 ∧ A H q.2 r.2) ks l
theorem dpair_mono {α : Type} {A : Rep α} [Mono A] {H H' : Hp} (e : Ext H H') : ∀ {xs : List (Key × V)} {l : List (Str × α)}, Paired (fun (q : Key × V) (r : Str × α) => q.1 = Sum.inr r.1 ∧ A H q.2 r.2) xs l → Paired (fun (q : Key × V) (r : Str × α) => q.1 = Sum.inr r.1 ∧ A H' q.2 r.2) xs l
  | _, _, .nil => .nil
  | _, _, .cons h t => .cons ⟨h.1, Mono.mono e h.2⟩ (dpair_mono e t)
instance {α : Type} (A : Rep α) [Mono A] : Mono (rD A) := ⟨fun e ⟨p, xs, h1, h2, h3⟩ => ⟨p, xs, h1, e.dk p xs h2, dpair_mono e h3⟩⟩
/-- a pair -/
def rP {α β : Type} (A : Rep α) (B : Rep β) : Rep (α × β) := fun H v x => ∃ p a b, v = .ref p ∧ H p = some (.tup [a, b]) ∧ A H a x.1 ∧ B H b x.2
instance {α β : Type} (A : Rep α) (B : Rep β) [Mono A] [Mono B] : Mono (rP A B) := ⟨fun e ⟨p, a, b, h1, h2, h3, h4⟩ => ⟨p, a, b, h1, e.tup p _ h2, Mono.mono e h3, Mono.mono e h4⟩⟩
/-- a tuple of three -/
def rT3 {α β γ : Type} (A : Rep α) (B : Rep β) (C : Rep γ) : Rep (α × β × γ) := fun H v x => ∃ p a b c, v = .ref p ∧ H p = some (.tup [a, b, c]) ∧ A H a x.1 ∧ B H b x.2.1 ∧ C H c x.2.2
instance {α β γ : Type} (A : Rep α) (B : Rep β) (C : Rep γ) [Mono A] [Mono B] [Mono C] : Mono (rT3 A B C) := ⟨fun e ⟨p, a, b, c, h1, h2, h3, h4, h5⟩ => ⟨p, a, b, c, h1, e.tup p _ h2, Mono.mono e h3, Mono.mono e h4, Mono.mono e h5⟩⟩
/-- None or a thing -/
def rOpt {α : Type} (A : Rep α) : Rep (Option α) := fun H v x => match x with
  | none => v = .non
  | some y => A H v y
instance {α : Type} (A : Rep α) [Mono A] : Mono (rOpt A) := ⟨fun {H H' v x} e h => by
  cases x with
  | none => exact h
  | some y => exact Mono.mono (A := A) e h⟩

/-! ### dicts by their text keys -/
section
variable {α : Type} {A : Rep α} {H : Hp}
abbrev DPr (A : Rep α) (H : Hp) := Paired (fun (q : Key × V) (r : Str × α) => q.1 = Sum.inr r.1 ∧ A H q.2 r.2)
theorem dp_keys : ∀ {ks : List (Key × V)} {l : List (Str × α)}, DPr A H ks l → ks.map (·.1) = (l.map (·.1)).map Sum.inr
  | _, _, .nil => rfl
  | _, _, .cons h t => by
    rw [List.map_cons, List.map_cons, List.map_cons, ← dp_keys t, h.1]
theorem dp_get : ∀ {ks : List (Key × V)} {l : List (Str × α)} {k : Str} {x : α}, DPr A H ks l → (l.map (·.1)).Nodup → (k, x) ∈ l → ∃ v, valV ks (Sum.inr k) = some v ∧ A H v x
  | _, _, _, _, .nil, _, h => nomatch h
  | q :: ks, r :: l, k, x, .cons h t, nd, hm => by
    rw [List.map_cons, List.nodup_cons] at nd
    rcases List.mem_cons.mp hm with e | hm
    · have h1 : q.1 = (Sum.inr k : Key) := by rw [h.1, ← e]
      exact ⟨q.2, valV_pos h1, by have := h.2; rw [← e] at this; exact this⟩
    · have hne : ¬ q.1 = (Sum.inr k : Key) := fun z => by
        rw [h.1] at z
        have z' : r.1 = k := Sum.inr.inj z
        exact nd.1 (List.mem_map.mpr ⟨_, hm, z'.symm⟩)
      obtain ⟨v, h1, h2⟩ := dp_get t nd.2 hm
      exact ⟨v, by rw [valV_neg hne]; exact h1, h2⟩
theorem dp_none : ∀ {ks : List (Key × V)} {l : List (Str × α)} {k : Str}, DPr A H ks l → k ∉ l.map (·.1) → valV ks (Sum.inr k : Key) = none
  | _, _, _, .nil, _ => rfl
  | q :: ks, r :: l, k, .cons h t, hn => by
    rw [List.map_cons, List.mem_cons, not_or] at hn
    have hne : ¬ q.1 = (Sum.inr k : Key) := fun z => by
      rw [h.1] at z
      exact hn.1 (Sum.inr.inj z).symm
    rw [valV_neg hne]
    exact dp_none t hn.2
theorem dp_snoc {ks : List (Key × V)} {l : List (Str × α)} (h : DPr A H ks l) {k : Str} {v : V} {x : α} (hv : A H v x) (hn : k ∉ l.map (·.1)) : DPr A H (putK ks (Sum.inr k : Key) v) (l ++ [(k, x)]) := by
  rw [putK_new _ (dp_none h hn)]
  exact paired_snoc h ⟨rfl, hv⟩
/-- a store at a key that is there -/
def setL (l : List (Str × α)) (k : Str) (x : α) : List (Str × α) := l.map fun r => if r.1 = k then (r.1, x) else r
theorem dp_set : ∀ {ks : List (Key × V)} {l : List (Str × α)}, DPr A H ks l → ∀ {k : Str} {v : V} {x : α}, A H v x → DPr A H (ks.map fun kv => if kv.1 = (Sum.inr k : Key) then (kv.1, v) else kv) (setL l k x)
  | _, _, .nil, _, _, _, _ => .nil
  | q :: ks, r :: l, .cons h t, k, v, x, hv => by
    unfold setL
    rw [List.map_cons, List.map_cons]
    refine .cons ?_ (dp_set t hv)
    by_cases e : r.1 = k
    · rw [if_pos e, if_pos (by rw [h.1, e])]
      exact ⟨h.1, hv⟩
    · rw [if_neg e, if_neg (by rw [h.1]; exact fun z => e (Sum.inr.inj z))]
      exact h
theorem dp_put {ks : List (Key × V)} {l : List (Str × α)} (h : DPr A H ks l) {k : Str} {v : V} {x : α} (hv : A H v x) (hk : k ∈ l.map (·.1)) (nd : (l.map (·.1)).Nodup) : DPr A H (putK ks (Sum.inr k : Key) v) (setL l k x) := by
  obtain ⟨r, hr, e⟩ := List.mem_map.mp hk
  obtain ⟨w, hw, _⟩ := dp_get h nd (k := k) (x := r.2) (by rw [← e]; exact hr)
  unfold putK
  rw [valV_any, hw]
  exact dp_set h hv
theorem setL_keys (l : List (Str × α)) (k : Str) (x : α) : (setL l k x).map (·.1) = l.map (·.1) := by
  unfold setL
  rw [List.map_map]
  refine List.map_congr_left fun r _ => ?_
  show (if r.1 = k then (r.1, x) else r).1 = r.1
  split <;> rfl
theorem rd_get (h : Rd H d (.dK ks)) {k : Str} : DGet H d (.str k) (valV ks (Sum.inr k : Key)) := .inl ⟨ks, Sum.inr k, h, rfl, rfl⟩
theorem rd_is (h : Rd H d (.dK ks)) : IsD H d := .inl ⟨ks, h⟩
end

/-! ### rules -/
section
variable {X : Cx} {a b c d e : Expr} {ta tb tc td te : TE} {pos : Pos}
/-- a op1 b op2 c op3 d -/
def tChain3 (r r' r'' : R2) (ta tb tc td : TE) : TE := fun σ H Q => ta σ H fun x H1 => tb σ H1 fun y H2 => r x y H2 fun z H3 => ∃ k, z = .bl k ∧
  (if k = true then tc σ H3 fun w' H4 => r' y w' H4 fun z2 H5 => ∃ k2, z2 = .bl k2 ∧ (if k2 = true then td σ H5 fun u' H6 => r'' w' u' H6 Q else Q (.bl false) H5) else Q (.bl false) H3)
theorem pe_chain3 {op op' op'' : CmpOp} {r r' r'' : R2} (ho : OpR X (compareOp op) r) (ho' : OpR X (compareOp op') r') (ho'' : OpR X (compareOp op'') r'') (ha : PE X a ta) (hb : PE X b tb) (hc : PE X c tc) (hd : PE X d td)
    (hm : lastMarks [op, op', op''] [b, c, d] = false := by with_unfolding_all rfl) : PE X (.Compare a [op, op', op''] [b, c, d] pos) (tChain3 r r' r'' ta tb tc td) := by
  refine ⟨fun pins s σ H Q I h => ?_⟩
  refine Compare_chain (thn (ha.run pins s σ H _ I h) fun v s1 ⟨x, H1, I1, r1, q1⟩ => chain_link (thn (hb.run pins s1 σ H1 _ I1 q1) fun u s2 ⟨y, H2, I2, r2, q2⟩ =>
    thn (ho pins s2 σ H2 x y v u _ I2 r1 r2 q2) fun d s3 ⟨z, H3, I3, r3, k, e, q3⟩ => ?_)) hm
  subst e
  cases r3
  refine wpAny_truthy_bool ?_
  cases k with
  | false => exact ite_ff ⟨.bl false, H3, I3, rfl, q3⟩
  | true =>
    refine ite_tt (chain_link (thn (hc.run pins s3 σ H3 _ I3 q3) fun w' s4 ⟨z', H4, I4, r4, q4⟩ => thn (ho' pins s4 σ H4 y z' u w' _ I4 r2 r4 q4) fun d' s5 ⟨z2, H5, I5, r5, k2, e2, q5⟩ => ?_))
    subst e2
    cases r5
    refine wpAny_truthy_bool ?_
    cases k2 with
    | false => exact ite_ff ⟨.bl false, H5, I5, rfl, q5⟩
    | true => exact ite_tt (chain_last (thn (hd.run pins s5 σ H5 _ I5 q5) fun w2 s6 ⟨z6, H6, I6, r6, q6⟩ => ho'' pins s6 σ H6 z' z6 w' w2 Q I6 r4 r6 q6))
/-- what e gives is a new dict: it is locked for good -/
def tFrz (te : TE) : TE := fun σ H Q => te σ H fun x H1 => ∃ d u, x = .ref d ∧ H1 d = some u ∧ Mut (some u) ∧ ∀ od, Q x (upd H1 d (.frz od u))
theorem pe_frz (he : PE X e te) : PE X e (tFrz te) := by
  refine ⟨fun pins s σ H Q I h => thn (he.run pins s σ H _ I h) fun v s1 ⟨x, H1, I1, r1, d, u, e, hd, mu, q⟩ => ?_⟩
  obtain ⟨od, I2⟩ := I1.lock hd mu
  exact ⟨x, _, I2, r1, q od⟩
/-- len(d), d perhaps locked -/
theorem call_lenR : CallR X (.builtin "len") (fun xs H Q => ∃ a kvs, xs = [V.ref a] ∧ Rd H a (.dK kvs) ∧ Q (.int kvs.length) H) := by
  intro pins s σ H xs us Q I r h
  obtain ⟨a, kvs, rfl, ha, q⟩ := h
  obtain ⟨u, rfl, ru⟩ := vals1 r
  cases ru
  exact d_len I ha fun t s' I' => ⟨.int kvs.length, H, I', ⟨t, rfl⟩, q⟩
/-- the statement runs while the dict at d is locked; it may have been locked before -/
def tLockR (t : TS) : TS := fun D σ H => ∃ d kvs, Rd H d (.dK kvs) ∧ ∀ od H1, H1 d = some (.frz od (.dK kvs)) → (∀ b, b ≠ d → H1 b = H b) →
  t ⟨fun σ' H' => H' d = some (.frz od (.dK kvs)) ∧ ∀ H2, H2 d = H d → (∀ b, b ≠ d → H2 b = H' b) → D.nx σ' H2, fun v H' => H' d = some (.frz od (.dK kvs)) ∧ ∀ H2, H2 d = H d → (∀ b, b ≠ d → H2 b = H' b) → D.rt v H2,
    fun σ' H' => H' d = some (.frz od (.dK kvs)) ∧ ∀ H2, H2 d = H d → (∀ b, b ≠ d → H2 b = H' b) → D.bk σ' H2, fun σ' H' => H' d = some (.frz od (.dK kvs)) ∧ ∀ H2, H2 d = H d → (∀ b, b ≠ d → H2 b = H' b) → D.ct σ' H2⟩ σ H1
theorem ps_lockR {st : Stmt} {t : TS} (h : PS X st t) : PS X st (tLockR t) := by
  refine ⟨fun pins s σ H D I hw => ?_⟩
  obtain ⟨d, kvs, hd, hw⟩ := hw
  rcases hd with hd | ⟨od, hd⟩
  · have mu : Mut (some (HO.dK kvs)) := trivial
    obtain ⟨od, I1⟩ := I.lock hd mu
    have k1 : ∀ H' : Hp, upd H' d (.dK kvs) d = H d := fun H' => by rw [upd_same, hd]
    have k2 : ∀ H' : Hp, ∀ b, b ≠ d → upd H' d (.dK kvs) b = H' b := fun H' b hb => upd_ne hb
    refine thn (h.run pins s σ _ _ I1 (hw od _ upd_same fun b hb => upd_ne hb)) fun f s1 q => ?_
    cases f with
    | next => obtain ⟨σ', H', I2, e, q⟩ := q; exact ⟨σ', _, I2.unlock e (I.nofrz hd mu), q _ (k1 H') (k2 H')⟩
    | brk => obtain ⟨σ', H', I2, e, q⟩ := q; exact ⟨σ', _, I2.unlock e (I.nofrz hd mu), q _ (k1 H') (k2 H')⟩
    | cont => obtain ⟨σ', H', I2, e, q⟩ := q; exact ⟨σ', _, I2.unlock e (I.nofrz hd mu), q _ (k1 H') (k2 H')⟩
    | ret v => obtain ⟨x, σ', H', I2, r, e, q⟩ := q; exact ⟨x, σ', _, I2.unlock e (I.nofrz hd mu), r, q _ (k1 H') (k2 H')⟩
  · refine thn (h.run pins s σ _ _ I (hw od H hd fun b _ => rfl)) fun f s1 q => ?_
    cases f with
    | next => obtain ⟨σ', H', I2, e, q⟩ := q; exact ⟨σ', _, I2, q _ (e.trans hd.symm) fun _ _ => rfl⟩
    | brk => obtain ⟨σ', H', I2, e, q⟩ := q; exact ⟨σ', _, I2, q _ (e.trans hd.symm) fun _ _ => rfl⟩
    | cont => obtain ⟨σ', H', I2, e, q⟩ := q; exact ⟨σ', _, I2, q _ (e.trans hd.symm) fun _ _ => rfl⟩
    | ret v => obtain ⟨x, σ', H', I2, r, e, q⟩ := q; exact ⟨x, σ', _, I2, r, q _ (e.trans hd.symm) fun _ _ => rfl⟩
/-- the same of an expression -/
def tLockRE (t : TE) : TE := fun σ H Q => ∃ d kvs, Rd H d (.dK kvs) ∧ ∀ od H1, H1 d = some (.frz od (.dK kvs)) → (∀ b, b ≠ d → H1 b = H b) →
  t σ H1 fun v H' => H' d = some (.frz od (.dK kvs)) ∧ ∀ H2, H2 d = H d → (∀ b, b ≠ d → H2 b = H' b) → Q v H2
theorem pe_lockR {t : TE} (h : PE X e t) : PE X e (tLockRE t) := by
  refine ⟨fun pins s σ H Q I hw => ?_⟩
  obtain ⟨d, kvs, hd, hw⟩ := hw
  rcases hd with hd | ⟨od, hd⟩
  · have mu : Mut (some (HO.dK kvs)) := trivial
    obtain ⟨od, I1⟩ := I.lock hd mu
    refine thn (h.run pins s σ _ _ I1 (hw od _ upd_same fun b hb => upd_ne hb)) fun v s1 ⟨x, H1, I2, r, e2, q⟩ => ?_
    exact ⟨x, _, I2.unlock e2 (I.nofrz hd mu), r, q _ (by rw [upd_same, hd]) fun b hb => upd_ne hb⟩
  · refine thn (h.run pins s σ _ _ I (hw od H hd fun b _ => rfl)) fun v s1 ⟨x, H1, I2, r, e2, q⟩ => ?_
    exact ⟨x, _, I2, r, q _ (e2.trans hd.symm) fun _ _ => rfl⟩
end
end Mx

set_option Elab.async false
set_option linter.all false
set_option maxRecDepth 100000
set_option maxHeartbeats 4000000
/-! Comprehensions over data. -/
namespace Mx
open PySem PySem.Spec PyProof.Rows L2

/-- tuples, instances, dicts stay (a list may change) -/
structure ExtN (H H' : Hp) : Prop where
  tup : ∀ a xs, H a = some (.tup xs) → H' a = some (.tup xs)
  ins : ∀ a C dx fs, H a = some (.ins C dx fs) → H' a = some (.ins C dx fs)
  dk : ∀ a kvs, Rd H a (.dK kvs) → Rd H' a (.dK kvs)
/-- lists, tuples, instances stay (a dict may change) -/
structure ExtD (H H' : Hp) : Prop where
  lst : ∀ a xs, H a = some (.lst xs) → H' a = some (.lst xs)
  tup : ∀ a xs, H a = some (.tup xs) → H' a = some (.tup xs)
  ins : ∀ a C dx fs, H a = some (.ins C dx fs) → H' a = some (.ins C dx fs)
theorem Ext.n {H H' : Hp} (e : Ext H H') : ExtN H H' := ⟨e.tup, e.ins, e.dk⟩
theorem Ext.d {H H' : Hp} (e : Ext H H') : ExtD H H' := ⟨e.lst, e.tup, e.ins⟩
theorem ExtN.upd {H : Hp} {D : Addr} {xs : List V} {o : HO} (h : H D = some (.lst xs)) : ExtN H (upd H D o) := by
  refine ⟨fun a ys e => ?_, fun a C dx fs e => ?_, fun a ks e => ?_⟩
  · rw [upd_ne (ne_of e h (by intro z; cases z))]
    exact e
  · rw [upd_ne (ne_of e h (by intro z; cases z))]
    exact e
  · rcases e with e | ⟨ob, e⟩
    · exact .inl (by rw [upd_ne (ne_of e h (by intro z; cases z))]; exact e)
    · exact .inr ⟨ob, by rw [upd_ne (ne_of e h (by intro z; cases z))]; exact e⟩
theorem ExtD.upd {H : Hp} {D : Addr} {xs : List (Key × V)} {o : HO} (h : H D = some (.dK xs)) : ExtD H (upd H D o) := by
  refine ⟨fun a ys e => ?_, fun a ys e => ?_, fun a C dx fs e => ?_⟩
  · rw [upd_ne (ne_of e h (by intro z; cases z))]
    exact e
  · rw [upd_ne (ne_of e h (by intro z; cases z))]
    exact e
  · rw [upd_ne (ne_of e h (by intro z; cases z))]
    exact e
class NoL {α : Type} (A : Rep α) : Prop where
  mono : ∀ {H H' : Hp} {v : V} {x : α}, ExtN H H' → A H v x → A H' v x
class NoD {α : Type} (A : Rep α) : Prop where
  mono : ∀ {H H' : Hp} {v : V} {x : α}, ExtD H H' → A H v x → A H' v x
def rBl : Rep Bool := fun _ v b => v = .bl b
def rNon : Rep Unit := fun _ v _ => v = .non
instance : Mono rBl := ⟨fun _ h => h⟩
instance : Mono rNon := ⟨fun _ h => h⟩
instance : NoL rInt := ⟨fun _ h => h⟩
instance : NoL rStr := ⟨fun _ h => h⟩
instance : NoL rBl := ⟨fun _ h => h⟩
instance : NoL rNon := ⟨fun _ h => h⟩
instance : NoD rInt := ⟨fun _ h => h⟩
instance : NoD rStr := ⟨fun _ h => h⟩
instance : NoD rBl := ⟨fun _ h => h⟩
instance : NoD rNon := ⟨fun _ h => h⟩
instance {α β : Type} (A : Rep α) (B : Rep β) [NoL A] [NoL B] : NoL (rP A B) := ⟨fun e ⟨p, a, b, h1, h2, h3, h4⟩ => ⟨p, a, b, h1, e.tup p _ h2, NoL.mono e h3, NoL.mono e h4⟩⟩
instance {α β : Type} (A : Rep α) (B : Rep β) [NoD A] [NoD B] : NoD (rP A B) := ⟨fun e ⟨p, a, b, h1, h2, h3, h4⟩ => ⟨p, a, b, h1, e.tup p _ h2, NoD.mono e h3, NoD.mono e h4⟩⟩
instance {α β γ : Type} (A : Rep α) (B : Rep β) (C : Rep γ) [NoL A] [NoL B] [NoL C] : NoL (rT3 A B C) := ⟨fun e ⟨p, a, b, c, h1, h2, h3, h4, h5⟩ => ⟨p, a, b, c, h1, e.tup p _ h2, NoL.mono e h3, NoL.mono e h4, NoL.mono e h5⟩⟩
instance {α β γ : Type} (A : Rep α) (B : Rep β) (C : Rep γ) [NoD A] [NoD B] [NoD C] : NoD (rT3 A B C) := ⟨fun e ⟨p, a, b, c, h1, h2, h3, h4, h5⟩ => ⟨p, a, b, c, h1, e.tup p _ h2, NoD.mono e h3, NoD.mono e h4, NoD.mono e h5⟩⟩
theorem paired_noD {α : Type} {A : Rep α} [NoD A] {H H' : Hp} (e : ExtD H H') : ∀ {xs : List V} {l : List α}, Paired (A H) xs l → Paired (A H') xs l
  | _, _, .nil => .nil
  | _, _, .cons h t => .cons (NoD.mono e h) (paired_noD e t)
theorem paired_noL {α : Type} {A : Rep α} [NoL A] {H H' : Hp} (e : ExtN H H') : ∀ {xs : List V} {l : List α}, Paired (A H) xs l → Paired (A H') xs l
  | _, _, .nil => .nil
  | _, _, .cons h t => .cons (NoL.mono e h) (paired_noL e t)
theorem dp_noL {α : Type} {A : Rep α} [NoL A] {H H' : Hp} (e : ExtN H H') : ∀ {xs : List (Key × V)} {l : List (Str × α)}, DPr A H xs l → DPr A H' xs l
  | _, _, .nil => .nil
  | _, _, .cons h t => .cons ⟨h.1, NoL.mono e h.2⟩ (dp_noL e t)
theorem dp_noD {α : Type} {A : Rep α} [NoD A] {H H' : Hp} (e : ExtD H H') : ∀ {xs : List (Key × V)} {l : List (Str × α)}, DPr A H xs l → DPr A H' xs l
  | _, _, .nil => .nil
  | _, _, .cons h t => .cons ⟨h.1, NoD.mono e h.2⟩ (dp_noD e t)
instance {α : Type} (A : Rep α) [NoD A] : NoD (rL A) := ⟨fun e ⟨p, xs, h1, h2, h3⟩ => ⟨p, xs, h1, e.lst p xs h2, paired_noD e h3⟩⟩
instance {α : Type} (A : Rep α) [NoL A] : NoL (rD A) := ⟨fun e ⟨p, xs, h1, h2, h3⟩ => ⟨p, xs, h1, e.dk p xs h2, dp_noL e h3⟩⟩

/-- only tuples are asked -/
def TupS (H H' : Hp) : Prop := ∀ a xs, H a = some (.tup xs) → H' a = some (.tup xs)
class Tu {α : Type} (A : Rep α) : Prop where
  mono : ∀ {H H' : Hp} {v : V} {x : α}, TupS H H' → A H v x → A H' v x
instance : Tu rInt := ⟨fun _ h => h⟩
instance : Tu rStr := ⟨fun _ h => h⟩
instance : Tu rBl := ⟨fun _ h => h⟩
instance : Tu rNon := ⟨fun _ h => h⟩
instance {α β : Type} (A : Rep α) (B : Rep β) [Tu A] [Tu B] : Tu (rP A B) := ⟨fun e ⟨p, a, b, h1, h2, h3, h4⟩ => ⟨p, a, b, h1, e p _ h2, Tu.mono e h3, Tu.mono e h4⟩⟩
instance {α β γ : Type} (A : Rep α) (B : Rep β) (C : Rep γ) [Tu A] [Tu B] [Tu C] : Tu (rT3 A B C) := ⟨fun e ⟨p, a, b, c, h1, h2, h3, h4, h5⟩ => ⟨p, a, b, c, h1, e p _ h2, Tu.mono e h3, Tu.mono e h4, Tu.mono e h5⟩⟩
theorem paired_tu {α : Type} {A : Rep α} [Tu A] {H H' : Hp} (e : TupS H H') : ∀ {xs : List V} {l : List α}, Paired (A H) xs l → Paired (A H') xs l
  | _, _, .nil => .nil
  | _, _, .cons h t => .cons (Tu.mono e h) (paired_tu e t)
theorem dp_tu {α : Type} {A : Rep α} [Tu A] {H H' : Hp} (e : TupS H H') : ∀ {xs : List (Key × V)} {l : List (Str × α)}, DPr A H xs l → DPr A H' xs l
  | _, _, .nil => .nil
  | _, _, .cons h t => .cons ⟨h.1, Tu.mono e h.2⟩ (dp_tu e t)
theorem TupS.trans {H H1 H2 : Hp} (a : TupS H H1) (b : TupS H1 H2) : TupS H H2 := fun c x h => b c x (a c x h)
theorem TupS.of {H H' : Hp} (s : Same H H') : TupS H H' := fun c x h => s c _ h
/-- something that is no tuple changes -/
theorem TupS.upd {H : Hp} {D : Addr} {o u : HO} (h : H D = some u) (n : ∀ xs, u ≠ .tup xs) : TupS H (upd H D o) := fun a xs e => by
  rw [upd_ne (ne_of e h (fun z => n xs z.symm))]
  exact e

section
variable {α β : Type} {J : It} {n : Nat} {G : Hp → Prop} {Y : Nat → Hp → V → Hp → Prop} {g : TG} {tt : TT} {te tk tv : TE} {vs : List Nat} {σ : L2.St} {H1 : Hp} {D : Addr}
/-- a list comprehension over data l: what is kept is p, the items are f -/
theorem lc_gen {A : Rep α} [Mono A] [NoL A] {B : Rep β} (w : Walk J n G Y) (l : List β) (hl : l.length = n) (hn : n < sizeLine) (hD : H1 D = none) (hG : ∀ H, Same H1 H → G H)
    (hY : ∀ (i : Nat) (H : Hp) (x : V) (H' : Hp) (b : β), l[i]? = some b → Same H1 H → Y i H x H' → Same H H' ∧ B H' x b) (p : β → Bool) (f : β → α)
    (step : ∀ (i : Nat) (b : β) (x : V) (H : Hp), l[i]? = some b → Same H1 H → B H x b → ∀ (Ks : VK) (Kc : Hp → Prop), (∀ y H4, Same H H4 → A H4 y (f b) → p b = true → Ks y H4) → (∀ H3, Same H H3 → p b = false → Kc H3) →
      g x (wipe σ vs) H fun σ2 H2 => wipe σ2 vs = wipe σ vs ∧ tt σ2 H2 fun c H3 => if c = true then te σ2 H3 Ks else Kc H3)
    {Qd : Hp → Prop} (done : ∀ H' ys, Same H1 H' → H' D = some (.lst ys) → Paired (A H') ys ((l.filter p).map f) → Qd H') :
    ∃ W : Nat → Nat → Hp → Prop, (∃ m, W 0 m (upd H1 D (.lst []))) ∧ ∀ i m H, W i m H →
      (J.stop i H ∧ Qd H) ∨ (J.go i H ∧ ∃ Nx : Hp → Prop, (∀ H', Nx H' → ∃ m', m' < m ∧ W (i + 1) m' H') ∧ ∀ x H', J.yld i H x H' → g x (wipe σ vs) H' fun σ2 H2 => wipe σ2 vs = wipe σ vs ∧ tt σ2 H2 fun b H3 =>
        if b = true then te σ2 H3 fun y H4 => ∃ acc, H4 D = some (.lst acc) ∧ acc.length < sizeLine ∧ Nx (upd H4 D (.lst (acc ++ [y]))) else Nx H3) := by
  refine lc_it w (fun i H => Same H1 H ∧ ∃ acc, H D = some (.lst acc) ∧ acc.length ≤ i ∧ Paired (A H) acc (((l.take i).filter p).map f)) ⟨Same.mut (Same.refl _) hD, [], upd_same, Nat.le_refl _, .nil⟩ (fun i H _ h => hG H h.1) ?_ ?_
  · rintro i x H H' hi ⟨s, acc, hacc, hlen, hp⟩ y
    obtain ⟨b, hb⟩ : ∃ b, l[i]? = some b := ⟨l[i]'(by omega), List.getElem?_eq_getElem _⟩
    obtain ⟨sy, hB⟩ := hY i H x H' b hb s y
    have et : l.take (i + 1) = l.take i ++ [b] := by
      rw [List.take_add_one, hb]
      rfl
    refine step i b x H' hb (s.trans sy) hB _ _ (fun z H4 s4 hA hpb => ?_) (fun H3 s3 hpb => ?_)
    · have h4 : H4 D = some (.lst acc) := s4 D _ (sy D _ hacc)
      refine ⟨acc, h4, by omega, Same.mut ((s.trans sy).trans s4) hD, acc ++ [z], upd_same, by rw [List.length_append]; show acc.length + 1 ≤ i + 1; omega, ?_⟩
      rw [et, List.filter_append, List.map_append]
      have e1 : [b].filter p = [b] := by rw [List.filter_cons_of_pos hpb] <;> rfl
      rw [e1]
      have x4 := ExtN.upd (o := .lst (acc ++ [z])) h4
      exact paired_snoc (paired_noL x4 (paired_mono (Ext.of (sy.trans s4)) hp)) (NoL.mono x4 hA)
    · refine ⟨(s.trans sy).trans s3, acc, s3 D _ (sy D _ hacc), by omega, ?_⟩
      have e1 : [b].filter p = [] := by rw [List.filter_cons_of_neg (by rw [hpb]; decide)] <;> rfl
      rw [et, List.filter_append, e1, List.append_nil]
      exact paired_mono (Ext.of (sy.trans s3)) hp
  · rintro H ⟨s, acc, hacc, _, hp⟩
    rw [← hl, List.take_length] at hp
    exact done H acc s hacc hp
/-- a dict comprehension over data l: the keys kf (no two alike), the values f -/
theorem dc_gen {A : Rep α} [Mono A] [NoD A] {B : Rep β} (w : Walk J n G Y) (l : List β) (hl : l.length = n) (hn : n < sizeLine) (hD : H1 D = none) (hG : ∀ H, Same H1 H → G H)
    (hY : ∀ (i : Nat) (H : Hp) (x : V) (H' : Hp) (b : β), l[i]? = some b → Same H1 H → Y i H x H' → Same H H' ∧ B H' x b) (kf : β → Str) (f : β → α) (nd : (l.map kf).Nodup)
    (step : ∀ (i : Nat) (b : β) (x : V) (H : Hp), l[i]? = some b → Same H1 H → B H x b → ∀ (Ks : V → V → Hp → Prop) (Kc : Hp → Prop), (∀ z H4, Same H H4 → A H4 z (f b) → Ks (.str (kf b)) z H4) →
      g x (wipe σ vs) H fun σ2 H2 => wipe σ2 vs = wipe σ vs ∧ tt σ2 H2 fun c H3 => if c = true then tk σ2 H3 fun y H4 => tv σ2 H4 fun z H5 => Ks y z H5 else Kc H3)
    {Qd : Hp → Prop} (done : ∀ H' ks, Same H1 H' → H' D = some (.dK ks) → DPr A H' ks (l.map fun b => (kf b, f b)) → Qd H') :
    ∃ W : Nat → Nat → Hp → Prop, (∃ m, W 0 m (upd H1 D (.dK []))) ∧ ∀ i m H, W i m H →
      (J.stop i H ∧ Qd H) ∨ (J.go i H ∧ ∃ Nx : Hp → Prop, (∀ H', Nx H' → ∃ m', m' < m ∧ W (i + 1) m' H') ∧ ∀ x H', J.yld i H x H' → g x (wipe σ vs) H' fun σ2 H2 => wipe σ2 vs = wipe σ vs ∧ tt σ2 H2 fun b H3 =>
        if b = true then tk σ2 H3 fun y H4 => tv σ2 H4 fun z H5 => ∃ kvs k, y = kV k ∧ H5 D = some (.dK kvs) ∧ kvs.length < sizeLine ∧ Nx (upd H5 D (.dK (putK kvs k z))) else Nx H3) := by
  refine ⟨fun i m H => m = n - i ∧ i ≤ n ∧ Same H1 H ∧ ∃ ks, H D = some (.dK ks) ∧ DPr A H ks ((l.take i).map fun b => (kf b, f b)), ⟨n, by simp, Nat.zero_le _, Same.mut (Same.refl _) hD, [], upd_same, .nil⟩, ?_⟩
  rintro i m H ⟨rfl, hi, s, ks, hks, hp⟩
  have q := hG H s
  by_cases hlt : i < n
  · refine .inr ⟨w.goes i H hlt q, fun H' => i + 1 ≤ n ∧ Same H1 H' ∧ ∃ ks, H' D = some (.dK ks) ∧ DPr A H' ks ((l.take (i + 1)).map fun b => (kf b, f b)), fun H' p' => ⟨n - (i + 1), by omega, rfl, p'⟩, fun x H' y => ?_⟩
    have y := w.yields i H x H' hlt q y
    obtain ⟨b, hb⟩ : ∃ b, l[i]? = some b := ⟨l[i]'(by omega), List.getElem?_eq_getElem _⟩
    obtain ⟨sy, hB⟩ := hY i H x H' b hb s y
    have et : l.take (i + 1) = l.take i ++ [b] := by
      rw [List.take_add_one, hb]
      rfl
    refine step i b x H' hb (s.trans sy) hB _ _ (fun z H4 s4 hA => ?_)
    have h4 : H4 D = some (.dK ks) := s4 D _ (sy D _ hks)
    have lk : ks.length = i := by
      rw [paired_len hp, List.length_map, List.length_take]
      omega
    refine ⟨ks, Sum.inr (kf b), rfl, h4, by omega, hlt, Same.mut ((s.trans sy).trans s4) hD, _, upd_same, ?_⟩
    rw [et, List.map_append]
    have x4 := ExtD.upd (o := .dK (putK ks (Sum.inr (kf b)) z)) h4
    refine dp_snoc (dp_noD x4 (dpair_mono (Ext.of (sy.trans s4)) hp)) (NoD.mono x4 hA) ?_
    rw [List.map_map]
    intro hm
    have hm' : kf b ∈ (l.take i).map kf := hm
    have hnd : ((l.take (i + 1)).map kf).Nodup := nd.sublist ((List.take_sublist _ _).map _)
    rw [et, List.map_append] at hnd
    exact (List.nodup_append.mp hnd).2.2 _ hm' _ List.mem_cons_self rfl
  · have e : i = n := by omega
    subst e
    refine .inl ⟨w.stops H q, ?_⟩
    rw [← hl, List.take_length] at hp
    exact done H ks s hks hp
/-- the source a list at a -/
theorem src_k {K : PySem.W.Frag} {a : Addr} {xs : List V} (h : H1 a = some (.lst xs)) (H : Hp) (s : Same H1 H) : SqL K H a xs := SqL.of (s a _ h)
theorem src_y {B : Rep β} [Mono B] {xs : List V} {l : List β} (hp : Paired (B H1) xs l) (i : Nat) (H : Hp) (x : V) (H' : Hp) (b : β) (hb : l[i]? = some b) (s : Same H1 H) (y : YAt xs i H x H') : Same H H' ∧ B H' x b := by
  obtain ⟨rfl, hx⟩ := y
  obtain ⟨x', h1, h2⟩ := paired_got hp hb
  rw [hx] at h1
  cases h1
  exact ⟨Same.refl _, Mono.same s h2⟩
end
/-! ### name = {k: v for ..} on one line, the name a local -/
section
variable {X : Cx}
theorem ps_setDc {i : Nat} {y : Str} {py : Pos} {kx vx tg iter : Expr} {ifs : List Expr} {scope : Scope} {own : List (Str × Nat)} {pos spos : Pos} {wi : TI} {g : TG} {tt : TT} {tk tv : TE} (hc : X.calm = true) (hN : X.N.Nodup) (hy : X.N[i]? = some y) (hyl : X.env.scope.names.lookup y = some .local)
    (hsw : swapsWith (.DictComp kx vx [⟨tg, iter, ifs, 0⟩] scope pos) (some (.Name y py)) spos.line X.env = pure true) (hi : PI X tg iter wi) (ok : BlkOk X.N X.env.scope scope own)
    (hg : ∀ (s : Shared) (H : Hp) (C : Addr) (cl : List (Str × Addr)) (fp : List Addr), PG (X.blk s H scope (compEnvC scope cl C X.env) fp) tg g) (ht : ∀ (s : Shared) (H : Hp) (C : Addr) (cl : List (Str × Addr)) (fp : List Addr), PTs (X.blk s H scope (compEnvC scope cl C X.env) fp) ifs tt)
    (hk : ∀ (s : Shared) (H : Hp) (C : Addr) (cl : List (Str × Addr)) (fp : List Addr), PE (X.blk s H scope (compEnvC scope cl C X.env) fp) kx tk)
    (he : ∀ (s : Shared) (H : Hp) (C : Addr) (cl : List (Str × Addr)) (fp : List Addr), PE (X.blk s H scope (compEnvC scope cl C X.env) fp) vx tv) (hs : ∀ x, foldedSetIterable iter X.env x = pure x := by intro _; rfl) :
    PS X (.Assign [.Name y py] (.DictComp kx vx [⟨tg, iter, ifs, 0⟩] scope pos) spos) (tAsg (tDc wi g tt tk tv (own.map (·.2))) (gName i)) := by
  refine ⟨fun pins s σ H D I h => ?_⟩
  rw [exec_Assign_Name_used _ _ _ _ hsw]
  refine wpAny_bind (wpAny_standAt (wpAny_bind ?_))
  show wpAny _ X.A (do let _ ← comprehension (.DictComp kx vx [⟨tg, iter, ifs, 0⟩] scope pos) scope X.env (firstIterPos [⟨tg, iter, ifs, 0⟩] pos) newDict false (eval iter X.env) (some (assign (.Name y py) X.env))) _ _ s
  have h : tDc wi g tt tk tv (own.map (·.2)) σ H (fun x H1 => gName i x σ H1 D.nx) := h
  refine wpAny_bind (thn (dc_core (Qf := fun _ s' => SP X pins D .next s') hc hN I hi ok hg ht hk he hs h fun L C s' m H' I' q hn f => ?_) fun _ s' hq => wpAny_pure (wpAny_pure hq))
  show wpAny _ _ (assign (.Name y py) X.env (.ref L)) _ _ _
  refine wpAny_assign_Name (store_ok2 (v := V.ref L) I' hN hy (.inl hyl) rfl (fun s2 I2 ⟨a, sb, ha⟩ => ?_) (.inr hyl))
  obtain ⟨f0, f1, f2, f3, f4, f5⟩ := f
  have haC : C ≠ a := by
    rcases ha with z | z
    · rw [z]; exact f1
    · exact fun e => f4 y a z e.symm
  refine ⟨m, hn.sameBut sb haC, fun h3 sb3 => ?_⟩
  exact ⟨_, H', I2.turned (t' := s2.toks) (fun b o hb e => (sb3.2 b hb).trans e) f0 f1 f3 f4 f5, q⟩
theorem sw_trueD {kx vx : Expr} {gs : List Comprehension} {scope : Scope} {pos py : Pos} {y : Str} {l : Nat} {env : Env} (hk : env.scope.kind = .function) (hy : env.scope.names.lookup y = some .local) (hl : (py.line == pos.line) = true)
    (ha : (scope.names.any fun (n, k) => n == y && (k == .local || k == .cell)) = false) : swapsWith (.DictComp kx vx gs scope pos) (some (.Name y py)) l env = pure true := by
  have ky : env.kindOf y = some .local := hy
  have hb : env.blockKind = .function := by unfold Env.blockKind; rw [hk]; rfl
  unfold swapsWith
  simp only [hb, ky, ha, Expr.pos, hl]
  rfl
end
/-! ### rules within a comprehension: the written part told -/
section
variable {X : Cx} {K : PySem.W.Frag}
theorem ix_tupK (h : X.K = K) : IxR X (rIxT K) := h ▸ ix_tup
theorem ix_listK (h : X.K = K) : IxR X (rIxL K) := h ▸ ix_list
theorem op_in_seqK (h : X.K = K) : OpR X (compareOp .In) (rIn K false) := h ▸ op_in_seq
theorem op_notIn_seqK (h : X.K = K) : OpR X (compareOp .NotIn) (rIn K true) := h ▸ op_notIn_seq
theorem pg_tupK (h : X.K = K) {es : List Expr} {n : Nat} {t : TGs} {k : Nat} {pos : Pos} (hp : PG X (.Tuple es k pos) (gTup X.K n t)) : PG X (.Tuple es k pos) (gTup K n t) := h ▸ hp
end
/-! ### what a def hands back -/
def ret {α : Type} (A : Rep α) (H : Hp) (Q : VK) (x : α) : Prop := ∀ v H', Same H H' → A H' v x → Q v H'
def retN (H : Hp) (Q : VK) : Prop := ∀ H', Same H H' → Q .non H'
end Mx

set_option Elab.async false
set_option linter.all false
set_option maxRecDepth 100000
set_option maxHeartbeats 4000000
/-! The plant: names, the class, its lists. -/
namespace Mx
open PySem PySem.Spec PyProof.Rows L2

structure Sm where
  nm : Str
  tl : Str
  hd : Str
  lo : Int
  hi : Int
def rSm : Rep Sm := fun H v s => ∃ p, v = .ref p ∧ H p = some (.tup [.str s.nm, .str s.tl, .str s.hd, .int s.lo, .int s.hi])
instance : Mono rSm := ⟨fun e ⟨p, h1, h2⟩ => ⟨p, h1, e.tup p _ h2⟩⟩
instance : NoL rSm := ⟨fun e ⟨p, h1, h2⟩ => ⟨p, h1, e.tup p _ h2⟩⟩
instance : NoD rSm := ⟨fun e ⟨p, h1, h2⟩ => ⟨p, h1, e.tup p _ h2⟩⟩
instance : Tu rSm := ⟨fun e ⟨p, h1, h2⟩ => ⟨p, h1, e p _ h2⟩⟩
structure Pl where
  kn : List Str
  st : List Sm
theorem kn_ne : ¬ (("_knots" : Str) = "_streams") := by decide +kernel
def plF (ka sa : Addr) : List (Str × V) := putF "_streams" (.ref sa) (putF "_knots" (.ref ka) [])
theorem plF_k (ka sa : Addr) : (plF ka sa).lookup ("_knots" : Str) = some (.ref ka) := by
  unfold plF
  rw [lookup_putF, if_neg kn_ne, lookup_putF, if_pos rfl]
theorem plF_s (ka sa : Addr) : (plF ka sa).lookup ("_streams" : Str) = some (.ref sa) := by
  unfold plF
  rw [lookup_putF, if_pos rfl]
theorem plF_no (ka sa : Addr) {m : Str} (h1 : ¬ m = "_streams") (h2 : ¬ m = "_knots") : (plF ka sa).lookup m = none := by
  unfold plF
  rw [lookup_putF, if_neg h1, lookup_putF, if_neg h2]
  all_goals rfl
/-- a plant -/
def rPl (C : Addr) : Rep Pl := fun H v P => ∃ p dx ka sa, v = .ref p ∧ H p = some (.ins C dx (plF ka sa)) ∧ rL rStr H (.ref ka) P.kn ∧ rL rSm H (.ref sa) P.st
instance (C : Addr) : Mono (rPl C) := ⟨fun e ⟨p, dx, ka, sa, h1, h2, h3, h4⟩ => ⟨p, dx, ka, sa, h1, e.ins p _ _ _ h2, Mono.mono e h3, Mono.mono e h4⟩⟩
instance (C : Addr) : NoD (rPl C) := ⟨fun e ⟨p, dx, ka, sa, h1, h2, h3, h4⟩ => ⟨p, dx, ka, sa, h1, e.ins p _ _ _ h2, NoD.mono e h3, NoD.mono e h4⟩⟩
def NameOk (s : Str) : Prop := 1 ≤ s.length ∧ s.length ≤ 12 ∧ ∀ c ∈ s.cps.toList, c ∈ letters.cps.toList
def Pl.names (P : Pl) : List Str := P.st.map (·.nm)
structure PlOk (P : Pl) : Prop where
  kn : P.kn.Nodup
  nd : P.names.Nodup
  ends : ∀ s ∈ P.st, s.tl ∈ P.kn ∧ s.hd ∈ P.kn
  kl : P.kn.length ≤ 24
  sl : P.st.length ≤ 60
theorem yesT {Q : Bool → Hp → Prop} {σ : L2.St} {H : Hp} (h : Q true H) : tYes σ H Q := h
theorem ci {x y : Bool} (h : x = y) : V.bl x = V.bl y := congrArg V.bl h
theorem ct {p : Prop} [Decidable p] (h : p) : V.bl (decide p) = V.bl true := congrArg V.bl (decide_eq_true h)
theorem cf {p : Prop} [Decidable p] (h : ¬ p) : V.bl (decide p) = V.bl false := congrArg V.bl (decide_eq_false h)
theorem bls_eq : ∀ {H : Hp} {xs : List V} {l : List Bool}, Paired (rBl H) xs l → xs = l.map V.bl := by
  intro H xs l h
  induction h with
  | nil => rfl
  | cons a t ih =>
    have a' : _ = V.bl _ := a
    rw [List.map_cons, ← ih, a']
theorem filt_true {α : Type} (l : List α) : l.filter (fun _ => true) = l := List.filter_eq_self.mpr fun _ _ => rfl
theorem all_true {α : Type} (l : List α) : ((l.map fun _ => true).all id) = true := by simp
/-- new lists, new dicts handed back -/
def retL {α : Type} (A : Rep α) (H : Hp) (Q : VK) (l : List α) : Prop := ∀ p H' xs, H p = none → Same H H' → H' p = some (.lst xs) → Paired (A H') xs l → Q (.ref p) H'
def retD {α : Type} (A : Rep α) (H : Hp) (Q : VK) (l : List (Str × α)) : Prop := ∀ p H' ks, H p = none → Same H H' → H' p = some (.dK ks) → DPr A H' ks l → Q (.ref p) H'
theorem inV_strs {x : Str} {l : List Str} : inV (.str x) (l.map V.str) = decide (x ∈ l) := by
  unfold inV
  induction l with
  | nil => rfl
  | cons y l ih =>
    rw [List.map_cons, List.any_cons, ih]
    show ((y == x) || decide (x ∈ l)) = decide (x ∈ y :: l)
    by_cases h : y = x
    · subst h
      simp
    · have e : (y == x) = false := beq_eq_false_iff_ne.mpr h
      rw [e, Bool.false_or]
      have : x ∈ y :: l ↔ x ∈ l := by simp [Ne.symm h]
      simp [this]
theorem flat_strs (l : List Str) : (l.map V.str).all flatV = true := by
  rw [List.all_map]
  exact List.all_eq_true.mpr fun _ _ => rfl
theorem in_yes {x : Str} {l : List Str} (h : x ∈ l) : V.bl (if false = true then !inV (.str x) (l.map V.str) else inV (.str x) (l.map V.str)) = V.bl true := by
  rw [if_neg Bool.false_ne_true, inV_strs]
  exact ct h
theorem in_not {x : Str} {l : List Str} (h : ¬ x ∈ l) : V.bl (if false = true then !inV (.str x) (l.map V.str) else inV (.str x) (l.map V.str)) = V.bl false := by
  rw [if_neg Bool.false_ne_true, inV_strs]
  exact cf h
theorem nin_no {x : Str} {l : List Str} (h : x ∈ l) : V.bl (if true = true then !inV (.str x) (l.map V.str) else inV (.str x) (l.map V.str)) = V.bl false := by
  rw [if_pos rfl, inV_strs, decide_eq_true h]
  rfl
theorem kv_strs (l : List Str) : (l.map (Sum.inr : Str → Key)).map kV = l.map V.str := by
  rw [List.map_map]
  rfl
theorem metK_len_nd {l : List Key} (h : l.Nodup) : (metK l).length = l.length := by
  obtain ⟨h1, h2, _⟩ := metK_all l
  exact ((List.perm_ext_iff_of_nodup h1 h).mpr h2).length_eq
theorem nd_map {α β : Type} {f : α → β} (hf : ∀ a b, f a = f b → a = b) : ∀ {l : List α}, l.Nodup → (l.map f).Nodup
  | [], _ => List.nodup_nil
  | a :: l, h => by
    rw [List.nodup_cons] at h
    rw [List.map_cons, List.nodup_cons]
    refine ⟨fun z => ?_, nd_map hf h.2⟩
    obtain ⟨b, hb, e⟩ := List.mem_map.mp z
    exact h.1 (hf b a e ▸ hb)
def Pl.E (P : Pl) : List (Mt.Edge Str) := P.st.map fun s => ⟨s.nm, s.tl, s.hd⟩
section
variable {P : Program} {w : World} {K : PySem.W.Frag} {mg : Str → Option Value} {base : Heap}
/-! ### is_name -/
def sp_is_name : Sp := fun vs H Q _ => ∃ s, vs = [.str s] ∧ NameOk s ∧ ret rBl H Q true
theorem ok_is_name (T : Tx K mg) : FnOk P w K mg base CX0 1 T.a_is_name T.d_is_name P_is_name sp_is_name := by
  refine T.F_is_name.ok sc_is_name (fun vs H Q E h => ?_) (fun cdv A outer s H vs Q E hr h => ⟨_, PSs.nox (pss_one (ps_ret (pe_and (pe_chain op_le op_le pe_int (pe_callB call_len_str (by rfl) T.n_len (by decide +kernel) (pa_cons (pv 0) pa_nil)) pe_int) (pe_one (pe_callB (cr_all rfl) (by rfl) T.n_all (by decide +kernel) (pa_cons (pe_lc (own := [("sign", 1)]) rfl sc_is_name.nd (pi_str (pv 0)) (blkOk_by (own := [("sign", 1)]) (N := N_is_name) (sc := defScope s_is_name) (by decide +kernel)) (fun _ _ _ _ _ => (pg_name (i := 1) sc_is_name.nd rfl (Or.inl rfl))) (fun _ _ _ _ _ => pts_nil) (fun _ _ _ _ _ => (pe_cmpR op_in_sign (pv 1) (pe_glob (v := v_LETTERS) rfl T.g_LETTERS.choose_spec ⟨_, rfl⟩) (by rfl)))) pa_nil)))))), ?_⟩)
  · obtain ⟨s, rfl, _⟩ := h
    rfl
  · obtain ⟨z, rfl, ⟨h1, h2, h3⟩, k⟩ := h
    refine ⟨_, rfl, z, rfl, Nat.le_trans h2 (by decide), _, _, rfl, rfl, true, ct (by omega), iteT ⟨_, _, rfl, rfl, true, ct (by omega), iteT ?_⟩⟩
    refine ⟨_, rfl, z, rfl, fun D hD => lc_gen (A := rBl) (B := fun H v c => v = .str ⟨#[c]⟩) walk_str z.cps.toList (by rw [Array.length_toList]) ?_ hD (fun _ _ => trivial) ?_ (fun _ => true) (fun _ => true) ?_ ?_⟩
    · have : z.cps.size ≤ 12 := h2
      exact Nat.lt_of_le_of_lt this (by decide)
    · rintro i H x H' b hb _ ⟨rfl, c, hc, rfl⟩
      rw [← Array.getElem?_toList, hb] at hc
      cases hc
      exact ⟨Same.refl _, rfl⟩
    · rintro i b x H' hb s rfl Ks Kc kt _
      refine ⟨rfl, yesT (iteT ?_)⟩
      refine ⟨_, rfl, b, letters, rfl, rfl, ?_⟩
      exact kt _ _ (Same.refl _) (ct (h3 b (List.mem_of_getElem? hb))) rfl
    · intro H' ys s hD' hp
      have e1 : (List.filter (fun _ => true) z.cps.toList) = z.cps.toList := List.filter_eq_self.mpr fun _ _ => rfl
      rw [e1] at hp
      have e2 : ys = (z.cps.toList.map fun _ => true).map V.bl := bls_eq hp
      refine ⟨D, z.cps.toList.map fun _ => true, rfl, SqL.of (by rw [hD', e2]), ?_⟩
      have e3 : ((z.cps.toList.map fun _ => true).all id) = true := by simp
      rw [e3]
      exact k _ _ s rfl
/-! ### are_names -/
def sp_are_names : Sp := fun vs H Q _ => ∃ v l, vs = [v] ∧ rL rStr H v l ∧ (∀ s ∈ l, NameOk s) ∧ l.Nodup ∧ l.length ≤ 100 ∧ ret rBl H Q true
theorem ok_are_names (T : Tx K mg) : FnOk P w K mg base CX0 2 T.a_are_names T.d_are_names P_are_names sp_are_names := by
  refine T.F_are_names.ok sc_are_names (fun vs H Q E h => ?_) (fun cdv A outer s H vs Q E hr h => ⟨_, PSs.nox (pss_one (ps_ret (pe_and (pe_callB (cr_all rfl) (by rfl) T.n_all (by decide +kernel) (pa_cons (pe_lc (own := [("text", 1)]) rfl sc_are_names.nd (pi_list (pv 0)) (blkOk_by (own := [("text", 1)]) (N := N_are_names) (sc := defScope s_are_names) (by decide +kernel)) (fun _ _ _ _ _ => (pg_name (i := 1) sc_are_names.nd rfl (Or.inl rfl))) (fun _ _ _ _ _ => pts_nil) (fun _ _ _ _ _ => (pe_call (ok_is_name T) (hr.mono (by decide)) rfl T.m_is_name T.F_is_name.kp (b_is_name T) .nil pass0 (pa_cons (pv 1) pa_nil)))) pa_nil)) (pe_one (pe_cmpR op_eq (pe_callB (cr_lenM) (by rfl) T.n_len (by decide +kernel) (pa_cons (pe_callTy (cr_setL rfl) (by rfl) T.n_set (by decide +kernel) (pa_cons (pv 0) pa_nil)) pa_nil)) (pe_callB call_len_seq (by rfl) T.n_len (by decide +kernel) (pa_cons (pv 0) pa_nil)) (nomark _)))))), ?_⟩)
  · obtain ⟨v, l, rfl, _⟩ := h
    rfl
  · obtain ⟨v, l, rfl, ⟨a, xs, rfl, ha, hp⟩, hok, hnd, hl, k⟩ := h
    refine ⟨_, rfl, a, rfl, ⟨_, SqL.of ha⟩, fun D hD => lc_gen (A := rBl) (B := rStr) (walk_list (K := K)) l (paired_len hp).symm ?_ hD (src_k ha) (src_y hp) (fun _ => true) (fun _ => true) ?_ ?_⟩
    · rw [paired_len hp]
      exact Nat.lt_of_le_of_lt hl (by decide)
    · rintro i b x H' hb s rfl Ks Kc kt _
      refine ⟨rfl, yesT (iteT ?_)⟩
      exact ⟨_, rfl, b, rfl, hok b (List.mem_of_getElem? hb), fun v H2 s2 hv => kt v H2 s2 hv rfl⟩
    · intro H' ys s hD' hp'
      rw [filt_true] at hp'
      refine ⟨D, l.map fun _ => true, rfl, SqL.of (by rw [hD', bls_eq hp']), ?_⟩
      rw [all_true]
      refine ⟨true, rfl, iteT ?_⟩
      have ha' := s a _ ha
      refine ⟨_, rfl, a, l.map Sum.inr, rfl, SqL.of (by rw [ha', kv_strs, strs_eq hp]), by rw [List.length_map]; omega, fun p hpn => ?_⟩
      refine ⟨p, _, rfl, upd_same, ?_⟩
      have ha2 := Same.new (o := SetMO w p (metK (l.map Sum.inr))) hpn a _ ha'
      refine ⟨_, rfl, a, _, rfl, .inl (SqL.of ha2), rfl, ?_⟩
      have el : (metK (l.map Sum.inr)).length = xs.length := by
        rw [metK_len_nd (nd_map (fun _ _ z => Sum.inr.inj z) hnd), List.length_map, paired_len hp]
      exact k _ _ (s.trans (Same.new hpn)) (ct (by rw [el]))
/-! ### is_stream -/
def sp_is_stream : Sp := fun vs H Q _ => ∃ sv kv s l, vs = [sv, kv] ∧ rSm H sv s ∧ rL rStr H kv l ∧ s.tl ∈ l ∧ s.hd ∈ l ∧ 0 ≤ s.lo ∧ s.lo ≤ s.hi ∧ s.hi ≤ 1000000 ∧ ret rBl H Q true
theorem ok_is_stream (T : Tx K mg) : FnOk P w K mg base CX0 1 T.a_is_stream T.d_is_stream P_is_stream sp_is_stream := by
  refine T.F_is_stream.ok sc_is_stream (fun vs H Q E h => ?_) (fun cdv A outer s H vs Q E hr h => ⟨_, PSs.nox (pss_cons (ps_if (pt_cmpR op_ne (pe_callB call_len_seq (by rfl) T.n_len (by decide +kernel) (pa_cons (pv 0) pa_nil)) pe_int (nomark _)) (pss_one (ps_ret pe_bl)) pss_nil)
    (pss_cons (ps_asg (pv 0) (pg_tup rfl (pgs_cons (pg_name (i := 2) sc_is_stream.nd rfl (Or.inl rfl)) (pgs_cons (pg_name (i := 3) sc_is_stream.nd rfl (Or.inl rfl)) (pgs_cons (pg_name (i := 4) sc_is_stream.nd rfl (Or.inl rfl)) (pgs_cons (pg_name (i := 5) sc_is_stream.nd rfl (Or.inl rfl)) (pgs_cons (pg_name (i := 6) sc_is_stream.nd rfl (Or.inl rfl)) pgs_nil)))))))
    (pss_one (ps_ret (pe_and (pe_cmpR op_in_seq (pv 3) (pv 1) (by rfl)) (pe_and (pe_cmpR op_in_seq (pv 4) (pv 1) (by rfl)) (pe_one (pe_chain3 op_le op_le op_le pe_int (pv 5) (pv 6) (pe_glob (v := v_MOST_FLOW) rfl T.g_MOST_FLOW.choose_spec ⟨_, rfl⟩))))))))), ?_⟩)
  · obtain ⟨sv, kv, s, l, rfl, _⟩ := h
    rfl
  · obtain ⟨sv, kv, s, l, rfl, ⟨p, rfl, hp⟩, ⟨a, xs, rfl, ha, hx⟩, h1, h2, h3, h4, h5, k⟩ := h
    have ex := strs_eq hx
    subst ex
    refine ⟨_, rfl, p, _, rfl, .inr (SqT.of hp), rfl, false, rfl, iteF ?_⟩
    refine ⟨_, rfl, p, _, rfl, SqT.of hp, rfl, _, _, rfl, _, _, rfl, _, _, rfl, _, _, rfl, _, _, rfl, rfl, ?_⟩
    refine ⟨_, rfl, _, rfl, a, _, rfl, .inl (SqL.of ha), rfl, flat_strs l, true, in_yes h1, iteT ?_⟩
    refine ⟨_, rfl, _, rfl, a, _, rfl, .inl (SqL.of ha), rfl, flat_strs l, true, in_yes h2, iteT ?_⟩
    refine ⟨_, rfl, _, _, rfl, rfl, true, ct h3, iteT ⟨_, rfl, _, _, rfl, rfl, true, ct h4, iteT ⟨_, _, rfl, rfl, ?_⟩⟩⟩
    exact k _ _ (Same.refl _) (ct h5)
/-! ### the lists of a plant -/
def sp_knots (C : Addr) : Sp := fun vs H Q _ => ∃ v P, vs = [v] ∧ rPl C H v P ∧ retL rStr H Q P.kn
theorem ok_Plant_knots (T : Tx K mg) : FnOk P w K mg base CX0 1 T.a_Plant_knots T.d_Plant_knots P_Plant_knots (sp_knots T.C_Plant) := by
  refine T.F_Plant_knots.ok sc_Plant_knots (fun vs H Q E h => ?_) (fun cdv A outer s H vs Q E hr h => ⟨_, PSs.nox (pss_one (ps_ret (pe_callTy call_list_of (by rfl) T.n_list (by decide +kernel) (pa_cons (pe_fld (pv 0) rfl) pa_nil)))), ?_⟩)
  · obtain ⟨v, P, rfl, _⟩ := h
    rfl
  · obtain ⟨v, P, rfl, ⟨p, dx, ka, sa, rfl, hi, ⟨_, xs, e, hk, hx⟩, hs⟩, k⟩ := h
    cases e
    refine ⟨_, rfl, p, _, dx, _, _, rfl, hi, T.c_Plant, T.f_Plant__knots, plF_k _ _, ka, xs, rfl, .inl (SqL.of hk), fun l hl => ?_⟩
    exact k l _ xs hl (Same.new hl) upd_same (paired_mono (Ext.of (Same.new hl)) hx)
def sp_streams (C : Addr) : Sp := fun vs H Q _ => ∃ v P, vs = [v] ∧ rPl C H v P ∧ retL rSm H Q P.st
theorem ok_Plant_streams (T : Tx K mg) : FnOk P w K mg base CX0 1 T.a_Plant_streams T.d_Plant_streams P_Plant_streams (sp_streams T.C_Plant) := by
  refine T.F_Plant_streams.ok sc_Plant_streams (fun vs H Q E h => ?_) (fun cdv A outer s H vs Q E hr h => ⟨_, PSs.nox (pss_one (ps_ret (pe_callTy call_list_of (by rfl) T.n_list (by decide +kernel) (pa_cons (pe_fld (pv 0) rfl) pa_nil)))), ?_⟩)
  · obtain ⟨v, P, rfl, _⟩ := h
    rfl
  · obtain ⟨v, P, rfl, ⟨p, dx, ka, sa, rfl, hi, hk, ⟨_, xs, e, hs, hx⟩⟩, k⟩ := h
    cases e
    refine ⟨_, rfl, p, _, dx, _, _, rfl, hi, T.c_Plant, T.f_Plant__streams, plF_s _ _, sa, xs, rfl, .inl (SqL.of hs), fun l hl => ?_⟩
    exact k l _ xs hl (Same.new hl) upd_same (paired_mono (Ext.of (Same.new hl)) hx)
def sp_stream_names (C : Addr) : Sp := fun vs H Q _ => ∃ v P, vs = [v] ∧ rPl C H v P ∧ P.st.length ≤ 60 ∧ retL rStr H Q P.names
theorem ok_Plant_stream_names (T : Tx K mg) : FnOk P w K mg base CX0 1 T.a_Plant_stream_names T.d_Plant_stream_names P_Plant_stream_names (sp_stream_names T.C_Plant) := by
  refine T.F_Plant_stream_names.ok sc_Plant_stream_names (fun vs H Q E h => ?_) (fun cdv A outer s H vs Q E hr h => ⟨_, PSs.nox (pss_one (ps_ret (pe_lc (own := [("stream", 1)]) rfl sc_Plant_stream_names.nd (pi_list (pe_fld (pv 0) rfl)) (blkOk_by (own := [("stream", 1)]) (N := N_Plant_stream_names) (sc := defScope s_Plant_stream_names) (by decide +kernel)) (fun _ _ _ _ _ => (pg_name (i := 1) sc_Plant_stream_names.nd rfl (Or.inl rfl))) (fun _ _ _ _ _ => pts_nil) (fun _ _ _ _ _ => (pe_ix (ix_tupK (K := K) rfl) (pv 1) pe_int (fun _ _ => rfl)))))), ?_⟩)
  · obtain ⟨v, P, rfl, _⟩ := h
    rfl
  · obtain ⟨v, P, rfl, ⟨p, dx, ka, sa, rfl, hi, hk, ⟨_, xs, e, hs, hx⟩⟩, hl, k⟩ := h
    cases e
    refine ⟨_, rfl, p, _, dx, _, _, rfl, hi, T.c_Plant, T.f_Plant__streams, plF_s _ _, sa, rfl, ⟨_, SqL.of hs⟩, fun D hD => lc_gen (A := rStr) (B := rSm) (walk_list (K := K)) P.st (paired_len hx).symm ?_ hD (src_k hs) (src_y hx) (fun _ => true) (·.nm) ?_ ?_⟩
    · rw [paired_len hx]
      exact Nat.lt_of_le_of_lt hl (by decide)
    · rintro i b x H' hb s ⟨q, rfl, hq⟩ Ks Kc kt _
      refine ⟨rfl, yesT (iteT ?_)⟩
      exact ⟨_, rfl, q, _, _, _, rfl, rfl, SqT.of hq, atI_nat (j := 0) rfl, kt _ _ (Same.refl _) rfl rfl⟩
    · intro H' ys s hD' hp'
      rw [filt_true] at hp'
      exact k D H' ys hD s hD' hp'
/-! ### stream_named, check_knot -/
theorem nm_inj {P : Pl} (h : P.names.Nodup) {i j : Nat} {s t : Sm} (hi : P.st[i]? = some s) (hj : P.st[j]? = some t) (e : s.nm = t.nm) : i = j := by
  refine nd_ix h (x := s.nm) ?_ ?_
  · show (P.st.map (·.nm))[i]? = _
    rw [List.getElem?_map, hi] <;> rfl
  · show (P.st.map (·.nm))[j]? = _
    rw [List.getElem?_map, hj, e] <;> rfl
def sp_stream_named (C : Addr) : Sp := fun vs H Q _ => ∃ v P s, vs = [v, .str s.nm] ∧ rPl C H v P ∧ P.names.Nodup ∧ s ∈ P.st ∧ ret rSm H Q s
theorem ok_Plant_stream_named (T : Tx K mg) : FnOk P w K mg base CX0 1 T.a_Plant_stream_named T.d_Plant_stream_named P_Plant_stream_named (sp_stream_named T.C_Plant) := by
  refine T.F_Plant_stream_named.ok sc_Plant_stream_named (fun vs H Q E h => ?_) (fun cdv A outer s H vs Q E hr h => ⟨_, PSs.nox (pss_cons (ps_for PassesOwn.never rfl (pi_list (pe_fld (pv 0) rfl)) (pg_name (i := 2) sc_Plant_stream_named.nd rfl (Or.inl rfl))
    (pss_one (ps_if (pt_cmpR op_eq (pe_ix ix_tup (pv 2) pe_int (fun _ _ => rfl)) (pv 1) (nomark _)) (pss_one (ps_ret (pv 2))) pss_nil)))
    (pss_one ps_never)), ?_⟩)
  · obtain ⟨v, P, s, rfl, _⟩ := h
    rfl
  · obtain ⟨v, P, s, rfl, ⟨p, dx, ka, sa, rfl, hi, hk, ⟨_, xs, e, hs, hx⟩⟩, hnd, hm, k⟩ := h
    cases e
    obtain ⟨j, hj⟩ := List.getElem?_of_mem hm
    refine ⟨_, rfl, p, _, dx, _, _, rfl, hi, T.c_Plant, T.f_Plant__streams, plF_s _ _, sa, rfl, ⟨_, SqL.of hs⟩, for_it (walk_list (K := K)) (fun i σ H1 => H1 = H ∧ i ≤ j ∧ ∃ x, σ = [some (.ref p), some (.str s.nm), x])
      ⟨rfl, Nat.zero_le _, _, rfl⟩ (fun i σ H1 _ h => by rw [h.1]; exact SqL.of hs) ?_ ?_⟩
    · rintro i x σ H1 H2 hi' ⟨rfl, hij, y, rfl⟩ ⟨rfl, hxi⟩
      obtain ⟨t, ht, q, rfl, hq⟩ := paired_get' hx hxi
      refine ⟨_, rfl, q, _, _, _, rfl, rfl, SqT.of hq, atI_nat (j := 0) rfl, _, rfl, rfl, _, rfl, ?_⟩
      refine ite2 (fun h => ?_) (fun h => ?_)
      · have h' : t.nm = s.nm := V.str.inj (of_decide_eq_true h)
        have e := nm_inj hnd ht hj h'
        subst e
        rw [hj] at ht
        cases ht
        exact ⟨_, rfl, k _ _ (Same.refl _) ⟨q, rfl, hq⟩⟩
      · refine ⟨rfl, ?_, _, rfl⟩
        by_cases e : i = j
        · subst e
          rw [hj] at ht
          cases ht
          exact absurd (decide_eq_true rfl) h
        · omega
    · rintro σ H1 ⟨_, hij, _⟩
      have := (List.getElem?_eq_some_iff.mp hj).1
      rw [paired_len hx] at hij
      omega
def sp_check_knot (C : Addr) : Sp := fun vs H Q _ => ∃ v P k, vs = [v, .str k] ∧ rPl C H v P ∧ k ∈ P.kn ∧ retN H Q
theorem ok_Plant_check_knot (T : Tx K mg) : FnOk P w K mg base CX0 1 T.a_Plant_check_knot T.d_Plant_check_knot P_Plant_check_knot (sp_check_knot T.C_Plant) := by
  refine T.F_Plant_check_knot.ok sc_Plant_check_knot (fun vs H Q E h => ?_) (fun cdv A outer s H vs Q E hr h => ⟨_, PSs.nox (pss_one (ps_if (pt_cmpR op_notIn_seq (pv 1) (pe_fld (pv 0) rfl) (by rfl)) (pss_one ps_never) pss_nil)), ?_⟩)
  · obtain ⟨v, P, k, rfl, _⟩ := h
    rfl
  · obtain ⟨v, P, kn, rfl, ⟨p, dx, ka, sa, rfl, hi, ⟨_, xs, e, hk, hx⟩, hs⟩, hm, k⟩ := h
    cases e
    have ex := strs_eq hx
    subst ex
    refine ⟨_, rfl, _, rfl, p, _, dx, _, _, rfl, hi, T.c_Plant, T.f_Plant__knots, plF_k _ _, ka, _, rfl, .inl (SqL.of hk), rfl, flat_strs _, false, nin_no hm, iteF ?_⟩
    exact k _ (Same.refl _)
end
end Mx

set_option Elab.async false
set_option linter.all false
set_option maxRecDepth 100000
set_option maxHeartbeats 4000000
/-! Plant.__init__, check_flows, lacks, is_balanced. -/
namespace Mx
open PySem PySem.Spec PyProof.Rows L2
def Sm.t (s : Sm) : Str × Str × Str × Int × Int := (s.nm, s.tl, s.hd, s.lo, s.hi)
theorem sm_bs {K : PySem.W.Frag} {H : Hp} : ∀ {xs : List V} {l : List Sm}, Paired (rSm H) xs l → ∃ bs : List (V × (Str × Str × Str × Int × Int)), bs.map (·.1) = xs ∧ bs.length = l.length ∧ ∀ b ∈ bs, Dp K H b.1 (d5 b.2)
  | _, _, .nil => ⟨[], rfl, rfl, fun _ h => nomatch h⟩
  | x :: xs, s :: l, .cons ⟨p, e, hp⟩ t => by
    obtain ⟨bs, h1, h2, h3⟩ := sm_bs (K := K) t
    refine ⟨(x, s.t) :: bs, by rw [List.map_cons, h1], by rw [List.length_cons, List.length_cons, h2], fun b hb => ?_⟩
    rcases List.mem_cons.mp hb with rfl | hb
    · subst e
      exact Dp.tup (SqT.of hp) (.cons (.str _) (.cons (.str _) (.cons (.str _) (.cons (.int _) (.cons (.int _) .nil)))))
    · exact h3 b hb
section
variable {P : Program} {w : World} {K : PySem.W.Frag} {mg : Str → Option Value} {base : Heap}
def sp_init (C : Addr) : Sp := fun vs H Q _ => ∃ p dx kv sv kl sl, vs = [.ref p, kv, sv] ∧ H p = some (.ins C dx []) ∧ rL rStr H kv kl ∧ rL rSm H sv sl ∧
  1 ≤ kl.length ∧ kl.length ≤ 24 ∧ (∀ k ∈ kl, NameOk k) ∧ kl.Nodup ∧ sl.length ≤ 60 ∧ (∀ s ∈ sl, NameOk s.nm ∧ s.tl ∈ kl ∧ s.hd ∈ kl ∧ 0 ≤ s.lo ∧ s.lo ≤ s.hi ∧ s.hi ≤ 1000000) ∧ (sl.map (·.nm)).Nodup ∧
  ∀ kn st H', kn.Perm kl → st.Perm sl → rPl C H' (.ref p) ⟨kn, st⟩ → (∀ b o, H b = some o → b ≠ p → H' b = some o) → Q .non H'
theorem ok_Plant_init (T : Tx K mg) : FnOk P w K mg base CX0 3 T.a_Plant_init T.d_Plant_init P_Plant_init (sp_init T.C_Plant) := by
  refine T.F_Plant_init.ok sc_Plant_init (fun vs H Q E h => ?_) (fun cdv A outer s H vs Q E hr h => ⟨_, PSs.nox (pss_cons (ps_if (PW.pt (pw_or (pt_not (pt_chain op_le op_le pe_int (pe_callB call_len_seq (by rfl) T.n_len (by decide +kernel) (pa_cons (pv 1) pa_nil)) (pe_glob (v := v_MOST_KNOTS) rfl T.g_MOST_KNOTS.choose_spec ⟨_, rfl⟩))) (pw_or1 (pt_not (pt_val (pe_call (ok_are_names T) (hr.mono (by decide)) rfl T.m_are_names T.F_are_names.kp (b_are_names T) .nil pass0 (pa_cons (pv 1) pa_nil))))))) (pss_one ps_never) pss_nil)
    (pss_cons (ps_if (PW.pt (pw_or (pt_cmpR op_gt (pe_callB call_len_seq (by rfl) T.n_len (by decide +kernel) (pa_cons (pv 2) pa_nil)) (pe_glob (v := v_MOST_STREAMS) rfl T.g_MOST_STREAMS.choose_spec ⟨_, rfl⟩) (nomark _)) (pw_or1 (pt_not (pt_val (pe_callB (cr_all rfl) (by rfl) T.n_all (by decide +kernel) (pa_cons (pe_lc (own := [("stream", 3)]) rfl sc_Plant_init.nd (pi_list (pv 2)) (blkOk_by (own := [("stream", 3)]) (N := N_Plant_init) (sc := defScope s_Plant_init) (by decide +kernel)) (fun _ _ _ _ _ => (pg_name (i := 3) sc_Plant_init.nd rfl (Or.inl rfl))) (fun _ _ _ _ _ => pts_nil) (fun _ _ _ _ _ => (pe_call (ok_is_stream T) (hr.mono (by decide)) rfl T.m_is_stream T.F_is_stream.kp (b_is_stream T) .nil pass0 (pa_cons (pv 3) (pa_cons (pv 1) pa_nil))))) pa_nil))))))) (pss_one ps_never) pss_nil)
    (pss_cons (ps_if (pt_not (pt_val (pe_call (ok_are_names T) (hr.mono (by decide)) rfl T.m_are_names T.F_are_names.kp (b_are_names T) .nil pass0 (pa_cons (pe_lc (own := [("stream", 3)]) rfl sc_Plant_init.nd (pi_list (pv 2)) (blkOk_by (own := [("stream", 3)]) (N := N_Plant_init) (sc := defScope s_Plant_init) (by decide +kernel)) (fun _ _ _ _ _ => (pg_name (i := 3) sc_Plant_init.nd rfl (Or.inl rfl))) (fun _ _ _ _ _ => pts_nil) (fun _ _ _ _ _ => (pe_ix (ix_tupK (K := K) rfl) (pv 3) pe_int (fun _ _ => rfl)))) pa_nil)))) (pss_one ps_never) pss_nil)
    (pss_cons (ps_fld (pv 0) (pe_callB cr_sortedS (by rfl) T.n_sorted (by decide +kernel) (pa_cons (pv 1) pa_nil)) rfl)
    (pss_one (ps_fld (pv 0) (pe_callB (cr_sort5 hr.units) (by rfl) T.n_sorted (by decide +kernel) (pa_cons (pv 2) pa_nil)) rfl)))))), ?_⟩)
  · obtain ⟨p, dx, kv, sv, kl, sl, rfl, _⟩ := h
    rfl
  · obtain ⟨p, dx, kv, sv, kl, sl, rfl, hi, ⟨a, xs, rfl, ha, hx⟩, ⟨b, zs, rfl, hb, hz⟩, l1, l2, hn, nd, l3, hs, nd2, k⟩ := h
    have ex := strs_eq hx
    subst ex
    -- if not 1 <= len(knots) <= MOST_KNOTS or not are_names(knots)
    refine ⟨_, rfl, a, _, rfl, .inl (SqL.of ha), _, _, rfl, rfl, true, ct (by rw [List.length_map]; omega), iteT ⟨_, _, rfl, rfl, true, ct (by rw [List.length_map]; omega), ?_⟩⟩
    refine iteF ?_
    refine ⟨_, rfl, _, kl, rfl, ⟨a, _, rfl, ha, hx⟩, hn, nd, by omega, fun v H1 s1 hv => ?_⟩
    cases hv
    refine ⟨true, rfl, ?_⟩
    refine iteF ?_
    -- if len(streams) > MOST_STREAMS or not all([..])
    have hb1 := s1 b _ hb
    have hz1 : Paired (rSm H1) zs sl := paired_mono (Ext.of s1) hz
    refine ⟨_, rfl, b, _, rfl, .inl (SqL.of hb1), _, _, rfl, rfl, false, cf (by rw [paired_len hz]; omega), ?_⟩
    refine iteF ?_
    refine ⟨_, rfl, b, rfl, ⟨_, SqL.of hb1⟩, fun D hD => lc_gen (A := rBl) (B := rSm) (walk_list (K := K)) sl (paired_len hz).symm ?_ hD (src_k hb1) (src_y hz1) (fun _ => true) (fun _ => true) ?_ ?_⟩
    · rw [paired_len hz]
      exact Nat.lt_of_le_of_lt l3 (by decide)
    · rintro i t x H' ht s2 hB Ks Kc kt _
      obtain ⟨q1, q2, q3, q4, q5, q6⟩ := hs t (List.mem_of_getElem? ht)
      refine ⟨rfl, yesT (iteT ?_)⟩
      exact ⟨_, rfl, _, rfl, x, .ref a, t, kl, rfl, hB, ⟨a, _, rfl, s2 a _ (s1 a _ ha), hx⟩, q2, q3, q4, q5, q6, fun v H2 s3 hv => kt v H2 s3 hv rfl⟩
    · intro H2 ys s2 hD' hp'
      rw [filt_true] at hp'
      refine ⟨D, sl.map fun _ => true, rfl, SqL.of (by rw [hD', bls_eq hp']), ?_⟩
      rw [all_true]
      refine ⟨true, rfl, ?_⟩
      refine iteF ?_
      -- if not are_names([stream[0] for stream in streams])
      have s12 := s1.trans s2
      have hb2 := s12 b _ hb
      have hz2 : Paired (rSm H2) zs sl := paired_mono (Ext.of s12) hz
      refine ⟨_, rfl, b, rfl, ⟨_, SqL.of hb2⟩, fun D2 hD2 => lc_gen (A := rStr) (B := rSm) (walk_list (K := K)) sl (paired_len hz).symm ?_ hD2 (src_k hb2) (src_y hz2) (fun _ => true) (·.nm) ?_ ?_⟩
      · rw [paired_len hz]
        exact Nat.lt_of_le_of_lt l3 (by decide)
      · rintro i t x H' ht s2 ⟨q, rfl, hq⟩ Ks Kc kt _
        refine ⟨rfl, yesT (iteT ?_)⟩
        exact ⟨_, rfl, q, _, _, _, rfl, rfl, SqT.of hq, atI_nat (j := 0) rfl, kt _ _ (Same.refl _) rfl rfl⟩
      · intro H3 ys3 s3 hD3 hp3
        rw [filt_true] at hp3
        have s13 := s12.trans s3
        refine ⟨_, sl.map (·.nm), rfl, ⟨D2, ys3, rfl, hD3, hp3⟩, ?_, nd2, by rw [List.length_map]; omega, fun v H4 s4 hv => ?_⟩
        · intro n hn'
          obtain ⟨t, ht, e⟩ := List.mem_map.mp hn'
          rw [← e]
          exact (hs t ht).1
        cases hv
        refine ⟨true, rfl, ?_⟩
        refine iteF ?_
        -- self._knots = sorted(knots)
        have s14 := s13.trans s4
        refine ⟨_, rfl, a, kl, rfl, SqL.of (s14 a _ ha), by omega, fun kn p1 hperm _ hp1 => ?_⟩
        have s15 := s14.trans (Same.new (o := .lst (kn.map V.str)) hp1)
        refine ⟨_, rfl, p, T.C_Plant, dx, [], rfl, s15 p _ hi, T.c_Plant, T.f_Plant__knots, by decide, ?_⟩
        -- self._streams = sorted(streams)
        have npb : b ≠ p := ne_of hb hi (by intro z; cases z)
        have nap : a ≠ p := ne_of ha hi (by intro z; cases z)
        have np1 : p1 ≠ p := fun z => by rw [z, s14 p _ hi] at hp1; cases hp1
        have keep : ∀ c o, H c = some o → c ≠ p → upd (upd H4 p1 (.lst (kn.map V.str))) p (.ins T.C_Plant dx (putF "_knots" (.ref p1) [])) c = some o := fun c o e n => by
          rw [upd_ne n]
          exact s15 c o e
        have tk : TupS H (upd (upd H4 p1 (.lst (kn.map V.str))) p (.ins T.C_Plant dx (putF "_knots" (.ref p1) []))) := fun c xs e => keep c _ e (ne_of e hi (by intro z; cases z))
        have hz5 := paired_tu tk hz
        obtain ⟨bs, e1, e2, e3⟩ := sm_bs (K := K) hz5
        refine ⟨_, rfl, b, bs, rfl, SqL.of (by rw [e1]; exact keep b _ hb npb), e3, by rw [e2]; omega, fun ys p2 hperm2 hp2 => ?_⟩
        obtain ⟨st, hst, hys⟩ := paired_perm (xs := zs) (ys := ys.map (·.1)) (by rw [← e1]; exact hperm2.map _) hz5
        have hpp : upd (upd H4 p1 (.lst (kn.map V.str))) p (.ins T.C_Plant dx (putF "_knots" (.ref p1) [])) p = some (.ins T.C_Plant dx (putF "_knots" (.ref p1) [])) := upd_same
        have n2p : p ≠ p2 := ne_of_none hpp hp2
        refine ⟨_, rfl, p, T.C_Plant, dx, _, rfl, by rw [upd_ne n2p]; exact hpp, T.c_Plant, T.f_Plant__streams, (by show 1 < 1000; decide), ?_⟩
        have h1p : upd (upd H4 p1 (.lst (kn.map V.str))) p (.ins T.C_Plant dx (putF "_knots" (.ref p1) [])) p1 = some (.lst (kn.map V.str)) := by rw [upd_ne np1, upd_same]
        have n21 : p1 ≠ p2 := ne_of_none h1p hp2
        refine k kn st _ hperm hst ⟨p, dx, p1, p2, rfl, upd_same, ⟨p1, kn.map V.str, rfl, ?_, strs_of' _⟩, ⟨p2, ys.map (·.1), rfl, ?_, ?_⟩⟩ ?_
        · rw [upd_ne np1, upd_ne n21]
          exact h1p
        · rw [upd_ne n2p.symm, upd_same]
        · exact paired_tu ((TupS.of (Same.new hp2)).trans (TupS.upd (u := .ins T.C_Plant dx (putF "_knots" (.ref p1) [])) (by rw [upd_ne n2p]; exact hpp) fun _ z => nomatch z)) hys
        · intro c o e n
          rw [upd_ne n, upd_ne (ne_of_none (keep c o e n) hp2)]
          exact keep c o e n
end
end Mx

set_option Elab.async false
set_option linter.all false
set_option maxRecDepth 100000
set_option maxHeartbeats 4000000
/-! check_flows, lacks, is_balanced, missing_of, check_limits, crossed. -/
namespace Mx
open PySem PySem.Spec PyProof.Rows L2
theorem dict_keys {α : Type} {A : Rep α} {H : Hp} {ks : List (Key × V)} {l : List (Str × α)} (h : DPr A H ks l) : (ks.map fun kv => kV kv.1) = (l.map (·.1)).map V.str := by
  have e := dp_keys h
  have e2 : (ks.map fun kv => kV kv.1) = (ks.map (·.1)).map kV := by rw [List.map_map]; rfl
  rw [e2, e, kv_strs]
theorem get_in {α : Type} {A : Rep α} {H : Hp} {ks : List (Key × V)} {l : List (Str × α)} {d : Addr} (hr : Rd H d (.dK ks)) (h : DPr A H ks l) (nd : (l.map (·.1)).Nodup) {k : Str} {x : α} (hm : (k, x) ∈ l) : ∃ v, DGet H d (.str k) (some v) ∧ A H v x := by
  obtain ⟨v, h1, h2⟩ := dp_get h nd hm
  exact ⟨v, by rw [← h1]; exact rd_get hr, h2⟩
theorem get_out {α : Type} {A : Rep α} {H : Hp} {ks : List (Key × V)} {l : List (Str × α)} {d : Addr} (hr : Rd H d (.dK ks)) (h : DPr A H ks l) {k : Str} (hm : ¬ k ∈ l.map (·.1)) : DGet H d (.str k) none := by
  rw [← dp_none h hm]
  exact rd_get hr
theorem get_some {α : Type} {A : Rep α} {H : Hp} {ks : List (Key × V)} {l : List (Str × α)} {d : Addr} (hr : Rd H d (.dK ks)) (h : DPr A H ks l) (nd : (l.map (·.1)).Nodup) {k : Str} (hm : k ∈ l.map (·.1)) : ∃ v x, (k, x) ∈ l ∧ DGet H d (.str k) (some v) ∧ A H v x := by
  obtain ⟨⟨k', x⟩, h1, rfl⟩ := List.mem_map.mp hm
  obtain ⟨v, h2, h3⟩ := get_in hr h nd h1
  exact ⟨v, x, h1, h2, h3⟩
theorem rd_same {H H' : Hp} {d : Addr} {ks : List (Key × V)} (s : Same H H') (h : Rd H d (.dK ks)) : Rd H' d (.dK ks) := (Ext.of s).dk d ks h
section
variable {P : Program} {w : World} {K : PySem.W.Frag} {mg : Str → Option Value} {base : Heap}
def sp_check_flows (C : Addr) : Sp := fun vs H Q _ => ∃ pv fv P kvs, vs = [pv, fv] ∧ rPl C H pv P ∧ P.names.Nodup ∧ P.st.length ≤ 60 ∧ rD rInt H fv kvs ∧ (kvs.map (·.1)).Nodup ∧ (∀ n, n ∈ kvs.map (·.1) ↔ n ∈ P.names) ∧ retN H Q
theorem ok_check_flows (T : Tx K mg) : FnOk P w K mg base CX0 2 T.a_check_flows T.d_check_flows P_check_flows (sp_check_flows T.C_Plant) := by
  refine T.F_check_flows.ok sc_check_flows (fun vs H Q E h => ?_) (fun cdv A outer s H vs Q E hr h => ?_)
  · obtain ⟨pv, fv, P, kvs, rfl, _⟩ := h
    rfl
  · have hu := hu_of hr
    refine ⟨_, PSs.nox (pss_cons (ps_set (i := 2) sc_check_flows.nd rfl (Or.inl rfl) (pe_meth0 (pv 0) T.c_Plant T.h_Plant_stream_names (ok_Plant_stream_names T) (hr.mono (by decide)) (b_Plant_stream_names T) .nil pass0))
    (pss_one (ps_for PassesOwn.never rfl (pi_list (pe_callB (cr_sortedMS rfl) (by rfl) T.n_sorted (by decide +kernel) (pa_cons (pe_callTy (cr_setL rfl) (by rfl) T.n_set (by decide +kernel) (pa_cons (pe_op op_cat (pv 2) (pe_callTy (call_listD rfl) (by rfl) T.n_list (by decide +kernel) (pa_cons (pv 1) pa_nil))) pa_nil)) pa_nil))) (pg_name (i := 3) sc_check_flows.nd rfl (Or.inl rfl))
    (pss_one (ps_if (PW.pt (pw_or (pt_cmpR op_notIn_seq (pv 3) (pv 2) (by rfl)) (pw_or1 (pt_cmp (pc_dnotin hu (pv 3) (pv 1)))))) (pss_one ps_never) pss_nil))))), ?_⟩
    obtain ⟨pv, fv, P, kvs, rfl, hP, nd, h60, ⟨d, ks, rfl, hd, hks⟩, nd2, hmem, k⟩ := h
    obtain ⟨p, dx, ka, sa, rfl, hi, hk, hs⟩ := id hP
    refine ⟨_, rfl, p, dx, _, rfl, hi, plF_no _ _ (by decide +kernel) (by decide +kernel), ⟨_, P, rfl, hP, h60, fun l H1 xs hl s1 e1 hx => ?_⟩⟩
    have ex := strs_eq hx
    subst ex
    have ekl : kvs.length = P.names.length := by
      have := ((List.perm_ext_iff_of_nodup nd2 nd).mpr hmem).length_eq
      rw [List.length_map] at this
      exact this
    have enl : P.names.length = P.st.length := List.length_map _
    have ekk := dict_keys hks
    refine ⟨_, rfl, _, rfl, d, ks, rfl, rd_same s1 hd, fun p1 hp1 => ?_⟩
    have s2 := s1.trans (Same.new (o := .lst (ks.map fun kv => kV kv.1)) hp1)
    have n1 : l ≠ p1 := ne_of_none e1 hp1
    refine ⟨l, p1, _, _, rfl, rfl, by rw [upd_ne n1]; exact e1, upd_same, ?_, fun p2 hp2 => ?_⟩
    · rw [ekk, List.length_map, List.length_map, List.length_map, sizeLine_eq]
      omega
    have s3 := s2.trans (Same.new (o := .lst (P.names.map V.str ++ ks.map fun kv => kV kv.1)) hp2)
    refine ⟨p2, (P.names ++ kvs.map (·.1)).map Sum.inr, rfl, SqL.of ?_, ?_, fun p3 hp3 => ?_⟩
    · rw [upd_same, kv_strs, ekk, List.map_append]
    · rw [List.length_map, List.length_append, List.length_map]
      omega
    obtain ⟨m1, m2, m3⟩ := metK_all ((P.names ++ kvs.map (·.1)).map (Sum.inr : Str → Key))
    have mm : ∀ y : Str, (Sum.inr y : Key) ∈ metK ((P.names ++ kvs.map (·.1)).map (Sum.inr : Str → Key)) ↔ y ∈ P.names := fun y => by
      rw [m2]
      constructor
      · intro h
        obtain ⟨z, hz, e⟩ := List.mem_map.mp h
        cases e
        rcases List.mem_append.mp hz with h | h
        · exact h
        · exact (hmem _).mp h
      · intro h
        exact List.mem_map.mpr ⟨y, List.mem_append.mpr (.inl h), rfl⟩
    have mi : ∀ k ∈ metK ((P.names ++ kvs.map (·.1)).map (Sum.inr : Str → Key)), ∃ x, k = Sum.inr x := fun k hk => by
      obtain ⟨z, hz, e⟩ := List.mem_map.mp ((m2 k).mp hk)
      exact ⟨z, e.symm⟩
    have ml : (metK ((P.names ++ kvs.map (·.1)).map (Sum.inr : Str → Key))).length = P.names.length := by
      have hp : (metK ((P.names ++ kvs.map (·.1)).map (Sum.inr : Str → Key))).Perm (P.names.map Sum.inr) := (List.perm_ext_iff_of_nodup m1 (nd_map (fun _ _ z => Sum.inr.inj z) nd)).mpr fun k => by
        constructor
        · intro h
          obtain ⟨x, rfl⟩ := mi k h
          exact List.mem_map.mpr ⟨x, (mm x).mp h, rfl⟩
        · intro h
          obtain ⟨x, hx, rfl⟩ := List.mem_map.mp h
          exact (mm x).mpr hx
      rw [hp.length_eq, List.length_map]
    have s4 := s3.trans (Same.new (o := SetMO w p3 (metK ((P.names ++ kvs.map (·.1)).map Sum.inr))) hp3)
    refine ⟨p3, _, rfl, upd_same, mi, by omega, fun ys p4 _ hys _ hp4 => ?_⟩
    have s5 := s4.trans (Same.new (o := .lst (ys.map V.str)) hp4)
    refine ⟨p4, rfl, ⟨_, SqL.of upd_same⟩, for_it (walk_list (K := K)) (fun i σ H2 => (Same H H2 ∧ H2 l = some (.lst (P.names.map V.str)) ∧ H2 p4 = some (.lst (ys.map V.str))) ∧ ∃ x, σ = [some (.ref p), some (.ref d), some (.ref l), x])
      ⟨⟨s5, ?_, upd_same⟩, _, rfl⟩ (fun i σ H2 _ h => SqL.of h.1.2.2) ?_ ?_⟩
    · have n2 : l ≠ p2 := ne_of_none (Same.new hp1 l _ e1) hp2
      have e2 := Same.new (o := .lst (P.names.map V.str ++ ks.map fun kv => kV kv.1)) hp2 l _ (Same.new (o := .lst (ks.map fun kv => kV kv.1)) hp1 l _ e1)
      exact Same.new hp4 l _ (Same.new hp3 l _ e2)
    · rintro i x σ H2 H3 hi' ⟨⟨s6, hl6, h46⟩, y, rfl⟩ ⟨rfl, hxi⟩
      rw [List.getElem?_map] at hxi
      cases hy : ys[i]? with
      | none => rw [hy] at hxi; cases hxi
      | some z =>
        rw [hy] at hxi
        cases hxi
        have hz : z ∈ P.names := (mm z).mp ((hys z).mp (List.mem_of_getElem? hy))
        refine ⟨_, rfl, _, rfl, l, _, rfl, .inl (SqL.of hl6), rfl, flat_strs _, false, nin_no hz, ?_⟩
        refine iteF ?_
        obtain ⟨v, z', _, hg, _⟩ := get_some (rd_same s6 hd) (dpair_mono (Ext.of s6) hks) nd2 ((hmem z).mpr hz)
        refine ⟨_, rfl, _, rfl, d, _, rfl, hg, false, rfl, ?_⟩
        refine iteF ?_
        exact ⟨⟨s6, hl6, h46⟩, _, rfl⟩
    · rintro σ H2 ⟨⟨s6, _⟩, _⟩
      exact k _ s6
/-! ### lacks -/
def kdict (l : List Str) (f : Str → Int) : List (Str × Int) := l.map fun k => (k, f k)
theorem kdict_keys (l : List Str) (f : Str → Int) : (kdict l f).map (·.1) = l := by
  unfold kdict
  rw [List.map_map]
  exact List.map_id' l
theorem kdict_mem {l : List Str} {f : Str → Int} {k : Str} (h : k ∈ l) : (k, f k) ∈ kdict l f := List.mem_map.mpr ⟨k, h, rfl⟩
theorem kdict_set (l : List Str) (f : Str → Int) (k : Str) (x : Int) : setL (kdict l f) k x = kdict l (Mt.setF f k x) := by
  unfold setL kdict
  rw [List.map_map]
  refine List.map_congr_left fun n _ => ?_
  show (if n = k then (n, x) else (n, f n)) = (n, if n = k then x else f n)
  split <;> rfl
def sp_lacks (C : Addr) : Sp := fun vs H Q _ => ∃ pv fv P ks f, vs = [pv, fv] ∧ rPl C H pv P ∧ PlOk P ∧ rD rInt H fv (kdict ks f) ∧ ks.Nodup ∧ (∀ n, n ∈ ks ↔ n ∈ P.names) ∧ retD rInt H Q (kdict P.kn fun k => Mt.net P.E f k)
theorem ok_lacks (T : Tx K mg) : FnOk P w K mg base CX0 3 T.a_lacks T.d_lacks P_lacks (sp_lacks T.C_Plant) := by
  refine T.F_lacks.ok sc_lacks (fun vs H Q E h => ?_) (fun cdv A outer s H vs Q E hr h => ?_)
  · obtain ⟨pv, fv, P, ks, f, rfl, _⟩ := h
    rfl
  · have hu := hu_of hr
    refine ⟨_, PSs.nox (pss_cons (ps_expr (pe_call (ok_check_flows T) (hr.mono (by decide)) rfl T.m_check_flows T.F_check_flows.kp (b_check_flows T) .nil pass0 (pa_cons (pv 0) (pa_cons (pv 1) pa_nil))))
    (pss_cons (ps_setDc (i := 2) (own := [("knot", 7)]) rfl sc_lacks.nd rfl rfl (sw_trueD rfl rfl rfl (by decide +kernel)) (pi_list (pe_prop (pv 0) T.c_Plant T.p_Plant_knots (ok_Plant_knots T) (hr.mono (by decide)) (b_Plant_knots T) .nil pass0 rfl)) (blkOk_by (own := [("knot", 7)]) (N := N_lacks) (sc := defScope s_lacks) (by decide +kernel)) (fun _ _ _ _ _ => (pg_name (i := 7) sc_lacks.nd rfl (Or.inl rfl))) (fun _ _ _ _ _ => pts_nil) (fun _ _ _ _ _ => (pv 7)) (fun _ _ _ _ _ => pe_int))
    (pss_cons (ps_for PassesOwn.never rfl (pi_list (pe_prop (pv 0) T.c_Plant T.p_Plant_streams (ok_Plant_streams T) (hr.mono (by decide)) (b_Plant_streams T) .nil pass0 rfl)) (pg_tup rfl (pgs_cons (pg_name (i := 3) sc_lacks.nd rfl (Or.inl rfl)) (pgs_cons (pg_name (i := 4) sc_lacks.nd rfl (Or.inl rfl)) (pgs_cons (pg_name (i := 5) sc_lacks.nd rfl (Or.inl rfl)) (pgs_cons (pg_name (i := 6) sc_lacks.nd rfl (Or.inl rfl)) (pgs_cons (pg_name (i := 6) sc_lacks.nd rfl (Or.inl rfl)) pgs_nil))))))
    (pss_cons (ps_daug hu (pv 2) (pv 4) (pe_dget hu (pv 1) (pv 3) (fun _ _ => rfl)) in_sub (fun _ _ _ => rfl))
    (pss_one (ps_daug hu (pv 2) (pv 5) (pe_dget hu (pv 1) (pv 3) (fun _ _ => rfl)) in_add (fun _ _ _ => rfl)))))
    (pss_one (ps_ret (pv 2)))))), ?_⟩
    obtain ⟨pv, fv, P, ks, f, rfl, hP, ok, ⟨d, kvs, rfl, hd, hkv⟩, ndk, hmem, k⟩ := h
    obtain ⟨p, dx, ka, sa, rfl, hi, hk, hs⟩ := id hP
    refine ⟨_, rfl, _, rfl, _, _, P, kdict ks f, rfl, hP, ok.nd, ok.sl, ⟨d, kvs, rfl, hd, hkv⟩, by rw [kdict_keys]; exact ndk, by rw [kdict_keys]; exact hmem, fun H1 s1 => ?_⟩
    -- found = {knot: 0 for knot in plant.knots}
    refine ⟨_, rfl, p, dx, _, rfl, s1 p _ hi, _, P, rfl, Mono.same s1 hP, fun l1 H2 xs1 hl1 s2 e1 hx1 => ?_⟩
    refine ⟨l1, rfl, ⟨_, SqL.of e1⟩, fun D hD => dc_gen (A := rInt) (B := rStr) (walk_list (K := K)) P.kn (paired_len hx1).symm ?_ hD (src_k e1) (src_y hx1) (fun b => b) (fun _ => 0) (by rw [List.map_id']; exact ok.kn) ?_ ?_⟩
    · rw [paired_len hx1]
      exact Nat.lt_of_le_of_lt ok.kl (by decide)
    · rintro i b x H' hb s3 rfl Ks Kc kt
      refine ⟨rfl, yesT (iteT ?_)⟩
      exact ⟨_, rfl, kt _ _ (Same.refl _) rfl⟩
    · intro H3 fks s3 hD3 hp3
      have s13 := s1.trans (s2.trans s3)
      -- for name, tail, head, _, _ in plant.streams
      refine ⟨_, rfl, p, dx, _, rfl, s13 p _ hi, _, P, rfl, Mono.same s13 hP, fun l2 H4 xs2 hl2 s4 e2 hx2 => ?_⟩
      have s14 := s13.trans s4
      have hD0 : H D = none := by
        cases q : H D with
        | none => rfl
        | some o =>
          have := (s1.trans s2) D o q
          rw [hD] at this
          cases this
      have hne : l2 ≠ D := by
        intro z
        subst z
        rw [s4 l2 _ hD3] at e2
        cases e2
      refine ⟨l2, rfl, ⟨_, SqL.of e2⟩, for_it (walk_list (K := K)) (fun i σ H5 => ∃ fks, (Same H H5 ∧ H5 l2 = some (.lst xs2) ∧ H5 D = some (.dK fks) ∧ Paired (rSm H5) xs2 P.st ∧ DPr rInt H5 fks (kdict P.kn fun k => Mt.net (P.E.take i) f k)) ∧
          ∃ a b c e g, σ = [some (.ref p), some (.ref d), some (.ref D), a, b, c, e, g])
        ⟨fks, ⟨s14, e2, s4 D _ hD3, hx2, dpair_mono (Ext.of s4) hp3⟩, _, _, _, _, _, rfl⟩ (fun i σ H5 _ ⟨_, h, _⟩ => SqL.of h.2.1) ?_ ?_⟩
      · rintro i x σ H5 H6 hi' ⟨fks5, ⟨s5, e5, hD5, hx5, hp5⟩, a, b, c, e, g, rfl⟩ ⟨rfl, hxi⟩
        obtain ⟨t, ht, q, rfl, hq⟩ := paired_get' hx5 hxi
        have htm : t ∈ P.st := List.mem_of_getElem? ht
        have htn : t.nm ∈ P.names := List.mem_map.mpr ⟨t, htm, rfl⟩
        obtain ⟨ht1, ht2⟩ := ok.ends t htm
        have hd5 := rd_same s5 hd
        have hkv5 : DPr rInt H6 kvs (kdict ks f) := dpair_mono (Ext.of s5) hkv
        obtain ⟨v, hg, rfl⟩ := get_in hd5 hkv5 (by rw [kdict_keys]; exact ndk) (kdict_mem (f := f) ((hmem _).mpr htn))
        have nkf : ((kdict P.kn fun k => Mt.net (P.E.take i) f k).map (·.1)).Nodup := by rw [kdict_keys]; exact ok.kn
        obtain ⟨v1, hg1, rfl⟩ := get_in (.inl hD5) hp5 nkf (kdict_mem ht1)
        have dne : d ≠ D := by
          intro z
          subst z
          rcases hd with hd | ⟨ob, hd⟩
          · rw [hd] at hD0; cases hD0
          · rw [hd] at hD0; cases hD0
        have lk : fks5.length < sizeLine := by
          rw [paired_len hp5]
          unfold kdict
          rw [List.length_map]
          exact Nat.lt_of_le_of_lt ok.kl (by decide)
        -- found[tail] -= flows[name]
        refine ⟨q, _, rfl, SqT.of hq, rfl, _, _, rfl, _, _, rfl, _, _, rfl, _, _, rfl, _, _, rfl, rfl, ?_⟩
        refine ⟨_, rfl, _, rfl, D, _, rfl, hg1, _, rfl, _, rfl, d, _, rfl, hg, _, _, rfl, rfl, _, DPut.k (k := Sum.inr t.tl) hD5 lk, ?_⟩
        have hp6 := dp_put (k := t.tl) (v := V.int (Mt.net (P.E.take i) f t.tl - f t.nm)) hp5 rfl (by rw [kdict_keys]; exact ht1) nkf
        rw [kdict_set] at hp6
        have tu6 : TupS H6 (upd H6 D (.dK (putK fks5 (Sum.inr t.tl) (V.int (Mt.net (P.E.take i) f t.tl - f t.nm))))) := TupS.upd hD5 fun _ z => nomatch z
        have hp6' := dp_tu tu6 hp6
        have nkf6 : ((kdict P.kn (Mt.setF (fun k => Mt.net (P.E.take i) f k) t.tl (Mt.net (P.E.take i) f t.tl - f t.nm))).map (·.1)).Nodup := by rw [kdict_keys]; exact ok.kn
        obtain ⟨v2, hg2, rfl⟩ := get_in (H := upd H6 D (.dK (putK fks5 (Sum.inr t.tl) (V.int (Mt.net (P.E.take i) f t.tl - f t.nm))))) (.inl upd_same) hp6' nkf6 (kdict_mem ht2)
        have hg' : DGet (upd H6 D (.dK (putK fks5 (Sum.inr t.tl) (V.int (Mt.net (P.E.take i) f t.tl - f t.nm))))) d (.str t.nm) (some (.int (f t.nm))) := by
          have hd6 : Rd (upd H6 D (.dK (putK fks5 (Sum.inr t.tl) (V.int (Mt.net (P.E.take i) f t.tl - f t.nm))))) d (.dK kvs) := hd5.elim (fun q => .inl (by rw [upd_ne dne]; exact q)) fun ⟨o, q⟩ => .inr ⟨o, by rw [upd_ne dne]; exact q⟩
          obtain ⟨v, hg, rfl⟩ := get_in hd6 (dp_tu tu6 hkv5) (by rw [kdict_keys]; exact ndk) (kdict_mem (f := f) ((hmem _).mpr htn))
          exact hg
        have lk6 : (putK fks5 (Sum.inr t.tl) (V.int (Mt.net (P.E.take i) f t.tl - f t.nm))).length < sizeLine := by
          rw [paired_len hp6]
          unfold kdict
          rw [List.length_map]
          exact Nat.lt_of_le_of_lt ok.kl (by decide)
        -- found[head] += flows[name]
        refine ⟨_, rfl, _, rfl, D, _, rfl, hg2, _, rfl, _, rfl, d, _, rfl, hg', _, _, rfl, rfl, _, DPut.k (k := Sum.inr t.hd) upd_same lk6, ?_⟩
        have hp7 := dp_put (k := t.hd) (v := V.int (Mt.setF (fun k => Mt.net (P.E.take i) f k) t.tl (Mt.net (P.E.take i) f t.tl - f t.nm) t.hd + f t.nm)) hp6' rfl (by rw [kdict_keys]; exact ht2) nkf6
        rw [kdict_set] at hp7
        rw [upd_upd]
        refine ⟨_, ⟨Same.mut s5 hD0, by rw [upd_ne hne]; exact e5, upd_same, ?_, ?_⟩, _, _, _, _, _, rfl⟩
        · exact paired_tu (TupS.upd hD5 fun _ z => nomatch z) hx5
        · have tu7 : TupS (upd H6 D (.dK (putK fks5 (Sum.inr t.tl) (V.int (Mt.net (P.E.take i) f t.tl - f t.nm))))) (upd H6 D (.dK (putK (putK fks5 (Sum.inr t.tl) (V.int (Mt.net (P.E.take i) f t.tl - f t.nm))) (Sum.inr t.hd) (V.int (Mt.setF (fun k => Mt.net (P.E.take i) f k) t.tl (Mt.net (P.E.take i) f t.tl - f t.nm) t.hd + f t.nm))))) := by
            have := TupS.upd (o := .dK (putK (putK fks5 (Sum.inr t.tl) (V.int (Mt.net (P.E.take i) f t.tl - f t.nm))) (Sum.inr t.hd) (V.int (Mt.setF (fun k => Mt.net (P.E.take i) f k) t.tl (Mt.net (P.E.take i) f t.tl - f t.nm) t.hd + f t.nm)))) (H := upd H6 D (.dK (putK fks5 (Sum.inr t.tl) (V.int (Mt.net (P.E.take i) f t.tl - f t.nm))))) (D := D) upd_same fun _ z => nomatch z
            rw [upd_upd] at this
            exact this
          have e8 : kdict P.kn (Mt.setF (Mt.setF (fun k => Mt.net (P.E.take i) f k) t.tl (Mt.net (P.E.take i) f t.tl - f t.nm)) t.hd (Mt.setF (fun k => Mt.net (P.E.take i) f k) t.tl (Mt.net (P.E.take i) f t.tl - f t.nm) t.hd + f t.nm)) = kdict P.kn (fun k => Mt.net (P.E.take (i + 1)) f k) := by
            unfold kdict
            refine List.map_congr_left fun n _ => ?_
            have et : P.E.take (i + 1) = P.E.take i ++ [⟨t.nm, t.tl, t.hd⟩] := by
              unfold Pl.E
              rw [List.take_add_one, List.getElem?_map, ht]
              rfl
            have q := Mt.net_step (P.E.take i) f ⟨t.nm, t.tl, t.hd⟩ n
            rw [← et] at q
            exact congrArg (fun z => (n, z)) q
          rw [← e8]
          exact dp_tu tu7 hp7
      · rintro σ H5 ⟨fks5, ⟨s5, e5, hD5, hx5, hp5⟩, a, b, c, e, g, rfl⟩
        refine ⟨_, rfl, k D H5 fks5 hD0 s5 hD5 ?_⟩
        have el : P.E.take xs2.length = P.E := by
          rw [paired_len hx5]
          refine List.take_of_length_le ?_
          unfold Pl.E
          rw [List.length_map]
          exact Nat.le_refl _
        rw [el] at hp5
        exact hp5
end
end Mx

set_option Elab.async false
set_option linter.all false
set_option maxRecDepth 100000
set_option maxHeartbeats 4000000
/-! is_balanced, missing_of, check_limits, crossed, lines_of, arcs_of. -/
namespace Mx
open PySem PySem.Spec PyProof.Rows L2
theorem vals_y {α : Type} {A : Rep α} [Mono A] {H1 : Hp} {kvs : List (Key × V)} {l : List (Str × α)} (hp : DPr A H1 kvs l) (i : Nat) (H : Hp) (x : V) (H' : Hp) (b : α) (hb : (l.map (·.2))[i]? = some b) (s : Same H1 H) (y : H' = H ∧ ∃ k, kvs[i]? = some (k, x)) : Same H H' ∧ A H' x b := by
  obtain ⟨rfl, k, hk⟩ := y
  rw [List.getElem?_map] at hb
  obtain ⟨q, h1, h2⟩ := paired_get' hp hk
  rw [h1] at hb
  cases hb
  exact ⟨Same.refl _, Mono.same s h2.2⟩
theorem keys_y {α : Type} {A : Rep α} {H1 : Hp} {kvs : List (Key × V)} {l : List (Str × α)} (hp : DPr A H1 kvs l) {H0 : Hp} (i : Nat) (H : Hp) (x : V) (H' : Hp) (b : Str) (hb : (l.map (·.1))[i]? = some b) (s : Same H0 H) (y : H' = H ∧ ∃ k v, kvs[i]? = some (k, v) ∧ x = kV k) : Same H H' ∧ rStr H' x b := by
  obtain ⟨rfl, k, v, hk, rfl⟩ := y
  rw [List.getElem?_map] at hb
  obtain ⟨q, h1, h2⟩ := paired_get' hp hk
  rw [h1] at hb
  cases hb
  have e : k = Sum.inr q.1 := h2.1
  subst e
  exact ⟨Same.refl _, rfl⟩
theorem kdict_snd (l : List Str) (f : Str → Int) : (kdict l f).map (·.2) = l.map f := by
  unfold kdict
  rw [List.map_map]
  rfl
theorem kdict_len (l : List Str) (f : Str → Int) : (kdict l f).length = l.length := List.length_map _
abbrev rLim : Rep (Int × Int) := rP rInt rInt
def ldict (l : List Str) (f : Str → Int × Int) : List (Str × (Int × Int)) := l.map fun k => (k, f k)
theorem ldict_keys (l : List Str) (f : Str → Int × Int) : (ldict l f).map (·.1) = l := by
  unfold ldict
  rw [List.map_map]
  exact List.map_id' l
theorem ldict_mem {l : List Str} {f : Str → Int × Int} {k : Str} (h : k ∈ l) : (k, f k) ∈ ldict l f := List.mem_map.mpr ⟨k, h, rfl⟩
section
variable {P : Program} {w : World} {K : PySem.W.Frag} {mg : Str → Option Value} {base : Heap}
def sp_is_balanced (C : Addr) : Sp := fun vs H Q _ => ∃ pv fv P ks f, vs = [pv, fv] ∧ rPl C H pv P ∧ PlOk P ∧ rD rInt H fv (kdict ks f) ∧ ks.Nodup ∧ (∀ n, n ∈ ks ↔ n ∈ P.names) ∧ ret rBl H Q ((P.kn.map fun k => decide (Mt.net P.E f k = 0)).all id)
theorem ok_is_balanced (T : Tx K mg) : FnOk P w K mg base CX0 4 T.a_is_balanced T.d_is_balanced P_is_balanced (sp_is_balanced T.C_Plant) := by
  refine T.F_is_balanced.ok sc_is_balanced (fun vs H Q E h => ?_) (fun cdv A outer s H vs Q E hr h => ⟨_, PSs.nox (pss_one (ps_ret (pe_callB (cr_all rfl) (by rfl) T.n_all (by decide +kernel) (pa_cons (pe_lc (own := [("number", 2)]) rfl sc_is_balanced.nd (pi_values (pe_frz (pe_call (ok_lacks T) (hr.mono (by decide)) rfl T.m_lacks T.F_lacks.kp (b_lacks T) .nil pass0 (pa_cons (pv 0) (pa_cons (pv 1) pa_nil))))) (blkOk_by (own := [("number", 2)]) (N := N_is_balanced) (sc := defScope s_is_balanced) (by decide +kernel)) (fun _ _ _ _ _ => (pg_name (i := 2) sc_is_balanced.nd rfl (Or.inl rfl))) (fun _ _ _ _ _ => pts_nil) (fun _ _ _ _ _ => (pe_cmpR op_eq (pv 2) pe_int (nomark _)))) pa_nil)))), ?_⟩)
  · obtain ⟨pv, fv, P, ks, f, rfl, _⟩ := h
    rfl
  · obtain ⟨pv, fv, P, ks, f, rfl, hP, ok, hf, ndk, hmem, k⟩ := h
    refine ⟨_, rfl, _, rfl, pv, fv, P, ks, f, rfl, hP, ok, hf, ndk, hmem, fun p H1 kvs hp s1 e1 hk => ?_⟩
    refine ⟨p, _, rfl, e1, trivial, fun od => ⟨p, od, kvs, rfl, upd_same, fun D hD => ?_⟩⟩
    have hk' : DPr rInt (upd H1 p (.frz od (.dK kvs))) kvs (kdict P.kn fun k => Mt.net P.E f k) := dp_tu (TupS.upd e1 fun _ z => nomatch z) hk
    have s1' : Same H (upd H1 p (.frz od (.dK kvs))) := Same.mut s1 hp
    refine lc_gen (A := rBl) (B := rInt) walk_values ((kdict P.kn fun k => Mt.net P.E f k).map (·.2)) ?_ ?_ hD (fun H2 s2 => s2 p _ upd_same) (vals_y hk') (fun _ => true) (fun z => decide (z = 0)) ?_ ?_
    · rw [List.length_map, ← paired_len hk]
    · rw [paired_len hk, kdict_len]
      exact Nat.lt_of_le_of_lt ok.kl (by decide)
    · rintro i b x H' hb s2 rfl Ks Kc kt _
      refine ⟨rfl, yesT (iteT ?_)⟩
      refine ⟨_, rfl, rfl, kt _ _ (Same.refl _) ?_ rfl⟩
      show V.bl (decide (V.int b = V.int 0)) = V.bl (decide (b = 0))
      by_cases e : b = 0
      · rw [decide_eq_true e, decide_eq_true (by rw [e])]
      · rw [decide_eq_false e, decide_eq_false (fun z => e (V.int.inj z))]
    · intro H' ys s2 hD' hp'
      rw [filt_true, kdict_snd, List.map_map] at hp'
      refine ⟨D, _, rfl, SqL.of (by rw [hD', bls_eq hp']), ?_⟩
      exact k _ _ (s1'.trans s2) rfl
def missing (P : Pl) (f : Str → Int) : Int := (P.kn.map fun k => if -Mt.net P.E f k > 0 then -Mt.net P.E f k else 0).sum
def sp_missing_of (C : Addr) : Sp := fun vs H Q _ => ∃ pv fv P ks f, vs = [pv, fv] ∧ rPl C H pv P ∧ PlOk P ∧ rD rInt H fv (kdict ks f) ∧ ks.Nodup ∧ (∀ n, n ∈ ks ↔ n ∈ P.names) ∧ ret rInt H Q (missing P f)
theorem ok_missing_of (T : Tx K mg) : FnOk P w K mg base CX0 4 T.a_missing_of T.d_missing_of P_missing_of (sp_missing_of T.C_Plant) := by
  refine T.F_missing_of.ok sc_missing_of (fun vs H Q E h => ?_) (fun cdv A outer s H vs Q E hr h => ⟨_, PSs.nox (pss_one (ps_ret (pe_callB (cr_sum rfl) (by rfl) T.n_sum (by decide +kernel) (pa_cons (pe_lc (own := [("number", 2)]) rfl sc_missing_of.nd (pi_values (pe_frz (pe_call (ok_lacks T) (hr.mono (by decide)) rfl T.m_lacks T.F_lacks.kp (b_lacks T) .nil pass0 (pa_cons (pv 0) (pa_cons (pv 1) pa_nil))))) (blkOk_by (own := [("number", 2)]) (N := N_missing_of) (sc := defScope s_missing_of) (by decide +kernel)) (fun _ _ _ _ _ => (pg_name (i := 2) sc_missing_of.nd rfl (Or.inl rfl))) (fun _ _ _ _ _ => pts_nil) (fun _ _ _ _ _ => (pe_callB (call_max2 rfl) (by rfl) T.n_max (by decide +kernel) (pa_cons pe_int (pa_cons (pe_un un_neg (pv 2)) pa_nil))))) pa_nil)))), ?_⟩)
  · obtain ⟨pv, fv, P, ks, f, rfl, _⟩ := h
    rfl
  · obtain ⟨pv, fv, P, ks, f, rfl, hP, ok, hf, ndk, hmem, k⟩ := h
    refine ⟨_, rfl, _, rfl, pv, fv, P, ks, f, rfl, hP, ok, hf, ndk, hmem, fun p H1 kvs hp s1 e1 hk => ?_⟩
    refine ⟨p, _, rfl, e1, trivial, fun od => ⟨p, od, kvs, rfl, upd_same, fun D hD => ?_⟩⟩
    have hk' : DPr rInt (upd H1 p (.frz od (.dK kvs))) kvs (kdict P.kn fun k => Mt.net P.E f k) := dp_tu (TupS.upd e1 fun _ z => nomatch z) hk
    have s1' : Same H (upd H1 p (.frz od (.dK kvs))) := Same.mut s1 hp
    refine lc_gen (A := rInt) (B := rInt) walk_values ((kdict P.kn fun k => Mt.net P.E f k).map (·.2)) ?_ ?_ hD (fun H2 s2 => s2 p _ upd_same) (vals_y hk') (fun _ => true) (fun z => if -z > 0 then -z else 0) ?_ ?_
    · rw [List.length_map, ← paired_len hk]
    · rw [paired_len hk, kdict_len]
      exact Nat.lt_of_le_of_lt ok.kl (by decide)
    · rintro i b x H' hb s2 rfl Ks Kc kt _
      refine ⟨rfl, yesT (iteT ?_)⟩
      exact ⟨_, rfl, b, rfl, _, _, rfl, kt _ _ (Same.refl _) rfl rfl⟩
    · intro H' ys s2 hD' hp'
      rw [filt_true, kdict_snd, List.map_map] at hp'
      refine ⟨D, _, rfl, SqL.of (by rw [hD', ints_eq hp']), ?_⟩
      exact k _ _ (s1'.trans s2) rfl
/-! ### limits -/
def sp_check_limits (C : Addr) : Sp := fun vs H Q _ => ∃ pv lv P ks L, vs = [pv, lv] ∧ rPl C H pv P ∧ PlOk P ∧ rD rLim H lv (ldict ks L) ∧ ks.Nodup ∧ (∀ n, n ∈ ks ↔ n ∈ P.names) ∧ ks.length ≤ 60 ∧ retN H Q
theorem ok_check_limits (T : Tx K mg) : FnOk P w K mg base CX0 4 T.a_check_limits T.d_check_limits P_check_limits (sp_check_limits T.C_Plant) := by
  refine T.F_check_limits.ok sc_check_limits (fun vs H Q E h => ?_) (fun cdv A outer s H vs Q E hr h => ⟨_, PSs.nox (pss_one (ps_expr (pe_call (ok_lacks T) (hr.mono (by decide)) rfl T.m_lacks T.F_lacks.kp (b_lacks T) .nil pass0 (pa_cons (pv 0) (pa_cons (pe_lockR (pe_dc (own := [("name", 2)]) rfl sc_check_limits.nd (pi_keys (pv 1)) (blkOk_by (own := [("name", 2)]) (N := N_check_limits) (sc := defScope s_check_limits) (by decide +kernel)) (fun _ _ _ _ _ => (pg_name (i := 2) sc_check_limits.nd rfl (Or.inl rfl))) (fun _ _ _ _ _ => pts_nil) (fun _ _ _ _ _ => (pv 2)) (fun _ _ _ _ _ => pe_int))) pa_nil))))), ?_⟩)
  · obtain ⟨pv, lv, P, ks, L, rfl, _⟩ := h
    rfl
  · obtain ⟨pv, lv, P, ks, L, rfl, hP, ok, ⟨d, kvs, rfl, hd, hk⟩, ndk, hmem, h60, k⟩ := h
    refine ⟨_, rfl, d, kvs, hd, fun od H1 h1 hb1 => ?_⟩
    refine ⟨_, rfl, d, od, rfl, .inl ⟨kvs, h1, fun D hD => ?_⟩⟩
    have ekl : kvs.length = ks.length := by
      rw [paired_len hk]
      exact List.length_map _
    refine dc_gen (A := rInt) (B := rStr) walk_keys ((ldict ks L).map (·.1)) ?_ ?_ hD (fun H2 s2 => s2 d _ h1) (keys_y hk) (fun b => b) (fun _ => 0) (by rw [ldict_keys, List.map_id']; exact ndk) ?_ ?_
    · rw [ldict_keys, ekl]
    · rw [ekl]
      exact Nat.lt_of_le_of_lt h60 (by decide)
    · rintro i b x H' hb s2 rfl Ks Kc kt
      refine ⟨rfl, yesT (iteT ?_)⟩
      exact ⟨_, rfl, kt _ _ (Same.refl _) rfl⟩
    · intro H' fks s2 hD' hp'
      refine ⟨s2 d _ h1, fun H2 h2 hb2 => ?_⟩
      have hDd : D ≠ d := fun z => by rw [z, h1] at hD; cases hD
      have s02 : Same H H2 := Same.unlock hb1 s2 h2 hb2
      rw [ldict_keys] at hp'
      refine ⟨pv, .ref D, P, ks, fun _ => 0, rfl, Mono.same s02 hP, ok, ⟨D, fks, rfl, .inl (by rw [hb2 D hDd]; exact hD'), ?_⟩, ndk, hmem, fun p H3 ks3 hp3 s3 e3 hk3 => ?_⟩
      · have tu : TupS H' H2 := fun a xs e => by
          have : a ≠ d := fun z => by rw [z, s2 d _ h1] at e; cases e
          rw [hb2 a this]
          exact e
        exact dp_tu tu hp'
      · exact k _ (s02.trans s3)
def sp_crossed (C : Addr) : Sp := fun vs H Q _ => ∃ pv lv P ks L, vs = [pv, lv] ∧ rPl C H pv P ∧ PlOk P ∧ rD rLim H lv (ldict ks L) ∧ ks.Nodup ∧ (∀ n, n ∈ ks ↔ n ∈ P.names) ∧ ks.length ≤ 60 ∧
  (∀ H', Same H H' → (∀ n ∈ P.names, (L n).1 ≤ (L n).2) → Q .non H') ∧ (∀ H' n, Same H H' → n ∈ P.names → (L n).2 < (L n).1 → Q (.str n) H')
theorem ok_crossed (T : Tx K mg) : FnOk P w K mg base CX0 5 T.a_crossed T.d_crossed P_crossed (sp_crossed T.C_Plant) := by
  refine T.F_crossed.ok sc_crossed (fun vs H Q E h => ?_) (fun cdv A outer s H vs Q E hr h => ?_)
  · obtain ⟨pv, lv, P, ks, L, rfl, _⟩ := h
    rfl
  · have hu := hu_of hr
    refine ⟨_, PSs.nox (pss_cons (ps_expr (pe_call (ok_check_limits T) (hr.mono (by decide)) rfl T.m_check_limits T.F_check_limits.kp (b_check_limits T) .nil pass0 (pa_cons (pv 0) (pa_cons (pv 1) pa_nil))))
    (pss_cons (ps_for PassesOwn.never rfl (pi_list (pe_meth0 (pv 0) T.c_Plant T.h_Plant_stream_names (ok_Plant_stream_names T) (hr.mono (by decide)) (b_Plant_stream_names T) .nil pass0)) (pg_name (i := 2) sc_crossed.nd rfl (Or.inl rfl))
    (pss_one (ps_if (pt_cmpR op_gt (pe_ix ix_tup (pe_dget hu (pv 1) (pv 2) (fun _ _ => rfl)) pe_int (fun _ _ => rfl)) (pe_ix ix_tup (pe_dget hu (pv 1) (pv 2) (fun _ _ => rfl)) pe_int (fun _ _ => rfl)) (nomark _)) (pss_one (ps_ret (pv 2))) pss_nil)))
    (pss_one (ps_ret pe_non)))), ?_⟩
    obtain ⟨pv, lv, P, ks, L, rfl, hP, ok, ⟨d, kvs, rfl, hd, hk⟩, ndk, hmem, h60, k1, k2⟩ := h
    obtain ⟨p, dx, ka, sa, rfl, hi, hkn, hs⟩ := id hP
    refine ⟨_, rfl, _, rfl, _, _, P, ks, L, rfl, hP, ok, ⟨d, kvs, rfl, hd, hk⟩, ndk, hmem, h60, fun H1 s1 => ?_⟩
    refine ⟨_, rfl, p, dx, _, rfl, s1 p _ hi, plF_no _ _ (by decide +kernel) (by decide +kernel), _, P, rfl, Mono.same s1 hP, ok.sl, fun l H2 xs hl s2 e2 hx => ?_⟩
    have ex := strs_eq hx
    subst ex
    refine ⟨l, rfl, ⟨_, SqL.of e2⟩, for_it (walk_list (K := K)) (fun i σ H3 => (Same H H3 ∧ H3 l = some (.lst (P.names.map V.str)) ∧ ∀ n ∈ P.names.take i, (L n).1 ≤ (L n).2) ∧ ∃ x, σ = [some (.ref p), some (.ref d), x])
      ⟨⟨s1.trans s2, e2, fun _ h => by simp at h⟩, _, rfl⟩ (fun i σ H3 _ h => SqL.of h.1.2.1) ?_ ?_⟩
    · rintro i x σ H3 H4 hi' ⟨⟨s3, hl3, hc⟩, y, rfl⟩ ⟨rfl, hxi⟩
      rw [List.getElem?_map] at hxi
      cases hy : P.names[i]? with
      | none => rw [hy] at hxi; cases hxi
      | some z =>
        rw [hy] at hxi
        cases hxi
        have hz : z ∈ P.names := List.mem_of_getElem? hy
        have hd3 := rd_same s3 hd
        have hk3 : DPr rLim H4 kvs (ldict ks L) := dpair_mono (Ext.of s3) hk
        obtain ⟨v, hg, q, a, b, rfl, hq, rfl, rfl⟩ := get_in hd3 hk3 (by rw [ldict_keys]; exact ndk) (ldict_mem (f := L) ((hmem z).mpr hz))
        refine ⟨_, rfl, _, rfl, d, _, rfl, hg, q, _, _, _, rfl, rfl, SqT.of hq, atI_nat (j := 0) rfl, _, rfl, _, rfl, d, _, rfl, hg, q, _, _, _, rfl, rfl, SqT.of hq, atI_nat (j := 1) rfl, _, _, rfl, rfl, _, rfl, ?_⟩
        refine ite2 (fun h => ?_) (fun h => ?_)
        · exact ⟨_, rfl, k2 _ _ s3 hz (of_decide_eq_true h)⟩
        · refine ⟨⟨s3, hl3, fun n hn => ?_⟩, _, rfl⟩
          rw [List.take_add_one, hy] at hn
          rcases List.mem_append.mp hn with hn | hn
          · exact hc n hn
          · have : n = z := by simpa using hn
            subst this
            have h' : ¬ (L n).2 < (L n).1 := fun q => h (decide_eq_true q)
            omega
    · rintro σ H3 ⟨⟨s3, hl3, hc⟩, _, rfl⟩
      refine k1 _ s3 fun n hn => hc n ?_
      rw [List.length_map, List.take_length]
      exact hn
/-! ### lines, arcs -/
def rEd : Rep (Mt.Edge Str) := fun H v e => ∃ p, v = .ref p ∧ H p = some (.tup [.str e.nm, .str e.tl, .str e.hd])
instance : Mono rEd := ⟨fun e ⟨p, h1, h2⟩ => ⟨p, h1, e.tup p _ h2⟩⟩
instance : NoL rEd := ⟨fun e ⟨p, h1, h2⟩ => ⟨p, h1, e.tup p _ h2⟩⟩
instance : NoD rEd := ⟨fun e ⟨p, h1, h2⟩ => ⟨p, h1, e.tup p _ h2⟩⟩
instance : Tu rEd := ⟨fun e ⟨p, h1, h2⟩ => ⟨p, h1, e p _ h2⟩⟩
def rArc : Rep (Mt.Arc Str) := fun H v e => ∃ p, v = .ref p ∧ H p = some (.tup [.str e.src, .str e.dst, .str e.nm, .int e.sg, .int e.room])
instance : Mono rArc := ⟨fun e ⟨p, h1, h2⟩ => ⟨p, h1, e.tup p _ h2⟩⟩
instance : NoL rArc := ⟨fun e ⟨p, h1, h2⟩ => ⟨p, h1, e.tup p _ h2⟩⟩
instance : NoD rArc := ⟨fun e ⟨p, h1, h2⟩ => ⟨p, h1, e.tup p _ h2⟩⟩
instance : Tu rArc := ⟨fun e ⟨p, h1, h2⟩ => ⟨p, h1, e p _ h2⟩⟩
def sp_lines_of (C : Addr) : Sp := fun vs H Q _ => ∃ pv P, vs = [pv] ∧ rPl C H pv P ∧ P.st.length ≤ 60 ∧ retL rEd H Q (Mt.lines P.E)
theorem ok_lines_of (T : Tx K mg) : FnOk P w K mg base CX0 3 T.a_lines_of T.d_lines_of P_lines_of (sp_lines_of T.C_Plant) := by
  refine T.F_lines_of.ok sc_lines_of (fun vs H Q E h => ?_) (fun cdv A outer s H vs Q E hr h => ⟨_, PSs.nox (pss_one (ps_ret (pe_lc (own := [("name", 1), ("tail", 2), ("head", 3), ("_", 4)]) rfl sc_lines_of.nd (pi_list (pe_prop (pv 0) T.c_Plant T.p_Plant_streams (ok_Plant_streams T) (hr.mono (by decide)) (b_Plant_streams T) .nil pass0 rfl)) (blkOk_by (own := [("name", 1), ("tail", 2), ("head", 3), ("_", 4)]) (N := N_lines_of) (sc := defScope s_lines_of) (by decide +kernel)) (fun _ _ _ _ _ => (pg_tupK (K := K) (n := 5) rfl (pg_tup rfl (pgs_cons (pg_name (i := 1) sc_lines_of.nd rfl (Or.inl rfl)) (pgs_cons (pg_name (i := 2) sc_lines_of.nd rfl (Or.inl rfl)) (pgs_cons (pg_name (i := 3) sc_lines_of.nd rfl (Or.inl rfl)) (pgs_cons (pg_name (i := 4) sc_lines_of.nd rfl (Or.inl rfl)) (pgs_cons (pg_name (i := 4) sc_lines_of.nd rfl (Or.inl rfl)) pgs_nil)))))))) (fun _ _ _ _ _ => (pts_one (pt_cmpR op_ne (pv 2) (pv 3) (nomark _)))) (fun _ _ _ _ _ => (pe_tup (pa_cons (pv 1) (pa_cons (pv 2) (pa_cons (pv 3) pa_nil)))))))), ?_⟩)
  · obtain ⟨pv, P, rfl, _⟩ := h
    rfl
  · obtain ⟨pv, P, rfl, hP, h60, k⟩ := h
    obtain ⟨p, dx, ka, sa, rfl, hi, hkn, hs⟩ := id hP
    refine ⟨_, rfl, p, dx, _, rfl, hi, _, P, rfl, hP, fun l H1 xs hl s1 e1 hx => ?_⟩
    refine ⟨l, rfl, ⟨_, SqL.of e1⟩, fun D hD => lc_gen (A := rEd) (B := rSm) (walk_list (K := K)) P.st (paired_len hx).symm ?_ hD (src_k e1) (src_y hx) (fun t => decide (t.tl ≠ t.hd)) (fun t => ⟨t.nm, t.tl, t.hd⟩) ?_ ?_⟩
    · rw [paired_len hx]
      exact Nat.lt_of_le_of_lt h60 (by decide)
    · rintro i t x H' hb s2 ⟨q, rfl, hq⟩ Ks Kc kt kf
      refine ⟨q, _, rfl, SqT.of hq, rfl, _, _, rfl, _, _, rfl, _, _, rfl, _, _, rfl, _, _, rfl, rfl, ?_⟩
      refine ⟨rfl, ?_⟩
      refine ⟨_, rfl, _, rfl, rfl, _, rfl, ?_⟩
      have e1 : (!decide (V.str t.tl = V.str t.hd)) = decide (t.tl ≠ t.hd) := by
        by_cases e : t.tl = t.hd
        · rw [decide_eq_true (by rw [e]), decide_eq_false (fun z => z e)] <;> rfl
        · rw [decide_eq_false (fun z => e (V.str.inj z)), decide_eq_true e] <;> rfl
      rw [e1]
      refine ite2 (fun h => ?_) (fun h => ?_)
      · refine ⟨_, rfl, _, rfl, _, rfl, (by show 3 ≤ sizeLine; decide), fun p3 hp3 => ?_⟩
        exact kt _ _ (Same.new hp3) ⟨p3, rfl, upd_same⟩ h
      · exact kf _ (Same.refl _) (by cases q : decide (t.tl ≠ t.hd) with
          | true => exact absurd q h
          | false => rfl)
    · intro H' ys s2 hD' hp'
      refine k D H' ys (by
        cases q : H D with
        | none => rfl
        | some o => rw [s1 D o q] at hD; cases hD) (s1.trans s2) hD' ?_
      have e : Mt.lines P.E = (P.st.filter fun t => decide (t.tl ≠ t.hd)).map fun t => (⟨t.nm, t.tl, t.hd⟩ : Mt.Edge Str) := by
        unfold Mt.lines Pl.E
        rw [List.filter_map]
        rfl
      rw [e]
      exact hp'
end
end Mx

set_option Elab.async false
set_option linter.all false
set_option maxRecDepth 100000
set_option maxHeartbeats 4000000
/-! arcs_of, push. -/
namespace Mx
open PySem PySem.Spec PyProof.Rows L2
/-- all but the object at F stay -/
def Kept (F : Addr) (H H' : Hp) : Prop := ∀ b o, b ≠ F → H b = some o → H' b = some o
theorem Kept.of {F : Addr} {H H' : Hp} (s : Same H H') : Kept F H H' := fun b o _ h => s b o h
theorem Kept.trans {F : Addr} {H H1 H2 : Hp} (a : Kept F H H1) (b : Kept F H1 H2) : Kept F H H2 := fun c o n h => b c o n (a c o n h)
theorem Kept.upd {F : Addr} {H : Hp} {o : HO} : Kept F H (upd H F o) := fun b u n h => by rw [upd_ne n]; exact h
theorem Kept.same {F : Addr} {H H' : Hp} (k : Kept F H H') (h : H F = none) : Same H H' := fun b o e => k b o (ne_of_none e h) e
theorem Kept.after {F : Addr} {H H1 H2 : Hp} (s : Same H H1) (h : H F = none) (k : Kept F H1 H2) : Same H H2 := fun b o e => k b o (ne_of_none e h) (s b o e)
theorem Kept.ext {F : Addr} {H H' : Hp} {kvs : List (Key × V)} (k : Kept F H H') (h : H F = some (.dK kvs)) : ExtD H H' :=
  ⟨fun a xs e => k a _ (ne_of e h (by intro z; cases z)) e, fun a xs e => k a _ (ne_of e h (by intro z; cases z)) e, fun a C dx fs e => k a _ (ne_of e h (by intro z; cases z)) e⟩
theorem Kept.tup {F : Addr} {H H' : Hp} {kvs : List (Key × V)} (k : Kept F H H') (h : H F = some (.dK kvs)) : TupS H H' := fun a xs e => k a _ (ne_of e h (by intro z; cases z)) e
/-- a dict that is not the one at F -/
def rN {α : Type} (A : Rep α) (F : Addr) : Rep (List (Str × α)) := fun H v l => ∃ p ks, v = .ref p ∧ p ≠ F ∧ Rd H p (.dK ks) ∧ DPr A H ks l
theorem rN.rd {α : Type} {A : Rep α} {F : Addr} {H : Hp} {v : V} {l : List (Str × α)} : rN A F H v l → rD A H v l := fun ⟨p, ks, e, _, h1, h2⟩ => ⟨p, ks, e, h1, h2⟩
theorem rN.kept {α : Type} {A : Rep α} [Tu A] {F : Addr} {H H' : Hp} {v : V} {l : List (Str × α)} {kvs : List (Key × V)} (k : Kept F H H') (h : H F = some (.dK kvs)) : rN A F H v l → rN A F H' v l := fun ⟨p, ks, e, n, h1, h2⟩ =>
  ⟨p, ks, e, n, h1.elim (fun q => .inl (k p _ n q)) fun ⟨o, q⟩ => .inr ⟨o, k p _ n q⟩, dp_tu (k.tup h) h2⟩
theorem rN.same {α : Type} {A : Rep α} [Mono A] {F : Addr} {H H' : Hp} {v : V} {l : List (Str × α)} (s : Same H H') : rN A F H v l → rN A F H' v l := fun ⟨p, ks, e, n, h1, h2⟩ =>
  ⟨p, ks, e, n, rd_same s h1, dpair_mono (Ext.of s) h2⟩
/-- both ways of an if lead to the same rest -/
theorem ite_fin {c : Bool} {A : Prop} {R : Hp → Prop} {H2 : Hp} (F : Hp → Prop) (rest : ∀ H3, F H3 → R H3) (t : c = true → (∀ H3, F H3 → R H3) → A) (e : ¬ c = true → F H2) : if c = true then A else R H2 := by
  by_cases h : c = true
  · rw [if_pos h]
    exact t h rest
  · rw [if_neg h]
    exact rest _ (e h)
def arcs (E : List (Mt.Edge Str)) (L : Str → Int × Int) (f : Str → Int) : List (Mt.Arc Str) := E.flatMap fun e => (if f e.nm < (L e.nm).2 then [Mt.fwd L f e] else []) ++ (if (L e.nm).1 < f e.nm then [Mt.bwd L f e] else [])
theorem mem_arcs {E : List (Mt.Edge Str)} {L : Str → Int × Int} {f : Str → Int} {a : Mt.Arc Str} : a ∈ arcs E L f ↔ Mt.IsArc E L f a := by
  unfold arcs Mt.IsArc
  rw [List.mem_flatMap]
  constructor
  · rintro ⟨e, he, h⟩
    refine ⟨e, he, ?_⟩
    rcases List.mem_append.mp h with h | h
    · by_cases q : f e.nm < (L e.nm).2
      · rw [if_pos q] at h
        exact .inl ⟨List.mem_singleton.mp h, q⟩
      · rw [if_neg q] at h
        cases h
    · by_cases q : (L e.nm).1 < f e.nm
      · rw [if_pos q] at h
        exact .inr ⟨List.mem_singleton.mp h, q⟩
      · rw [if_neg q] at h
        cases h
  · rintro ⟨e, he, ⟨h, q⟩ | ⟨h, q⟩⟩
    · exact ⟨e, he, List.mem_append.mpr (.inl (by rw [if_pos q, h]; exact List.mem_singleton.mpr rfl))⟩
    · exact ⟨e, he, List.mem_append.mpr (.inr (by rw [if_pos q, h]; exact List.mem_singleton.mpr rfl))⟩
theorem arcs_snoc (E : List (Mt.Edge Str)) (e : Mt.Edge Str) (L : Str → Int × Int) (f : Str → Int) : arcs (E ++ [e]) L f = arcs E L f ++ ((if f e.nm < (L e.nm).2 then [Mt.fwd L f e] else []) ++ (if (L e.nm).1 < f e.nm then [Mt.bwd L f e] else [])) := by
  unfold arcs
  rw [List.flatMap_append]
  congr 1
  exact List.append_nil _
theorem arcs_len (E : List (Mt.Edge Str)) (L : Str → Int × Int) (f : Str → Int) : (arcs E L f).length ≤ 2 * E.length := by
  induction E with
  | nil => exact Nat.le_refl _
  | cons e E ih =>
    unfold arcs at ih ⊢
    rw [List.flatMap_cons, List.length_append, List.length_append, List.length_cons]
    have h1 : (if f e.nm < (L e.nm).2 then [Mt.fwd L f e] else []).length ≤ 1 := by split <;> simp
    have h2 : (if (L e.nm).1 < f e.nm then [Mt.bwd L f e] else []).length ≤ 1 := by split <;> simp
    omega
section
variable {P : Program} {w : World} {K : PySem.W.Frag} {mg : Str → Option Value} {base : Heap}
def sp_arcs_of : Sp := fun vs H Q _ => ∃ ev lv fv E ls L fs f, vs = [ev, lv, fv] ∧ rL rEd H ev E ∧ rD rLim H lv (ldict ls L) ∧ ls.Nodup ∧ rD rInt H fv (kdict fs f) ∧ fs.Nodup ∧ (∀ e ∈ E, e.nm ∈ ls ∧ e.nm ∈ fs) ∧ E.length ≤ 60 ∧ retL rArc H Q (arcs E L f)
theorem ok_arcs_of (T : Tx K mg) : FnOk P w K mg base CX0 1 T.a_arcs_of T.d_arcs_of P_arcs_of sp_arcs_of := by
  refine T.F_arcs_of.ok sc_arcs_of (fun vs H Q E h => ?_) (fun cdv A outer s H vs Q E hr h => ?_)
  · obtain ⟨ev, lv, fv, _, _, _, _, _, rfl, _⟩ := h
    rfl
  · have hu := hu_of hr
    refine ⟨_, PSs.nox (pss_cons (ps_set (i := 3) sc_arcs_of.nd rfl (Or.inl rfl) (pe_lst pa_nil))
    (pss_cons (ps_for PassesOwn.never rfl (pi_list (pv 0)) (pg_tup rfl (pgs_cons (pg_name (i := 4) sc_arcs_of.nd rfl (Or.inl rfl)) (pgs_cons (pg_name (i := 5) sc_arcs_of.nd rfl (Or.inl rfl)) (pgs_cons (pg_name (i := 6) sc_arcs_of.nd rfl (Or.inl rfl)) pgs_nil))))
    (pss_cons (ps_asg (pe_dget hu (pv 1) (pv 4) (fun _ _ => rfl)) (pg_tup rfl (pgs_cons (pg_name (i := 7) sc_arcs_of.nd rfl (Or.inl rfl)) (pgs_cons (pg_name (i := 8) sc_arcs_of.nd rfl (Or.inl rfl)) pgs_nil))))
    (pss_cons (ps_if (pt_cmpR op_lt (pe_dget hu (pv 2) (pv 4) (fun _ _ => rfl)) (pv 8) (nomark _)) (pss_one (ps_expr (pe_bm PySem.F.plainAttrs_list PySem.F.slot_list_append PySem.F.type_list_append mt_append (pv 3) (pa_cons (pe_tup (pa_cons (pv 5) (pa_cons (pv 6) (pa_cons (pv 4) (pa_cons pe_int (pa_cons (pe_op op_sub (pv 8) (pe_dget hu (pv 2) (pv 4) (fun _ _ => rfl))) pa_nil)))))) pa_nil)))) pss_nil)
    (pss_one (ps_if (pt_cmpR op_gt (pe_dget hu (pv 2) (pv 4) (fun _ _ => rfl)) (pv 7) (nomark _)) (pss_one (ps_expr (pe_bm PySem.F.plainAttrs_list PySem.F.slot_list_append PySem.F.type_list_append mt_append (pv 3) (pa_cons (pe_tup (pa_cons (pv 6) (pa_cons (pv 5) (pa_cons (pv 4) (pa_cons (pe_un un_neg pe_int) (pa_cons (pe_op op_sub (pe_dget hu (pv 2) (pv 4) (fun _ _ => rfl)) (pv 7)) pa_nil)))))) pa_nil)))) pss_nil)))))
    (pss_one (ps_ret (pv 3))))), ?_⟩
    obtain ⟨ev, lv, fv, E', ls, L, fs, f, rfl, ⟨ea, exs, rfl, hea, hex⟩, ⟨ld, lks, rfl, hld, hlk⟩, ndl, ⟨fd, fks, rfl, hfd, hfk⟩, ndf, hmem, h60, k⟩ := h
    refine ⟨(by show 0 ≤ sizeLine; exact Nat.zero_le _), fun D hD => ?_⟩
    have sD : Same H (upd H D (.lst [])) := Same.new hD
    refine ⟨_, rfl, ea, rfl, ⟨_, SqL.of (sD ea _ hea)⟩, for_it (walk_list (K := K)) (fun i σ H1 => ∃ acc, (Same H H1 ∧ H1 D = some (.lst acc) ∧ Paired (rArc H1) acc (arcs (E'.take i) L f)) ∧
      ∃ a b c d e, σ = [some (.ref ea), some (.ref ld), some (.ref fd), some (.ref D), a, b, c, d, e])
      ⟨[], ⟨sD, upd_same, .nil⟩, _, _, _, _, _, rfl⟩ (fun i σ H1 _ ⟨_, h, _⟩ => SqL.of (h.1 ea _ hea)) ?_ ?_⟩
    · rintro i x σ H1 H2 hi' ⟨acc, ⟨s1, hD1, hp1⟩, _, _, _, _, _, rfl⟩ ⟨rfl, hxi⟩
      have hex1 : Paired (rEd H2) exs E' := paired_mono (Ext.of s1) hex
      obtain ⟨e, he, q, rfl, hq⟩ := paired_get' hex1 hxi
      obtain ⟨m1, m2⟩ := hmem e (List.mem_of_getElem? he)
      obtain ⟨v, hgl, t, a, b, rfl, ht, rfl, rfl⟩ := get_in (rd_same s1 hld) (dpair_mono (Ext.of s1) hlk) (by rw [ldict_keys]; exact ndl) (ldict_mem (f := L) m1)
      obtain ⟨v, hgf, rfl⟩ := get_in (rd_same s1 hfd) (dpair_mono (Ext.of s1) hfk) (by rw [kdict_keys]; exact ndf) (kdict_mem (f := f) m2)
      have hl1 : acc.length ≤ 2 * i := by
        rw [paired_len hp1]
        have := arcs_len (E'.take i) L f
        rw [List.length_take] at this
        omega
      have hi60 : i < 60 := by rw [paired_len hex] at hi'; omega
      have et : arcs (E'.take (i + 1)) L f = arcs (E'.take i) L f ++ ((if f e.nm < (L e.nm).2 then [Mt.fwd L f e] else []) ++ (if (L e.nm).1 < f e.nm then [Mt.bwd L f e] else [])) := by
        rw [List.take_add_one, he]
        exact arcs_snoc _ _ _ _
      have hDn : D ≠ q := ne_of hD1 hq (by intro z; cases z)
      refine ⟨q, _, rfl, SqT.of hq, rfl, _, _, rfl, _, _, rfl, _, _, rfl, rfl, ?_⟩
      refine ⟨_, rfl, _, rfl, ld, _, rfl, hgl, t, _, rfl, SqT.of ht, rfl, _, _, rfl, _, _, rfl, rfl, ?_⟩
      -- if flows[name] < high
      refine ⟨_, rfl, _, rfl, fd, _, rfl, hgf, _, rfl, _, _, rfl, rfl, _, rfl, ?_⟩
      refine ite_fin (H2 := H2) (fun H3 => ∃ acc', Same H H3 ∧ H3 D = some (.lst acc') ∧ acc'.length ≤ 2 * i + 1 ∧ Paired (rArc H3) acc' (arcs (E'.take i) L f ++ (if f e.nm < (L e.nm).2 then [Mt.fwd L f e] else []))) ?_ (fun h rest => ?_) (fun h => ?_)
      · rintro H3 ⟨acc', s3, h3, l3, p3⟩
        obtain ⟨v, hgf3, rfl⟩ := get_in (rd_same s3 hfd) (dpair_mono (Ext.of s3) hfk) (by rw [kdict_keys]; exact ndf) (kdict_mem (f := f) m2)
        refine ⟨_, rfl, _, rfl, fd, _, rfl, hgf3, _, rfl, _, _, rfl, rfl, _, rfl, ?_⟩
        refine ite2 (fun h => ?_) (fun h => ?_)
        · have h' : (L e.nm).1 < f e.nm := of_decide_eq_true h
          refine ⟨_, rfl, .inl ⟨rfl, _, SqL.of h3⟩, _, rfl, _, rfl, _, rfl, _, rfl, _, rfl, _, rfl, fd, _, rfl, hgf3, _, rfl, _, _, rfl, rfl, (by show 5 ≤ sizeLine; decide), fun t2 ht2 => ?_⟩
          have nD : D ≠ t2 := ne_of_none h3 ht2
          have h4 : upd H3 t2 (.tup [.str e.hd, .str e.tl, .str e.nm, .int (-1), .int (f e.nm - (L e.nm).1)]) D = some (.lst acc') := by rw [upd_ne nD]; exact h3
          refine ⟨D, acc', _, rfl, rfl, h4, (by rw [sizeLine_eq]; omega), ?_⟩
          refine ⟨acc' ++ [.ref t2], ⟨Same.mut (s3.trans (Same.new ht2)) hD, upd_same, ?_⟩, _, _, _, _, _, rfl⟩
          rw [et, if_pos h', ← List.append_assoc]
          have tu : TupS H3 (upd (upd H3 t2 (.tup [.str e.hd, .str e.tl, .str e.nm, .int (-1), .int (f e.nm - (L e.nm).1)])) D (.lst (acc' ++ [.ref t2]))) := (TupS.of (Same.new ht2)).trans (TupS.upd h4 fun _ z => nomatch z)
          exact paired_snoc (paired_tu tu p3) ⟨t2, rfl, by rw [upd_ne nD.symm, upd_same]; rfl⟩
        · have h' : ¬ (L e.nm).1 < f e.nm := fun z => h (decide_eq_true z)
          refine ⟨acc', ⟨s3, h3, ?_⟩, _, _, _, _, _, rfl⟩
          rw [et, if_neg h', List.append_nil]
          exact p3
      · have h' : f e.nm < (L e.nm).2 := of_decide_eq_true h
        refine ⟨_, rfl, .inl ⟨rfl, _, SqL.of hD1⟩, _, rfl, _, rfl, _, rfl, _, rfl, _, rfl, _, rfl, fd, _, rfl, hgf, _, _, rfl, rfl, (by show 5 ≤ sizeLine; decide), fun t2 ht2 => ?_⟩
        have nD : D ≠ t2 := ne_of_none hD1 ht2
        have h4 : upd H2 t2 (.tup [.str e.tl, .str e.hd, .str e.nm, .int 1, .int ((L e.nm).2 - f e.nm)]) D = some (.lst acc) := by rw [upd_ne nD]; exact hD1
        refine ⟨D, acc, _, rfl, rfl, h4, (by rw [sizeLine_eq]; omega), ?_⟩
        refine rest _ ⟨_, Same.mut (s1.trans (Same.new ht2)) hD, upd_same, (by rw [List.length_append]; show acc.length + 1 ≤ _; omega), ?_⟩
        rw [if_pos h']
        have tu : TupS H2 (upd (upd H2 t2 (.tup [.str e.tl, .str e.hd, .str e.nm, .int 1, .int ((L e.nm).2 - f e.nm)])) D (.lst (acc ++ [.ref t2]))) := (TupS.of (Same.new ht2)).trans (TupS.upd h4 fun _ z => nomatch z)
        exact paired_snoc (paired_tu tu hp1) ⟨t2, rfl, by rw [upd_ne nD.symm, upd_same]; rfl⟩
      · have h' : ¬ f e.nm < (L e.nm).2 := fun z => h (decide_eq_true z)
        refine ⟨acc, s1, hD1, by omega, ?_⟩
        rw [if_neg h', List.append_nil]
        exact hp1
    · rintro σ H1 ⟨acc, ⟨s1, hD1, hp1⟩, _, _, _, _, _, rfl⟩
      refine ⟨_, rfl, k D H1 acc hD s1 hD1 ?_⟩
      rw [paired_len hex, List.take_length] at hp1
      exact hp1
end
end Mx

set_option Elab.async false
set_option linter.all false
set_option maxRecDepth 100000
set_option maxHeartbeats 4000000
/-! push, way_back. -/
namespace Mx
open PySem PySem.Spec PyProof.Rows L2
theorem pushF_snoc (f : Str → Int) (way : List (Mt.Arc Str)) (a : Mt.Arc Str) (m : Int) : Mt.pushF f (way ++ [a]) m = Mt.setF (Mt.pushF f way m) a.nm (Mt.pushF f way m a.nm + a.sg * m) := by
  unfold Mt.pushF
  rw [List.foldl_append]
  rfl
theorem atI_arc {a : Mt.Arc Str} : atI [V.str a.src, .str a.dst, .str a.nm, .int a.sg, .int a.room] 4 = some (.int a.room) := atI_nat (j := 4) rfl
section
variable {P : Program} {w : World} {K : PySem.W.Frag} {mg : Str → Option Value} {base : Heap}
def sp_push : Sp := fun vs H Q _ => ∃ F wv m kvs fs f way, vs = [.ref F, wv, .int m] ∧ H F = some (.dK kvs) ∧ DPr rInt H kvs (kdict fs f) ∧ fs.Nodup ∧ fs.length ≤ 60 ∧ rL rArc H wv way ∧ (∀ a ∈ way, a.nm ∈ fs ∧ (a.sg = 1 ∨ a.sg = -1)) ∧ way.length ≤ 200 ∧
  ∀ x kvs' H', x ≤ m → (∀ a ∈ way, x ≤ a.room) → (x = m ∨ ∃ a ∈ way, x = a.room) → Kept F H H' → H' F = some (.dK kvs') → DPr rInt H' kvs' (kdict fs (Mt.pushF f way x)) → Q (.int x) H'
theorem ok_push (T : Tx K mg) : FnOk P w K mg base CX0 1 T.a_push T.d_push P_push sp_push := by
  refine T.F_push.ok sc_push (fun vs H Q E h => ?_) (fun cdv A outer s H vs Q E hr h => ?_)
  · obtain ⟨_, _, _, _, _, _, _, rfl, _⟩ := h
    rfl
  · have hu := hu_of hr
    refine ⟨_, PSs.nox (pss_cons (ps_set (i := 3) sc_push.nd rfl (Or.inl rfl) (pe_callB (cr_min rfl) (by rfl) T.n_min (by decide +kernel) (pa_cons (pe_op op_cat (pe_lst (pa_cons (pv 2) pa_nil)) (pe_lc (own := [("arc", 4)]) rfl sc_push.nd (pi_list (pv 1)) (blkOk_by (own := [("arc", 4)]) (N := N_push) (sc := defScope s_push) (by decide +kernel)) (fun _ _ _ _ _ => (pg_name (i := 4) sc_push.nd rfl (Or.inl rfl))) (fun _ _ _ _ _ => pts_nil) (fun _ _ _ _ _ => (pe_ix (ix_tupK (K := K) rfl) (pv 4) pe_int (fun _ _ => rfl))))) pa_nil)))
    (pss_cons (ps_for PassesOwn.never rfl (pi_list (pv 1)) (pg_name (i := 4) sc_push.nd rfl (Or.inl rfl))
    (pss_one (ps_daug hu (pv 0) (pe_ix ix_tup (pv 4) pe_int (fun _ _ => rfl)) (pe_op op_mul (pe_ix ix_tup (pv 4) pe_int (fun _ _ => rfl)) (pv 3)) in_add (fun _ _ _ => rfl))))
    (pss_one (ps_ret (pv 3))))), ?_⟩
    obtain ⟨F, wv, m, kvs, fs, f, way, rfl, hF, hk, ndf, f60, ⟨wa, wxs, rfl, hwa, hwx⟩, hmem, w100, k⟩ := h
    refine ⟨_, rfl, (by show 1 ≤ sizeLine; decide), fun p1 hp1 => ?_⟩
    have s1 : Same H (upd H p1 (.lst [.int m])) := Same.new hp1
    refine ⟨_, rfl, wa, rfl, ⟨_, SqL.of (s1 wa _ hwa)⟩, fun D hD => lc_gen (A := rInt) (B := rArc) (walk_list (K := K)) way (paired_len hwx).symm ?_ hD (src_k (s1 wa _ hwa)) (src_y (paired_mono (Ext.of s1) hwx)) (fun _ => true) (·.room) ?_ ?_⟩
    · rw [paired_len hwx]
      exact Nat.lt_of_le_of_lt w100 (by decide)
    · rintro i b x H' hb s2 ⟨q, rfl, hq⟩ Ks Kc kt _
      refine ⟨rfl, yesT (iteT ?_)⟩
      exact ⟨_, rfl, q, _, _, _, rfl, rfl, SqT.of hq, atI_nat (j := 4) rfl, kt _ _ (Same.refl _) rfl rfl⟩
    · intro H2 ys s2 hD2 hp2
      rw [filt_true] at hp2
      have e2 := ints_eq hp2
      subst e2
      refine ⟨p1, D, _, _, rfl, rfl, s2 p1 _ upd_same, hD2, ?_, fun p2 hp2' => ?_⟩
      · rw [List.length_map, List.length_map, sizeLine_eq]
        show 1 + way.length ≤ _
        omega
      have s3 : Same H (upd H2 p2 (.lst ([V.int m] ++ (way.map (·.room)).map V.int))) := (s1.trans s2).trans (Same.new hp2')
      refine ⟨p2, m :: way.map (·.room), rfl, SqL.of upd_same, (by rw [List.length_cons]; omega), fun x hx hle => ?_⟩
      have h1 : x ≤ m := hle m List.mem_cons_self
      have h2 : ∀ a ∈ way, x ≤ a.room := fun a ha => hle _ (List.mem_cons_of_mem _ (List.mem_map.mpr ⟨a, ha, rfl⟩))
      have h3 : x = m ∨ ∃ a ∈ way, x = a.room := by
        rcases List.mem_cons.mp hx with h | h
        · exact .inl h
        · obtain ⟨a, ha, e⟩ := List.mem_map.mp h
          exact .inr ⟨a, ha, e.symm⟩
      refine ⟨_, rfl, wa, rfl, ⟨_, SqL.of (s3 wa _ hwa)⟩, for_it (walk_list (K := K)) (fun i σ H3 => ∃ kvs3, (Kept F H H3 ∧ H3 F = some (.dK kvs3) ∧ DPr rInt H3 kvs3 (kdict fs (Mt.pushF f (way.take i) x))) ∧ ∃ y, σ = [some (.ref F), some (.ref wa), some (.int m), some (.int x), y])
        ⟨kvs, ⟨Kept.of s3, s3 F _ hF, dpair_mono (Ext.of s3) hk⟩, _, rfl⟩ (fun i σ H3 _ ⟨_, h, _⟩ => SqL.of (h.1 wa _ (ne_of hwa hF (by intro z; cases z)) hwa)) ?_ ?_⟩
      · rintro i y σ H3 H4 hi' ⟨kvs3, ⟨k3, hF3, hk3⟩, _, rfl⟩ ⟨rfl, hxi⟩
        obtain ⟨a, ha, q, rfl, hq⟩ := paired_get' (paired_tu (k3.tup hF) hwx) hxi
        obtain ⟨ham, hsg⟩ := hmem a (List.mem_of_getElem? ha)
        have ndk : ((kdict fs (Mt.pushF f (way.take i) x)).map (·.1)).Nodup := by rw [kdict_keys]; exact ndf
        obtain ⟨v, hg, rfl⟩ := get_in (.inl hF3) hk3 ndk (kdict_mem ham)
        have lk : kvs3.length < sizeLine := by
          rw [paired_len hk3, kdict_len]
          exact Nat.lt_of_le_of_lt f60 (by decide)
        refine ⟨_, rfl, _, rfl, q, _, _, _, rfl, rfl, SqT.of hq, atI_nat (j := 2) rfl, F, _, rfl, hg, _, rfl, q, _, _, _, rfl, rfl, SqT.of hq, atI_nat (j := 3) rfl, _, rfl, _, _, rfl, rfl, .inl (by rcases hsg with h | h <;> rw [h] <;> decide), _, _, rfl, rfl, _, DPut.k (k := Sum.inr a.nm) hF3 lk, ?_⟩
        have hp4 := dp_put (k := a.nm) (v := V.int (Mt.pushF f (way.take i) x a.nm + a.sg * x)) hk3 rfl (by rw [kdict_keys]; exact ham) ndk
        rw [kdict_set] at hp4
        refine ⟨_, ⟨k3.trans Kept.upd, upd_same, ?_⟩, _, rfl⟩
        have et : way.take (i + 1) = way.take i ++ [a] := by
          rw [List.take_add_one, ha]
          rfl
        rw [et, pushF_snoc]
        exact dp_tu (TupS.upd hF3 fun _ z => nomatch z) hp4
      · rintro σ H3 ⟨kvs3, ⟨k3, hF3, hk3⟩, _, rfl⟩
        rw [paired_len hwx, List.take_length] at hk3
        exact ⟨_, rfl, k x kvs3 _ h1 h2 h3 k3 hF3 hk3⟩
end
end Mx

set_option Elab.async false
set_option linter.all false
set_option maxRecDepth 100000
set_option maxHeartbeats 4000000
/-! way_back. -/
namespace Mx
open PySem PySem.Spec PyProof.Rows L2
instance {α : Type} (A : Rep α) [NoD A] : NoD (rOpt A) := ⟨fun {H H' v x} e h => by
  cases x with
  | none => exact h
  | some y => exact NoD.mono (A := A) e h⟩
instance {α : Type} (A : Rep α) [NoL A] : NoL (rOpt A) := ⟨fun {H H' v x} e h => by
  cases x with
  | none => exact h
  | some y => exact NoL.mono (A := A) e h⟩
instance {α : Type} (A : Rep α) [Tu A] : Tu (rOpt A) := ⟨fun {H H' v x} e h => by
  cases x with
  | none => exact h
  | some y => exact Tu.mono (A := A) e h⟩
theorem paired_rev {α β : Type} {F : α → β → Prop} : ∀ {xs : List α} {l : List β}, Paired F xs l → Paired F xs.reverse l.reverse
  | _, _, .nil => .nil
  | _, _, .cons h t => by
    rw [List.reverse_cons, List.reverse_cons]
    exact paired_snoc (paired_rev t) h
section
variable {P : Program} {w : World} {K : PySem.W.Frag} {mg : Str → Option Value} {base : Heap}
def sp_way_back : Sp := fun vs H Q _ => ∃ bv v B A S, vs = [bv, .str v] ∧ rD (rOpt rArc) H bv B ∧ (B.map (·.1)).Nodup ∧ Mt.Tree A S B ∧ v ∈ B.map (·.1) ∧ B.length ≤ 200 ∧ ∀ way, Mt.Way A S v way → way.length ≤ 200 → retL rArc H Q way
theorem ok_way_back (T : Tx K mg) : FnOk P w K mg base CX0 1 T.a_way_back T.d_way_back P_way_back sp_way_back := by
  refine T.F_way_back.ok sc_way_back (fun vs H Q E h => ?_) (fun cdv A outer s H vs Q E hr h => ?_)
  · obtain ⟨_, _, _, _, _, rfl, _⟩ := h
    rfl
  · have hu := hu_of hr
    refine ⟨_, PSs.nox (pss_cons (ps_set (i := 2) sc_way_back.nd rfl (Or.inl rfl) (pe_lst pa_nil))
    (pss_cons (ps_while PassesOwn.never (pt_cmp (pc_notN (pe_dget hu (pv 0) (pv 1) (fun _ _ => rfl)))) (pss_cons (ps_expr (pe_bm PySem.F.plainAttrs_list PySem.F.slot_list_append PySem.F.type_list_append mt_append (pv 2) (pa_cons (pe_dget hu (pv 0) (pv 1) (fun _ _ => rfl)) pa_nil)))
    (pss_one (ps_set (i := 1) sc_way_back.nd rfl (Or.inl rfl) (pe_ix ix_tup (pe_dget hu (pv 0) (pv 1) (fun _ _ => rfl)) pe_int (fun _ _ => rfl))))))
    (pss_one (ps_ret (pe_revL (pv 2)))))), ?_⟩
    obtain ⟨bv, v, B, A', S, rfl, ⟨d, kvs, rfl, hd, hk⟩, nd, tree, hv, h200, k⟩ := h
    refine ⟨(by show 0 ≤ sizeLine; exact Nat.zero_le _), fun D hD => ?_⟩
    obtain ⟨⟨v', o0⟩, hm, e0⟩ := List.mem_map.mp hv
    have e0' : v' = v := e0
    subst e0'
    obtain ⟨j0, hj0⟩ := List.getElem?_of_mem hm
    have hjl := (List.getElem?_eq_some_iff.mp hj0).1
    refine ⟨fun m σ H1 => ∃ place way acc, (Same H H1 ∧ H1 D = some (.lst acc) ∧ Paired (rArc H1) acc way ∧ Mt.Back A' B v' m place way ∧ way.length + m ≤ j0) ∧ σ = [some (.ref d), some (.str place), some (.ref D)],
      ⟨j0, v', [], [], ⟨Same.new hD, upd_same, .nil, Mt.Back.start hj0, (by show 0 + j0 ≤ j0; omega)⟩, rfl⟩, ?_⟩
    rintro m σ H1 ⟨place, way, acc, ⟨s1, hD1, hp1, bk, hlen⟩, rfl⟩
    obtain ⟨o, ho⟩ := bk.at_
    have hd1 := rd_same s1 hd
    have hk1 : DPr (rOpt rArc) H1 kvs B := dpair_mono (Ext.of s1) hk
    obtain ⟨x, hg, hx⟩ := get_in hd1 hk1 nd (List.mem_of_getElem? ho)
    refine ⟨_, rfl, _, rfl, d, _, rfl, hg, ?_⟩
    cases o with
    | none =>
      have hx' : x = .non := hx
      subst hx'
      refine ⟨false, rfl, ?_⟩
      refine iteF ?_
      refine ⟨_, rfl, D, acc, rfl, SqL.of hD1, fun p hp => ?_⟩
      refine k way.reverse (bk.done tree ho) (by rw [List.length_reverse]; omega) p _ acc.reverse ?_ (s1.trans (Same.new hp)) upd_same (paired_rev (paired_tu (TupS.of (Same.new hp)) hp1))
      cases q : H p with
      | none => rfl
      | some u => rw [s1 p u q] at hp; cases hp
    | some a =>
      obtain ⟨q, rfl, hq⟩ := hx
      refine ⟨true, rfl, ?_⟩
      refine iteT ?_
      obtain ⟨i, hi, bk'⟩ := bk.step tree nd ho
      refine ⟨fun σ' H' => ∃ place way acc, (Same H H' ∧ H' D = some (.lst acc) ∧ Paired (rArc H') acc way ∧ Mt.Back A' B v' i place way ∧ way.length + i ≤ j0) ∧ σ' = [some (.ref d), some (.str place), some (.ref D)], fun σ' H' h => ⟨i, hi, h⟩, ?_⟩
      refine ⟨_, rfl, .inl ⟨rfl, _, SqL.of hD1⟩, _, rfl, _, rfl, d, _, rfl, hg, D, acc, _, rfl, rfl, hD1, ?_, ?_⟩
      · rw [paired_len hp1, sizeLine_eq]
        omega
      · have tu : TupS H1 (upd H1 D (.lst (acc ++ [.ref q]))) := TupS.upd hD1 fun _ z => nomatch z
        have s2 : Same H (upd H1 D (.lst (acc ++ [.ref q]))) := Same.mut s1 hD
        obtain ⟨x, hg2, hx2⟩ := get_in (rd_same s2 hd) (dpair_mono (Ext.of s2) hk) nd (List.mem_of_getElem? ho)
        obtain ⟨q2, rfl, hq2⟩ := hx2
        refine ⟨_, rfl, _, rfl, d, _, rfl, hg2, q2, _, _, _, rfl, rfl, SqT.of hq2, atI_nat (j := 0) rfl, ?_⟩
        exact ⟨a.src, way ++ [a], _, ⟨s2, upd_same, paired_snoc (paired_tu tu hp1) (Tu.mono tu ⟨q, rfl, hq⟩), bk', (by rw [List.length_append]; show way.length + 1 + i ≤ j0; omega)⟩, rfl⟩
end
end Mx

set_option Elab.async false
set_option linter.all false
set_option maxRecDepth 100000
set_option maxHeartbeats 4000000
/-! way_between. -/
namespace Mx
open PySem PySem.Spec PyProof.Rows L2
def leave (A : List (Mt.Arc Str)) (s : Str) : List (Mt.Arc Str) := A.filter fun a => decide (a.src = s)
theorem leave_snoc (A : List (Mt.Arc Str)) (a : Mt.Arc Str) (s : Str) : leave (A ++ [a]) s = leave A s ++ (if a.src = s then [a] else []) := by
  unfold leave
  rw [List.filter_append]
  by_cases h : a.src = s
  · rw [if_pos h, List.filter_cons_of_pos (by simp [h])]
    rfl
  · rw [if_neg h, List.filter_cons_of_neg (by simp [h])]
    rfl
theorem leave_eq (A : List (Mt.Arc Str)) (a : Mt.Arc Str) : leave (A ++ [a]) a.src = leave A a.src ++ [a] := by rw [leave_snoc, if_pos rfl]
theorem leave_ne {A : List (Mt.Arc Str)} {a : Mt.Arc Str} {s : Str} (h : ¬ a.src = s) : leave (A ++ [a]) s = leave A s := by rw [leave_snoc, if_neg h, List.append_nil]
/-- the dict of the lists of arcs by where they leave -/
def Lv (H0 : Hp) (Dl : Addr) (kvs : List (Key × V)) (g : Str → Option Addr) (A : List (Mt.Arc Str)) (H : Hp) : Prop :=
  H Dl = some (.dK kvs) ∧ (∀ s, valV kvs (Sum.inr s : Key) = (g s).map V.ref) ∧ (∀ s, g s = none → leave A s = []) ∧
  (∀ s p, g s = some p → H0 p = none ∧ ∃ xs, H p = some (.lst xs) ∧ Paired (rArc H) xs (leave A s)) ∧ ∀ s t p, g s = some p → g t = some p → s = t
theorem leave_len (A : List (Mt.Arc Str)) (s : Str) : (leave A s).length ≤ A.length := List.length_filter_le _ _
/-- the state of the search -/
structure Sch (H0 : Hp) (Db Dw : Addr) (A : List (Mt.Arc Str)) (ss es : List Str) (B : List (Str × Option (Mt.Arc Str))) (t : Nat) (H : Hp) : Prop where
  same : Same H0 H
  db : ∃ kvs, H Db = some (.dK kvs) ∧ DPr (rOpt rArc) H kvs B
  dw : H Dw = some (.lst ((B.map (·.1)).map V.str))
  nd : (B.map (·.1)).Nodup
  tree : Mt.Tree A (· ∈ ss) B
  sub : ∀ s ∈ ss, s ∈ B.map (·.1)
  bd : ∀ x ∈ B.map (·.1), x ∈ ss ++ A.map (·.dst)
  done : ∀ i k, i < t → (B.map (·.1))[i]? = some k → k ∉ es ∧ ∀ a ∈ A, a.src = k → a.dst ∈ B.map (·.1)
theorem Sch.len {H0 : Hp} {Db Dw : Addr} {A : List (Mt.Arc Str)} {ss es : List Str} {B : List (Str × Option (Mt.Arc Str))} {t : Nat} {H : Hp} (s : Sch H0 Db Dw A ss es B t H) : B.length ≤ ss.length + A.length := by
  have := Mt.nd_le s.nd s.bd
  rw [List.length_map, List.length_append, List.length_map] at this
  exact this
section
variable {P : Program} {w : World} {K : PySem.W.Frag} {mg : Str → Option Value} {base : Heap}
def sp_way_between : Sp := fun vs H Q _ => ∃ av sv ev A ss es, vs = [av, sv, ev] ∧ rL rArc H av A ∧ rL rStr H sv ss ∧ rL rStr H ev es ∧ A.length ≤ 120 ∧ ss.length ≤ 24 ∧ ss.Nodup ∧
  (∀ R, Mt.Shut A (· ∈ ss) (· ∈ es) R → retN H Q) ∧ ∀ v way, v ∈ es → Mt.Way A (· ∈ ss) v way → way.length ≤ 200 → retL rArc H Q way
theorem ok_way_between (T : Tx K mg) : FnOk P w K mg base CX0 2 T.a_way_between T.d_way_between P_way_between sp_way_between := by
  refine T.F_way_between.ok sc_way_between (fun vs H Q E h => ?_) (fun cdv A outer s H vs Q E hr h => ?_)
  · obtain ⟨_, _, _, _, _, _, rfl, _⟩ := h
    rfl
  · have hu := hu_of hr
    refine ⟨_, PSs.nox (pss_cons (ps_set (i := 3) sc_way_between.nd rfl (Or.inl rfl) pe_dnewK)
    (pss_cons (ps_for PassesOwn.never rfl (pi_list (pv 0)) (pg_name (i := 4) sc_way_between.nd rfl (Or.inl rfl))
    (pss_one (ps_expr (pe_bm PySem.F.plainAttrs_list PySem.F.slot_list_append PySem.F.type_list_append mt_append (pe_dsetd (pv 3) (pe_ix ix_tup (pv 4) pe_int (fun _ _ => rfl)) (pe_lst pa_nil) ⟨rfl, rfl, rfl, rfl⟩) (pa_cons (pv 4) pa_nil)))))
    (pss_cons (ps_setDc (i := 5) (own := [("place", 8)]) rfl sc_way_between.nd rfl rfl (sw_trueD rfl rfl rfl (by decide +kernel)) (pi_list (pv 1)) (blkOk_by (own := [("place", 8)]) (N := N_way_between) (sc := defScope s_way_between) (by decide +kernel)) (fun _ _ _ _ _ => (pg_name (i := 8) sc_way_between.nd rfl (Or.inl rfl))) (fun _ _ _ _ _ => pts_nil) (fun _ _ _ _ _ => (pv 8)) (fun _ _ _ _ _ => pe_non))
    (pss_cons (ps_set (i := 6) sc_way_between.nd rfl (Or.inl rfl) (pe_callTy call_list_of (by rfl) T.n_list (by decide +kernel) (pa_cons (pv 1) pa_nil)))
    (pss_cons (ps_set (i := 7) sc_way_between.nd rfl (Or.inl rfl) pe_int)
    (pss_cons (ps_while PassesOwn.never (pt_cmpR op_lt (pv 7) (pe_callB call_len_seq (by rfl) T.n_len (by decide +kernel) (pa_cons (pv 6) pa_nil)) (nomark _)) (pss_cons (ps_if (pt_cmpR op_in_seq (pe_ix ix_list (pv 6) (pv 7) (fun _ _ => rfl)) (pv 2) (by rfl)) (pss_one (ps_ret (pe_call (ok_way_back T) (hr.mono (by decide)) rfl T.m_way_back T.F_way_back.kp (b_way_back T) .nil pass0 (pa_cons (pv 5) (pa_cons (pe_ix ix_list (pv 6) (pv 7) (fun _ _ => rfl)) pa_nil))))) pss_nil)
    (pss_cons (ps_for PassesOwn.never rfl (pi_list (pe_dget2 hu (pv 3) (pe_ix ix_list (pv 6) (pv 7) (fun _ _ => rfl)) (pe_lst pa_nil) ⟨rfl, rfl, rfl, rfl⟩)) (pg_name (i := 4) sc_way_between.nd rfl (Or.inl rfl))
    (pss_one (ps_if (pt_cmp (pc_dnotin hu (pe_ix ix_tup (pv 4) pe_int (fun _ _ => rfl)) (pv 5))) (pss_cons (ps_dput hu (pv 5) (pe_ix ix_tup (pv 4) pe_int (fun _ _ => rfl)) (pv 4) rfl)
    (pss_one (ps_expr (pe_bm PySem.F.plainAttrs_list PySem.F.slot_list_append PySem.F.type_list_append mt_append (pv 6) (pa_cons (pe_ix ix_tup (pv 4) pe_int (fun _ _ => rfl)) pa_nil))))) pss_nil)))
    (pss_one (ps_aug (i := 7) sc_way_between.nd rfl (Or.inl rfl) pe_int ip_add)))))
    (pss_one (ps_ret pe_non)))))))), ?_⟩
    obtain ⟨av, sv, ev, A', ss, es, rfl, ⟨aa, axs, rfl, haa, hax⟩, ⟨sa, sxs, rfl, hsa, hsx⟩, ⟨ea, exs, rfl, hea, hex⟩, a120, s24, nds, k1, k2⟩ := h
    have e1 := strs_eq hsx
    have e2 := strs_eq hex
    subst e1 e2
    intro Dl hDl
    refine ⟨_, rfl, aa, rfl, ⟨_, SqL.of (Same.new hDl aa _ haa)⟩, for_it (walk_list (K := K)) (fun i σ H1 => ∃ kvs g, (Same H H1 ∧ Lv H Dl kvs g (A'.take i) H1 ∧ kvs.length ≤ i) ∧
      ∃ a b c d e, σ = [some (.ref aa), some (.ref sa), some (.ref ea), some (.ref Dl), a, b, c, d, e])
      ⟨[], fun _ => none, ⟨Same.new hDl, ⟨upd_same, fun _ => rfl, fun _ _ => rfl, (fun _ _ z => by cases z), (fun _ _ _ z => by cases z)⟩, Nat.le_refl _⟩, _, _, _, _, _, rfl⟩ (fun i σ H1 _ ⟨_, _, h, _⟩ => SqL.of (h.1 aa _ haa)) ?_ ?_⟩
    · rintro i x σ H1 H2 hi' ⟨kvs, g, ⟨s1, ⟨l1, l2, l3, l4, l5⟩, lk⟩, _, _, _, _, _, rfl⟩ ⟨rfl, hxi⟩
      obtain ⟨a, ha, q, rfl, hq⟩ := paired_get' (paired_mono (Ext.of s1) hax) hxi
      have hi120 : i < 120 := by rw [paired_len hax] at hi'; omega
      have et : A'.take (i + 1) = A'.take i ++ [a] := by
        rw [List.take_add_one, ha]
        rfl
      refine ⟨_, rfl, Dl, rfl, .inl ⟨_, .inl l1⟩, _, rfl, q, _, _, _, rfl, rfl, SqT.of hq, atI_nat (j := 0) rfl, (by show 0 ≤ sizeLine; exact Nat.zero_le _), fun p hp => ?_⟩
      have npl : Dl ≠ p := ne_of_none l1 hp
      refine ⟨kvs, Sum.inr a.src, by rw [upd_ne npl]; exact l1, rfl, (by rw [sizeLine_eq]; omega), fun v hv => ?_, fun hn => ?_⟩
      · rw [l2] at hv
        cases hg : g a.src with
        | none => rw [hg] at hv; cases hv
        | some p0 =>
          rw [hg] at hv
          cases hv
          obtain ⟨f0, xs, hxs, hp0⟩ := l4 _ _ hg
          have np : p0 ≠ p := ne_of_none hxs hp
          have hxs' : upd H2 p (.lst []) p0 = some (.lst xs) := by rw [upd_ne np]; exact hxs
          have s2 : Same H (upd (upd H2 p (.lst [])) p0 (.lst (xs ++ [.ref q]))) := Same.mut (s1.trans (Same.new hp)) f0
          have tu : TupS H2 (upd (upd H2 p (.lst [])) p0 (.lst (xs ++ [.ref q]))) := (TupS.of (Same.new hp)).trans (TupS.upd hxs' fun _ z => nomatch z)
          refine ⟨.inl ⟨rfl, _, SqL.of hxs'⟩, _, rfl, p0, xs, _, rfl, rfl, hxs', ?_, ?_⟩
          · have := leave_len (A'.take i) a.src
            rw [← paired_len hp0, List.length_take] at this
            rw [sizeLine_eq]
            omega
          · refine ⟨kvs, g, ⟨s2, ⟨?_, l2, fun s h => ?_, fun s p1 h => ?_, l5⟩, by omega⟩, _, _, _, _, _, rfl⟩
            · have n3 : Dl ≠ p0 := ne_of l1 hxs (by intro z; cases z)
              rw [upd_ne n3, upd_ne npl]
              exact l1
            · rw [et, leave_ne (fun z => by rw [z, h] at hg; cases hg)]
              exact l3 s h
            · obtain ⟨f1, ys, hys, hp1⟩ := l4 _ _ h
              refine ⟨f1, ?_⟩
              by_cases e : a.src = s
              · subst e
                rw [hg] at h
                cases h
                rw [hxs] at hys
                cases hys
                refine ⟨_, upd_same, ?_⟩
                rw [et, leave_eq]
                exact paired_snoc (paired_tu tu hp1) (Tu.mono tu ⟨q, rfl, hq⟩)
              · have n4 : p1 ≠ p0 := fun z => e (l5 _ _ _ hg (z ▸ h))
                refine ⟨ys, by rw [upd_ne n4, upd_ne (ne_of_none hys hp)]; exact hys, ?_⟩
                rw [et, leave_ne e]
                exact paired_tu tu hp1
      · have hg : g a.src = none := by
          rw [l2] at hn
          cases hg : g a.src with
          | none => rfl
          | some p0 => rw [hg] at hn; cases hn
        have hp0 : upd (upd H2 p (.lst [])) Dl (.dK (putK kvs (Sum.inr a.src) (.ref p))) p = some (.lst []) := by rw [upd_ne npl.symm, upd_same]
        have fp : H p = none := by
          cases z : H p with
          | none => rfl
          | some u => rw [s1 p u z] at hp; cases hp
        refine ⟨.inl ⟨rfl, _, SqL.of hp0⟩, _, rfl, p, [], _, rfl, rfl, hp0, (by show 0 < sizeLine; decide), ?_⟩
        have s2 : Same H (upd (upd (upd H2 p (.lst [])) Dl (.dK (putK kvs (Sum.inr a.src) (.ref p)))) p (.lst ([] ++ [.ref q]))) := Same.mut (Same.mut (s1.trans (Same.new hp)) hDl) fp
        have tu : TupS H2 (upd (upd (upd H2 p (.lst [])) Dl (.dK (putK kvs (Sum.inr a.src) (.ref p)))) p (.lst ([] ++ [.ref q]))) := ((TupS.of (Same.new hp)).trans (TupS.upd (u := .dK kvs) (by rw [upd_ne npl]; exact l1) fun _ z => nomatch z)).trans (TupS.upd hp0 fun _ z => nomatch z)
        refine ⟨_, fun s => if s = a.src then some p else g s, ⟨s2, ⟨by rw [upd_ne npl, upd_same], fun s => ?_, fun s h => ?_, fun s p1 h => ?_, fun s t p1 h1 h2 => ?_⟩, ?_⟩, _, _, _, _, _, rfl⟩
        · show valV (putK kvs (Sum.inr a.src) (.ref p)) (Sum.inr s : Key) = (if s = a.src then some p else g s).map V.ref
          rw [valV_put]
          by_cases e : s = a.src
          · rw [if_pos e, if_pos (by rw [e])]
            rfl
          · rw [if_neg e, if_neg (fun z => e (Sum.inr.inj z))]
            exact l2 s
        · change (if s = a.src then some p else g s) = none at h
          by_cases e : s = a.src
          · rw [if_pos e] at h
            cases h
          · rw [if_neg e] at h
            rw [et, leave_ne (fun z => e z.symm)]
            exact l3 s h
        · change (if s = a.src then some p else g s) = some p1 at h
          by_cases e : s = a.src
          · rw [if_pos e] at h
            cases h
            refine ⟨fp, _, upd_same, ?_⟩
            rw [et, e, leave_eq, l3 _ hg]
            exact .cons (Tu.mono tu ⟨q, rfl, hq⟩) .nil
          · rw [if_neg e] at h
            obtain ⟨f1, ys, hys, hp1⟩ := l4 _ _ h
            have n5 : p1 ≠ p := ne_of_none hys hp
            refine ⟨f1, ys, by rw [upd_ne n5, upd_ne (ne_of hys l1 (by intro z; cases z)), upd_ne n5]; exact hys, ?_⟩
            rw [et, leave_ne (fun z => e z.symm)]
            exact paired_tu tu hp1
        · change (if s = a.src then some p else g s) = some p1 at h1
          change (if t = a.src then some p else g t) = some p1 at h2
          have nn : ∀ t, g t = some p → False := fun t h => by
            obtain ⟨_, ys, hys, _⟩ := l4 _ _ h
            rw [hp] at hys
            cases hys
          by_cases e1 : s = a.src <;> by_cases e2 : t = a.src
          · rw [e1, e2]
          · rw [if_pos e1] at h1
            rw [if_neg e2] at h2
            cases h1
            exact (nn t h2).elim
          · rw [if_neg e1] at h1
            rw [if_pos e2] at h2
            cases h2
            exact (nn s h1).elim
          · rw [if_neg e1] at h1
            rw [if_neg e2] at h2
            exact l5 _ _ _ h1 h2
        · have := length_putK kvs (Sum.inr a.src : Key) (.ref p)
          omega
    · rintro σ H0 ⟨kvs, g, ⟨s0, lv, lk⟩, _, _, _, _, _, rfl⟩
      rw [paired_len hax, List.take_length] at lv
      refine ⟨_, rfl, sa, rfl, ⟨_, SqL.of (s0 sa _ hsa)⟩, fun Db hDb => dc_gen (A := rOpt rArc) (B := rStr) (walk_list (K := K)) ss (paired_len hsx).symm ?_ hDb (src_k (s0 sa _ hsa)) (src_y (strs_of' ss)) (fun b => b) (fun _ => none) (by rw [List.map_id']; exact nds) ?_ ?_⟩
      · rw [List.length_map]
        exact Nat.lt_of_le_of_lt s24 (by decide)
      · rintro i b x H' hb s3 rfl Ks Kc kt
        refine ⟨rfl, yesT (iteT ?_)⟩
        exact ⟨_, rfl, kt _ _ (Same.refl _) rfl⟩
      · intro H3 bks s3 hDb3 hpb3
        refine ⟨_, rfl, sa, _, rfl, .inl (SqL.of (s3 sa _ (s0 sa _ hsa))), fun Dw hDw => ?_⟩
        have n1 : Db ≠ Dw := ne_of_none hDb3 hDw
        have s4 : Same H0 (upd H3 Dw (.lst (ss.map V.str))) := s3.trans (Same.new hDw)
        have hDw0 : H0 Dw = none := by
          cases z : H0 Dw with
          | none => rfl
          | some u => rw [s3 Dw u z] at hDw; cases hDw
        have ek : (ss.map fun b => (b, (none : Option (Mt.Arc Str)))).map (·.1) = ss := by
          rw [List.map_map]
          exact List.map_id' ss
        refine ⟨fun m σ Hc => ∃ t B, (Sch H0 Db Dw A' ss es B t Hc ∧ t ≤ B.length ∧ m = ss.length + A'.length + 1 - t) ∧ ∃ x y, σ = [some (.ref aa), some (.ref sa), some (.ref ea), some (.ref Dl), x, some (.ref Db), some (.ref Dw), some (.int (t : Int)), y],
          ⟨_, 0, ss.map fun b => (b, none), ⟨⟨s4, ⟨bks, by rw [upd_ne n1]; exact hDb3, dpair_mono (Ext.of (Same.new hDw)) hpb3⟩, by rw [ek]; exact upd_same, by rw [ek]; exact nds, ?_, ?_, ?_, ?_⟩, Nat.zero_le _, rfl⟩, _, _, rfl⟩, ?_⟩
        · intro j k o h
          rw [List.getElem?_map] at h
          cases z : ss[j]? with
          | none => rw [z] at h; cases h
          | some u =>
            rw [z] at h
            cases h
            exact List.mem_of_getElem? z
        · intro x hx
          rw [ek]
          exact hx
        · intro x hx
          rw [ek] at hx
          exact List.mem_append.mpr (.inl hx)
        · intro i k h
          omega
        · rintro m σ Hc ⟨t, B, ⟨sc, htl, rfl⟩, _, _, rfl⟩
          refine ⟨_, rfl, _, rfl, Dw, _, rfl, .inl (SqL.of sc.dw), _, _, rfl, rfl, _, rfl, ?_⟩
          rw [List.length_map, List.length_map]
          have hbl := sc.len
          refine ite2 (fun h => ?_) (fun h => ?_)
          · have htl' : t < B.length := by
              have := of_decide_eq_true h
              omega
            obtain ⟨⟨k0, o0⟩, hk0⟩ : ∃ x, B[t]? = some x := ⟨_, List.getElem?_eq_getElem htl'⟩
            have hkk := Mt.keys_at hk0
            have hwt : ((B.map (·.1)).map V.str)[t]? = some (.str k0) := by rw [List.getElem?_map, hkk] <;> rfl
            refine ⟨fun σ' H' => ∃ B', (Sch H0 Db Dw A' ss es B' (t + 1) H' ∧ t + 1 ≤ B'.length) ∧ ∃ x y, σ' = [some (.ref aa), some (.ref sa), some (.ref ea), some (.ref Dl), x, some (.ref Db), some (.ref Dw), some (.int ((t + 1 : Nat) : Int)), y],
              fun σ' H' ⟨B', ⟨q1, q2⟩, q3⟩ => ⟨_, by omega, t + 1, B', ⟨q1, q2, rfl⟩, q3⟩, ?_⟩
            obtain ⟨kvb, hdb, hpb⟩ := sc.db
            refine ⟨_, rfl, _, rfl, Dw, _, _, _, rfl, rfl, SqL.of sc.dw, atI_nat (j := t) hwt, _, rfl, ea, _, rfl, .inl (SqL.of (sc.same ea _ (s0 ea _ hea))), rfl, flat_strs _, decide (k0 ∈ es), by rw [if_neg Bool.false_ne_true, inV_strs], ?_⟩
            refine ite2 (fun h2 => ?_) (fun h2 => ?_)
            · have hin : k0 ∈ es := of_decide_eq_true h2
              refine ⟨_, rfl, _, rfl, _, rfl, Dw, _, _, _, rfl, rfl, SqL.of sc.dw, atI_nat (j := t) hwt, .ref Db, k0, B, A', (· ∈ ss), rfl, ⟨Db, kvb, rfl, .inl hdb, hpb⟩, sc.nd, sc.tree, List.mem_of_getElem? hkk, by omega, fun way hway hl p H' xs hp sp hH' hpw => ?_⟩
              refine k2 k0 way hin hway hl p H' xs ?_ (s0.trans (sc.same.trans sp)) hH' hpw
              cases z : H p with
              | none => rfl
              | some u => rw [sc.same p u (s0 p u z)] at hp; cases hp
            · have hout : k0 ∉ es := fun z => h2 (decide_eq_true z)
              obtain ⟨v1, v2, v3, v4, v5⟩ := lv
              refine ⟨_, rfl, Dl, rfl, .inl ⟨_, .inl (sc.same Dl _ v1)⟩, _, rfl, _, rfl, Dw, _, _, _, rfl, rfl, SqL.of sc.dw, atI_nat (j := t) hwt, (by show 0 ≤ sizeLine; exact Nat.zero_le _), fun p hp => ?_⟩
              have s5 : Same Hc (upd Hc p (.lst [])) := Same.new hp
              have s05 := sc.same.trans s5
              refine ⟨_, DGet.k (k := Sum.inr k0) (s05 Dl _ v1), ?_⟩
              obtain ⟨la, lxs, ela, hla, hlx⟩ : ∃ la lxs, ((valV kvs (Sum.inr k0 : Key)).getD (.ref p)) = .ref la ∧ upd Hc p (.lst []) la = some (.lst lxs) ∧ Paired (rArc (upd Hc p (.lst []))) lxs (leave A' k0) := by
                rw [v2]
                cases hg : g k0 with
                | none => exact ⟨p, [], rfl, upd_same, by rw [v3 k0 hg]; exact .nil⟩
                | some p0 =>
                  obtain ⟨_, ys, hys, hpy⟩ := v4 _ _ hg
                  exact ⟨p0, ys, rfl, s05 p0 _ hys, paired_mono (Ext.of s05) hpy⟩
              have sc5 : Sch H0 Db Dw A' ss es B t (upd Hc p (.lst [])) := ⟨s05, ⟨kvb, s5 Db _ hdb, dpair_mono (Ext.of s5) hpb⟩, s5 Dw _ sc.dw, sc.nd, sc.tree, sc.sub, sc.bd, sc.done⟩
              have nla : la ≠ Dw := by
                intro z
                subst z
                have ee : H0 la = none := hDw0
                rw [v2] at ela
                cases hg : g k0 with
                | none =>
                  rw [hg] at ela
                  cases ela
                  rw [sc.dw] at hp
                  cases hp
                | some p0 =>
                  rw [hg] at ela
                  cases ela
                  obtain ⟨_, ys, hys, _⟩ := v4 _ _ hg
                  rw [ee] at hys
                  cases hys
              refine ⟨la, ela, ⟨_, SqL.of hla⟩, for_it (walk_list (K := K)) (fun i σ H4 => ∃ B', (Sch H0 Db Dw A' ss es B' t H4 ∧ H4 la = some (.lst lxs) ∧ Paired (rArc H4) lxs (leave A' k0) ∧ B'[t]? = some (k0, o0) ∧ ∀ a ∈ (leave A' k0).take i, a.dst ∈ B'.map (·.1)) ∧
                ∃ x y, σ = [some (.ref aa), some (.ref sa), some (.ref ea), some (.ref Dl), x, some (.ref Db), some (.ref Dw), some (.int (t : Int)), y])
                ⟨B, ⟨sc5, hla, hlx, hk0, fun _ h => by simp at h⟩, _, _, rfl⟩ (fun i σ H4 _ ⟨_, h, _⟩ => SqL.of h.2.1) ?_ ?_⟩
              · rintro i x σ H4 H5 hi' ⟨B', ⟨sc6, hla6, hlx6, hbt, hdone⟩, _, _, rfl⟩ ⟨rfl, hxi⟩
                obtain ⟨a, ha, q, rfl, hq⟩ := paired_get' hlx6 hxi
                obtain ⟨kv6, hdb6, hpb6⟩ := sc6.db
                have hmem := List.mem_filter.mp (List.mem_of_getElem? ha)
                have haA : a ∈ A' := hmem.1
                have hasrc : a.src = k0 := of_decide_eq_true hmem.2
                have et : (leave A' k0).take (i + 1) = (leave A' k0).take i ++ [a] := by
                  rw [List.take_add_one, ha]
                  rfl
                by_cases hin : a.dst ∈ B'.map (·.1)
                · obtain ⟨v, _, _, hg, _⟩ := get_some (.inl hdb6) hpb6 sc6.nd hin
                  refine ⟨_, rfl, q, _, _, _, rfl, rfl, SqT.of hq, atI_nat (j := 1) rfl, _, rfl, Db, _, rfl, hg, false, rfl, ?_⟩
                  refine iteF ?_
                  refine ⟨B', ⟨sc6, hla6, hlx6, hbt, fun b hb => ?_⟩, _, _, rfl⟩
                  rw [et] at hb
                  rcases List.mem_append.mp hb with hb | hb
                  · exact hdone b hb
                  · rw [List.mem_singleton.mp hb]
                    exact hin
                · have hg := get_out (.inl hdb6) hpb6 hin
                  have hbl6 := sc6.len
                  have lk6 : kv6.length < sizeLine := by
                    rw [paired_len hpb6, sizeLine_eq]
                    omega
                  refine ⟨_, rfl, q, _, _, _, rfl, rfl, SqT.of hq, atI_nat (j := 1) rfl, _, rfl, Db, _, rfl, hg, true, rfl, ?_⟩
                  refine iteT ?_
                  refine ⟨_, rfl, _, rfl, _, rfl, q, _, _, _, rfl, rfl, SqT.of hq, atI_nat (j := 1) rfl, Db, _, rfl, DPut.k (k := Sum.inr a.dst) hdb6 lk6, ?_⟩
                  have n2 : Dw ≠ Db := n1.symm
                  have nqb : q ≠ Db := ne_of hq hdb6 (by intro z; cases z)
                  have hdw7 : upd H5 Db (.dK (putK kv6 (Sum.inr a.dst) (.ref q))) Dw = some (.lst ((B'.map (·.1)).map V.str)) := by rw [upd_ne n2]; exact sc6.dw
                  have hq7 : upd H5 Db (.dK (putK kv6 (Sum.inr a.dst) (.ref q))) q = some (.tup [.str a.src, .str a.dst, .str a.nm, .int a.sg, .int a.room]) := by rw [upd_ne nqb]; exact hq
                  refine ⟨_, rfl, .inl ⟨rfl, _, SqL.of hdw7⟩, _, rfl, q, _, _, _, rfl, rfl, SqT.of hq7, atI_nat (j := 1) rfl, Dw, _, _, rfl, rfl, hdw7, ?_, ?_⟩
                  · rw [List.length_map, List.length_map, sizeLine_eq]
                    omega
                  · have tu : TupS H5 (upd (upd H5 Db (.dK (putK kv6 (Sum.inr a.dst) (.ref q)))) Dw (.lst ((B'.map (·.1)).map V.str ++ [.str a.dst]))) := (TupS.upd hdb6 fun _ z => nomatch z).trans (TupS.upd hdw7 fun _ z => nomatch z)
                    have ek : (B' ++ [(a.dst, some a)]).map (·.1) = B'.map (·.1) ++ [a.dst] := by rw [List.map_append]; rfl
                    refine ⟨B' ++ [(a.dst, some a)], ⟨⟨Same.mut (Same.mut sc6.same hDb) hDw0, ⟨_, by rw [upd_ne n1, upd_same], dp_tu tu (dp_snoc (A := rOpt rArc) (x := some a) hpb6 ⟨q, rfl, hq⟩ hin)⟩, ?_, ?_, ?_, ?_, ?_, ?_⟩, ?_, paired_tu tu hlx6, ?_, fun b hb => ?_⟩, _, _, rfl⟩
                    · rw [upd_same, ek, List.map_append]
                      rfl
                    · rw [ek]
                      exact List.nodup_append.mpr ⟨sc6.nd, List.nodup_cons.mpr ⟨List.not_mem_nil, List.nodup_nil⟩, fun x hx y hy => fun z => hin (by rw [List.mem_singleton.mp hy] at z; exact z ▸ hx)⟩
                    · exact sc6.tree.snoc haA (by rw [hasrc]; exact hbt)
                    · intro x hx
                      rw [ek]
                      exact List.mem_append.mpr (.inl (sc6.sub x hx))
                    · intro x hx
                      rw [ek] at hx
                      rcases List.mem_append.mp hx with hx | hx
                      · exact sc6.bd x hx
                      · rw [List.mem_singleton.mp hx]
                        exact List.mem_append.mpr (.inr (List.mem_map.mpr ⟨a, haA, rfl⟩))
                    · intro j k hj hjk
                      have hlt : t < B'.length := (List.getElem?_eq_some_iff.mp hbt).1
                      rw [ek, List.getElem?_append_left (by rw [List.length_map]; omega)] at hjk
                      obtain ⟨d1, d2⟩ := sc6.done j k hj hjk
                      exact ⟨d1, fun b hb e => by rw [ek]; exact List.mem_append.mpr (.inl (d2 b hb e))⟩
                    · rw [upd_ne nla, upd_ne (ne_of hla6 hdb6 (by intro z; cases z))]
                      exact hla6
                    · rw [List.getElem?_append_left (List.getElem?_eq_some_iff.mp hbt).1]
                      exact hbt
                    · rw [ek]
                      rw [et] at hb
                      rcases List.mem_append.mp hb with hb | hb
                      · exact List.mem_append.mpr (.inl (hdone b hb))
                      · rw [List.mem_singleton.mp hb]
                        exact List.mem_append.mpr (.inr (List.mem_singleton.mpr rfl))
              · rintro σ H4 ⟨B', ⟨sc6, hla6, hlx6, hbt, hdone⟩, _, _, rfl⟩
                rw [paired_len hlx, List.take_length] at hdone
                refine ⟨_, rfl, _, _, rfl, rfl, B', ⟨⟨sc6.same, sc6.db, sc6.dw, sc6.nd, sc6.tree, sc6.sub, sc6.bd, fun j k hj hjk => ?_⟩, ?_⟩, _, _, rfl⟩
                · by_cases e : j < t
                  · exact sc6.done j k e hjk
                  · have e' : j = t := by omega
                    subst e'
                    rw [Mt.keys_at hbt] at hjk
                    cases hjk
                    exact ⟨hout, fun a ha e => hdone a (List.mem_filter.mpr ⟨ha, decide_eq_true e⟩)⟩
                · have := (List.getElem?_eq_some_iff.mp hbt).1
                  omega
          · have hge : t = B.length := by
              have : ¬ ((t : Int) < (B.length : Int)) := fun z => h (decide_eq_true z)
              omega
            refine k1 (· ∈ B.map (·.1)) ⟨sc.sub, fun k hk hk2 => ?_, fun a ha hs => ?_⟩ _ (s0.trans sc.same)
            · obtain ⟨j, hj⟩ := List.getElem?_of_mem hk2
              have hjl := (List.getElem?_eq_some_iff.mp hj).1
              rw [List.length_map] at hjl
              exact (sc.done j k (by omega) hj).1 hk
            · obtain ⟨j, hj⟩ := List.getElem?_of_mem hs
              have hjl := (List.getElem?_eq_some_iff.mp hj).1
              rw [List.length_map] at hjl
              exact (sc.done j _ (by omega) hj).2 a ha rfl
end
end Mx

set_option Elab.async false
set_option linter.all false
set_option maxRecDepth 100000
set_option maxHeartbeats 4000000
/-! push_all, come_to, leading_to, led_from. -/
namespace Mx
open PySem PySem.Spec PyProof.Rows L2
theorem shut_closed {E : List (Mt.Edge Str)} {L : Str → Int × Int} {f : Str → Int} {S Z R : Str → Prop} (h : Mt.Shut (arcs E L f) S Z R) : Mt.Closed E L f R := fun e he =>
  ⟨fun r q => h.cl (Mt.fwd L f e) (mem_arcs.mpr ⟨e, he, .inl ⟨rfl, q⟩⟩) r, fun r q => h.cl (Mt.bwd L f e) (mem_arcs.mpr ⟨e, he, .inr ⟨rfl, q⟩⟩) r⟩
theorem arc_ok {E : List (Mt.Edge Str)} {L : Str → Int × Int} {f : Str → Int} {fs : List Str} (hm : ∀ e ∈ E, e.nm ∈ fs) {a : Mt.Arc Str} (h : Mt.IsArc E L f a) : a.nm ∈ fs ∧ (a.sg = 1 ∨ a.sg = -1) := by
  obtain ⟨e, he, ⟨rfl, _⟩ | ⟨rfl, _⟩⟩ := h
  · exact ⟨hm e he, .inl rfl⟩
  · exact ⟨hm e he, .inr rfl⟩
theorem ldict_len (l : List Str) (L : Str → Int × Int) : (ldict l L).length = l.length := List.length_map _
section
variable {P : Program} {w : World} {K : PySem.W.Frag} {mg : Str → Option Value} {base : Heap}
def sp_push_all : Sp := fun vs H Q _ => ∃ ev lv F start stop most E ls L kvs fs f, vs = [ev, lv, .ref F, .str start, .str stop, .int most] ∧ rL rEd H ev E ∧ rN rLim F H lv (ldict ls L) ∧ ls.Nodup ∧ H F = some (.dK kvs) ∧ DPr rInt H kvs (kdict fs f) ∧ fs.Nodup ∧ fs.length ≤ 60 ∧
  (∀ e ∈ E, e.nm ∈ ls ∧ e.nm ∈ fs) ∧ E.length ≤ 60 ∧ (E.map (·.nm)).Nodup ∧ Mt.Within E L f ∧ 0 ≤ most ∧ start ≠ stop ∧
  ∀ x f' kvs' H', 0 ≤ x → x ≤ most → Kept F H H' → H' F = some (.dK kvs') → DPr rInt H' kvs' (kdict fs f') → Mt.Within E L f' → (∀ k, Mt.net E f' k = Mt.net E f k + ((if stop = k then x else 0) - (if start = k then x else 0))) →
    (∀ n, n ∉ E.map (·.nm) → f' n = f n) → (x = most ∨ ∃ S, Mt.Closed E L f' S ∧ S start ∧ ¬ S stop) → Q (.int x) H'
theorem ok_push_all (T : Tx K mg) : FnOk P w K mg base CX0 3 T.a_push_all T.d_push_all P_push_all sp_push_all := by
  refine T.F_push_all.ok sc_push_all (fun vs H Q E h => ?_) (fun cdv A outer s H vs Q E hr h => ?_)
  · obtain ⟨_, _, _, _, _, _, _, _, _, _, _, _, rfl, _⟩ := h
    rfl
  · have hu := hu_of hr
    refine ⟨_, PSs.nox (pss_cons (ps_set (i := 6) sc_push_all.nd rfl (Or.inl rfl) pe_int)
    (pss_cons (ps_while PassesOwn.never (pt_cmpR op_lt (pv 6) (pv 5) (nomark _)) (pss_cons (ps_set (i := 7) sc_push_all.nd rfl (Or.inl rfl) (pe_call (ok_way_between T) (hr.mono (by decide)) rfl T.m_way_between T.F_way_between.kp (b_way_between T) .nil pass0 (pa_cons (pe_call (ok_arcs_of T) (hr.mono (by decide)) rfl T.m_arcs_of T.F_arcs_of.kp (b_arcs_of T) .nil pass0 (pa_cons (pv 0) (pa_cons (pv 1) (pa_cons (pv 2) pa_nil)))) (pa_cons (pe_lst (pa_cons (pv 3) pa_nil)) (pa_cons (pe_lst (pa_cons (pv 4) pa_nil)) pa_nil)))))
    (pss_cons (ps_if (pt_cmp (pc_isN (pv 7))) (pss_one (ps_ret (pv 6))) pss_nil)
    (pss_one (ps_aug (i := 6) sc_push_all.nd rfl (Or.inl rfl) (pe_call (ok_push T) (hr.mono (by decide)) rfl T.m_push T.F_push.kp (b_push T) .nil pass0 (pa_cons (pv 2) (pa_cons (pv 7) (pa_cons (pe_op op_sub (pv 5) (pv 6)) pa_nil)))) ip_add)))))
    (pss_one (ps_ret (pv 6))))), ?_⟩
    obtain ⟨ev, lv, F, start, stop, most, E', ls, L, kvs, fs, f, rfl, hE, hL, ndl, hF, hk, ndf, f60, hmem, e60, nde, hw, h0, hne, k⟩ := h
    refine ⟨fun m σ H1 => ∃ x f1 kvs1, (0 ≤ x ∧ x ≤ most ∧ Kept F H H1 ∧ H1 F = some (.dK kvs1) ∧ DPr rInt H1 kvs1 (kdict fs f1) ∧ Mt.Within E' L f1 ∧ (∀ k, Mt.net E' f1 k = Mt.net E' f k + ((if stop = k then x else 0) - (if start = k then x else 0))) ∧
        (∀ n, n ∉ E'.map (·.nm) → f1 n = f n) ∧ m = (most - x).toNat) ∧ ∃ y, σ = [some ev, some lv, some (.ref F), some (.str start), some (.str stop), some (.int most), some (.int x), y],
      ⟨_, 0, f, kvs, ⟨Int.le_refl _, h0, fun _ _ _ h => h, hF, hk, hw, fun k => by split <;> split <;> omega, fun _ _ => rfl, rfl⟩, _, rfl⟩, ?_⟩
    rintro m σ H1 ⟨x, f1, kvs1, ⟨x0, xm, kp, hF1, hk1, hw1, hn1, ho1, rfl⟩, _, rfl⟩
    refine ⟨_, rfl, _, rfl, _, _, rfl, rfl, _, rfl, ?_⟩
    refine ite2 (fun h => ?_) (fun h => ?_)
    · have hlt : x < most := of_decide_eq_true h
      refine ⟨fun σ' H' => ∃ m', m' < (most - x).toNat ∧ ∃ x f1 kvs1, (0 ≤ x ∧ x ≤ most ∧ Kept F H H' ∧ H' F = some (.dK kvs1) ∧ DPr rInt H' kvs1 (kdict fs f1) ∧ Mt.Within E' L f1 ∧ (∀ k, Mt.net E' f1 k = Mt.net E' f k + ((if stop = k then x else 0) - (if start = k then x else 0))) ∧
        (∀ n, n ∉ E'.map (·.nm) → f1 n = f n) ∧ m' = (most - x).toNat) ∧ ∃ y, σ' = [some ev, some lv, some (.ref F), some (.str start), some (.str stop), some (.int most), some (.int x), y], fun σ' H' h => h, ?_⟩
      have hE1 : rL rEd H1 ev E' := NoD.mono (kp.ext hF) hE
      have hL1 := hL.kept kp hF
      refine ⟨_, rfl, _, rfl, _, rfl, ev, lv, .ref F, E', ls, L, fs, f1, rfl, hE1, hL1.rd, ndl, ⟨F, kvs1, rfl, .inl hF1, hk1⟩, ndf, hmem, e60, fun p H2 xs hp s2 e2 hx => ?_⟩
      refine ⟨_, rfl, (by show 1 ≤ sizeLine; decide), fun p2 hp2 => ?_⟩
      have s3 := s2.trans (Same.new (o := .lst [V.str start]) hp2)
      refine ⟨_, rfl, (by show 1 ≤ sizeLine; decide), fun p3 hp3 => ?_⟩
      have n23 : p2 ≠ p3 := ne_of_none (H := upd H2 p2 (.lst [V.str start])) upd_same hp3
      have s32 : Same H2 (upd (upd H2 p2 (.lst [V.str start])) p3 (.lst [V.str stop])) := (Same.new hp2).trans (Same.new hp3)
      have s4 := s2.trans s32
      refine ⟨.ref p, .ref p2, .ref p3, arcs E' L f1, [start], [stop], rfl, ⟨p, xs, rfl, s32 p _ e2, paired_mono (Ext.of s32) hx⟩, ⟨p2, [.str start], rfl, by rw [upd_ne n23, upd_same], .cons rfl .nil⟩, ⟨p3, [.str stop], rfl, upd_same, .cons rfl .nil⟩,
        (by have := arcs_len E' L f1; omega), (by show 1 ≤ 24; decide), List.nodup_cons.mpr ⟨List.not_mem_nil, List.nodup_nil⟩, fun R sh H5 s5 => ?_, fun v way hv hway hwl pw H5 wxs hpw s5 e5 hx5 => ?_⟩
      · refine ⟨_, rfl, true, rfl, ?_⟩
        refine iteT ?_
        have s15 := s4.trans s5
        refine ⟨_, rfl, k x f1 kvs1 H5 x0 xm (kp.trans (Kept.of s15)) (s15 F _ hF1) (dpair_mono (Ext.of s15) hk1) hw1 hn1 ho1 (.inr ⟨R, shut_closed sh, sh.sub start (List.mem_singleton.mpr rfl), sh.out stop (List.mem_singleton.mpr rfl)⟩)⟩
      · have hv' : v = stop := List.mem_singleton.mp hv
        subst hv'
        obtain ⟨⟨u, hu', hch, hnd⟩, hmw⟩ := hway
        have hu'' : u = start := List.mem_singleton.mp hu'
        subst hu''
        have ha : ∀ a ∈ way, Mt.IsArc E' L f1 a := fun a h => mem_arcs.mp (hmw a h)
        refine ⟨_, rfl, false, rfl, ?_⟩
        refine iteF ?_
        have s15 := s4.trans s5
        refine ⟨_, rfl, _, rfl, _, rfl, _, rfl, _, rfl, _, _, rfl, rfl, F, .ref pw, most - x, kvs1, fs, f1, way, rfl, s15 F _ hF1, dpair_mono (Ext.of s15) hk1, ndf, f60, ⟨pw, wxs, rfl, e5, hx5⟩, fun a h => arc_ok (fun e he => (hmem e he).2) (ha a h), hwl, fun y kvs' H6 c1 c2 c3 kp6 hF6 hk6 => ?_⟩
        refine ⟨_, _, rfl, rfl, ?_⟩
        have ypos : 0 < y := by
          rcases c3 with e | ⟨a, h, e⟩
          · omega
          · have := (ha a h).room_pos
            omega
        refine ⟨_, ?_, x + y, Mt.pushF f1 way y, kvs', ⟨by omega, by omega, (kp.trans (Kept.of s15)).trans kp6, hF6, hk6, Mt.within_push nde ha hch hnd (by omega) c2 hw1, fun k => ?_, fun n hn => ?_, rfl⟩, _, rfl⟩
        · omega
        · rw [Mt.net_push nde k (fun a h => (ha a h).along) hch, hn1]
          split <;> split <;> omega
        · rw [Mt.pushF_out, ho1 n hn]
          intro z
          obtain ⟨a, h, e⟩ := List.mem_map.mp z
          obtain ⟨d, hd, en, _⟩ := (ha a h).along
          exact hn (List.mem_map.mpr ⟨d, hd, by rw [← en, e]⟩)
    · have hge : x = most := by
        have : ¬ x < most := fun z => h (decide_eq_true z)
        omega
      exact ⟨_, rfl, k x f1 kvs1 H1 x0 xm kp hF1 hk1 hw1 hn1 ho1 (.inl hge)⟩
end
end Mx

set_option Elab.async false
set_option linter.all false
set_option maxRecDepth 100000
set_option maxHeartbeats 4000000
/-! come_to, leading_to, led_from. -/
namespace Mx
open PySem PySem.Spec PyProof.Rows L2
structure Cm (H0 : Hp) (Df Dw : Addr) (ps : List (Str × Str)) (ss : List Str) (B : List (Str × Bool)) (W : List Str) (H : Hp) : Prop where
  same : Same H0 H
  df : ∃ kvs, H Df = some (.dK kvs) ∧ DPr rBl H kvs B
  dw : H Dw = some (.lst (W.map V.str))
  nd : (B.map (·.1)).Nodup
  bd : ∀ x ∈ B.map (·.1), x ∈ ss ++ ps.map (·.2)
theorem Cm.len {H0 : Hp} {Df Dw : Addr} {ps : List (Str × Str)} {ss : List Str} {B : List (Str × Bool)} {W : List Str} {H : Hp} (s : Cm H0 Df Dw ps ss B W H) : B.length ≤ ss.length + ps.length := by
  have := Mt.nd_le s.nd s.bd
  rw [List.length_map, List.length_append, List.length_map] at this
  exact this
section
variable {P : Program} {w : World} {K : PySem.W.Frag} {mg : Str → Option Value} {base : Heap}
def sp_come_to : Sp := fun vs H Q _ => ∃ pv sv ps ss, vs = [pv, sv] ∧ rL (rP rStr rStr) H pv ps ∧ rL rStr H sv ss ∧ ps.length ≤ 120 ∧ ss.length ≤ 24 ∧ ss.Nodup ∧ ∀ B : List (Str × Bool), (B.map (·.1)).Nodup → retD rBl H Q B
theorem ok_come_to (T : Tx K mg) : FnOk P w K mg base CX0 1 T.a_come_to T.d_come_to P_come_to sp_come_to := by
  refine T.F_come_to.ok sc_come_to (fun vs H Q E h => ?_) (fun cdv A outer s H vs Q E hr h => ?_)
  · obtain ⟨_, _, _, _, rfl, _⟩ := h
    rfl
  · have hu := hu_of hr
    refine ⟨_, PSs.nox (pss_cons (ps_setDc (i := 2) (own := [("place", 4)]) rfl sc_come_to.nd rfl rfl (sw_trueD rfl rfl rfl (by decide +kernel)) (pi_list (pv 1)) (blkOk_by (own := [("place", 4)]) (N := N_come_to) (sc := defScope s_come_to) (by decide +kernel)) (fun _ _ _ _ _ => (pg_name (i := 4) sc_come_to.nd rfl (Or.inl rfl))) (fun _ _ _ _ _ => pts_nil) (fun _ _ _ _ _ => (pv 4)) (fun _ _ _ _ _ => pe_bl))
    (pss_cons (ps_set (i := 3) sc_come_to.nd rfl (Or.inl rfl) (pe_callTy call_list_of (by rfl) T.n_list (by decide +kernel) (pa_cons (pv 1) pa_nil)))
    (pss_cons (ps_while PassesOwn.never (pt_truth (pv 3) (by intro _; rfl)) (pss_cons (ps_set (i := 4) sc_come_to.nd rfl (Or.inl rfl) (pe_bm0 PySem.F.plainAttrs_list PySem.F.slot_list_pop PySem.F.type_list_pop mt_pop (pv 3)))
    (pss_one (ps_for PassesOwn.never rfl (pi_list (pv 0)) (pg_tup rfl (pgs_cons (pg_name (i := 5) sc_come_to.nd rfl (Or.inl rfl)) (pgs_cons (pg_name (i := 6) sc_come_to.nd rfl (Or.inl rfl)) pgs_nil)))
    (pss_one (ps_if (PW.pt (pw_and (pt_cmpR op_eq (pv 5) (pv 4) (nomark _)) (pw_and1 (pt_cmp (pc_dnotin hu (pv 6) (pv 2)))))) (pss_cons (ps_dput hu (pv 2) (pv 6) pe_bl rfl)
    (pss_one (ps_expr (pe_bm PySem.F.plainAttrs_list PySem.F.slot_list_append PySem.F.type_list_append mt_append (pv 3) (pa_cons (pv 6) pa_nil))))) pss_nil))))))
    (pss_one (ps_ret (pv 2)))))), ?_⟩
    obtain ⟨pv, sv, ps, ss, rfl, ⟨pa, pxs, rfl, hpa, hpx⟩, ⟨sa, sxs, rfl, hsa, hsx⟩, p120, s24, nds, k⟩ := h
    have e1 := strs_eq hsx
    subst e1
    refine ⟨_, rfl, sa, rfl, ⟨_, SqL.of hsa⟩, fun Df hDf => dc_gen (A := rBl) (B := rStr) (walk_list (K := K)) ss (paired_len hsx).symm ?_ hDf (src_k hsa) (src_y (strs_of' ss)) (fun b => b) (fun _ => true) (by rw [List.map_id']; exact nds) ?_ ?_⟩
    · rw [List.length_map]
      exact Nat.lt_of_le_of_lt s24 (by decide)
    · rintro i b x H' hb s3 rfl Ks Kc kt
      refine ⟨rfl, yesT (iteT ?_)⟩
      exact ⟨_, rfl, kt _ _ (Same.refl _) rfl⟩
    · intro H3 bks s3 hDf3 hpb3
      refine ⟨_, rfl, sa, _, rfl, .inl (SqL.of (s3 sa _ hsa)), fun Dw hDw => ?_⟩
      have n1 : Df ≠ Dw := ne_of_none hDf3 hDw
      have s4 : Same H (upd H3 Dw (.lst (ss.map V.str))) := s3.trans (Same.new hDw)
      have hDw0 : H Dw = none := by
        cases z : H Dw with
        | none => rfl
        | some u => rw [s3 Dw u z] at hDw; cases hDw
      have ek : (ss.map fun b => (b, true)).map (·.1) = ss := by
        rw [List.map_map]
        exact List.map_id' ss
      refine ⟨fun m σ Hc => ∃ B W, (Cm H Df Dw ps ss B W Hc ∧ m = 2 * (ss.length + ps.length - B.length) + W.length ∧ m ≤ 400) ∧ ∃ x y z, σ = [some (.ref pa), some (.ref sa), some (.ref Df), some (.ref Dw), x, y, z],
        ⟨_, ss.map fun b => (b, true), ss, ⟨⟨s4, ⟨bks, by rw [upd_ne n1]; exact hDf3, dpair_mono (Ext.of (Same.new hDw)) hpb3⟩, upd_same, by rw [ek]; exact nds, ?_⟩, rfl, by omega⟩, _, _, _, rfl⟩, ?_⟩
      · intro x hx
        rw [ek] at hx
        exact List.mem_append.mpr (.inl hx)
      · rintro m σ Hc ⟨B, W, ⟨sc, rfl, m4⟩, _, _, _, rfl⟩
        refine ⟨_, rfl, !(W.map V.str).isEmpty, .inl ⟨_, SqL.of sc.dw, rfl⟩, ?_⟩
        rcases List.eq_nil_or_concat W with rfl | ⟨W0, x, rfl⟩
        · refine iteF ?_
          obtain ⟨kvf, hdf, hpf⟩ := sc.df
          exact ⟨_, rfl, k B sc.nd Df Hc kvf hDf sc.same hdf hpf⟩
        · have et : (!((W0.concat x).map V.str).isEmpty) = true := by simp
          rw [et]
          refine iteT ?_
          refine ⟨fun σ' H' => ∃ m', m' < 2 * (ss.length + ps.length - B.length) + (W0.concat x).length ∧ ∃ B W, (Cm H Df Dw ps ss B W H' ∧ m' = 2 * (ss.length + ps.length - B.length) + W.length ∧ m' ≤ 400) ∧ ∃ x y z, σ' = [some (.ref pa), some (.ref sa), some (.ref Df), some (.ref Dw), x, y, z], fun σ' H' h => h, ?_⟩
          have hlast : ((W0.concat x).map V.str)[((W0.concat x).map V.str).length - 1]? = some (.str x) := by simp
          have hdrop : ((W0.concat x).map V.str).dropLast = W0.map V.str := by simp
          have hlen : (W0.concat x).length = W0.length + 1 := by simp
          refine ⟨_, rfl, .inl ⟨rfl, _, SqL.of sc.dw⟩, Dw, _, _, rfl, rfl, sc.dw, hlast, ?_⟩
          rw [hdrop]
          have sc2 : Cm H Df Dw ps ss B W0 (upd Hc Dw (.lst (W0.map V.str))) := ⟨Same.mut sc.same hDw0, by
            obtain ⟨kvf, hdf, hpf⟩ := sc.df
            exact ⟨kvf, by rw [upd_ne n1]; exact hdf, dp_tu (TupS.upd sc.dw fun _ z => nomatch z) hpf⟩, upd_same, sc.nd, sc.bd⟩
          have hl1 := sc.len
          refine ⟨_, rfl, pa, rfl, ⟨_, SqL.of (sc2.same pa _ hpa)⟩, for_it (walk_list (K := K)) (fun i σ H4 => ∃ B' W', (Cm H Df Dw ps ss B' W' H4 ∧ 2 * (ss.length + ps.length - B'.length) + W'.length ≤ 2 * (ss.length + ps.length - B.length) + W0.length) ∧ ∃ y z, σ = [some (.ref pa), some (.ref sa), some (.ref Df), some (.ref Dw), some (.str x), y, z])
            ⟨B, W0, ⟨sc2, Nat.le_refl _⟩, _, _, rfl⟩ (fun i σ H4 _ ⟨_, _, h, _⟩ => SqL.of (h.1.same pa _ hpa)) ?_ ?_⟩
          · rintro i y σ H4 H5 hi' ⟨B', W', ⟨sc6, hm6⟩, _, _, rfl⟩ ⟨rfl, hxi⟩
            obtain ⟨⟨b1, b2⟩, hb, q, _, _, rfl, hq, rfl, rfl⟩ := paired_get' (paired_mono (Ext.of sc6.same) hpx) hxi
            obtain ⟨kv6, hdf6, hpf6⟩ := sc6.df
            refine ⟨q, _, rfl, SqT.of hq, rfl, _, _, rfl, _, _, rfl, rfl, ?_⟩
            by_cases e : b1 = x
            · refine ⟨_, rfl, _, rfl, rfl, true, ct (by rw [e]), ?_⟩
              refine iteT ?_
              by_cases hin : b2 ∈ B'.map (·.1)
              · obtain ⟨v, _, _, hg, _⟩ := get_some (.inl hdf6) hpf6 sc6.nd hin
                refine ⟨_, rfl, _, rfl, Df, _, rfl, hg, false, rfl, ?_⟩
                refine iteF ?_
                exact ⟨B', W', ⟨sc6, hm6⟩, _, _, rfl⟩
              · have hg := get_out (.inl hdf6) hpf6 hin
                have hl6 := sc6.len
                have lk6 : kv6.length < sizeLine := by
                  rw [paired_len hpf6, sizeLine_eq]
                  omega
                have ek2 : (B' ++ [(b2, true)]).map (·.1) = B'.map (·.1) ++ [b2] := by rw [List.map_append]; rfl
                have ndn : ((B' ++ [(b2, true)]).map (·.1)).Nodup := by
                  rw [ek2]
                  exact List.nodup_append.mpr ⟨sc6.nd, List.nodup_cons.mpr ⟨List.not_mem_nil, List.nodup_nil⟩, fun x hx y hy => fun z => hin (by rw [List.mem_singleton.mp hy] at z; exact z ▸ hx)⟩
                have bdn : ∀ x ∈ (B' ++ [(b2, true)]).map (·.1), x ∈ ss ++ ps.map (·.2) := by
                  intro x hx
                  rw [ek2] at hx
                  rcases List.mem_append.mp hx with hx | hx
                  · exact sc6.bd x hx
                  · rw [List.mem_singleton.mp hx]
                    exact List.mem_append.mpr (.inr (List.mem_map.mpr ⟨_, List.mem_of_getElem? hb, rfl⟩))
                have hl7 := Mt.nd_le ndn bdn
                rw [List.length_map, List.length_append, List.length_append, List.length_map] at hl7
                have hl7' : B'.length + 1 ≤ ss.length + ps.length := hl7
                refine ⟨_, rfl, _, rfl, Df, _, rfl, hg, true, rfl, ?_⟩
                refine iteT ?_
                refine ⟨_, rfl, _, rfl, Df, _, rfl, DPut.k (k := Sum.inr b2) hdf6 lk6, ?_⟩
                have hdw7 : upd H5 Df (.dK (putK kv6 (Sum.inr b2) (.bl true))) Dw = some (.lst (W'.map V.str)) := by rw [upd_ne n1.symm]; exact sc6.dw
                refine ⟨_, rfl, .inl ⟨rfl, _, SqL.of hdw7⟩, _, rfl, Dw, _, _, rfl, rfl, hdw7, ?_, ?_⟩
                · rw [List.length_map, sizeLine_eq]
                  omega
                · have tu : TupS H5 (upd (upd H5 Df (.dK (putK kv6 (Sum.inr b2) (.bl true)))) Dw (.lst (W'.map V.str ++ [.str b2]))) := (TupS.upd hdf6 fun _ z => nomatch z).trans (TupS.upd hdw7 fun _ z => nomatch z)
                  refine ⟨B' ++ [(b2, true)], W' ++ [b2], ⟨⟨Same.mut (Same.mut sc6.same hDf) hDw0, ⟨_, by rw [upd_ne n1, upd_same], dp_tu tu (dp_snoc (A := rBl) (x := true) hpf6 rfl hin)⟩, by rw [upd_same, List.map_append]; rfl, ndn, bdn⟩, ?_⟩, _, _, rfl⟩
                  rw [List.length_append, List.length_append]
                  show 2 * (ss.length + ps.length - (B'.length + 1)) + (W'.length + 1) ≤ _
                  omega
            · refine ⟨_, rfl, _, rfl, rfl, false, cf (fun z => e (V.str.inj z)), ?_⟩
              refine iteF ?_
              refine iteF ?_
              exact ⟨B', W', ⟨sc6, hm6⟩, _, _, rfl⟩
          · rintro σ H4 ⟨B', W', ⟨sc6, hm6⟩, _, _, rfl⟩
            refine ⟨_, ?_, B', W', ⟨sc6, rfl, ?_⟩, _, _, _, rfl⟩
            · rw [hlen]
              omega
            · rw [hlen] at m4
              omega
/-! ### leading_to, led_from -/
def sp_led : Sp := fun vs H Q _ => ∃ ev lv fv sv E ls L fs f ss, vs = [ev, lv, fv, sv] ∧ rL rEd H ev E ∧ rD rLim H lv (ldict ls L) ∧ ls.Nodup ∧ rD rInt H fv (kdict fs f) ∧ fs.Nodup ∧ (∀ e ∈ E, e.nm ∈ ls ∧ e.nm ∈ fs) ∧ E.length ≤ 60 ∧
  rL rStr H sv ss ∧ ss.length ≤ 24 ∧ ss.Nodup ∧ ∀ B : List (Str × Bool), (B.map (·.1)).Nodup → retD rBl H Q B
theorem ok_leading_to (T : Tx K mg) : FnOk P w K mg base CX0 2 T.a_leading_to T.d_leading_to P_leading_to sp_led := by
  refine T.F_leading_to.ok sc_leading_to (fun vs H Q E h => ?_) (fun cdv A outer s H vs Q E hr h => ⟨_, PSs.nox (pss_cons (ps_setLc (i := 4) (own := [("arc", 5)]) rfl sc_leading_to.nd rfl rfl (sw_true rfl rfl rfl (by decide +kernel)) (pi_list (pe_call (ok_arcs_of T) (hr.mono (by decide)) rfl T.m_arcs_of T.F_arcs_of.kp (b_arcs_of T) .nil pass0 (pa_cons (pv 0) (pa_cons (pv 1) (pa_cons (pv 2) pa_nil))))) (blkOk_by (own := [("arc", 5)]) (N := N_leading_to) (sc := defScope s_leading_to) (by decide +kernel)) (fun _ _ _ _ _ => (pg_name (i := 5) sc_leading_to.nd rfl (Or.inl rfl))) (fun _ _ _ _ _ => pts_nil) (fun _ _ _ _ _ => (pe_tup (pa_cons (pe_ix (ix_tupK (K := K) rfl) (pv 5) pe_int (fun _ _ => rfl)) (pa_cons (pe_ix (ix_tupK (K := K) rfl) (pv 5) pe_int (fun _ _ => rfl)) pa_nil)))))
    (pss_one (ps_ret (pe_call (ok_come_to T) (hr.mono (by decide)) rfl T.m_come_to T.F_come_to.kp (b_come_to T) .nil pass0 (pa_cons (pv 4) (pa_cons (pv 3) pa_nil)))))), ?_⟩)
  · obtain ⟨_, _, _, _, _, _, _, _, _, _, rfl, _⟩ := h
    rfl
  · obtain ⟨ev, lv, fv, sv, E', ls, L, fs, f, ss, rfl, hE, hL, ndl, hF, ndf, hmem, e60, hS, s24, nds, k⟩ := h
    refine ⟨_, rfl, _, rfl, _, rfl, ev, lv, fv, E', ls, L, fs, f, rfl, hE, hL, ndl, hF, ndf, hmem, e60, fun p H1 xs hp s1 e1 hx => ?_⟩
    have hal := arcs_len E' L f
    refine ⟨p, rfl, ⟨_, SqL.of e1⟩, fun D hD => lc_gen (A := rP rStr rStr) (B := rArc) (walk_list (K := K)) (arcs E' L f) (paired_len hx).symm ?_ hD (src_k e1) (src_y hx) (fun _ => true) (fun a => (a.dst, a.src)) ?_ ?_⟩
    · rw [paired_len hx, sizeLine_eq]
      omega
    · rintro i a x H' hb s2 ⟨q, rfl, hq⟩ Ks Kc kt _
      refine ⟨rfl, yesT (iteT ?_)⟩
      refine ⟨_, rfl, q, _, _, _, rfl, rfl, SqT.of hq, atI_nat (j := 1) rfl, _, rfl, q, _, _, _, rfl, rfl, SqT.of hq, atI_nat (j := 0) rfl, (by show 2 ≤ sizeLine; decide), fun t ht => ?_⟩
      exact kt _ _ (Same.new ht) ⟨t, _, _, rfl, upd_same, rfl, rfl⟩ rfl
    · intro H2 ys s2 hD2 hp2
      rw [filt_true] at hp2
      have s12 := s1.trans s2
      refine ⟨_, rfl, _, rfl, .ref D, sv, _, ss, rfl, ⟨D, ys, rfl, hD2, hp2⟩, Mono.same s12 hS, by rw [List.length_map]; omega, s24, nds, fun B hB p3 H3 ks3 hp3 s3 e3 hk3 => ?_⟩
      refine k B hB p3 H3 ks3 ?_ (s12.trans s3) e3 hk3
      cases z : H p3 with
      | none => rfl
      | some u => rw [s12 p3 u z] at hp3; cases hp3
theorem ok_led_from (T : Tx K mg) : FnOk P w K mg base CX0 2 T.a_led_from T.d_led_from P_led_from sp_led := by
  refine T.F_led_from.ok sc_led_from (fun vs H Q E h => ?_) (fun cdv A outer s H vs Q E hr h => ⟨_, PSs.nox (pss_cons (ps_setLc (i := 4) (own := [("arc", 5)]) rfl sc_led_from.nd rfl rfl (sw_true rfl rfl rfl (by decide +kernel)) (pi_list (pe_call (ok_arcs_of T) (hr.mono (by decide)) rfl T.m_arcs_of T.F_arcs_of.kp (b_arcs_of T) .nil pass0 (pa_cons (pv 0) (pa_cons (pv 1) (pa_cons (pv 2) pa_nil))))) (blkOk_by (own := [("arc", 5)]) (N := N_led_from) (sc := defScope s_led_from) (by decide +kernel)) (fun _ _ _ _ _ => (pg_name (i := 5) sc_led_from.nd rfl (Or.inl rfl))) (fun _ _ _ _ _ => pts_nil) (fun _ _ _ _ _ => (pe_tup (pa_cons (pe_ix (ix_tupK (K := K) rfl) (pv 5) pe_int (fun _ _ => rfl)) (pa_cons (pe_ix (ix_tupK (K := K) rfl) (pv 5) pe_int (fun _ _ => rfl)) pa_nil)))))
    (pss_one (ps_ret (pe_call (ok_come_to T) (hr.mono (by decide)) rfl T.m_come_to T.F_come_to.kp (b_come_to T) .nil pass0 (pa_cons (pv 4) (pa_cons (pv 3) pa_nil)))))), ?_⟩)
  · obtain ⟨_, _, _, _, _, _, _, _, _, _, rfl, _⟩ := h
    rfl
  · obtain ⟨ev, lv, fv, sv, E', ls, L, fs, f, ss, rfl, hE, hL, ndl, hF, ndf, hmem, e60, hS, s24, nds, k⟩ := h
    refine ⟨_, rfl, _, rfl, _, rfl, ev, lv, fv, E', ls, L, fs, f, rfl, hE, hL, ndl, hF, ndf, hmem, e60, fun p H1 xs hp s1 e1 hx => ?_⟩
    have hal := arcs_len E' L f
    refine ⟨p, rfl, ⟨_, SqL.of e1⟩, fun D hD => lc_gen (A := rP rStr rStr) (B := rArc) (walk_list (K := K)) (arcs E' L f) (paired_len hx).symm ?_ hD (src_k e1) (src_y hx) (fun _ => true) (fun a => (a.src, a.dst)) ?_ ?_⟩
    · rw [paired_len hx, sizeLine_eq]
      omega
    · rintro i a x H' hb s2 ⟨q, rfl, hq⟩ Ks Kc kt _
      refine ⟨rfl, yesT (iteT ?_)⟩
      refine ⟨_, rfl, q, _, _, _, rfl, rfl, SqT.of hq, atI_nat (j := 0) rfl, _, rfl, q, _, _, _, rfl, rfl, SqT.of hq, atI_nat (j := 1) rfl, (by show 2 ≤ sizeLine; decide), fun t ht => ?_⟩
      exact kt _ _ (Same.new ht) ⟨t, _, _, rfl, upd_same, rfl, rfl⟩ rfl
    · intro H2 ys s2 hD2 hp2
      rw [filt_true] at hp2
      have s12 := s1.trans s2
      refine ⟨_, rfl, _, rfl, .ref D, sv, _, ss, rfl, ⟨D, ys, rfl, hD2, hp2⟩, Mono.same s12 hS, by rw [List.length_map]; omega, s24, nds, fun B hB p3 H3 ks3 hp3 s3 e3 hk3 => ?_⟩
      refine k B hB p3 H3 ks3 ?_ (s12.trans s3) e3 hk3
      cases z : H p3 with
      | none => rfl
      | some u => rw [s12 p3 u z] at hp3; cases hp3
end
end Mx

set_option Elab.async false
set_option linter.all false
set_option maxRecDepth 100000
set_option maxHeartbeats 4000000
/-! Missing, Range, Course made; check_readings, limits_of. -/
namespace Mx
open PySem PySem.Spec PyProof.Rows L2
/-- all but the object at p stays, and p is an instance -/
theorem lk_put {f g : Str} {v : V} {fs : List (Str × V)} (h : ¬ g = f) {r : Option V} (q : fs.lookup g = r) : (putF f v fs).lookup g = r := by rw [lookup_putF, if_neg h, q]
theorem lk_same {f : Str} {v : V} {fs : List (Str × V)} : (putF f v fs).lookup f = some v := by rw [lookup_putF, if_pos rfl]
/-- what is missing: the number and the flows -/
def rMi (C : Addr) : Rep (Int × List (Str × Int)) := fun H v x => ∃ p dx fs fv, v = .ref p ∧ H p = some (.ins C dx fs) ∧ fs.lookup ("number" : Str) = some (.int x.1) ∧ fs.lookup ("flows" : Str) = some fv ∧ rD rInt H fv x.2
def rRa (C : Addr) : Rep (Int × Int) := fun H v x => ∃ p dx fs, v = .ref p ∧ H p = some (.ins C dx fs) ∧ fs.lookup ("low" : Str) = some (.int x.1) ∧ fs.lookup ("high" : Str) = some (.int x.2)
def rCo (C : Addr) : Rep (List (List (Str × Int)) × List (List (Str × Int))) := fun H v x => ∃ p dx fs fv sv, v = .ref p ∧ H p = some (.ins C dx fs) ∧ fs.lookup ("flows" : Str) = some fv ∧ fs.lookup ("stocks" : Str) = some sv ∧ rL (rD rInt) H fv x.1 ∧ rL (rD rInt) H sv x.2
instance (C : Addr) : Mono (rMi C) := ⟨fun e ⟨p, dx, fs, fv, h1, h2, h3, h4, h5⟩ => ⟨p, dx, fs, fv, h1, e.ins p _ _ _ h2, h3, h4, Mono.mono e h5⟩⟩
instance (C : Addr) : Mono (rRa C) := ⟨fun e ⟨p, dx, fs, h1, h2, h3, h4⟩ => ⟨p, dx, fs, h1, e.ins p _ _ _ h2, h3, h4⟩⟩
instance (C : Addr) : Mono (rCo C) := ⟨fun e ⟨p, dx, fs, fv, sv, h1, h2, h3, h4, h5, h6⟩ => ⟨p, dx, fs, fv, sv, h1, e.ins p _ _ _ h2, h3, h4, Mono.mono e h5, Mono.mono e h6⟩⟩
/-- while the fields of a new instance at p are set: what was there stays -/
structure Mk1 (H : Hp) (p C dx : Addr) (fs : List (Str × V)) (H' : Hp) : Prop where
  old : ∀ b o, b ≠ p → H b = some o → H' b = some o
  new : H' p = some (.ins C dx fs)
theorem Mk1.start {H : Hp} {p C dx : Addr} (h : H p = some (.ins C dx [])) : Mk1 H p C dx [] H := ⟨fun _ _ _ h => h, h⟩
theorem Mk1.set {H : Hp} {p C dx : Addr} {fs : List (Str × V)} {H' : Hp} (m : Mk1 H p C dx fs H') (f : Str) (v : V) : Mk1 H p C dx (putF f v fs) (upd H' p (.ins C dx (putF f v fs))) := ⟨fun b o n h => by rw [upd_ne n]; exact m.old b o n h, upd_same⟩
theorem Mk1.alloc {H : Hp} {p C dx : Addr} {fs : List (Str × V)} {H' : Hp} (m : Mk1 H p C dx fs H') {q : Addr} {o : HO} (h : H' q = none) : Mk1 H p C dx fs (upd H' q o) := ⟨fun b u n e => Same.new h b u (m.old b u n e), Same.new h p _ m.new⟩
theorem Mk1.grow {H : Hp} {p C dx : Addr} {fs : List (Str × V)} {H' H2 : Hp} (m : Mk1 H p C dx fs H') (s : Same H' H2) : Mk1 H p C dx fs H2 := ⟨fun b u n e => s b u (m.old b u n e), s p _ m.new⟩
/-- what p does not carry: dicts and lists of dicts, lists of texts -/
theorem Mk1.rd {α : Type} {A : Rep α} [Tu A] {H : Hp} {p C dx : Addr} {fs : List (Str × V)} {H' : Hp} (m : Mk1 H p C dx fs H') {f0 : List (Str × V)} (h0 : H p = some (.ins C dx f0)) {v : V} {l : List (Str × α)} (h : rD A H v l) : rD A H' v l := by
  obtain ⟨q, ks, e, hq, hk⟩ := h
  refine ⟨q, ks, e, ?_, dp_tu (fun a xs e => m.old a _ (ne_of e h0 (by intro z; cases z)) e) hk⟩
  rcases hq with hq | ⟨o, hq⟩
  · exact .inl (m.old q _ (ne_of hq h0 (by intro z; cases z)) hq)
  · exact .inr ⟨o, m.old q _ (ne_of hq h0 (by intro z; cases z)) hq⟩
theorem Mk1.rls {H : Hp} {p C dx : Addr} {fs : List (Str × V)} {H' : Hp} (m : Mk1 H p C dx fs H') {f0 : List (Str × V)} (h0 : H p = some (.ins C dx f0)) {v : V} {l : List Str} (h : rL rStr H v l) : rL rStr H' v l := by
  obtain ⟨q, xs, e, hq, hk⟩ := h
  exact ⟨q, xs, e, m.old q _ (ne_of hq h0 (by intro z; cases z)) hq, paired_tu (fun a xs e => m.old a _ (ne_of e h0 (by intro z; cases z)) e) hk⟩
theorem Mk1.rld {H : Hp} {p C dx : Addr} {fs : List (Str × V)} {H' : Hp} (m : Mk1 H p C dx fs H') {f0 : List (Str × V)} (h0 : H p = some (.ins C dx f0)) {v : V} {l : List (List (Str × Int))} (h : rL (rD rInt) H v l) : rL (rD rInt) H' v l := by
  obtain ⟨q, xs, e, hq, hk⟩ := h
  refine ⟨q, xs, e, m.old q _ (ne_of hq h0 (by intro z; cases z)) hq, ?_⟩
  have go : ∀ {xs : List V} {l : List (List (Str × Int))}, Paired (rD rInt H) xs l → Paired (rD rInt H') xs l := by
    intro xs l h
    induction h with
    | nil => exact .nil
    | cons a t ih => exact .cons (m.rd h0 a) ih
  exact go hk
section
variable {P : Program} {w : World} {K : PySem.W.Frag} {mg : Str → Option Value} {base : Heap}
def sp_Missing (C : Addr) : Sp := fun vs H Q _ => ∃ p dx n fv lv gv fl l g, vs = [.ref p, .int n, fv, lv, gv] ∧ H p = some (.ins C dx []) ∧ rD rInt H fv fl ∧ rL rStr H lv l ∧ rL rStr H gv g ∧
  ∀ H', rMi C H' (.ref p) (n, fl) → (∀ b o, b ≠ p → H b = some o → H' b = some o) → Q .non H'
theorem ok_Missing_init (T : Tx K mg) : FnOk P w K mg base CX0 1 T.a_Missing_init T.d_Missing_init P_Missing_init (sp_Missing T.C_Missing) := by
  refine T.F_Missing_init.ok sc_Missing_init (fun vs H Q E h => ?_) (fun cdv A outer s H vs Q E hr h => ⟨_, PSs.nox (pss_cons (ps_fld (pv 0) (pv 1) rfl)
    (pss_cons (ps_fld (pv 0) (pe_callTy call_dictD (by rfl) T.n_dict (by decide +kernel) (pa_cons (pv 2) pa_nil)) rfl)
    (pss_cons (ps_fld (pv 0) (pe_callTy call_list_of (by rfl) T.n_list (by decide +kernel) (pa_cons (pv 3) pa_nil)) rfl)
    (pss_one (ps_fld (pv 0) (pe_callTy call_list_of (by rfl) T.n_list (by decide +kernel) (pa_cons (pv 4) pa_nil)) rfl))))), ?_⟩)
  · obtain ⟨_, _, _, _, _, _, _, _, _, rfl, _⟩ := h
    rfl
  · obtain ⟨p, dx, n, fv, lv, gv, fl, l, g, rfl, hi, hf, hl, hg, k⟩ := h
    have m0 := Mk1.start hi
    refine ⟨_, rfl, _, rfl, p, _, dx, _, rfl, m0.new, T.c_Missing, T.f_Missing_number, by decide, ?_⟩
    have m1 := m0.set "number" (.int n)
    obtain ⟨fa, fks, rfl, hfa, hfk⟩ := m1.rd hi hf
    refine ⟨_, rfl, fa, fks, rfl, hfa, fun pd hpd => ?_⟩
    have m2 := m1.alloc (o := .dK fks) hpd
    refine ⟨_, rfl, p, _, dx, _, rfl, m2.new, T.c_Missing, T.f_Missing_flows, (by show 1 < 1000; decide), ?_⟩
    have m3 := m2.set "flows" (.ref pd)
    obtain ⟨la, lxs, rfl, hla, hlx⟩ := m3.rls hi hl
    refine ⟨_, rfl, la, _, rfl, .inl (SqL.of hla), fun p1 hp1 => ?_⟩
    have m4 := m3.alloc (o := .lst lxs) hp1
    refine ⟨_, rfl, p, _, dx, _, rfl, m4.new, T.c_Missing, T.f_Missing_least, (by show 2 < 1000; decide), ?_⟩
    have m5 := m4.set "least" (.ref p1)
    obtain ⟨ga, gxs, rfl, hga, hgx⟩ := m5.rls hi hg
    refine ⟨_, rfl, ga, _, rfl, .inl (SqL.of hga), fun p2 hp2 => ?_⟩
    have m6 := m5.alloc (o := .lst gxs) hp2
    refine ⟨_, rfl, p, _, dx, _, rfl, m6.new, T.c_Missing, T.f_Missing_greatest, (by show 3 < 1000; decide), ?_⟩
    have m7 := m6.set "greatest" (.ref p2)
    have npd : pd ≠ p := fun z => by rw [z, m1.new] at hpd; cases hpd
    refine k _ ⟨p, dx, _, .ref pd, rfl, m7.new, lk_put (by decide +kernel) (lk_put (by decide +kernel) (lk_put (by decide +kernel) lk_same)), lk_put (by decide +kernel) (lk_put (by decide +kernel) lk_same), pd, fks, rfl, .inl ?_, ?_⟩ m7.old
    · have q0 : upd (upd H p (.ins T.C_Missing dx (putF "number" (.int n) []))) pd (.dK fks) pd = some (.dK fks) := upd_same
      have s3 := q0
      have st : ∀ (G : Hp) (fs : List (Str × V)), G pd = some (.dK fks) → upd G p (.ins T.C_Missing dx fs) pd = some (.dK fks) := fun G fs e => by rw [upd_ne npd]; exact e
      exact st _ _ (Same.new hp2 pd _ (st _ _ (Same.new hp1 pd _ (st _ _ q0))))
    · obtain ⟨_, _, e, _, hk0⟩ := m7.rd hi hf
      exact dp_tu (fun a xs e => by
        have m7' := m7
        have na : a ≠ p := ne_of e m1.new (by intro z; cases z)
        have st : ∀ (G : Hp) (fs : List (Str × V)), G a = some (.tup xs) → upd G p (.ins T.C_Missing dx fs) a = some (.tup xs) := fun G fs e => by rw [upd_ne na]; exact e
        exact st _ _ (Same.new hp2 a _ (st _ _ (Same.new hp1 a _ (st _ _ (Same.new hpd a _ e)))))) hfk
end
end Mx

set_option Elab.async false
set_option linter.all false
set_option maxRecDepth 100000
set_option maxHeartbeats 4000000
/-! Range, Course made; check_readings, limits_of. -/
namespace Mx
open PySem PySem.Spec PyProof.Rows L2
/-- what stays at addresses other than that of the new instance, through a chain of changes -/
theorem Mk1.at {H : Hp} {p C dx : Addr} {fs : List (Str × V)} {H' : Hp} (m : Mk1 H p C dx fs H') : ∀ {b : Addr} {o : HO}, H b = some o → b ≠ p → H' b = some o := fun e n => m.old _ _ n e
def rdg {α : Type} (R : List (Str × α)) (k : Str) : Option α := (R.find? fun r => decide (r.1 = k)).map (·.2)
theorem rdg_some {α : Type} {R : List (Str × α)} {k : Str} {x : α} (h : rdg R k = some x) : (k, x) ∈ R := by
  unfold rdg at h
  cases q : R.find? (fun r => decide (r.1 = k)) with
  | none => rw [q] at h; cases h
  | some r =>
    rw [q] at h
    have h1 := List.mem_of_find?_eq_some q
    have h2 : r.1 = k := of_decide_eq_true (List.find?_some (p := fun r : Str × α => decide (r.1 = k)) q)
    have h3 : r.2 = x := Option.some.inj h
    rw [← h2, ← h3]
    exact h1
theorem rdg_none {α : Type} {R : List (Str × α)} {k : Str} (h : rdg R k = none) : k ∉ R.map (·.1) := fun hm => by
  obtain ⟨r, hr, e⟩ := List.mem_map.mp hm
  unfold rdg at h
  cases q : R.find? (fun r => decide (r.1 = k)) with
  | none =>
    have := List.find?_eq_none.mp q r hr
    rw [decide_eq_true e] at this
    exact this rfl
  | some r => rw [q] at h; cases h
def limS (R : List (Str × (Int × Int))) (s : Sm) : Int × Int := match rdg R s.nm with
  | none => (s.lo, s.hi)
  | some x => (if x.1 - x.2 > s.lo then x.1 - x.2 else s.lo, if x.1 + x.2 < s.hi then x.1 + x.2 else s.hi)
def Pl.at (P : Pl) (n : Str) : Option Sm := P.st.find? fun s => decide (s.nm = n)
def limN (P : Pl) (R : List (Str × (Int × Int))) (n : Str) : Int × Int := match P.at n with
  | none => (0, 0)
  | some s => limS R s
theorem Pl.at_eq {P : Pl} (nd : P.names.Nodup) {s : Sm} (h : s ∈ P.st) : P.at s.nm = some s := by
  unfold Pl.at
  cases q : P.st.find? (fun t => decide (t.nm = s.nm)) with
  | none =>
    have := List.find?_eq_none.mp q s h
    rw [decide_eq_true rfl] at this
    exact (this rfl).elim
  | some t =>
    have h1 := List.mem_of_find?_eq_some q
    have h2 : t.nm = s.nm := of_decide_eq_true (List.find?_some (p := fun t : Sm => decide (t.nm = s.nm)) q)
    obtain ⟨i, hi⟩ := List.getElem?_of_mem h1
    obtain ⟨j, hj⟩ := List.getElem?_of_mem h
    have := nm_inj nd hi hj h2
    subst this
    rw [hi] at hj
    exact hj
theorem limN_eq {P : Pl} (nd : P.names.Nodup) (R : List (Str × (Int × Int))) {s : Sm} (h : s ∈ P.st) : limN P R s.nm = limS R s := by
  unfold limN
  rw [Pl.at_eq nd h]
theorem lims_eq {P : Pl} (nd : P.names.Nodup) (R : List (Str × (Int × Int))) : (P.st.map fun s => (s.nm, limS R s)) = ldict P.names (limN P R) := by
  unfold ldict Pl.names
  rw [List.map_map]
  refine List.map_congr_left fun s hs => ?_
  show (s.nm, limS R s) = (s.nm, limN P R s.nm)
  rw [limN_eq nd R hs]
structure Li (H0 : Hp) (D l2 : Addr) (xs2 : List V) (P : Pl) (R : List (Str × (Int × Int))) (i : Nat) (H : Hp) : Prop where
  same : Same H0 H
  d : ∃ fks, H D = some (.dK fks) ∧ DPr rLim H fks ((P.st.take i).map fun s => (s.nm, limS R s))
  src : H l2 = some (.lst xs2)
  its : Paired (rSm H) xs2 P.st
theorem Li.step {H0 : Hp} {D l2 : Addr} {xs2 : List V} {P : Pl} {R : List (Str × (Int × Int))} {i : Nat} {H : Hp} (h : Li H0 D l2 xs2 P R i H) (hD : H0 D = none) (nd : P.names.Nodup) {s : Sm} (hs : P.st[i]? = some s) {t : Addr} (ht : H t = none) {lo hi : Int} (e : (lo, hi) = limS R s) {fks : List (Key × V)} (hf : H D = some (.dK fks)) :
    Li H0 D l2 xs2 P R (i + 1) (upd (upd H t (.tup [.int lo, .int hi])) D (.dK (putK fks (Sum.inr s.nm) (.ref t)))) := by
  obtain ⟨fks', hf', hp⟩ := h.d
  rw [hf] at hf'
  cases hf'
  have nt : t ≠ D := fun z => by rw [z, hf] at ht; cases ht
  have h1 : upd H t (.tup [.int lo, .int hi]) D = some (.dK fks) := Same.new ht D _ hf
  have tu : TupS H (upd (upd H t (.tup [.int lo, .int hi])) D (.dK (putK fks (Sum.inr s.nm) (.ref t)))) := (TupS.of (Same.new ht)).trans (TupS.upd h1 fun _ z => nomatch z)
  have nl : l2 ≠ D := ne_of h.src hf (by intro z; cases z)
  have et : P.st.take (i + 1) = P.st.take i ++ [s] := by
    rw [List.take_add_one, hs]
    rfl
  refine ⟨Same.mut (h.same.trans (Same.new ht)) hD, ⟨_, upd_same, ?_⟩, by rw [upd_ne nl]; exact Same.new ht l2 _ h.src, paired_tu tu h.its⟩
  rw [et, List.map_append]
  refine dp_snoc (A := rLim) (x := limS R s) (dp_tu tu hp) ⟨t, .int lo, .int hi, rfl, by rw [upd_ne nt, upd_same], ?_, ?_⟩ ?_
  · rw [← e]
    rfl
  · rw [← e]
    rfl
  · rw [List.map_map]
    intro hm
    have hm' : s.nm ∈ (P.st.take i).map (·.nm) := hm
    have hnd : ((P.st.take (i + 1)).map (·.nm)).Nodup := nd.sublist ((List.take_sublist _ _).map _)
    rw [et, List.map_append] at hnd
    exact (List.nodup_append.mp hnd).2.2 _ hm' _ List.mem_cons_self rfl
section
variable {P : Program} {w : World} {K : PySem.W.Frag} {mg : Str → Option Value} {base : Heap}
def sp_Range (C : Addr) : Sp := fun vs H Q _ => ∃ p dx lo hi lfv hfv llv hlv lf hf ll hl, vs = [.ref p, .int lo, .int hi, lfv, hfv, llv, hlv] ∧ H p = some (.ins C dx []) ∧ rD rInt H lfv lf ∧ rD rInt H hfv hf ∧ rOpt (rL rStr) H llv ll ∧ rOpt (rL rStr) H hlv hl ∧
  ∀ H', rRa C H' (.ref p) (lo, hi) → (∀ b o, b ≠ p → H b = some o → H' b = some o) → Q .non H'
theorem Mk1.opt {H : Hp} {p C dx : Addr} {fs : List (Str × V)} {H' : Hp} (m : Mk1 H p C dx fs H') {f0 : List (Str × V)} (h0 : H p = some (.ins C dx f0)) {v : V} {l : Option (List Str)} (h : rOpt (rL rStr) H v l) : rOpt (rL rStr) H' v l := by
  cases l with
  | none => exact h
  | some l => exact m.rls h0 (l := l) h
theorem ok_Range_init (T : Tx K mg) : FnOk P w K mg base CX0 1 T.a_Range_init T.d_Range_init P_Range_init (sp_Range T.C_Range) := by
  refine T.F_Range_init.ok sc_Range_init (fun vs H Q E h => ?_) (fun cdv A outer s H vs Q E hr h => ⟨_, PSs.nox (pss_cons (ps_fld (pv 0) (pv 1) rfl)
    (pss_cons (ps_fld (pv 0) (pv 2) rfl)
    (pss_cons (ps_fld (pv 0) (pe_callTy call_dictD (by rfl) T.n_dict (by decide +kernel) (pa_cons (pv 3) pa_nil)) rfl)
    (pss_cons (ps_fld (pv 0) (pe_callTy call_dictD (by rfl) T.n_dict (by decide +kernel) (pa_cons (pv 4) pa_nil)) rfl)
    (pss_cons (ps_fld (pv 0) (pe_ifExp (pt_cmp (pc_isN (pv 5))) pe_non (pe_callTy call_list_of (by rfl) T.n_list (by decide +kernel) (pa_cons (pv 5) pa_nil))) rfl)
    (pss_one (ps_fld (pv 0) (pe_ifExp (pt_cmp (pc_isN (pv 6))) pe_non (pe_callTy call_list_of (by rfl) T.n_list (by decide +kernel) (pa_cons (pv 6) pa_nil))) rfl))))))), ?_⟩)
  · obtain ⟨_, _, _, _, _, _, _, _, _, _, _, _, rfl, _⟩ := h
    rfl
  · obtain ⟨p, dx, lo, hi', lfv, hfv, llv, hlv, lf, hf, ll, hl, rfl, hi, hlf, hhf, hll, hhl, k⟩ := h
    have m0 := Mk1.start hi
    refine ⟨_, rfl, _, rfl, p, _, dx, _, rfl, m0.new, T.c_Range, T.f_Range_low, by decide, ?_⟩
    have m1 := m0.set "low" (.int lo)
    refine ⟨_, rfl, _, rfl, p, _, dx, _, rfl, m1.new, T.c_Range, T.f_Range_high, (by show 1 < 1000; decide), ?_⟩
    have m2 := m1.set "high" (.int hi')
    obtain ⟨fa, fks, rfl, hfa, hfk⟩ := m2.rd hi hlf
    refine ⟨_, rfl, fa, fks, rfl, hfa, fun pd hpd => ?_⟩
    have m3 := m2.alloc (o := .dK fks) hpd
    refine ⟨_, rfl, p, _, dx, _, rfl, m3.new, T.c_Range, T.f_Range_low_flows, (by show 2 < 1000; decide), ?_⟩
    have m4 := m3.set "low_flows" (.ref pd)
    obtain ⟨fb, gks, rfl, hfb, hgk⟩ := m4.rd hi hhf
    refine ⟨_, rfl, fb, gks, rfl, hfb, fun pe hpe => ?_⟩
    have m5 := m4.alloc (o := .dK gks) hpe
    refine ⟨_, rfl, p, _, dx, _, rfl, m5.new, T.c_Range, T.f_Range_high_flows, (by show 3 < 1000; decide), ?_⟩
    have m6 := m5.set "high_flows" (.ref pe)
    have last : ∀ (G : Hp) (fs : List (Str × V)) (z : V), Mk1 H p T.C_Range dx fs G → fs.lookup ("low" : Str) = some (.int lo) → fs.lookup ("high" : Str) = some (.int hi') → Q .non (upd G p (.ins T.C_Range dx (putF "high_lot" z fs))) := fun G fs z m q1 q2 =>
      k _ ⟨p, dx, _, rfl, upd_same, lk_put (by decide +kernel) q1, lk_put (by decide +kernel) q2⟩ (m.set "high_lot" z).old
    have l6 : (putF "high_flows" (.ref pe) (putF "low_flows" (.ref pd) (putF "high" (.int hi') (putF "low" (.int lo) [])))).lookup ("low" : Str) = some (.int lo) := lk_put (by decide +kernel) (lk_put (by decide +kernel) (lk_put (by decide +kernel) lk_same))
    have h6 : (putF "high_flows" (.ref pe) (putF "low_flows" (.ref pd) (putF "high" (.int hi') (putF "low" (.int lo) [])))).lookup ("high" : Str) = some (.int hi') := lk_put (by decide +kernel) (lk_put (by decide +kernel) lk_same)
    cases ll with
    | none =>
      have e1 : llv = .non := hll
      subst e1
      refine ⟨_, rfl, true, rfl, ?_⟩
      refine iteT ?_
      refine ⟨_, rfl, p, _, dx, _, rfl, m6.new, T.c_Range, T.f_Range_low_lot, (by show 4 < 1000; decide), ?_⟩
      have m7 := m6.set "low_lot" .non
      cases hl with
      | none =>
        have e2 : hlv = .non := hhl
        subst e2
        refine ⟨_, rfl, true, rfl, ?_⟩
        refine iteT ?_
        refine ⟨_, rfl, p, _, dx, _, rfl, m7.new, T.c_Range, T.f_Range_high_lot, (by show 5 < 1000; decide), ?_⟩
        exact last _ _ _ m7 (lk_put (by decide +kernel) l6) (lk_put (by decide +kernel) h6)
      | some hl =>
        obtain ⟨ga, gxs, rfl, hga, hgx⟩ := m7.opt hi hhl
        refine ⟨_, rfl, false, rfl, ?_⟩
        refine iteF ?_
        refine ⟨_, rfl, ga, _, rfl, .inl (SqL.of hga), fun p2 hp2 => ?_⟩
        have m8 := m7.alloc (o := .lst gxs) hp2
        refine ⟨_, rfl, p, _, dx, _, rfl, m8.new, T.c_Range, T.f_Range_high_lot, (by show 5 < 1000; decide), ?_⟩
        exact last _ _ _ m8 (lk_put (by decide +kernel) l6) (lk_put (by decide +kernel) h6)
    | some ll =>
      obtain ⟨ga, gxs, rfl, hga, hgx⟩ := m6.opt hi hll
      refine ⟨_, rfl, false, rfl, ?_⟩
      refine iteF ?_
      refine ⟨_, rfl, ga, _, rfl, .inl (SqL.of hga), fun p2 hp2 => ?_⟩
      have m7 := m6.alloc (o := .lst gxs) hp2
      refine ⟨_, rfl, p, _, dx, _, rfl, m7.new, T.c_Range, T.f_Range_low_lot, (by show 4 < 1000; decide), ?_⟩
      have m8 := m7.set "low_lot" (.ref p2)
      cases hl with
      | none =>
        have e2 : hlv = .non := hhl
        subst e2
        refine ⟨_, rfl, true, rfl, ?_⟩
        refine iteT ?_
        refine ⟨_, rfl, p, _, dx, _, rfl, m8.new, T.c_Range, T.f_Range_high_lot, (by show 5 < 1000; decide), ?_⟩
        exact last _ _ _ m8 (lk_put (by decide +kernel) l6) (lk_put (by decide +kernel) h6)
      | some hl =>
        obtain ⟨gb, gys, rfl, hgb, hgy⟩ := m8.opt hi hhl
        refine ⟨_, rfl, false, rfl, ?_⟩
        refine iteF ?_
        refine ⟨_, rfl, gb, _, rfl, .inl (SqL.of hgb), fun p3 hp3 => ?_⟩
        have m9 := m8.alloc (o := .lst gys) hp3
        refine ⟨_, rfl, p, _, dx, _, rfl, m9.new, T.c_Range, T.f_Range_high_lot, (by show 5 < 1000; decide), ?_⟩
        exact last _ _ _ m9 (lk_put (by decide +kernel) l6) (lk_put (by decide +kernel) h6)
def sp_Course (C : Addr) : Sp := fun vs H Q _ => ∃ p dx fv sv fl sl, vs = [.ref p, fv, sv] ∧ H p = some (.ins C dx []) ∧ rL (rD rInt) H fv fl ∧ rL (rD rInt) H sv sl ∧ fl.length ≤ 10 ∧ sl.length ≤ 10 ∧
  ∀ H', rCo C H' (.ref p) (fl, sl) → (∀ b o, b ≠ p → H b = some o → H' b = some o) → Q .non H'
theorem ok_Course_init (T : Tx K mg) : FnOk P w K mg base CX0 1 T.a_Course_init T.d_Course_init P_Course_init (sp_Course T.C_Course) := by
  refine T.F_Course_init.ok sc_Course_init (fun vs H Q E h => ?_) (fun cdv A outer s H vs Q E hr h => ⟨_, PSs.nox (pss_cons (ps_fld (pv 0) (pe_lc (own := [("day", 3)]) rfl sc_Course_init.nd (pi_list (pv 1)) (blkOk_by (own := [("day", 3)]) (N := N_Course_init) (sc := defScope s_Course_init) (by decide +kernel)) (fun _ _ _ _ _ => (pg_name (i := 3) sc_Course_init.nd rfl (Or.inl rfl))) (fun _ _ _ _ _ => pts_nil) (fun _ _ _ _ _ => (pe_callTy call_dictD (by rfl) T.n_dict (by decide +kernel) (pa_cons (pv 3) pa_nil)))) rfl)
    (pss_one (ps_fld (pv 0) (pe_lc (own := [("evening", 4)]) rfl sc_Course_init.nd (pi_list (pv 2)) (blkOk_by (own := [("evening", 4)]) (N := N_Course_init) (sc := defScope s_Course_init) (by decide +kernel)) (fun _ _ _ _ _ => (pg_name (i := 4) sc_Course_init.nd rfl (Or.inl rfl))) (fun _ _ _ _ _ => pts_nil) (fun _ _ _ _ _ => (pe_callTy call_dictD (by rfl) T.n_dict (by decide +kernel) (pa_cons (pv 4) pa_nil)))) rfl))), ?_⟩)
  · obtain ⟨_, _, _, _, _, _, rfl, _⟩ := h
    rfl
  · obtain ⟨p, dx, fv, sv, fl, sl, rfl, hi, ⟨fa, fxs, rfl, hfa, hfx⟩, ⟨sa, sxs, rfl, hsa, hsx⟩, f10, s10, k⟩ := h
    have m0 := Mk1.start hi
    refine ⟨_, rfl, fa, rfl, ⟨_, SqL.of hfa⟩, fun D hD => lc_gen (A := rD rInt) (B := rD rInt) (walk_list (K := K)) fl (paired_len hfx).symm ?_ hD (src_k hfa) (src_y hfx) (fun _ => true) (fun b => b) ?_ ?_⟩
    · rw [paired_len hfx]
      exact Nat.lt_of_le_of_lt f10 (by decide)
    · rintro i b x H' hb s2 ⟨q, ks, rfl, hq, hk⟩ Ks Kc kt _
      refine ⟨rfl, yesT (iteT ?_)⟩
      refine ⟨_, rfl, q, ks, rfl, hq, fun pd hpd => ?_⟩
      exact kt _ _ (Same.new hpd) ⟨pd, ks, rfl, .inl upd_same, dp_tu (TupS.of (Same.new hpd)) hk⟩ rfl
    · intro H2 ys s2 hD2 hp2
      rw [filt_true, List.map_id'] at hp2
      have m1 := m0.grow s2
      refine ⟨_, rfl, p, _, dx, _, rfl, m1.new, T.c_Course, T.f_Course_flows, by decide, ?_⟩
      have m2 := m1.set "flows" (.ref D)
      obtain ⟨_, _, e, hsa2, hsx2⟩ := m2.rld hi ⟨sa, sxs, rfl, hsa, hsx⟩
      cases e
      refine ⟨_, rfl, sa, rfl, ⟨_, SqL.of hsa2⟩, fun D2 hD2' => lc_gen (A := rD rInt) (B := rD rInt) (walk_list (K := K)) sl (paired_len hsx2).symm ?_ hD2' (src_k hsa2) (src_y hsx2) (fun _ => true) (fun b => b) ?_ ?_⟩
      · rw [paired_len hsx2]
        exact Nat.lt_of_le_of_lt s10 (by decide)
      · rintro i b x H' hb s2 ⟨q, ks, rfl, hq, hk⟩ Ks Kc kt _
        refine ⟨rfl, yesT (iteT ?_)⟩
        refine ⟨_, rfl, q, ks, rfl, hq, fun pd hpd => ?_⟩
        exact kt _ _ (Same.new hpd) ⟨pd, ks, rfl, .inl upd_same, dp_tu (TupS.of (Same.new hpd)) hk⟩ rfl
      · intro H4 zs s4 hD4 hp4
        rw [filt_true, List.map_id'] at hp4
        have m3 := m2.grow s4
        refine ⟨_, rfl, p, _, dx, _, rfl, m3.new, T.c_Course, T.f_Course_stocks, (by show 1 < 1000; decide), ?_⟩
        have m4 := m3.set "stocks" (.ref D2)
        have nD : D ≠ p := ne_of hD2 m1.new (by intro z; cases z)
        have nD2 : D2 ≠ p := ne_of hD4 m3.new (by intro z; cases z)
        refine k _ ⟨p, dx, _, .ref D, .ref D2, rfl, m4.new, lk_put (by decide +kernel) lk_same, lk_same, ?_, ?_⟩ m4.old
        · have mm : Mk1 H2 p T.C_Course dx (putF "stocks" (.ref D2) (putF "flows" (.ref D) [])) (upd H4 p (.ins T.C_Course dx (putF "stocks" (.ref D2) (putF "flows" (.ref D) [])))) := ⟨fun b o n e => by
              rw [upd_ne n]
              exact s4 b o (by rw [upd_ne n]; exact e), upd_same⟩
          exact mm.rld m1.new ⟨D, ys, rfl, hD2, hp2⟩
        · have mm : Mk1 H4 p T.C_Course dx (putF "stocks" (.ref D2) (putF "flows" (.ref D) [])) (upd H4 p (.ins T.C_Course dx (putF "stocks" (.ref D2) (putF "flows" (.ref D) [])))) := ⟨fun b o n e => by
              rw [upd_ne n]
              exact e, upd_same⟩
          exact mm.rld m3.new ⟨D2, zs, rfl, hD4, hp4⟩
/-! ### check_readings, limits_of -/
def RdOk (P : Pl) (R : List (Str × (Int × Int))) : Prop := (R.map (·.1)).Nodup ∧ (∀ k ∈ R.map (·.1), k ∈ P.names) ∧ ∀ r ∈ R, 0 ≤ r.2.1 ∧ r.2.1 ≤ 1000000 ∧ 0 ≤ r.2.2 ∧ r.2.2 ≤ 1000000
theorem RdOk.len {P : Pl} {R : List (Str × (Int × Int))} (h : RdOk P R) (h60 : P.st.length ≤ 60) : R.length ≤ 60 := by
  have := Mt.nd_le h.1 h.2.1
  rw [List.length_map] at this
  have e : P.names.length = P.st.length := List.length_map _
  omega
def sp_check_readings (C : Addr) : Sp := fun vs H Q _ => ∃ pv rv P R, vs = [pv, rv] ∧ rPl C H pv P ∧ PlOk P ∧ rD rLim H rv R ∧ RdOk P R ∧ retN H Q
theorem ok_check_readings (T : Tx K mg) : FnOk P w K mg base CX0 2 T.a_check_readings T.d_check_readings P_check_readings (sp_check_readings T.C_Plant) := by
  refine T.F_check_readings.ok sc_check_readings (fun vs H Q E h => ?_) (fun cdv A outer s H vs Q E hr h => ?_)
  · obtain ⟨_, _, _, _, rfl, _⟩ := h
    rfl
  · have hu := hu_of hr
    refine ⟨_, PSs.nox (pss_cons (ps_set (i := 2) sc_check_readings.nd rfl (Or.inl rfl) (pe_meth0 (pv 0) T.c_Plant T.h_Plant_stream_names (ok_Plant_stream_names T) (hr.mono (by decide)) (b_Plant_stream_names T) .nil pass0))
    (pss_cons (ps_for PassesOwn.never rfl (pi_list (pe_callB (call_sortedD rfl) (by rfl) T.n_sorted (by decide +kernel) (pa_cons (pv 1) pa_nil))) (pg_name (i := 3) sc_check_readings.nd rfl (Or.inl rfl))
    (pss_one (ps_if (pt_cmpR op_notIn_seq (pv 3) (pv 2) (by rfl)) (pss_one ps_never) pss_nil)))
    (pss_one (ps_for PassesOwn.never rfl (pi_list (pe_callB (call_sortedD rfl) (by rfl) T.n_sorted (by decide +kernel) (pa_cons (pv 1) pa_nil))) (pg_name (i := 3) sc_check_readings.nd rfl (Or.inl rfl))
    (pss_cons (ps_set (i := 4) sc_check_readings.nd rfl (Or.inl rfl) (pe_dget hu (pv 1) (pv 3) (fun _ _ => rfl)))
    (pss_one (ps_if (PW.pt (pw_or (pt_cmpR op_ne (pe_callB call_len_seq (by rfl) T.n_len (by decide +kernel) (pa_cons (pv 4) pa_nil)) pe_int (nomark _)) (pw_or1 (pt_not (pt_val (pe_callB (cr_all rfl) (by rfl) T.n_all (by decide +kernel) (pa_cons (pe_lc (own := [("part", 5)]) rfl sc_check_readings.nd (pi_tup (pv 4)) (blkOk_by (own := [("part", 5)]) (N := N_check_readings) (sc := defScope s_check_readings) (by decide +kernel)) (fun _ _ _ _ _ => (pg_name (i := 5) sc_check_readings.nd rfl (Or.inl rfl))) (fun _ _ _ _ _ => pts_nil) (fun _ _ _ _ _ => (pe_chain op_le op_le pe_int (pv 5) (pe_glob (v := v_MOST_FLOW) rfl T.g_MOST_FLOW.choose_spec ⟨_, rfl⟩)))) pa_nil))))))) (pss_one ps_never) pss_nil))))))), ?_⟩
    obtain ⟨pv, rv, P, R, rfl, hP, ok, ⟨d, ks, rfl, hd, hks⟩, hR, k⟩ := h
    obtain ⟨p, dx, ka, sa, rfl, hi, hk, hs⟩ := id hP
    have hR60 := hR.len ok.sl
    obtain ⟨ndr, hsub, hbd⟩ := hR
    refine ⟨_, rfl, p, dx, _, rfl, hi, plF_no _ _ (by decide +kernel) (by decide +kernel), ⟨_, P, rfl, hP, ok.sl, fun l H1 xs hl s1 e1 hx => ?_⟩⟩
    have ex := strs_eq hx
    subst ex
    refine ⟨_, rfl, d, ks, R.map (·.1), rfl, rd_same s1 hd, dp_keys hks, (by rw [List.length_map]; omega), fun ys p1 hperm _ hp1 => ?_⟩
    have s2 := s1.trans (Same.new (o := .lst (ys.map V.str)) hp1)
    refine ⟨p1, rfl, ⟨_, SqL.of upd_same⟩, for_it (walk_list (K := K)) (fun i σ H2 => (Same H H2 ∧ H2 l = some (.lst (P.names.map V.str)) ∧ H2 p1 = some (.lst (ys.map V.str))) ∧ ∃ x y z, σ = [some (.ref p), some (.ref d), some (.ref l), x, y, z])
      ⟨⟨s2, Same.new hp1 l _ e1, upd_same⟩, _, _, _, rfl⟩ (fun i σ H2 _ h => SqL.of h.1.2.2) ?_ ?_⟩
    · rintro i x σ H2 H3 hi' ⟨⟨s6, hl6, h16⟩, _, _, _, rfl⟩ ⟨rfl, hxi⟩
      rw [List.getElem?_map] at hxi
      cases hy : ys[i]? with
      | none => rw [hy] at hxi; cases hxi
      | some z =>
        rw [hy] at hxi
        cases hxi
        have hz : z ∈ P.names := hsub z (hperm.mem_iff.mp (List.mem_of_getElem? hy))
        refine ⟨_, rfl, _, rfl, l, _, rfl, .inl (SqL.of hl6), rfl, flat_strs _, false, nin_no hz, ?_⟩
        refine iteF ?_
        exact ⟨⟨s6, hl6, h16⟩, _, _, _, rfl⟩
    · rintro σ H2 ⟨⟨s6, hl6, _⟩, _, _, _, rfl⟩
      refine ⟨_, rfl, d, ks, R.map (·.1), rfl, rd_same s6 hd, dp_keys hks, (by rw [List.length_map]; omega), fun zs p2 hperm2 _ hp2 => ?_⟩
      have s7 := s6.trans (Same.new (o := .lst (zs.map V.str)) hp2)
      refine ⟨p2, rfl, ⟨_, SqL.of upd_same⟩, for_it (walk_list (K := K)) (fun i σ H2 => (Same H H2 ∧ H2 p2 = some (.lst (zs.map V.str))) ∧ ∃ x y z, σ = [some (.ref p), some (.ref d), some (.ref l), x, y, z])
        ⟨⟨s7, upd_same⟩, _, _, _, rfl⟩ (fun i σ H2 _ h => SqL.of h.1.2) ?_ ?_⟩
      · rintro i x σ H3 H4 hi' ⟨⟨s8, h28⟩, _, _, _, rfl⟩ ⟨rfl, hxi⟩
        rw [List.getElem?_map] at hxi
        cases hy : zs[i]? with
        | none => rw [hy] at hxi; cases hxi
        | some z =>
          rw [hy] at hxi
          cases hxi
          have hz : z ∈ R.map (·.1) := hperm2.mem_iff.mp (List.mem_of_getElem? hy)
          obtain ⟨v, ⟨a, t⟩, hm, hg, q, _, _, rfl, hq, rfl, rfl⟩ := get_some (rd_same s8 hd) (dpair_mono (Ext.of s8) hks) ndr hz
          obtain ⟨b1, b2, b3, b4⟩ := hbd _ hm
          refine ⟨_, rfl, _, rfl, d, _, rfl, hg, ?_⟩
          refine ⟨_, rfl, q, _, rfl, .inr (SqT.of hq), rfl, false, rfl, ?_⟩
          refine iteF ?_
          refine ⟨_, rfl, q, rfl, ⟨_, SqT.of hq⟩, fun D hD => lc_gen (A := rBl) (B := rInt) (walk_tup (K := K)) [a, t] rfl (by show 2 < sizeLine; decide) hD (fun H5 s5 => SqT.of (s5 q _ hq)) ?_ (fun _ => true) (fun _ => true) ?_ ?_⟩
          · rintro i H5 x H6 b hb s5 ⟨rfl, hxi⟩
            refine ⟨Same.refl _, ?_⟩
            have hxi' : [V.int a, V.int t][i]? = some x := hxi
            match i, hb, hxi' with
            | 0, hb, hx => cases hb; cases hx; rfl
            | 1, hb, hx => cases hb; cases hx; rfl
            | n + 2, hb, hx => simp at hb
          · rintro i b x H' hb s5 rfl Ks Kc kt _
            refine ⟨rfl, yesT (iteT ?_)⟩
            have hb2 : 0 ≤ b ∧ b ≤ 1000000 := by
              match i, hb with
              | 0, hb => cases hb; exact ⟨b1, b2⟩
              | 1, hb => cases hb; exact ⟨b3, b4⟩
              | n + 2, hb => simp at hb
            refine ⟨_, rfl, _, _, rfl, rfl, true, ct hb2.1, iteT ⟨_, _, rfl, rfl, ?_⟩⟩
            exact kt _ _ (Same.refl _) (ct hb2.2) rfl
          · intro H5 ys5 s5 hD5 hp5
            rw [filt_true] at hp5
            refine ⟨D, [a, t].map fun _ => true, rfl, SqL.of (by rw [hD5, bls_eq hp5]), ?_⟩
            rw [all_true]
            refine ⟨true, rfl, ?_⟩
            refine iteF ?_
            exact ⟨⟨s8.trans s5, s5 p2 _ h28⟩, _, _, _, rfl⟩
      · rintro σ H3 ⟨⟨s8, h28⟩, _, _, _, rfl⟩
        exact k _ s8
def sp_limits_of (C : Addr) : Sp := fun vs H Q _ => ∃ pv rv P R, vs = [pv, rv] ∧ rPl C H pv P ∧ PlOk P ∧ rD rLim H rv R ∧ RdOk P R ∧ retD rLim H Q (ldict P.names (limN P R))
theorem ok_limits_of (T : Tx K mg) : FnOk P w K mg base CX0 3 T.a_limits_of T.d_limits_of P_limits_of (sp_limits_of T.C_Plant) := by
  refine T.F_limits_of.ok sc_limits_of (fun vs H Q E h => ?_) (fun cdv A outer s H vs Q E hr h => ?_)
  · obtain ⟨_, _, _, _, rfl, _⟩ := h
    rfl
  · have hu := hu_of hr
    refine ⟨_, PSs.nox (pss_cons (ps_expr (pe_call (ok_check_readings T) (hr.mono (by decide)) rfl T.m_check_readings T.F_check_readings.kp (b_check_readings T) .nil pass0 (pa_cons (pv 0) (pa_cons (pv 1) pa_nil))))
    (pss_cons (ps_set (i := 2) sc_limits_of.nd rfl (Or.inl rfl) pe_dnewK)
    (pss_cons (ps_for PassesOwn.never rfl (pi_list (pe_prop (pv 0) T.c_Plant T.p_Plant_streams (ok_Plant_streams T) (hr.mono (by decide)) (b_Plant_streams T) .nil pass0 rfl)) (pg_tup rfl (pgs_cons (pg_name (i := 3) sc_limits_of.nd rfl (Or.inl rfl)) (pgs_cons (pg_name (i := 4) sc_limits_of.nd rfl (Or.inl rfl)) (pgs_cons (pg_name (i := 4) sc_limits_of.nd rfl (Or.inl rfl)) (pgs_cons (pg_name (i := 5) sc_limits_of.nd rfl (Or.inl rfl)) (pgs_cons (pg_name (i := 6) sc_limits_of.nd rfl (Or.inl rfl)) pgs_nil))))))
    (pss_cons (ps_if (pt_cmp (pc_din hu (pv 3) (pv 1))) (pss_cons (ps_asg (pe_dget hu (pv 1) (pv 3) (fun _ _ => rfl)) (pg_tup rfl (pgs_cons (pg_name (i := 7) sc_limits_of.nd rfl (Or.inl rfl)) (pgs_cons (pg_name (i := 8) sc_limits_of.nd rfl (Or.inl rfl)) pgs_nil))))
    (pss_cons (ps_set (i := 5) sc_limits_of.nd rfl (Or.inl rfl) (pe_callB (call_max2 rfl) (by rfl) T.n_max (by decide +kernel) (pa_cons (pv 5) (pa_cons (pe_op op_sub (pv 7) (pv 8)) pa_nil))))
    (pss_one (ps_set (i := 6) sc_limits_of.nd rfl (Or.inl rfl) (pe_callB (call_min2 rfl) (by rfl) T.n_min (by decide +kernel) (pa_cons (pv 6) (pa_cons (pe_op op_add (pv 7) (pv 8)) pa_nil))))))) pss_nil)
    (pss_one (ps_dput hu (pv 2) (pv 3) (pe_tup (pa_cons (pv 5) (pa_cons (pv 6) pa_nil))) rfl))))
    (pss_one (ps_ret (pv 2)))))), ?_⟩
    obtain ⟨pv, rv, P, R, rfl, hP, ok, hRd, hR, k⟩ := h
    obtain ⟨d, ks, rfl, hd, hks⟩ := id hRd
    obtain ⟨p, dx, ka, sa, rfl, hi, hk, hs⟩ := id hP
    refine ⟨_, rfl, _, rfl, _, _, P, R, rfl, hP, ok, hRd, hR, fun H1 s1 => ?_⟩
    intro D hD
    have s2 := s1.trans (Same.new (o := .dK []) hD)
    have hD0 : H D = none := by
      cases z : H D with
      | none => rfl
      | some u => rw [s1 D u z] at hD; cases hD
    refine ⟨_, rfl, p, dx, _, rfl, s2 p _ hi, _, P, rfl, Mono.same s2 hP, fun l2 H2 xs2 hl2 s3 e2 hx2 => ?_⟩
    have s13 := s2.trans s3
    refine ⟨l2, rfl, ⟨_, SqL.of e2⟩, for_it (walk_list (K := K)) (fun i σ H3 => Li H D l2 xs2 P R i H3 ∧ ∃ a b c e f g, σ = [some (.ref p), some (.ref d), some (.ref D), a, b, c, e, f, g])
      ⟨⟨s13, ⟨[], s3 D _ upd_same, .nil⟩, e2, hx2⟩, _, _, _, _, _, _, rfl⟩ (fun i σ H3 _ h => SqL.of h.1.src) ?_ ?_⟩
    · rintro i x σ H3 H4 hi' ⟨li, _, _, _, _, _, _, rfl⟩ ⟨rfl, hxi⟩
      obtain ⟨s, hs', q, rfl, hq⟩ := paired_get' li.its hxi
      obtain ⟨fks, hf, hpf⟩ := li.d
      have lk : fks.length < sizeLine := by
        rw [paired_len hpf, List.length_map, List.length_take, sizeLine_eq]
        have := ok.sl
        omega
      refine ⟨q, _, rfl, SqT.of hq, rfl, _, _, rfl, _, _, rfl, _, _, rfl, _, _, rfl, _, _, rfl, rfl, ?_⟩
      cases hg : rdg R s.nm with
      | none =>
        have g1 := get_out (rd_same li.same hd) (dpair_mono (Ext.of li.same) hks) (rdg_none hg)
        refine ⟨_, rfl, _, rfl, d, _, rfl, g1, false, rfl, ?_⟩
        refine iteF ?_
        refine ⟨_, rfl, _, rfl, (by show 2 ≤ sizeLine; decide), fun t ht => ?_⟩
        have nt : D ≠ t := ne_of_none hf ht
        refine ⟨_, rfl, _, rfl, D, _, rfl, DPut.k (k := Sum.inr s.nm) (by rw [upd_ne nt]; exact hf) lk, ?_⟩
        refine ⟨li.step hD0 ok.nd hs' ht ?_ hf, _, _, _, _, _, _, rfl⟩
        unfold limS
        rw [hg]
      | some y =>
        obtain ⟨a, tol⟩ := y
        obtain ⟨v, g1, q2, _, _, rfl, hq2, rfl, rfl⟩ := get_in (rd_same li.same hd) (dpair_mono (Ext.of li.same) hks) hR.1 (rdg_some hg)
        refine ⟨_, rfl, _, rfl, d, _, rfl, g1, true, rfl, ?_⟩
        refine iteT ?_
        refine ⟨_, rfl, _, rfl, d, _, rfl, g1, q2, _, rfl, SqT.of hq2, rfl, _, _, rfl, _, _, rfl, rfl, ?_⟩
        refine ⟨_, rfl, _, rfl, _, rfl, _, _, rfl, rfl, _, _, rfl, ?_⟩
        refine ⟨_, rfl, _, rfl, _, rfl, _, _, rfl, rfl, _, _, rfl, ?_⟩
        refine ⟨_, rfl, _, rfl, (by show 2 ≤ sizeLine; decide), fun t ht => ?_⟩
        have nt : D ≠ t := ne_of_none hf ht
        refine ⟨_, rfl, _, rfl, D, _, rfl, DPut.k (k := Sum.inr s.nm) (by rw [upd_ne nt]; exact hf) lk, ?_⟩
        refine ⟨li.step hD0 ok.nd hs' ht ?_ hf, _, _, _, _, _, _, rfl⟩
        unfold limS
        rw [hg]
    · rintro σ H3 ⟨li, _, _, _, _, _, _, rfl⟩
      obtain ⟨fks, hf, hpf⟩ := li.d
      refine ⟨_, rfl, k D H3 fks hD0 li.same hf ?_⟩
      rw [paired_len hx2, List.take_length, lims_eq ok.nd] at hpf
      exact hpf
end
end Mx

set_option Elab.async false
set_option linter.all false
set_option maxRecDepth 100000
set_option maxHeartbeats 4000000
/-! do_agree, least_missing, flows_within, flows_of. -/
namespace Mx
open PySem PySem.Spec PyProof.Rows L2
theorem paired_last {α β : Type} {F : α → β → Prop} : ∀ {l : List β} {y : β} {xs : List α}, Paired F xs (l ++ [y]) → ∃ xs0 x, xs = xs0 ++ [x] ∧ F x y
  | [], y, _, .cons h .nil => ⟨[], _, rfl, h⟩
  | b :: l, y, _, .cons h t => by
    obtain ⟨xs0, x, e, q⟩ := paired_last (l := l) (y := y) t
    exact ⟨_ :: xs0, x, by rw [e]; rfl, q⟩
theorem chain_last {b : Mt.Arc Str} {v : Str} : ∀ {p : List (Mt.Arc Str)} {u : Str}, Mt.Chain u (p ++ [b]) v → b.dst = v
  | [], _, h => h.2
  | _ :: p, _, h => chain_last (p := p) h.2
theorem sum_lt {β : Type} {a b : β → Int} : ∀ {l : List β} {z : β}, (∀ x ∈ l, a x ≤ b x) → z ∈ l → a z < b z → (l.map a).sum < (l.map b).sum
  | x :: l, z, h, hz, hlt => by
    rw [List.map_cons, List.map_cons, List.sum_cons, List.sum_cons]
    have h1 := h x List.mem_cons_self
    have h2 := Mt.sum_le fun y hy => h y (List.mem_cons_of_mem _ hy)
    rcases List.mem_cons.mp hz with rfl | hz
    · omega
    · have := sum_lt (fun y hy => h y (List.mem_cons_of_mem _ hy)) hz hlt
      omega
theorem net_of (P : Pl) (ok : PlOk P) : Mt.Net P.E P.kn := ⟨by
  have e : P.E.map (·.nm) = P.names := by
    unfold Pl.E Pl.names
    rw [List.map_map]
    rfl
  rw [e]
  exact ok.nd, ok.kn, fun e he => by
  obtain ⟨s, hs, rfl⟩ := List.mem_map.mp he
  exact ok.ends s hs⟩
theorem E_mem {P : Pl} {e : Mt.Edge Str} (h : e ∈ P.E) : e.nm ∈ P.names := by
  obtain ⟨s, hs, rfl⟩ := List.mem_map.mp h
  exact List.mem_map.mpr ⟨s, hs, rfl⟩
theorem E_of {P : Pl} {n : Str} (h : n ∈ P.names) : ∃ e ∈ P.E, e.nm = n := by
  obtain ⟨s, hs, rfl⟩ := List.mem_map.mp h
  exact ⟨_, List.mem_map.mpr ⟨s, hs, rfl⟩, rfl⟩
theorem missing_nonneg (P : Pl) (f : Str → Int) : 0 ≤ missing P f := by
  refine Mt.sum_nonneg fun k _ => ?_
  split <;> omega
theorem missing_zero {P : Pl} (ok : PlOk P) {f : Str → Int} (h : missing P f ≤ 0) : ∀ k ∈ P.kn, Mt.net P.E f k = 0 := by
  have h0 : missing P f = 0 := by have := missing_nonneg P f; omega
  have hz := Mt.sum_pos_of (l := P.kn) (a := fun k => if -Mt.net P.E f k > 0 then -Mt.net P.E f k else 0) (fun k _ => by split <;> omega) h0
  refine Mt.bal_of (net_of P ok) fun k hk => ?_
  have := hz k hk
  split at this <;> omega
theorem missing_bal {P : Pl} {f : Str → Int} (h : ∀ k ∈ P.kn, Mt.net P.E f k = 0) : missing P f = 0 := Mt.sum_zero fun k hk => by rw [h k hk]; rfl
theorem lines_len (P : Pl) : (Mt.lines P.E).length ≤ P.st.length := by
  have := List.length_filter_le (fun e : Mt.Edge Str => decide (e.tl ≠ e.hd)) P.E
  unfold Mt.lines
  have e : P.E.length = P.st.length := List.length_map _
  omega
section
variable {P : Program} {w : World} {K : PySem.W.Frag} {mg : Str → Option Value} {base : Heap}
def sp_do_agree (C : Addr) : Sp := fun vs H Q _ => ∃ pv rv fv P R ks f, vs = [pv, rv, fv] ∧ rPl C H pv P ∧ PlOk P ∧ rD rLim H rv R ∧ RdOk P R ∧ rD rInt H fv (kdict ks f) ∧ ks.Nodup ∧ (∀ n, n ∈ ks ↔ n ∈ P.names) ∧ Mt.Feas P.E P.kn (limN P R) f ∧ ret rBl H Q true
theorem ok_do_agree (T : Tx K mg) : FnOk P w K mg base CX0 5 T.a_do_agree T.d_do_agree P_do_agree (sp_do_agree T.C_Plant) := by
  refine T.F_do_agree.ok sc_do_agree (fun vs H Q E h => ?_) (fun cdv A outer s H vs Q E hr h => ?_)
  · obtain ⟨_, _, _, _, _, _, _, rfl, _⟩ := h
    rfl
  · have hu := hu_of hr
    refine ⟨_, PSs.nox (pss_cons (ps_set (i := 3) sc_do_agree.nd rfl (Or.inr rfl) (pe_call (ok_limits_of T) (hr.mono (by decide)) rfl T.m_limits_of T.F_limits_of.kp (b_limits_of T) .nil pass0 (pa_cons (pv 0) (pa_cons (pv 1) pa_nil))))
    (pss_cons (ps_expr (pe_call (ok_check_flows T) (hr.mono (by decide)) rfl T.m_check_flows T.F_check_flows.kp (b_check_flows T) .nil pass0 (pa_cons (pv 0) (pa_cons (pv 2) pa_nil))))
    (pss_cons (ps_if (pt_not (pt_val (pe_call (ok_is_balanced T) (hr.mono (by decide)) rfl T.m_is_balanced T.F_is_balanced.kp (b_is_balanced T) .nil pass0 (pa_cons (pv 0) (pa_cons (pv 2) pa_nil))))) (pss_one (ps_ret pe_bl)) pss_nil)
    (pss_one (ps_ret (pe_callB (cr_all rfl) (by rfl) T.n_all (by decide +kernel) (pa_cons (pe_lc (own := [("name", 4)]) rfl sc_do_agree.nd (pi_list (pe_meth0 (pv 0) T.c_Plant T.h_Plant_stream_names (ok_Plant_stream_names T) (hr.mono (by decide)) (b_Plant_stream_names T) .nil pass0)) (blkOk_by (own := [("name", 4)]) (N := N_do_agree) (sc := defScope s_do_agree) (by decide +kernel)) (fun _ _ _ _ _ => (pg_name (i := 4) sc_do_agree.nd rfl (Or.inl rfl))) (fun _ _ _ _ _ => pts_nil) (fun _ _ _ _ _ => (pe_chain op_le op_le (pe_ix (ix_tupK (K := K) rfl) (pe_dget hu (pv 3) (pv 4) (fun _ _ => rfl)) pe_int (fun _ _ => rfl)) (pe_dget hu (pv 2) (pv 4) (fun _ _ => rfl)) (pe_ix (ix_tupK (K := K) rfl) (pe_dget hu (pv 3) (pv 4) (fun _ _ => rfl)) pe_int (fun _ _ => rfl))))) pa_nil))))))), ?_⟩
    obtain ⟨pv, rv, fv, P, R, ks, f, rfl, hP, ok, hRd, hR, hF, ndk, hmem, feas, k⟩ := h
    refine ⟨_, rfl, _, rfl, pv, rv, P, R, rfl, hP, ok, hRd, hR, fun pl H1 lks hpl s1 el hlk => ?_⟩
    refine ⟨_, rfl, _, rfl, pv, fv, P, kdict ks f, rfl, Mono.same s1 hP, ok.nd, ok.sl, Mono.same s1 hF, by rw [kdict_keys]; exact ndk, by rw [kdict_keys]; exact hmem, fun H2 s2 => ?_⟩
    have s12 := s1.trans s2
    refine ⟨_, rfl, _, rfl, pv, fv, P, ks, f, rfl, Mono.same s12 hP, ok, Mono.same s12 hF, ndk, hmem, fun v H3 s3 hv => ?_⟩
    cases hv
    have eb : ((P.kn.map fun k => decide (Mt.net P.E f k = 0)).all id) = true := by
      rw [List.all_map]
      exact List.all_eq_true.mpr fun x hx => decide_eq_true (feas.bal x hx)
    rw [eb]
    refine ⟨true, rfl, ?_⟩
    refine iteF ?_
    have s13 := s12.trans s3
    obtain ⟨p, dx, ka, sa, rfl, hi, hkn, hst⟩ := id hP
    refine ⟨_, rfl, p, dx, _, rfl, s13 p _ hi, plF_no _ _ (by decide +kernel) (by decide +kernel), _, P, rfl, Mono.same s13 hP, ok.sl, fun l H4 xs hl s4 e4 hx => ?_⟩
    have s14 := s13.trans s4
    have s24 := (s2.trans s3).trans s4
    refine ⟨l, rfl, ⟨_, SqL.of e4⟩, fun D hD => lc_gen (A := rBl) (B := rStr) (walk_list (K := K)) P.names (paired_len hx).symm ?_ hD (src_k e4) (src_y hx) (fun _ => true) (fun _ => true) ?_ ?_⟩
    · rw [paired_len hx]
      have : P.names.length = P.st.length := List.length_map _
      rw [this]
      exact Nat.lt_of_le_of_lt ok.sl (by decide)
    · rintro i b x H' hb s5 rfl Ks Kc kt _
      refine ⟨rfl, yesT (iteT ?_)⟩
      have hbn : b ∈ P.names := List.mem_of_getElem? hb
      have s25 := s24.trans s5
      have s15 := s14.trans s5
      obtain ⟨e, he, en⟩ := E_of hbn
      obtain ⟨w1, w2⟩ := feas.win e he
      rw [en] at w1 w2
      obtain ⟨v, hgl, t, _, _, rfl, ht, rfl, rfl⟩ := get_in (H := H') (d := pl) (.inl (s25 pl _ el)) (dpair_mono (Ext.of s25) hlk) (by rw [ldict_keys]; exact ok.nd) (ldict_mem (f := limN P R) hbn)
      obtain ⟨fa, fks, rfl, hfa, hfk⟩ := id hF
      obtain ⟨v, hgf, rfl⟩ := get_in (rd_same s15 hfa) (dpair_mono (Ext.of s15) hfk) (by rw [kdict_keys]; exact ndk) (kdict_mem (f := f) ((hmem b).mpr hbn))
      refine ⟨_, rfl, _, rfl, pl, _, rfl, hgl, t, _, _, _, rfl, rfl, SqT.of ht, atI_nat (j := 0) rfl, _, rfl, _, rfl, fa, _, rfl, hgf, _, _, rfl, rfl, true, ct w1, iteT ⟨_, rfl, _, rfl, pl, _, rfl, hgl, t, _, _, _, rfl, rfl, SqT.of ht, atI_nat (j := 1) rfl, _, _, rfl, rfl, ?_⟩⟩
      exact kt _ _ (Same.refl _) (ct w2) rfl
    · intro H5 ys s5 hD' hp'
      rw [filt_true] at hp'
      refine ⟨D, P.names.map fun _ => true, rfl, SqL.of (by rw [hD', bls_eq hp']), ?_⟩
      rw [all_true]
      exact k _ _ (s14.trans s5) rfl
/-! ### least_missing -/
def sp_least_missing (C Cm : Addr) : Sp := fun vs H Q _ => ∃ pv lv P ks L, vs = [pv, lv] ∧ rPl C H pv P ∧ PlOk P ∧ rD rLim H lv (ldict ks L) ∧ ks.Nodup ∧ (∀ n, n ∈ ks ↔ n ∈ P.names) ∧
  (∀ H', Same H H' → (¬ ∃ g, Mt.Feas P.E P.kn L g) → Q .non H') ∧
  ∀ p H' dx fs num f fv, Same H H' → H' p = some (.ins Cm dx fs) → fs.lookup ("number" : Str) = some (.int num) → fs.lookup ("flows" : Str) = some fv → rD rInt H' fv (kdict ks f) → (0 < num → ¬ ∃ g, Mt.Feas P.E P.kn L g) → (num ≤ 0 → Mt.Feas P.E P.kn L f) → Q (.ref p) H'
/-- the state of the loop -/
structure Lm (H0 : Hp) (F : Addr) (P : Pl) (L : Str → Int × Int) (ks : List Str) (f : Str → Int) (H : Hp) : Prop where
  same : Same H0 H
  d : ∃ kvs, H F = some (.dK kvs) ∧ DPr rInt H kvs (kdict ks f)
  win : Mt.Within P.E L f
theorem ok_least_missing (T : Tx K mg) : FnOk P w K mg base CX0 6 T.a_least_missing T.d_least_missing P_least_missing (sp_least_missing T.C_Plant T.C_Missing) := by
  refine T.F_least_missing.ok sc_least_missing (fun vs H Q E h => ?_) (fun cdv A outer s H vs Q E hr h => ?_)
  · obtain ⟨_, _, _, _, _, rfl, _⟩ := h
    rfl
  · have hu := hu_of hr
    refine ⟨_, PSs.nox (pss_cons (ps_if (pt_cmp (pc_notN (pe_call (ok_crossed T) (hr.mono (by decide)) rfl T.m_crossed T.F_crossed.kp (b_crossed T) .nil pass0 (pa_cons (pv 0) (pa_cons (pv 1) pa_nil))))) (pss_one (ps_ret pe_non)) pss_nil)
    (pss_cons (ps_set (i := 2) sc_least_missing.nd rfl (Or.inl rfl) (pe_call (ok_lines_of T) (hr.mono (by decide)) rfl T.m_lines_of T.F_lines_of.kp (b_lines_of T) .nil pass0 (pa_cons (pv 0) pa_nil)))
    (pss_cons (ps_lockR (ps_setDc (i := 3) (own := [("name", 11)]) rfl sc_least_missing.nd rfl rfl (sw_trueD rfl rfl rfl (by decide +kernel)) (pi_keys (pv 1)) (blkOk_by (own := [("name", 11)]) (N := N_least_missing) (sc := defScope s_least_missing) (by decide +kernel)) (fun _ _ _ _ _ => (pg_name (i := 11) sc_least_missing.nd rfl (Or.inl rfl))) (fun _ _ _ _ _ => pts_nil) (fun _ _ _ _ _ => (pv 11)) (fun _ _ _ _ _ => (pe_ix (ix_tupK (K := K) rfl) (pe_dget hu (pv 1) (pv 11) (fun _ _ => rfl)) pe_int (fun _ _ => rfl)))))
    (pss_cons (ps_while PassesOwn.never (pt_val pe_bl) (pss_cons (ps_set (i := 7) sc_least_missing.nd rfl (Or.inr rfl) (pe_call (ok_lacks T) (hr.mono (by decide)) rfl T.m_lacks T.F_lacks.kp (b_lacks T) .nil pass0 (pa_cons (pv 0) (pa_cons (pv 3) pa_nil))))
    (pss_cons (ps_setLc (i := 8) (own := [("knot", 12)]) rfl sc_least_missing.nd rfl rfl (sw_true rfl rfl rfl (by decide +kernel)) (pi_list (pe_prop (pv 0) T.c_Plant T.p_Plant_knots (ok_Plant_knots T) (hr.mono (by decide)) (b_Plant_knots T) .nil pass0 rfl)) (blkOk_by (own := [("knot", 12)]) (N := N_least_missing) (sc := defScope s_least_missing) (by decide +kernel)) (fun _ _ _ _ _ => (pg_name (i := 12) sc_least_missing.nd rfl (Or.inl rfl))) (fun _ _ _ _ _ => (pts_one (pt_cmpR op_gt (pe_dget hu (pv 7) (pv 12) (fun _ _ => rfl)) pe_int (nomark _)))) (fun _ _ _ _ _ => (pv 12)))
    (pss_cons (ps_setLc (i := 9) (own := [("knot", 12)]) rfl sc_least_missing.nd rfl rfl (sw_true rfl rfl rfl (by decide +kernel)) (pi_list (pe_prop (pv 0) T.c_Plant T.p_Plant_knots (ok_Plant_knots T) (hr.mono (by decide)) (b_Plant_knots T) .nil pass0 rfl)) (blkOk_by (own := [("knot", 12)]) (N := N_least_missing) (sc := defScope s_least_missing) (by decide +kernel)) (fun _ _ _ _ _ => (pg_name (i := 12) sc_least_missing.nd rfl (Or.inl rfl))) (fun _ _ _ _ _ => (pts_one (pt_cmpR op_lt (pe_dget hu (pv 7) (pv 12) (fun _ _ => rfl)) pe_int (nomark _)))) (fun _ _ _ _ _ => (pv 12)))
    (pss_cons (ps_set (i := 10) sc_least_missing.nd rfl (Or.inl rfl) (pe_call (ok_way_between T) (hr.mono (by decide)) rfl T.m_way_between T.F_way_between.kp (b_way_between T) .nil pass0 (pa_cons (pe_call (ok_arcs_of T) (hr.mono (by decide)) rfl T.m_arcs_of T.F_arcs_of.kp (b_arcs_of T) .nil pass0 (pa_cons (pv 2) (pa_cons (pv 1) (pa_cons (pv 3) pa_nil)))) (pa_cons (pv 8) (pa_cons (pv 9) pa_nil)))))
    (pss_cons (ps_if (pt_cmp (pc_isN (pv 10))) (pss_one ps_break) pss_nil)
    (pss_one (ps_expr (pe_call (ok_push T) (hr.mono (by decide)) rfl T.m_push T.F_push.kp (b_push T) .nil pass0 (pa_cons (pv 3) (pa_cons (pv 10) (pa_cons (pe_callB (call_min2 rfl) (by rfl) T.n_min (by decide +kernel) (pa_cons (pe_dget hu (pv 7) (pe_ix ix_tup (pe_ix ix_list (pv 10) pe_int (fun _ _ => rfl)) pe_int (fun _ _ => rfl)) (fun _ _ => rfl)) (pa_cons (pe_un un_neg (pe_dget hu (pv 7) (pe_ix ix_tup (pe_ix ix_list (pv 10) (pe_un un_neg pe_int) (fun _ _ => rfl)) pe_int (fun _ _ => rfl)) (fun _ _ => rfl))) pa_nil))) pa_nil))))))))))))
    (pss_cons (ps_set (i := 4) sc_least_missing.nd rfl (Or.inr rfl) (pe_call (ok_leading_to T) (hr.mono (by decide)) rfl T.m_leading_to T.F_leading_to.kp (b_leading_to T) .nil pass0 (pa_cons (pv 2) (pa_cons (pv 1) (pa_cons (pv 3) (pa_cons (pv 9) pa_nil))))))
    (pss_cons (ps_set (i := 5) sc_least_missing.nd rfl (Or.inr rfl) (pe_call (ok_led_from T) (hr.mono (by decide)) rfl T.m_led_from T.F_led_from.kp (b_led_from T) .nil pass0 (pa_cons (pv 2) (pa_cons (pv 1) (pa_cons (pv 3) (pa_cons (pv 8) pa_nil))))))
    (pss_cons (ps_set (i := 6) sc_least_missing.nd rfl (Or.inl rfl) (pe_lst (pa_cons (pe_lc (own := [("knot", 12)]) rfl sc_least_missing.nd (pi_list (pe_prop (pv 0) T.c_Plant T.p_Plant_knots (ok_Plant_knots T) (hr.mono (by decide)) (b_Plant_knots T) .nil pass0 rfl)) (blkOk_by (own := [("knot", 12)]) (N := N_least_missing) (sc := defScope s_least_missing) (by decide +kernel)) (fun _ _ _ _ _ => (pg_name (i := 12) sc_least_missing.nd rfl (Or.inl rfl))) (fun _ _ _ _ _ => (pts_one (pt_cmp (pc_din hu (pv 12) (pv 4))))) (fun _ _ _ _ _ => (pv 12))) (pa_cons (pe_lc (own := [("knot", 12)]) rfl sc_least_missing.nd (pi_list (pe_prop (pv 0) T.c_Plant T.p_Plant_knots (ok_Plant_knots T) (hr.mono (by decide)) (b_Plant_knots T) .nil pass0 rfl)) (blkOk_by (own := [("knot", 12)]) (N := N_least_missing) (sc := defScope s_least_missing) (by decide +kernel)) (fun _ _ _ _ _ => (pg_name (i := 12) sc_least_missing.nd rfl (Or.inl rfl))) (fun _ _ _ _ _ => (pts_one (pt_cmp (pc_dnotin hu (pv 12) (pv 5))))) (fun _ _ _ _ _ => (pv 12))) pa_nil))))
    (pss_one (ps_ret (pe_make T.k_Missing (ok_Missing_init T) (hr.mono (by decide)) rfl T.m_Missing (b_Missing_init T) .nil pass0 (pa_cons (pe_call (ok_missing_of T) (hr.mono (by decide)) rfl T.m_missing_of T.F_missing_of.kp (b_missing_of T) .nil pass0 (pa_cons (pv 0) (pa_cons (pv 3) pa_nil))) (pa_cons (pv 3) (pa_cons (pe_ix ix_list (pv 6) pe_int (fun _ _ => rfl)) (pa_cons (pe_ix ix_list (pv 6) pe_int (fun _ _ => rfl)) pa_nil)))))))))))))), ?_⟩
    obtain ⟨pv, lv, P, ks, L, rfl, hP, ok, hL, ndk, hmem, k1, k2⟩ := h
    obtain ⟨p, dx, ka, sa, rfl, hi, hkn, hst⟩ := id hP
    obtain ⟨ld, lks, rfl, hld, hlk⟩ := id hL
    have N := net_of P ok
    have k60 : ks.length ≤ 60 := by
      have := Mt.nd_le ndk fun n hn => (hmem n).mp hn
      have e : P.names.length = P.st.length := List.length_map _
      have := ok.sl
      omega
    have hE2 : ∀ e ∈ Mt.lines P.E, e.nm ∈ ks ∧ e.nm ∈ ks := fun e he => by
      have := (hmem e.nm).mpr (E_mem (Mt.mem_lines.mp he).1)
      exact ⟨this, this⟩
    have l60 : (Mt.lines P.E).length ≤ 60 := Nat.le_trans (lines_len P) ok.sl
    refine ⟨_, rfl, _, rfl, _, _, P, ks, L, rfl, hP, ok, hL, ndk, hmem, k60, fun H1 s1 hc => ?_, fun H1 n s1 hn hx => ?_⟩
    · refine ⟨false, rfl, ?_⟩
      refine iteF ?_
      refine ⟨_, rfl, _, P, rfl, Mono.same s1 hP, ok.sl, fun la H2 lxs hla s2 e2 hlx => ?_⟩
      have s12 := s1.trans s2
      -- flows = {name: limits[name][0] for name in limits}
      refine ⟨ld, lks, rd_same s12 hld, fun od H3 h3 hb3 => ?_⟩
      have hlk2 : DPr rLim H3 lks (ldict ks L) := dp_tu (fun a xs e => by
        by_cases z : a = ld
        · subst z
          rcases rd_same s12 hld with q | ⟨o, q⟩ <;> rw [q] at e <;> cases e
        · rw [hb3 a z]
          exact e) (dpair_mono (Ext.of s12) hlk)
      refine ⟨_, rfl, ld, od, rfl, .inl ⟨lks, h3, fun F hF => ?_⟩⟩
      have ekl : lks.length = ks.length := by
        rw [paired_len hlk, ldict_len]
      refine dc_gen (A := rInt) (B := rStr) walk_keys ((ldict ks L).map (·.1)) ?_ ?_ hF (fun H4 s4 => s4 ld _ h3) (keys_y hlk) (fun b => b) (fun b => (L b).1) (by rw [ldict_keys, List.map_id']; exact ndk) ?_ ?_
      · rw [ldict_keys, ekl]
      · rw [ekl]
        exact Nat.lt_of_le_of_lt k60 (by decide)
      · rintro i b x H' hb s4 rfl Ks Kc kt
        refine ⟨rfl, yesT (iteT ?_)⟩
        rw [ldict_keys] at hb
        obtain ⟨v, hg, t, _, _, rfl, ht, rfl, rfl⟩ := get_in (H := H') (d := ld) (.inr ⟨od, s4 ld _ h3⟩) (dpair_mono (Ext.of s4) hlk2) (by rw [ldict_keys]; exact ndk) (ldict_mem (f := L) (List.mem_of_getElem? hb))
        exact ⟨_, rfl, _, rfl, _, rfl, ld, _, rfl, hg, t, _, _, _, rfl, rfl, SqT.of ht, atI_nat (j := 0) rfl, kt _ _ (Same.refl _) rfl⟩
      · intro H4 fks s4 hF4 hp4
        refine ⟨s4 ld _ h3, fun H5 h5 hb5 => ?_⟩
        have hFld : F ≠ ld := fun z => by rw [z, h3] at hF; cases hF
        have s25 : Same H2 H5 := Same.unlock hb3 s4 h5 hb5
        have hF5 : H5 F = some (.dK fks) := by rw [hb5 F hFld]; exact hF4
        have hF2 : H2 F = none := by rw [← hb3 F hFld]; exact hF
        rw [ldict_keys] at hp4
        have hp5 : DPr rInt H5 fks (kdict ks fun b => (L b).1) := dp_tu (fun a xs e => by
          by_cases z : a = ld
          · subst z
            rw [s4 a _ h3] at e
            cases e
          · rw [hb5 a z]
            exact e) hp4
        have lrep : ∀ G, Same H2 G → rL rEd G (.ref la) (Mt.lines P.E) := fun G s => Mono.same s ⟨la, lxs, rfl, e2, hlx⟩
        refine ⟨fun m σ G => ∃ f, (Lm H2 F P L ks f G ∧ m = (missing P f).toNat) ∧ ∃ a b c d e g h i j, σ = [some (.ref p), some (.ref ld), some (.ref la), some (.ref F), a, b, c, d, e, g, h, i, j],
          ⟨_, _, ⟨⟨s25, ⟨fks, hF5, hp5⟩, fun e he => ?_⟩, rfl⟩, _, _, _, _, _, _, _, _, _, rfl⟩, ?_⟩
        · exact ⟨Int.le_refl _, hc e.nm (E_mem he)⟩
        · rintro m σ G ⟨f, ⟨lm, rfl⟩, _, _, _, _, _, _, _, _, _, rfl⟩
          refine ⟨true, rfl, ?_⟩
          refine iteT ?_
          refine ⟨fun σ' G' => ∃ m', m' < (missing P f).toNat ∧ ∃ f, (Lm H2 F P L ks f G' ∧ m' = (missing P f).toNat) ∧ ∃ a b c d e g h i j, σ' = [some (.ref p), some (.ref ld), some (.ref la), some (.ref F), a, b, c, d, e, g, h, i, j], fun σ' G' h => h, ?_⟩
          obtain ⟨kvs, hFG, hkG⟩ := lm.d
          have sG := s12.trans lm.same
          -- left = lacks(plant, flows)
          refine ⟨_, rfl, _, rfl, .ref p, .ref F, P, ks, f, rfl, Mono.same sG hP, ok, ⟨F, kvs, rfl, .inl hFG, hkG⟩, ndk, hmem, fun lf G1 fks1 hlf sg1 ef1 hk1 => ?_⟩
          -- over
          have sG1 := sG.trans sg1
          refine ⟨_, rfl, p, dx, _, rfl, sG1 p _ hi, _, P, rfl, Mono.same sG1 hP, fun l1 G2 xs1 hl1 sg2 e1 hx1 => ?_⟩
          refine ⟨l1, rfl, ⟨_, SqL.of e1⟩, fun Do hDo => lc_gen (A := rStr) (B := rStr) (walk_list (K := K)) P.kn (paired_len hx1).symm ?_ hDo (src_k e1) (src_y hx1) (fun b => decide (Mt.net P.E f b > 0)) (fun b => b) ?_ ?_⟩
          · rw [paired_len hx1]
            exact Nat.lt_of_le_of_lt ok.kl (by decide)
          · rintro i b x H' hb s4 rfl Ks Kc kt kf
            refine ⟨rfl, ?_⟩
            have sb := sg2.trans s4
            obtain ⟨v, hg, rfl⟩ := get_in (H := H') (d := lf) (.inl (sb lf _ ef1)) (dpair_mono (Ext.of sb) hk1) (by rw [kdict_keys]; exact ok.kn) (kdict_mem (f := fun k => Mt.net P.E f k) (List.mem_of_getElem? hb))
            refine ⟨_, rfl, _, rfl, lf, _, rfl, hg, _, _, rfl, rfl, _, rfl, ?_⟩
            refine ite2 (fun h => ?_) (fun h => ?_)
            · exact ⟨_, rfl, kt _ _ (Same.refl _) rfl h⟩
            · exact kf _ (Same.refl _) (by cases q : decide (Mt.net P.E f b > 0) with
                | true => exact absurd q h
                | false => rfl)
          · intro G3 os sg3 hDo3 hpo3
            rw [List.map_id'] at hpo3
            have sG3 := (sG1.trans sg2).trans sg3
            -- short
            refine ⟨_, rfl, p, dx, _, rfl, sG3 p _ hi, _, P, rfl, Mono.same sG3 hP, fun l2 G4 xs2 hl2 sg4 e2' hx2 => ?_⟩
            refine ⟨l2, rfl, ⟨_, SqL.of e2'⟩, fun Ds hDs => lc_gen (A := rStr) (B := rStr) (walk_list (K := K)) P.kn (paired_len hx2).symm ?_ hDs (src_k e2') (src_y hx2) (fun b => decide (Mt.net P.E f b < 0)) (fun b => b) ?_ ?_⟩
            · rw [paired_len hx2]
              exact Nat.lt_of_le_of_lt ok.kl (by decide)
            · rintro i b x H' hb s4 rfl Ks Kc kt kf
              refine ⟨rfl, ?_⟩
              have sb := ((sg2.trans sg3).trans sg4).trans s4
              obtain ⟨v, hg, rfl⟩ := get_in (H := H') (d := lf) (.inl (sb lf _ ef1)) (dpair_mono (Ext.of sb) hk1) (by rw [kdict_keys]; exact ok.kn) (kdict_mem (f := fun k => Mt.net P.E f k) (List.mem_of_getElem? hb))
              refine ⟨_, rfl, _, rfl, lf, _, rfl, hg, _, _, rfl, rfl, _, rfl, ?_⟩
              refine ite2 (fun h => ?_) (fun h => ?_)
              · exact ⟨_, rfl, kt _ _ (Same.refl _) rfl h⟩
              · exact kf _ (Same.refl _) (by cases q : decide (Mt.net P.E f b < 0) with
                  | true => exact absurd q h
                  | false => rfl)
            · intro G5 ss sg5 hDs5 hps5
              rw [List.map_id'] at hps5
              have sg35 := sg4.trans sg5
              have sg15 := (sg2.trans sg3).trans sg35
              have sgG5 := sg1.trans sg15
              have s25' := lm.same.trans sgG5
              have sG5 := s12.trans s25'
              have hkG5 : DPr rInt G5 kvs (kdict ks f) := dpair_mono (Ext.of sgG5) hkG
              have hFG5 := sgG5 F _ hFG
              -- way
              refine ⟨_, rfl, _, rfl, _, rfl, .ref la, .ref ld, .ref F, Mt.lines P.E, ks, L, ks, f, rfl, lrep _ s25', Mono.same sG5 hL, ndk, ⟨F, kvs, rfl, .inl hFG5, hkG5⟩, ndk, hE2, l60, fun ap G6 axs hap sg6 e6 hx6 => ?_⟩
              have s36 := sg35.trans sg6
              have hover : rL rStr G6 (.ref Do) (P.kn.filter fun b => decide (Mt.net P.E f b > 0)) := ⟨Do, os, rfl, s36 Do _ hDo3, paired_mono (Ext.of s36) hpo3⟩
              have hshort : rL rStr G6 (.ref Ds) (P.kn.filter fun b => decide (Mt.net P.E f b < 0)) := ⟨Ds, ss, rfl, sg6 Ds _ hDs5, paired_mono (Ext.of sg6) hps5⟩
              have o24 : (P.kn.filter fun b => decide (Mt.net P.E f b > 0)).length ≤ 24 := Nat.le_trans (List.length_filter_le _ _) ok.kl
              have h24 : (P.kn.filter fun b => decide (Mt.net P.E f b < 0)).length ≤ 24 := Nat.le_trans (List.length_filter_le _ _) ok.kl
              have ndo : (P.kn.filter fun b => decide (Mt.net P.E f b > 0)).Nodup := ok.kn.sublist List.filter_sublist
              have ndsh : (P.kn.filter fun b => decide (Mt.net P.E f b < 0)).Nodup := ok.kn.sublist List.filter_sublist
              refine ⟨_, rfl, _, rfl, .ref ap, .ref Do, .ref Ds, arcs (Mt.lines P.E) L f, _, _, rfl, ⟨ap, axs, rfl, e6, hx6⟩, hover, hshort, (by have := arcs_len (Mt.lines P.E) L f; omega), o24, ndo, fun R sh G7 sg7 => ?_, fun v way hv hway hwl pw G7 wxs hpw sg7 e7 hx7 => ?_⟩
              · -- none: break
                refine ⟨_, rfl, true, rfl, ?_⟩
                refine iteT ?_
                have sg57 := sg6.trans sg7
                have sG7 := sG5.trans sg57
                have s27 := s25'.trans sg57
                have hF7 := sg57 F _ hFG5
                have hk7 : DPr rInt G7 kvs (kdict ks f) := dpair_mono (Ext.of sg57) hkG5
                have cut : ∀ g, Mt.Feas P.E P.kn L g → ∀ k ∈ P.kn, Mt.net P.E f k = 0 := fun g hg => Mt.bal_of_cut N (shut_closed sh)
                  (fun k hk hp => sh.sub k (List.mem_filter.mpr ⟨hk, decide_eq_true hp⟩)) (fun k hk hp => sh.out k (List.mem_filter.mpr ⟨hk, decide_eq_true hp⟩)) hg
                -- least = leading_to(lines, limits, flows, short)
                refine ⟨_, rfl, _, rfl, _, rfl, _, rfl, .ref la, .ref ld, .ref F, .ref Ds, Mt.lines P.E, ks, L, ks, f, _, rfl, lrep _ s27, Mono.same sG7 hL, ndk, ⟨F, kvs, rfl, .inl hF7, hk7⟩, ndk, hE2, l60, Mono.same sg7 hshort, h24, ndsh, fun B1 hB1 q1 G8 ks8 hq1 sg8 e8 hk8 => ?_⟩
                refine ⟨_, rfl, _, rfl, _, rfl, _, rfl, .ref la, .ref ld, .ref F, .ref Do, Mt.lines P.E, ks, L, ks, f, _, rfl, lrep _ (s27.trans sg8), Mono.same (sG7.trans sg8) hL, ndk, ⟨F, kvs, rfl, .inl (sg8 F _ hF7), dpair_mono (Ext.of sg8) hk7⟩, ndk, hE2, l60, Mono.same (sg7.trans sg8) hover, o24, ndo, fun B2 hB2 q2 G9 ks9 hq2 sg9 e9 hk9 => ?_⟩
                have sG9 := (sG7.trans sg8).trans sg9
                -- lots
                refine ⟨_, rfl, p, dx, _, rfl, sG9 p _ hi, _, P, rfl, Mono.same sG9 hP, fun l3 Ga xs3 hl3 sga ea hxa => ?_⟩
                refine ⟨l3, rfl, ⟨_, SqL.of ea⟩, fun Da hDa => lc_gen (A := rStr) (B := rStr) (walk_list (K := K)) P.kn (paired_len hxa).symm ?_ hDa (src_k ea) (src_y hxa) (fun b => decide (b ∈ B1.map (·.1))) (fun b => b) ?_ ?_⟩
                · rw [paired_len hxa]
                  exact Nat.lt_of_le_of_lt ok.kl (by decide)
                · rintro i b x H' hb s4 rfl Ks Kc kt kf
                  refine ⟨rfl, ?_⟩
                  have sb := (sg9.trans sga).trans s4
                  by_cases hin : b ∈ B1.map (·.1)
                  · obtain ⟨v, _, _, hg, _⟩ := get_some (H := H') (d := q1) (.inl (sb q1 _ e8)) (dpair_mono (Ext.of sb) hk8) hB1 hin
                    refine ⟨_, rfl, _, rfl, q1, _, rfl, hg, true, rfl, ?_⟩
                    refine iteT ?_
                    exact ⟨_, rfl, kt _ _ (Same.refl _) rfl (decide_eq_true hin)⟩
                  · have hg := get_out (H := H') (d := q1) (.inl (sb q1 _ e8)) (dpair_mono (Ext.of sb) hk8) hin
                    refine ⟨_, rfl, _, rfl, q1, _, rfl, hg, false, rfl, ?_⟩
                    refine iteF ?_
                    exact kf _ (Same.refl _) (decide_eq_false hin)
                · intro Gb ys sgb hDb hpb
                  rw [List.map_id'] at hpb
                  have sGb := (sG9.trans sga).trans sgb
                  refine ⟨_, rfl, p, dx, _, rfl, sGb p _ hi, _, P, rfl, Mono.same sGb hP, fun l4 Gc xs4 hl4 sgc ec hxc => ?_⟩
                  refine ⟨l4, rfl, ⟨_, SqL.of ec⟩, fun Dc hDc => lc_gen (A := rStr) (B := rStr) (walk_list (K := K)) P.kn (paired_len hxc).symm ?_ hDc (src_k ec) (src_y hxc) (fun b => !decide (b ∈ B2.map (·.1))) (fun b => b) ?_ ?_⟩
                  · rw [paired_len hxc]
                    exact Nat.lt_of_le_of_lt ok.kl (by decide)
                  · rintro i b x H' hb s4 rfl Ks Kc kt kf
                    refine ⟨rfl, ?_⟩
                    have sb := ((sga.trans sgb).trans sgc).trans s4
                    by_cases hin : b ∈ B2.map (·.1)
                    · obtain ⟨v, _, _, hg, _⟩ := get_some (H := H') (d := q2) (.inl (sb q2 _ e9)) (dpair_mono (Ext.of sb) hk9) hB2 hin
                      refine ⟨_, rfl, _, rfl, q2, _, rfl, hg, false, rfl, ?_⟩
                      refine iteF ?_
                      exact kf _ (Same.refl _) (by rw [decide_eq_true hin]; rfl)
                    · have hg := get_out (H := H') (d := q2) (.inl (sb q2 _ e9)) (dpair_mono (Ext.of sb) hk9) hin
                      refine ⟨_, rfl, _, rfl, q2, _, rfl, hg, true, rfl, ?_⟩
                      refine iteT ?_
                      exact ⟨_, rfl, kt _ _ (Same.refl _) rfl (by rw [decide_eq_false hin]; rfl)⟩
                  · intro Gd zs sgd hDd hpd
                    rw [List.map_id'] at hpd
                    refine ⟨(by show 2 ≤ sizeLine; decide), fun pl hpl => ?_⟩
                    have sGd := (sGb.trans sgc).trans sgd
                    have sGe := sGd.trans (Same.new (o := .lst [V.ref Da, V.ref Dc]) hpl)
                    have s7d := ((((sg8.trans sg9).trans sga).trans sgb).trans sgc).trans sgd
                    have s7e := s7d.trans (Same.new (o := .lst [V.ref Da, V.ref Dc]) hpl)
                    have hde := Same.new (o := .lst [V.ref Da, V.ref Dc]) hpl
                    -- Missing(missing_of(plant, flows), flows, lots[0], lots[1])
                    refine ⟨_, rfl, _, rfl, .ref p, .ref F, P, ks, f, rfl, Mono.same sGe hP, ok, ⟨F, kvs, rfl, .inl (s7e F _ hF7), dpair_mono (Ext.of s7e) hk7⟩, ndk, hmem, fun mv Gf sgf hmv => ?_⟩
                    have hmv' : mv = .int (missing P f) := hmv
                    subst hmv'
                    have hplf := sgf pl _ upd_same
                    refine ⟨_, rfl, _, rfl, pl, _, _, _, rfl, rfl, SqL.of hplf, atI_nat (j := 0) rfl, _, rfl, pl, _, _, _, rfl, rfl, SqL.of hplf, atI_nat (j := 1) rfl, fun x dxx hx hdx hne => ?_⟩
                    have sx : Same Gf (upd (upd Gf dxx (.own x)) x (.ins T.C_Missing dxx [])) := (Same.new hdx).trans (Same.new (by rw [upd_ne hne.symm]; exact hx))
                    have sfx := sgf.trans sx
                    have s7f := s7e.trans sfx
                    refine ⟨x, dxx, missing P f, .ref F, .ref Da, .ref Dc, kdict ks f, (P.kn.filter fun b => decide (b ∈ B1.map (·.1))), (P.kn.filter fun b => !decide (b ∈ B2.map (·.1))), rfl, upd_same, ⟨F, kvs, rfl, .inl (s7f F _ hF7), dpair_mono (Ext.of s7f) hk7⟩, ?_, ?_, fun H' hmi hold => ⟨rfl, ?_⟩⟩
                    · have sbx := ((sgc.trans sgd).trans hde).trans sfx
                      exact ⟨Da, ys, rfl, sbx Da _ hDb, paired_mono (Ext.of sbx) hpb⟩
                    · have sdx := hde.trans sfx
                      exact ⟨Dc, zs, rfl, sdx Dc _ hDd, paired_mono (Ext.of sdx) hpd⟩
                    · obtain ⟨x', dx', fs', fv', ex, hx', hnum, hfl, hfd⟩ := hmi
                      cases ex
                      have sfin : Same H H' := fun b o e => by
                        have e2 := (sGe.trans sgf) b o e
                        have e3 := sx b o e2
                        refine hold b o ?_ e3
                        intro z
                        subst z
                        rw [hx] at e2
                        cases e2
                      refine k2 x H' _ _ (missing P f) f fv' sfin hx' hnum hfl hfd (fun hpos hg => ?_) (fun hle => ⟨lm.win, missing_zero ok hle⟩)
                      obtain ⟨g, hg⟩ := hg
                      rw [missing_bal (cut g hg)] at hpos
                      exact absurd hpos (by decide)
              · -- a way: push
                refine ⟨_, rfl, false, rfl, ?_⟩
                refine iteF ?_
                obtain ⟨⟨u, hu', hch, hnd⟩, hmw⟩ := hway
                have ha : ∀ a ∈ way, Mt.IsArc (Mt.lines P.E) L f a := fun a h => mem_arcs.mp (hmw a h)
                obtain ⟨huk, hup⟩ := List.mem_filter.mp hu'
                obtain ⟨hvk, hvp⟩ := List.mem_filter.mp hv
                have hup' : Mt.net P.E f u > 0 := of_decide_eq_true hup
                have hvp' : Mt.net P.E f v < 0 := of_decide_eq_true hvp
                have sg57 := sg6.trans sg7
                have sG7 := sG5.trans sg57
                have s27 := s25'.trans sg57
                have hF7 := sg57 F _ hFG5
                have hk7 : DPr rInt G7 kvs (kdict ks f) := dpair_mono (Ext.of sg57) hkG5
                have sb := sg15.trans sg57
                have nlk : ((kdict P.kn fun k => Mt.net P.E f k).map (·.1)).Nodup := by rw [kdict_keys]; exact ok.kn
                obtain ⟨vu, hgu, rfl⟩ := get_in (H := G7) (d := lf) (.inl (sb lf _ ef1)) (dpair_mono (Ext.of sb) hk1) nlk (kdict_mem (f := fun k => Mt.net P.E f k) huk)
                obtain ⟨vv, hgv, rfl⟩ := get_in (H := G7) (d := lf) (.inl (sb lf _ ef1)) (dpair_mono (Ext.of sb) hk1) nlk (kdict_mem (f := fun k => Mt.net P.E f k) hvk)
                have hne : way ≠ [] := fun z => by
                  subst z
                  have e : u = v := hch
                  subst e
                  omega
                obtain ⟨q0, hq0, hq0t⟩ : ∃ q : Addr, wxs[0]? = some (.ref q) ∧ ∃ a b c d, G7 q = some (.tup [.str u, a, b, c, d]) := by
                  cases hwy : way with
                  | nil => exact absurd hwy hne
                  | cons a r =>
                    rw [hwy] at hx7 hch
                    cases hx7 with
                    | cons h t =>
                      obtain ⟨q, rfl, hq⟩ := h
                      have hsu : a.src = u := hch.1
                      exact ⟨q, rfl, _, _, _, _, by rw [hq, hsu]⟩
                obtain ⟨q9, xs0, hq9, hq9t⟩ : ∃ (q : Addr) (xs0 : List V), wxs = xs0 ++ [.ref q] ∧ ∃ a b c d, G7 q = some (.tup [a, .str v, b, c, d]) := by
                  rcases List.eq_nil_or_concat way with z | ⟨r, a, z⟩
                  · exact absurd z hne
                  · rw [List.concat_eq_append] at z
                    rw [z] at hx7 hch
                    obtain ⟨xs0, x, e, q, rfl, hq⟩ := paired_last hx7
                    have hsv := chain_last hch
                    exact ⟨q, xs0, e, _, _, _, _, by rw [hq, hsv]⟩
                obtain ⟨_, _, _, _, hq0t⟩ := hq0t
                obtain ⟨_, _, _, _, hq9t⟩ := hq9t
                refine ⟨_, rfl, _, rfl, _, rfl, _, rfl, pw, _, _, _, rfl, rfl, SqL.of e7, atI_nat (j := 0) hq0, q0, _, _, _, rfl, rfl, SqT.of hq0t, atI_nat (j := 0) rfl, lf, _, rfl, hgu,
                  _, rfl, _, rfl, _, rfl, pw, _, _, _, rfl, rfl, SqL.of e7, (by rw [hq9]; exact atI_last xs0 _), q9, _, _, _, rfl, rfl, SqT.of hq9t, atI_nat (j := 1) rfl, lf, _, rfl, hgv, _, rfl, _, _, rfl, ?_⟩
                refine ⟨F, .ref pw, _, kvs, ks, f, way, rfl, hF7, hk7, ndk, k60, ⟨pw, wxs, rfl, e7, hx7⟩, fun a h => arc_ok (fun e he => (hE2 e he).1) (ha a h), hwl, fun y kvs' G8 c1 c2 c3 kp8 hF8 hk8 => ?_⟩
                have ypos : 0 < y := by
                  rcases c3 with e | ⟨a, h, e⟩
                  · rw [e]
                    split <;> omega
                  · have := (ha a h).room_pos
                    omega
                have yu : y ≤ Mt.net P.E f u := by
                  split at c1 <;> omega
                have yv : y ≤ -Mt.net P.E f v := by
                  split at c1 <;> omega
                have hnet : ∀ k, Mt.net P.E (Mt.pushF f way y) k = Mt.net P.E f k + ((if v = k then y else 0) - (if u = k then y else 0)) := fun k => by
                  have := Mt.net_push (m := y) (f := f) (Mt.nd_lines N.nd) k (fun a h => (ha a h).along) hch
                  rw [Mt.net_lines, Mt.net_lines] at this
                  exact this
                have hlt : missing P (Mt.pushF f way y) < missing P f := by
                  refine sum_lt (z := v) (fun k _ => ?_) hvk ?_
                  · rw [hnet]
                    by_cases e1 : v = k
                    · subst e1
                      have e2 : u ≠ v := fun z => by rw [z] at hup'; omega
                      rw [if_pos rfl, if_neg e2]
                      split <;> split <;> omega
                    · by_cases e2 : u = k
                      · subst e2
                        rw [if_neg e1, if_pos rfl]
                        split <;> split <;> omega
                      · rw [if_neg e1, if_neg e2]
                        split <;> split <;> omega
                  · have e2 : u ≠ v := fun z => by rw [z] at hup'; omega
                    rw [hnet, if_pos rfl, if_neg e2]
                    split <;> split <;> omega
                refine ⟨_, ?_, Mt.pushF f way y, ⟨⟨Kept.after s27 hF2 kp8, ⟨kvs', hF8, hk8⟩, fun e he => ?_⟩, rfl⟩, _, _, _, _, _, _, _, _, _, rfl⟩
                · have := missing_nonneg P (Mt.pushF f way y)
                  omega
                · by_cases q : e.tl = e.hd
                  · rw [Mt.pushF_out]
                    · exact lm.win e he
                    · intro z
                      obtain ⟨a, h, ea⟩ := List.mem_map.mp z
                      obtain ⟨d, hd, en, _⟩ := (ha a h).along
                      obtain ⟨hd1, hd2⟩ := Mt.mem_lines.mp hd
                      have : d = e := Mt.one_more.nd_inj N.nd hd1 he (by rw [← en, ea])
                      exact hd2 (this ▸ q)
                  · exact Mt.within_push (Mt.nd_lines N.nd) ha hch hnd (by omega) c2 (Mt.within_sub (fun e he => (Mt.mem_lines.mp he).1) lm.win) e (Mt.mem_lines.mpr ⟨he, q⟩)
    · refine ⟨true, rfl, ?_⟩
      refine iteT ?_
      refine k1 H1 s1 fun ⟨g, hg⟩ => ?_
      obtain ⟨e, he, en⟩ := E_of hn
      have := hg.win e he
      rw [en] at this
      omega
end
end Mx

set_option Elab.async false
set_option linter.all false
set_option maxRecDepth 100000
set_option maxHeartbeats 1000000
/-! flows_within, flows_of, pushed_to, range_within, range_of. -/
namespace Mx
open PySem PySem.Spec PyProof.Rows L2
/-- what a push leaves -/
structure Pu (H H' : Hp) (F : Addr) (fs : List Str) (E : List (Mt.Edge Str)) (L : Str → Int × Int) (f : Str → Int) (start stop : Str) (most x : Int) (f' : Str → Int) : Prop where
  x0 : 0 ≤ x
  xm : x ≤ most
  kept : Kept F H H'
  d : ∃ kvs, H' F = some (.dK kvs) ∧ DPr rInt H' kvs (kdict fs f')
  win : Mt.Within E L f'
  net : ∀ k, Mt.net E f' k = Mt.net E f k + ((if stop = k then x else 0) - (if start = k then x else 0))
  out : ∀ n, n ∉ E.map (·.nm) → f' n = f n
  fin : x = most ∨ ∃ S, Mt.Closed E L f' S ∧ S start ∧ ¬ S stop
theorem Pu.grow {H H' H2 : Hp} {F : Addr} {fs : List Str} {E : List (Mt.Edge Str)} {L : Str → Int × Int} {f : Str → Int} {start stop : Str} {most x : Int} {f' : Str → Int} (p : Pu H H' F fs E L f start stop most x f') (s : Same H' H2) : Pu H H2 F fs E L f start stop most x f' :=
  ⟨p.x0, p.xm, p.kept.trans (Kept.of s), let ⟨kvs, h1, h2⟩ := p.d; ⟨kvs, s F _ h1, dpair_mono (Ext.of s) h2⟩, p.win, p.net, p.out, p.fin⟩
section
variable {P : Program} {w : World} {K : PySem.W.Frag} {mg : Str → Option Value} {base : Heap}
def sp_flows_within (C : Addr) : Sp := fun vs H Q _ => ∃ pv lv P ks L, vs = [pv, lv] ∧ rPl C H pv P ∧ PlOk P ∧ rD rLim H lv (ldict ks L) ∧ ks.Nodup ∧ (∀ n, n ∈ ks ↔ n ∈ P.names) ∧
  (∀ H', Same H H' → (¬ ∃ g, Mt.Feas P.E P.kn L g) → Q .non H') ∧ ∀ a H' f, Same H H' → rD rInt H' (.ref a) (kdict ks f) → Mt.Feas P.E P.kn L f → Q (.ref a) H'
theorem ok_flows_within (T : Tx K mg) : FnOk P w K mg base CX0 7 T.a_flows_within T.d_flows_within P_flows_within (sp_flows_within T.C_Plant) := by
  refine T.F_flows_within.ok sc_flows_within (fun vs H Q E h => ?_) (fun cdv A outer s H vs Q E hr h => ⟨_, PSs.nox (pss_cons (ps_set (i := 2) sc_flows_within.nd rfl (Or.inl rfl) (pe_call (ok_least_missing T) (hr.mono (by decide)) rfl T.m_least_missing T.F_least_missing.kp (b_least_missing T) .nil pass0 (pa_cons (pv 0) (pa_cons (pv 1) pa_nil))))
    (pss_cons (ps_if (PW.pt (pw_or (pt_cmp (pc_isN (pv 2))) (pw_or1 (pt_cmpR op_gt (pe_fld (pv 2) rfl) pe_int (nomark _))))) (pss_one (ps_ret pe_non)) pss_nil)
    (pss_one (ps_ret (pe_fld (pv 2) rfl))))), ?_⟩)
  · obtain ⟨_, _, _, _, _, rfl, _⟩ := h
    rfl
  · obtain ⟨pv, lv, P, ks, L, rfl, hP, ok, hL, ndk, hmem, k1, k2⟩ := h
    refine ⟨_, rfl, _, rfl, pv, lv, P, ks, L, rfl, hP, ok, hL, ndk, hmem, fun H1 s1 hn => ?_, fun q H1 dx fs num f fv s1 hq hnum hfl hfd hpos hle => ?_⟩
    · refine ⟨_, rfl, true, rfl, ?_⟩
      refine iteT ?_
      refine iteT ?_
      exact k1 H1 s1 hn
    · refine ⟨_, rfl, false, rfl, ?_⟩
      refine iteF ?_
      refine ⟨_, rfl, q, _, dx, _, _, rfl, hq, T.c_Missing, T.f_Missing_number, hnum, _, _, rfl, rfl, _, rfl, ?_⟩
      refine ite2 (fun h => ?_) (fun h => ?_)
      · exact k1 H1 s1 (hpos (of_decide_eq_true h))
      · have h' : ¬ 0 < num := fun z => h (decide_eq_true z)
        obtain ⟨fa, fks, rfl, hfa, hfk⟩ := hfd
        refine ⟨_, rfl, q, _, dx, _, _, rfl, hq, T.c_Missing, T.f_Missing_flows, hfl, ?_⟩
        exact k2 fa H1 f s1 ⟨fa, fks, rfl, hfa, hfk⟩ (hle (by omega))
def sp_flows_of (C : Addr) : Sp := fun vs H Q _ => ∃ pv rv P R, vs = [pv, rv] ∧ rPl C H pv P ∧ PlOk P ∧ rD rLim H rv R ∧ RdOk P R ∧
  (∀ H', Same H H' → (¬ ∃ g, Mt.Feas P.E P.kn (limN P R) g) → Q .non H') ∧ ∀ a H' f, Same H H' → rD rInt H' (.ref a) (kdict P.names f) → Mt.Feas P.E P.kn (limN P R) f → Q (.ref a) H'
theorem ok_flows_of (T : Tx K mg) : FnOk P w K mg base CX0 8 T.a_flows_of T.d_flows_of P_flows_of (sp_flows_of T.C_Plant) := by
  refine T.F_flows_of.ok sc_flows_of (fun vs H Q E h => ?_) (fun cdv A outer s H vs Q E hr h => ⟨_, PSs.nox (pss_one (ps_ret (pe_call (ok_flows_within T) (hr.mono (by decide)) rfl T.m_flows_within T.F_flows_within.kp (b_flows_within T) .nil pass0 (pa_cons (pv 0) (pa_cons (pe_call (ok_limits_of T) (hr.mono (by decide)) rfl T.m_limits_of T.F_limits_of.kp (b_limits_of T) .nil pass0 (pa_cons (pv 0) (pa_cons (pv 1) pa_nil))) pa_nil))))), ?_⟩)
  · obtain ⟨_, _, _, _, rfl, _⟩ := h
    rfl
  · obtain ⟨pv, rv, P, R, rfl, hP, ok, hRd, hR, k1, k2⟩ := h
    refine ⟨_, rfl, _, rfl, _, rfl, pv, rv, P, R, rfl, hP, ok, hRd, hR, fun pl H1 lks hpl s1 el hlk => ?_⟩
    exact ⟨pv, .ref pl, P, P.names, limN P R, rfl, Mono.same s1 hP, ok, ⟨pl, lks, rfl, .inl el, hlk⟩, ok.nd, fun _ => Iff.rfl, fun H2 s2 hn => k1 H2 (s1.trans s2) hn, fun a H2 f s2 hf hfe => k2 a H2 f (s1.trans s2) hf hfe⟩
def sp_pushed_to (C : Addr) : Sp := fun vs H Q _ => ∃ pv ev lv F start stop most P E ls L kvs fs f, vs = [pv, ev, lv, .ref F, .str start, .str stop, .int most] ∧ rPl C H pv P ∧ P.kn.length ≤ 24 ∧ rL rEd H ev E ∧ rN rLim F H lv (ldict ls L) ∧ ls.Nodup ∧ H F = some (.dK kvs) ∧ DPr rInt H kvs (kdict fs f) ∧ fs.Nodup ∧ fs.length ≤ 60 ∧
  (∀ e ∈ E, e.nm ∈ ls ∧ e.nm ∈ fs) ∧ E.length ≤ 60 ∧ (E.map (·.nm)).Nodup ∧ Mt.Within E L f ∧ 0 ≤ most ∧ start ≠ stop ∧
  ∀ x f' H' t lv lot, Pu H H' F fs E L f start stop most x f' → H' t = some (.tup [.int x, lv]) → rOpt (rL rStr) H' lv lot → Q (.ref t) H'
theorem ok_pushed_to (T : Tx K mg) : FnOk P w K mg base CX0 4 T.a_pushed_to T.d_pushed_to P_pushed_to (sp_pushed_to T.C_Plant) := by
  refine T.F_pushed_to.ok sc_pushed_to (fun vs H Q E h => ?_) (fun cdv A outer s H vs Q E hr h => ?_)
  · obtain ⟨_, _, _, _, _, _, _, _, _, _, _, _, _, _, rfl, _⟩ := h
    rfl
  · have hu := hu_of hr
    refine ⟨_, PSs.nox (pss_cons (ps_set (i := 7) sc_pushed_to.nd rfl (Or.inl rfl) (pe_call (ok_push_all T) (hr.mono (by decide)) rfl T.m_push_all T.F_push_all.kp (b_push_all T) .nil pass0 (pa_cons (pv 1) (pa_cons (pv 2) (pa_cons (pv 3) (pa_cons (pv 4) (pa_cons (pv 5) (pa_cons (pv 6) pa_nil))))))))
    (pss_cons (ps_if (pt_cmpR op_eq (pv 7) (pv 6) (nomark _)) (pss_one (ps_ret (pe_tup (pa_cons (pv 7) (pa_cons pe_non pa_nil))))) pss_nil)
    (pss_cons (ps_set (i := 8) sc_pushed_to.nd rfl (Or.inr rfl) (pe_call (ok_leading_to T) (hr.mono (by decide)) rfl T.m_leading_to T.F_leading_to.kp (b_leading_to T) .nil pass0 (pa_cons (pv 1) (pa_cons (pv 2) (pa_cons (pv 3) (pa_cons (pe_lst (pa_cons (pv 5) pa_nil)) pa_nil))))))
    (pss_one (ps_ret (pe_tup (pa_cons (pv 7) (pa_cons (pe_lc (own := [("knot", 9)]) rfl sc_pushed_to.nd (pi_list (pe_prop (pv 0) T.c_Plant T.p_Plant_knots (ok_Plant_knots T) (hr.mono (by decide)) (b_Plant_knots T) .nil pass0 rfl)) (blkOk_by (own := [("knot", 9)]) (N := N_pushed_to) (sc := defScope s_pushed_to) (by decide +kernel)) (fun _ _ _ _ _ => (pg_name (i := 9) sc_pushed_to.nd rfl (Or.inl rfl))) (fun _ _ _ _ _ => (pts_one (pt_cmp (pc_din hu (pv 9) (pv 8))))) (fun _ _ _ _ _ => (pv 9))) pa_nil)))))))), ?_⟩
    obtain ⟨pv, ev, lv, F, start, stop, most, P, E', ls, L, kvs, fs, f, rfl, hP, k24, hE, hL, ndl, hF, hk, ndf, f60, hmem, e60, nde, hw, h0, hne, k⟩ := h
    refine ⟨_, rfl, _, rfl, _, rfl, _, rfl, _, rfl, _, rfl, ev, lv, F, start, stop, most, E', ls, L, kvs, fs, f, rfl, hE, hL, ndl, hF, hk, ndf, f60, hmem, e60, nde, hw, h0, hne, fun x f' kvs' H1 x0 xm kp hF1 hk1 hw1 hn1 ho1 hend => ?_⟩
    have pu : Pu H H1 F fs E' L f start stop most x f' := ⟨x0, xm, kp, ⟨kvs', hF1, hk1⟩, hw1, hn1, ho1, hend⟩
    refine ⟨_, rfl, _, rfl, rfl, _, rfl, ?_⟩
    refine ite2 (fun h => ?_) (fun h => ?_)
    · refine ⟨_, rfl, (by show 2 ≤ sizeLine; decide), fun t ht => ?_⟩
      exact k x f' _ t .non none (pu.grow (Same.new ht)) upd_same rfl
    · have hL1 := hL.kept kp hF
      have hE1 : rL rEd H1 ev E' := NoD.mono (kp.ext hF) hE
      have hP1 : rPl T.C_Plant H1 pv P := NoD.mono (kp.ext hF) hP
      refine ⟨_, rfl, _, rfl, _, rfl, _, rfl, (by show 1 ≤ sizeLine; decide), fun pe hpe => ?_⟩
      have s1 : Same H1 (upd H1 pe (.lst [.str stop])) := Same.new hpe
      refine ⟨ev, lv, .ref F, .ref pe, E', ls, L, fs, f', [stop], rfl, Mono.same s1 hE1, (rN.same s1 hL1).rd, ndl, ⟨F, kvs', rfl, .inl (s1 F _ hF1), dpair_mono (Ext.of s1) hk1⟩, ndf, hmem, e60, ⟨pe, [.str stop], rfl, upd_same, .cons rfl .nil⟩, (by show 1 ≤ 24; decide), List.nodup_cons.mpr ⟨List.not_mem_nil, List.nodup_nil⟩, fun B hB q H2 ks2 hq s2 e2 hk2 => ?_⟩
      have s12 := s1.trans s2
      obtain ⟨p, dx, ka, sa, rfl, hi, hkn, hst⟩ := id hP1
      refine ⟨_, rfl, _, rfl, p, dx, _, rfl, s12 p _ hi, _, P, rfl, Mono.same s12 hP1, fun l H3 xs hl s3 e3 hx => ?_⟩
      refine ⟨l, rfl, ⟨_, SqL.of e3⟩, fun D hD => lc_gen (A := rStr) (B := rStr) (walk_list (K := K)) P.kn (paired_len hx).symm ?_ hD (src_k e3) (src_y hx) (fun b => decide (b ∈ B.map (·.1))) (fun b => b) ?_ ?_⟩
      · rw [paired_len hx]
        exact Nat.lt_of_le_of_lt k24 (by decide)
      · rintro i b x H' hb s4 rfl Ks Kc kt kf
        refine ⟨rfl, ?_⟩
        have sb := s3.trans s4
        by_cases hin : b ∈ B.map (·.1)
        · obtain ⟨v, _, _, hg, _⟩ := get_some (H := H') (d := q) (.inl (sb q _ e2)) (dpair_mono (Ext.of sb) hk2) hB hin
          refine ⟨_, rfl, _, rfl, q, _, rfl, hg, true, rfl, ?_⟩
          refine iteT ?_
          exact ⟨_, rfl, kt _ _ (Same.refl _) rfl (decide_eq_true hin)⟩
        · have hg := get_out (H := H') (d := q) (.inl (sb q _ e2)) (dpair_mono (Ext.of sb) hk2) hin
          refine ⟨_, rfl, _, rfl, q, _, rfl, hg, false, rfl, ?_⟩
          refine iteF ?_
          exact kf _ (Same.refl _) (decide_eq_false hin)
      · intro H4 ys s4 hD4 hp4
        rw [List.map_id'] at hp4
        refine ⟨(by show 2 ≤ sizeLine; decide), fun t ht => ?_⟩
        have s14 := (s12.trans s3).trans s4
        have sn := Same.new (o := .tup [V.int x, V.ref D]) ht
        exact k x f' _ t (.ref D) (some _) (pu.grow (s14.trans sn)) upd_same ⟨D, ys, rfl, sn D _ hD4, paired_mono (Ext.of sn) hp4⟩
/-! ### range_within -/
def RangeOk (P : Pl) (L : Str → Int × Int) (n : Str) (lo hi : Int) : Prop := (∃ g, Mt.Feas P.E P.kn L g ∧ g n = lo) ∧ (∃ g, Mt.Feas P.E P.kn L g ∧ g n = hi) ∧ ∀ g, Mt.Feas P.E P.kn L g → lo ≤ g n ∧ g n ≤ hi
def sp_range_within (C Cr : Addr) : Sp := fun vs H Q _ => ∃ pv lv P ks L s, vs = [pv, lv, .str s.nm] ∧ rPl C H pv P ∧ PlOk P ∧ rD rLim H lv (ldict ks L) ∧ ks.Nodup ∧ (∀ n, n ∈ ks ↔ n ∈ P.names) ∧ s ∈ P.st ∧
  (∀ H', Same H H' → (¬ ∃ g, Mt.Feas P.E P.kn L g) → Q .non H') ∧ ∀ a H' lo hi, Same H H' → rRa Cr H' (.ref a) (lo, hi) → RangeOk P L s.nm lo hi → Q (.ref a) H'
theorem self_set {P : Pl} (ok : PlOk P) {L : Str → Int × Int} {f : Str → Int} (hf : Mt.Feas P.E P.kn L f) {s : Sm} (hs : s ∈ P.st) (e : s.tl = s.hd) {x : Int} (h1 : (L s.nm).1 ≤ x) (h2 : x ≤ (L s.nm).2) : Mt.Feas P.E P.kn L (Mt.setF f s.nm x) := by
  have N := net_of P ok
  have hE : (⟨s.nm, s.tl, s.hd⟩ : Mt.Edge Str) ∈ P.E := List.mem_map.mpr ⟨s, hs, rfl⟩
  refine ⟨fun d hd => ?_, fun k hk => ?_⟩
  · by_cases q : d.nm = s.nm
    · rw [q, Mt.setF_same]
      exact ⟨h1, h2⟩
    · rw [Mt.setF_ne _ _ q]
      exact hf.win d hd
  · have := Mt.net_set N.nd hE f x k
    show Mt.net P.E (Mt.setF f s.nm x) k = 0
    rw [this, hf.bal k hk]
    show (0 : Int) + ((if s.hd = k then x - f s.nm else 0) - (if s.tl = k then x - f s.nm else 0)) = 0
    rw [e]
    omega
theorem closed_congr {E : List (Mt.Edge Str)} {L : Str → Int × Int} {f g : Str → Int} {S : Str → Prop} (h : ∀ e ∈ E, f e.nm = g e.nm) (c : Mt.Closed E L f S) : Mt.Closed E L g S := fun e he => by
  have := c e he
  rw [h e he] at this
  exact this
/-- the low end -/
theorem low_end {P : Pl} (ok : PlOk P) {L : Str → Int × Int} {f : Str → Int} (hf : Mt.Feas P.E P.kn L f) {s : Sm} (hs : s ∈ P.st) (hne : s.tl ≠ s.hd) {H H' : Hp} {F : Addr} {fs : List Str} {x : Int} {f' : Str → Int}
    (pu : Pu H H' F fs (Mt.others P.E s.nm) L f s.tl s.hd (f s.nm - (L s.nm).1) x f') : Mt.Feas P.E P.kn L (Mt.setF f' s.nm (f' s.nm - x)) ∧ ∀ g, Mt.Feas P.E P.kn L g → f' s.nm - x ≤ g s.nm := by
  have N := net_of P ok
  have hE : (⟨s.nm, s.tl, s.hd⟩ : Mt.Edge Str) ∈ P.E := List.mem_map.mpr ⟨s, hs, rfl⟩
  have e0 : f' s.nm = f s.nm := pu.out _ (Mt.others_out P.E s.nm)
  obtain ⟨w1, w2⟩ := hf.win _ hE
  have w1' : (L s.nm).1 ≤ f s.nm := w1
  have w2' : f s.nm ≤ (L s.nm).2 := w2
  have h0 := pu.x0
  have hm := pu.xm
  have hb : ∀ k ∈ P.kn, Mt.net P.E (Mt.setF f' s.nm (f s.nm - x)) k = 0 := Mt.bal_less N hE hne hf.bal pu.net
  rw [e0]
  refine ⟨⟨Mt.within_apart N.nd hE hne hf.win pu.win (show (L s.nm).1 ≤ f s.nm - x ∧ f s.nm - x ≤ (L s.nm).2 from ⟨by omega, by omega⟩) (fun e he q => pu.out _ fun z => ?_), hb⟩, fun g hg => ?_⟩
  · obtain ⟨d, hd, ed⟩ := List.mem_map.mp z
    obtain ⟨⟨d1, d2⟩, _⟩ := Mt.mem_others.mp hd
    have : d = e := Mt.one_more.nd_inj N.nd d1 he ed
    exact d2 (this ▸ q)
  · rcases pu.fin with e | ⟨S, hc, h1, h2⟩
    · have := (hg.win _ hE).1
      have this' : (L s.nm).1 ≤ g s.nm := this
      omega
    · have hc' : Mt.Closed (Mt.others P.E s.nm) L (Mt.setF f' s.nm (f s.nm - x)) S := closed_congr (fun e he => (Mt.setF_ne _ _ (Mt.mem_others.mp he).2).symm) hc
      have := Mt.low_cut N hE hne hb hc' h1 h2 hg
      have this' : Mt.setF f' s.nm (f s.nm - x) s.nm ≤ g s.nm := this
      rw [Mt.setF_same] at this'
      exact this'
theorem high_end {P : Pl} (ok : PlOk P) {L : Str → Int × Int} {f : Str → Int} (hf : Mt.Feas P.E P.kn L f) {s : Sm} (hs : s ∈ P.st) (hne : s.tl ≠ s.hd) {H H' : Hp} {F : Addr} {fs : List Str} {x : Int} {f' : Str → Int}
    (pu : Pu H H' F fs (Mt.others P.E s.nm) L f s.hd s.tl ((L s.nm).2 - f s.nm) x f') : Mt.Feas P.E P.kn L (Mt.setF f' s.nm (f' s.nm + x)) ∧ ∀ g, Mt.Feas P.E P.kn L g → g s.nm ≤ f' s.nm + x := by
  have N := net_of P ok
  have hE : (⟨s.nm, s.tl, s.hd⟩ : Mt.Edge Str) ∈ P.E := List.mem_map.mpr ⟨s, hs, rfl⟩
  have e0 : f' s.nm = f s.nm := pu.out _ (Mt.others_out P.E s.nm)
  obtain ⟨w1, w2⟩ := hf.win _ hE
  have w1' : (L s.nm).1 ≤ f s.nm := w1
  have w2' : f s.nm ≤ (L s.nm).2 := w2
  have h0 := pu.x0
  have hm := pu.xm
  have hb : ∀ k ∈ P.kn, Mt.net P.E (Mt.setF f' s.nm (f s.nm + x)) k = 0 := Mt.bal_more N hE hne hf.bal pu.net
  rw [e0]
  refine ⟨⟨Mt.within_apart N.nd hE hne hf.win pu.win (show (L s.nm).1 ≤ f s.nm + x ∧ f s.nm + x ≤ (L s.nm).2 from ⟨by omega, by omega⟩) (fun e he q => pu.out _ fun z => ?_), hb⟩, fun g hg => ?_⟩
  · obtain ⟨d, hd, ed⟩ := List.mem_map.mp z
    obtain ⟨⟨d1, d2⟩, _⟩ := Mt.mem_others.mp hd
    have : d = e := Mt.one_more.nd_inj N.nd d1 he ed
    exact d2 (this ▸ q)
  · rcases pu.fin with e | ⟨S, hc, h1, h2⟩
    · have := (hg.win _ hE).2
      have this' : g s.nm ≤ (L s.nm).2 := this
      omega
    · have hc' : Mt.Closed (Mt.others P.E s.nm) L (Mt.setF f' s.nm (f s.nm + x)) S := closed_congr (fun e he => (Mt.setF_ne _ _ (Mt.mem_others.mp he).2).symm) hc
      have := Mt.high_cut N hE hne hb hc' h1 h2 hg
      have this' : g s.nm ≤ Mt.setF f' s.nm (f s.nm + x) s.nm := this
      rw [Mt.setF_same] at this'
      exact this'
theorem ok_range_within (T : Tx K mg) : FnOk P w K mg base CX0 8 T.a_range_within T.d_range_within P_range_within (sp_range_within T.C_Plant T.C_Range) := by
  refine T.F_range_within.ok sc_range_within (fun vs H Q E h => ?_) (fun cdv A outer s H vs Q E hr h => ?_)
  · obtain ⟨_, _, _, _, _, _, rfl, _⟩ := h
    rfl
  · have hu := hu_of hr
    refine ⟨_, PSs.nox (pss_cons (ps_asg (pe_meth (pv 0) T.c_Plant T.h_Plant_stream_named (ok_Plant_stream_named T) (hr.mono (by decide)) (b_Plant_stream_named T) .nil pass0 (pa_cons (pv 2) pa_nil)) (pg_tup rfl (pgs_cons (pg_name (i := 7) sc_range_within.nd rfl (Or.inl rfl)) (pgs_cons (pg_name (i := 8) sc_range_within.nd rfl (Or.inl rfl)) (pgs_cons (pg_name (i := 9) sc_range_within.nd rfl (Or.inl rfl)) (pgs_cons (pg_name (i := 7) sc_range_within.nd rfl (Or.inl rfl)) (pgs_cons (pg_name (i := 7) sc_range_within.nd rfl (Or.inl rfl)) pgs_nil)))))))
    (pss_cons (ps_set (i := 3) sc_range_within.nd rfl (Or.inl rfl) (pe_call (ok_flows_within T) (hr.mono (by decide)) rfl T.m_flows_within T.F_flows_within.kp (b_flows_within T) .nil pass0 (pa_cons (pv 0) (pa_cons (pv 1) pa_nil))))
    (pss_cons (ps_if (pt_cmp (pc_isN (pv 3))) (pss_one (ps_ret pe_non)) pss_nil)
    (pss_cons (ps_asg (pe_dget hu (pv 1) (pv 2) (fun _ _ => rfl)) (pg_tup rfl (pgs_cons (pg_name (i := 10) sc_range_within.nd rfl (Or.inl rfl)) (pgs_cons (pg_name (i := 11) sc_range_within.nd rfl (Or.inl rfl)) pgs_nil))))
    (pss_cons (ps_set (i := 4) sc_range_within.nd rfl (Or.inl rfl) (pe_callTy call_dictD (by rfl) T.n_dict (by decide +kernel) (pa_cons (pv 3) pa_nil)))
    (pss_cons (ps_set (i := 5) sc_range_within.nd rfl (Or.inl rfl) (pe_callTy call_dictD (by rfl) T.n_dict (by decide +kernel) (pa_cons (pv 3) pa_nil)))
    (pss_cons (ps_if (pt_cmpR op_eq (pv 8) (pv 9) (nomark _)) (pss_cons (ps_dput hu (pv 4) (pv 2) (pv 10) rfl)
    (pss_cons (ps_dput hu (pv 5) (pv 2) (pv 11) rfl)
    (pss_one (ps_ret (pe_make T.k_Range (ok_Range_init T) (hr.mono (by decide)) rfl T.m_Range (b_Range_init T) .nil pass0 (pa_cons (pv 10) (pa_cons (pv 11) (pa_cons (pv 4) (pa_cons (pv 5) (pa_cons pe_non (pa_cons pe_non pa_nil))))))))))) pss_nil)
    (pss_cons (ps_setLc (i := 6) (own := [("line", 16)]) rfl sc_range_within.nd rfl rfl (sw_true rfl rfl rfl (by decide +kernel)) (pi_list (pe_call (ok_lines_of T) (hr.mono (by decide)) rfl T.m_lines_of T.F_lines_of.kp (b_lines_of T) .nil pass0 (pa_cons (pv 0) pa_nil))) (blkOk_by (own := [("line", 16)]) (N := N_range_within) (sc := defScope s_range_within) (by decide +kernel)) (fun _ _ _ _ _ => (pg_name (i := 16) sc_range_within.nd rfl (Or.inl rfl))) (fun _ _ _ _ _ => (pts_one (pt_cmpR op_ne (pe_ix (ix_tupK (K := K) rfl) (pv 16) pe_int (fun _ _ => rfl)) (pv 2) (nomark _)))) (fun _ _ _ _ _ => (pv 16)))
    (pss_cons (ps_asg (pe_call (ok_pushed_to T) (hr.mono (by decide)) rfl T.m_pushed_to T.F_pushed_to.kp (b_pushed_to T) .nil pass0 (pa_cons (pv 0) (pa_cons (pv 6) (pa_cons (pv 1) (pa_cons (pv 4) (pa_cons (pv 8) (pa_cons (pv 9) (pa_cons (pe_op op_sub (pe_dget hu (pv 3) (pv 2) (fun _ _ => rfl)) (pv 10)) pa_nil)))))))) (pg_tup rfl (pgs_cons (pg_name (i := 12) sc_range_within.nd rfl (Or.inl rfl)) (pgs_cons (pg_name (i := 13) sc_range_within.nd rfl (Or.inl rfl)) pgs_nil))))
    (pss_cons (ps_asg (pe_call (ok_pushed_to T) (hr.mono (by decide)) rfl T.m_pushed_to T.F_pushed_to.kp (b_pushed_to T) .nil pass0 (pa_cons (pv 0) (pa_cons (pv 6) (pa_cons (pv 1) (pa_cons (pv 5) (pa_cons (pv 9) (pa_cons (pv 8) (pa_cons (pe_op op_sub (pv 11) (pe_dget hu (pv 3) (pv 2) (fun _ _ => rfl))) pa_nil)))))))) (pg_tup rfl (pgs_cons (pg_name (i := 14) sc_range_within.nd rfl (Or.inl rfl)) (pgs_cons (pg_name (i := 15) sc_range_within.nd rfl (Or.inl rfl)) pgs_nil))))
    (pss_cons (ps_daug hu (pv 4) (pv 2) (pv 12) in_sub (fun _ _ _ => rfl))
    (pss_cons (ps_daug hu (pv 5) (pv 2) (pv 14) in_add (fun _ _ _ => rfl))
    (pss_one (ps_ret (pe_make T.k_Range (ok_Range_init T) (hr.mono (by decide)) rfl T.m_Range (b_Range_init T) .nil pass0 (pa_cons (pe_dget hu (pv 4) (pv 2) (fun _ _ => rfl)) (pa_cons (pe_dget hu (pv 5) (pv 2) (fun _ _ => rfl)) (pa_cons (pv 4) (pa_cons (pv 5) (pa_cons (pv 13) (pa_cons (pv 15) pa_nil))))))))))))))))))))), ?_⟩
    obtain ⟨pv, lv, P, ks, L, s, rfl, hP, ok, hL, ndk, hmem, hs, k1, k2⟩ := h
    have N := net_of P ok
    obtain ⟨p, dx, ka, sa, rfl, hi, hkn, hst⟩ := id hP
    obtain ⟨ld, lks, rfl, hld, hlk⟩ := id hL
    have hsn : s.nm ∈ ks := (hmem s.nm).mpr (List.mem_map.mpr ⟨s, hs, rfl⟩)
    have k60 : ks.length ≤ 60 := by
      have := Mt.nd_le ndk fun n hn => (hmem n).mp hn
      have e : P.names.length = P.st.length := List.length_map _
      have := ok.sl
      omega
    have hE : (⟨s.nm, s.tl, s.hd⟩ : Mt.Edge Str) ∈ P.E := List.mem_map.mpr ⟨s, hs, rfl⟩
    rw [show L2.start N_range_within [V.ref p, V.ref ld, V.str s.nm] = [some (V.ref p), some (V.ref ld), some (V.str s.nm), none, none, none, none, none, none, none, none, none, none, none, none, none, none] from rfl]
    refine ⟨_, rfl, p, dx, _, rfl, hi, plF_no _ _ (by decide +kernel) (by decide +kernel), _, rfl, _, P, s, rfl, hP, ok.nd, hs, fun v H1 s1 ⟨q, ev, hq⟩ => ?_⟩
    subst ev
    refine ⟨q, _, rfl, SqT.of hq, rfl, _, _, rfl, _, _, rfl, _, _, rfl, _, _, rfl, _, _, rfl, rfl, ?_⟩
    dsimp only [gName, List.set_cons_zero, List.set_cons_succ]
    refine ⟨_, rfl, _, rfl, .ref p, .ref ld, P, ks, L, rfl, Mono.same s1 hP, ok, Mono.same s1 hL, ndk, hmem, fun H2 s2 hn => ?_, fun fa H2 f s2 hfd hf => ?_⟩
    · refine ⟨_, rfl, true, rfl, ?_⟩
      refine iteT ?_
      exact k1 H2 (s1.trans s2) hn
    · obtain ⟨_, fks, ef, hfa, hfk⟩ := hfd
      cases ef
      refine ⟨_, rfl, false, rfl, ?_⟩
      refine iteF ?_
      have s12 := s1.trans s2
      obtain ⟨v, hgl, t, _, _, rfl, ht, rfl, rfl⟩ := get_in (rd_same s12 hld) (dpair_mono (Ext.of s12) hlk) (by rw [ldict_keys]; exact ndk) (ldict_mem (f := L) hsn)
      refine ⟨_, rfl, _, rfl, ld, _, rfl, hgl, t, _, rfl, SqT.of ht, rfl, _, _, rfl, _, _, rfl, rfl, ?_⟩
      dsimp only [gName, List.set_cons_zero, List.set_cons_succ]
      -- low_flows, high_flows
      refine ⟨_, rfl, fa, fks, rfl, hfa, fun F1 hF1n => ?_⟩
      have sF1 : Same H2 (upd H2 F1 (.dK fks)) := Same.new hF1n
      refine ⟨_, rfl, fa, fks, rfl, rd_same sF1 hfa, fun F2 hF2n => ?_⟩
      dsimp only [gName, List.set_cons_zero, List.set_cons_succ]
      have sF2 : Same (upd H2 F1 (.dK fks)) (upd (upd H2 F1 (.dK fks)) F2 (.dK fks)) := Same.new hF2n
      have n12 : F1 ≠ F2 := ne_of_none (H := upd H2 F1 (.dK fks)) upd_same hF2n
      have sH3 := (s12.trans sF1).trans sF2
      have s23 := sF1.trans sF2
      have hF1 : upd (upd H2 F1 (.dK fks)) F2 (.dK fks) F1 = some (.dK fks) := by rw [upd_ne n12, upd_same]
      have hF2 : upd (upd H2 F1 (.dK fks)) F2 (.dK fks) F2 = some (.dK fks) := upd_same
      have hk3 : DPr rInt (upd (upd H2 F1 (.dK fks)) F2 (.dK fks)) fks (kdict ks f) := dpair_mono (Ext.of s23) hfk
      have hF1H : H F1 = none := by
        cases z : H F1 with
        | none => rfl
        | some u => rw [s12 F1 u z] at hF1n; cases hF1n
      have hF2H2 : H2 F2 = none := by
        cases z : H2 F2 with
        | none => rfl
        | some u => rw [sF1 F2 u z] at hF2n; cases hF2n
      have hF2H : H F2 = none := by
        cases z : H F2 with
        | none => rfl
        | some u => rw [s12 F2 u z] at hF2H2; cases hF2H2
      have nfd : ∀ d : Addr, (∃ kvs, Rd H2 d (.dK kvs)) → d ≠ F1 ∧ d ≠ F2 := fun d ⟨kvs, h⟩ => by
        refine ⟨fun z => ?_, fun z => ?_⟩
        · subst z
          rcases h with h | ⟨_, h⟩ <;> rw [hF1n] at h <;> cases h
        · subst z
          rcases h with h | ⟨_, h⟩ <;> rw [hF2H2] at h <;> cases h
      have lk : fks.length < sizeLine := by
        rw [paired_len hfk, kdict_len]
        exact Nat.lt_of_le_of_lt k60 (by decide)
      obtain ⟨wl, wh⟩ := hf.win _ hE
      have wl' : (L s.nm).1 ≤ f s.nm := wl
      have wh' : f s.nm ≤ (L s.nm).2 := wh
      refine ⟨_, rfl, _, rfl, rfl, _, rfl, ?_⟩
      refine ite2 (fun h => ?_) (fun h => ?_)
      · have hth : s.tl = s.hd := V.str.inj (of_decide_eq_true h)
        refine ⟨_, rfl, _, rfl, _, rfl, F1, _, rfl, DPut.k (k := Sum.inr s.nm) hF1 lk, ?_⟩
        have hF2' : upd (upd (upd H2 F1 (.dK fks)) F2 (.dK fks)) F1 (.dK (putK fks (Sum.inr s.nm) (.int (L s.nm).1))) F2 = some (.dK fks) := by rw [upd_ne n12.symm]; exact hF2
        refine ⟨_, rfl, _, rfl, _, rfl, F2, _, rfl, DPut.k (k := Sum.inr s.nm) hF2' lk, ?_⟩
        have ndf : ((kdict ks f).map (·.1)).Nodup := by rw [kdict_keys]; exact ndk
        have p1 := dp_put (k := s.nm) (v := V.int (L s.nm).1) hk3 rfl (by rw [kdict_keys]; exact hsn) ndf
        have p2 := dp_put (k := s.nm) (v := V.int (L s.nm).2) hk3 rfl (by rw [kdict_keys]; exact hsn) ndf
        rw [kdict_set] at p1 p2
        have tu1 := TupS.upd (o := .dK (putK fks (Sum.inr s.nm) (.int (L s.nm).1))) hF1 fun _ z => nomatch z
        have tu2 := tu1.trans (TupS.upd (o := .dK (putK fks (Sum.inr s.nm) (.int (L s.nm).2))) hF2' fun _ z => nomatch z)
        refine ⟨_, rfl, _, rfl, _, rfl, _, rfl, fun x dxx hx hdx hne => ?_⟩
        have sx := (Same.new (o := .own x) hdx).trans (Same.new (o := .ins T.C_Range dxx []) (by rw [upd_ne hne.symm]; exact hx))
        refine ⟨x, dxx, _, _, .ref F1, .ref F2, .non, .non, kdict ks (Mt.setF f s.nm (L s.nm).1), kdict ks (Mt.setF f s.nm (L s.nm).2), none, none, rfl, upd_same, ⟨F1, _, rfl, .inl (sx F1 _ (by rw [upd_ne n12, upd_same])), dp_tu (TupS.of sx) (dp_tu tu2 p1)⟩, ⟨F2, _, rfl, .inl (sx F2 _ upd_same), dp_tu (TupS.of sx) (dp_tu tu2 p2)⟩, rfl, rfl, fun H' hra hold => ⟨rfl, ?_⟩⟩
        refine k2 x H' _ _ (fun b o e => ?_) hra ⟨⟨_, self_set ok hf hs hth (Int.le_refl _) (by omega), Mt.setF_same _ _ _⟩, ⟨_, self_set ok hf hs hth (by omega) (Int.le_refl _), Mt.setF_same _ _ _⟩, fun g hg => hg.win _ hE⟩
        have e1 := sH3 b o e
        have e2 := sx b o (by rw [upd_ne (ne_of_none e hF2H), upd_ne (ne_of_none e hF1H)]; exact e1)
        refine hold b o ?_ e2
        intro z
        subst z
        have e3 := (by rw [upd_ne (ne_of_none e hF2H), upd_ne (ne_of_none e hF1H)]; exact e1 : upd (upd (upd (upd H2 F1 (.dK fks)) F2 (.dK fks)) F1 (.dK (putK fks (Sum.inr s.nm) (.int (L s.nm).1)))) F2 (.dK (putK fks (Sum.inr s.nm) (.int (L s.nm).2))) b = some o)
        rw [hx] at e3
        cases e3
      · have hth : s.tl ≠ s.hd := fun z => h (decide_eq_true (by rw [z]))
        have hP3 := Mono.same (A := rPl T.C_Plant) sH3 hP
        refine ⟨_, rfl, .ref p, P, rfl, hP3, ok.sl, fun la H4 lxs hla s4 e4 hx4 => ?_⟩
        refine ⟨la, rfl, ⟨_, SqL.of e4⟩, fun D hD => lc_gen (A := rEd) (B := rEd) (walk_list (K := K)) (Mt.lines P.E) (paired_len hx4).symm ?_ hD (src_k e4) (src_y hx4) (fun e => decide (e.nm ≠ s.nm)) (fun e => e) ?_ ?_⟩
        · rw [paired_len hx4]
          exact Nat.lt_of_le_of_lt (Nat.le_trans (lines_len P) ok.sl) (by decide)
        · rintro i e x H' hb s5 ⟨q3, rfl, hq3⟩ Ks Kc kt kf
          refine ⟨rfl, ?_⟩
          refine ⟨_, rfl, q3, _, _, _, rfl, rfl, SqT.of hq3, atI_nat (j := 0) rfl, _, rfl, rfl, _, rfl, ?_⟩
          have e1 : (!decide (V.str e.nm = V.str s.nm)) = decide (e.nm ≠ s.nm) := by
            by_cases z : e.nm = s.nm
            · rw [decide_eq_true (by rw [z]), decide_eq_false (fun y => y z)] <;> rfl
            · rw [decide_eq_false (fun y => z (V.str.inj y)), decide_eq_true z] <;> rfl
          rw [e1]
          refine ite2 (fun h => ?_) (fun h => ?_)
          · exact ⟨_, rfl, kt _ _ (Same.refl _) ⟨q3, rfl, hq3⟩ h⟩
          · exact kf _ (Same.refl _) (by cases q : decide (e.nm ≠ s.nm) with
              | true => exact absurd q h
              | false => rfl)
        · intro H5 oxs s5 hD5 hp5
          rw [List.map_id'] at hp5
          have hoth : rL rEd H5 (.ref D) (Mt.others P.E s.nm) := ⟨D, oxs, rfl, hD5, hp5⟩
          dsimp only [gName, List.set_cons_zero, List.set_cons_succ]
          have s35 := s4.trans s5
          have sH5 := sH3.trans s35
          have s25 := s23.trans s35
          have hld2 : ∃ kvs, Rd H2 ld (.dK kvs) := ⟨lks, rd_same s12 hld⟩
          have hfa2 : ∃ kvs, Rd H2 fa (.dK kvs) := ⟨fks, hfa⟩
          have nl := nfd ld hld2
          have nf := nfd fa hfa2
          have hmo : ∀ e ∈ Mt.others P.E s.nm, e.nm ∈ ks ∧ e.nm ∈ ks := fun e he => by
            have := (hmem e.nm).mpr (E_mem (Mt.mem_others.mp he).1.1)
            exact ⟨this, this⟩
          have o60 : (Mt.others P.E s.nm).length ≤ 60 := by
            have h1 := List.length_filter_le (fun e : Mt.Edge Str => decide (e.nm ≠ s.nm)) (Mt.lines P.E)
            have h2 := lines_len P
            have h3 := ok.sl
            unfold Mt.others
            omega
          have hwo : Mt.Within (Mt.others P.E s.nm) L f := Mt.within_sub (fun e he => (Mt.mem_others.mp he).1.1) hf.win
          obtain ⟨vf, hgf, rfl⟩ := get_in (rd_same s25 hfa) (dpair_mono (Ext.of s25) hfk) (by rw [kdict_keys]; exact ndk) (kdict_mem (f := f) hsn)
          -- less, low_lot
          refine ⟨_, rfl, _, rfl, _, rfl, _, rfl, _, rfl, _, rfl, _, rfl, _, rfl, fa, _, rfl, hgf, _, rfl, _, _, rfl, rfl, .ref p, .ref D, .ref ld, F1, s.tl, s.hd, f s.nm - (L s.nm).1, P, Mt.others P.E s.nm, ks, L, fks, ks, f, rfl, Mono.same sH5 hP, ok.kl, hoth, ⟨ld, lks, rfl, nl.1, rd_same sH5 hld, dpair_mono (Ext.of sH5) hlk⟩, ndk, s35 F1 _ hF1, dpair_mono (Ext.of s35) hk3, ndk, k60, hmo, o60, Mt.nd_others N.nd, hwo, by omega, hth, fun x1 f1 H6 t1 lv1 lot1 pu1 ht1 hlot1 => ?_⟩
          refine ⟨t1, _, rfl, SqT.of ht1, rfl, _, _, rfl, _, _, rfl, rfl, ?_⟩
          dsimp only [gName, List.set_cons_zero, List.set_cons_succ]
          have hF1o := s35 F1 _ hF1
          have x6 := pu1.kept.ext hF1o
          have tu6 := pu1.kept.tup hF1o
          obtain ⟨kv1, hF16, hk16⟩ := pu1.d
          have hF26 : H6 F2 = some (.dK fks) := pu1.kept F2 _ n12.symm (s35 F2 _ hF2)
          have hk26 : DPr rInt H6 fks (kdict ks f) := dp_tu tu6 (dpair_mono (Ext.of s35) hk3)
          have hP6 : rPl T.C_Plant H6 (.ref p) P := NoD.mono x6 (Mono.same sH5 hP)
          have hO6 : rL rEd H6 (.ref D) (Mt.others P.E s.nm) := NoD.mono x6 hoth
          have hL6 : rN rLim F2 H6 (.ref ld) (ldict ks L) := by
            obtain ⟨d0, kk, e0, _, r0, q0⟩ := rN.kept (A := rLim) pu1.kept hF1o (⟨ld, lks, rfl, nl.1, rd_same sH5 hld, dpair_mono (Ext.of sH5) hlk⟩ : rN rLim F1 H5 (.ref ld) (ldict ks L))
            cases e0
            exact ⟨ld, kk, rfl, nl.2, r0, q0⟩
          have hfa6 : ∃ kk, Rd H6 fa (.dK kk) ∧ DPr rInt H6 kk (kdict ks f) := by
            obtain ⟨d0, kk, e0, _, r0, q0⟩ := rN.kept (A := rInt) pu1.kept hF1o (⟨fa, fks, rfl, nf.1, rd_same s25 hfa, dpair_mono (Ext.of s25) hfk⟩ : rN rInt F1 H5 (.ref fa) (kdict ks f))
            cases e0
            exact ⟨kk, r0, q0⟩
          obtain ⟨fk6, hfa6, hfk6⟩ := hfa6
          obtain ⟨vf6, hgf6, rfl⟩ := get_in hfa6 hfk6 (by rw [kdict_keys]; exact ndk) (kdict_mem (f := f) hsn)
          -- more, high_lot
          refine ⟨_, rfl, _, rfl, _, rfl, _, rfl, _, rfl, _, rfl, _, rfl, _, rfl, _, rfl, fa, _, rfl, hgf6, _, _, rfl, rfl, .ref p, .ref D, .ref ld, F2, s.hd, s.tl, (L s.nm).2 - f s.nm, P, Mt.others P.E s.nm, ks, L, fks, ks, f, rfl, hP6, ok.kl, hO6, hL6, ndk, hF26, hk26, ndk, k60, hmo, o60, Mt.nd_others N.nd, hwo, by omega, (fun z => hth z.symm), fun x2 f2 H7 t2 lv2 lot2 pu2 ht2 hlot2 => ?_⟩
          refine ⟨t2, _, rfl, SqT.of ht2, rfl, _, _, rfl, _, _, rfl, rfl, ?_⟩
          dsimp only [gName, List.set_cons_zero, List.set_cons_succ]
          have tu7 := pu2.kept.tup hF26
          have x7 := pu2.kept.ext hF26
          obtain ⟨kv2, hF27, hk27⟩ := pu2.d
          have hF17 : H7 F1 = some (.dK kv1) := pu2.kept F1 _ n12 hF16
          have hk17 : DPr rInt H7 kv1 (kdict ks f1) := dp_tu tu7 hk16
          have nk1 : ((kdict ks f1).map (·.1)).Nodup := by rw [kdict_keys]; exact ndk
          have nk2 : ((kdict ks f2).map (·.1)).Nodup := by rw [kdict_keys]; exact ndk
          have lk1 : kv1.length < sizeLine := by
            rw [paired_len hk17, kdict_len]
            exact Nat.lt_of_le_of_lt k60 (by decide)
          have lk2 : kv2.length < sizeLine := by
            rw [paired_len hk27, kdict_len]
            exact Nat.lt_of_le_of_lt k60 (by decide)
          obtain ⟨v1, hg1, rfl⟩ := get_in (.inl hF17) hk17 nk1 (kdict_mem hsn)
          -- low_flows[name] -= less
          refine ⟨_, rfl, _, rfl, F1, _, rfl, hg1, _, rfl, _, _, rfl, rfl, _, DPut.k (k := Sum.inr s.nm) hF17 lk1, ?_⟩
          have p1 := dp_put (k := s.nm) (v := V.int (f1 s.nm - x1)) hk17 rfl (by rw [kdict_keys]; exact hsn) nk1
          rw [kdict_set] at p1
          have tu8 := TupS.upd (o := .dK (putK kv1 (Sum.inr s.nm) (.int (f1 s.nm - x1)))) hF17 fun _ z => nomatch z
          have hF28 : upd H7 F1 (.dK (putK kv1 (Sum.inr s.nm) (.int (f1 s.nm - x1)))) F2 = some (.dK kv2) := by rw [upd_ne n12.symm]; exact hF27
          obtain ⟨v2, hg2, rfl⟩ := get_in (H := upd H7 F1 (.dK (putK kv1 (Sum.inr s.nm) (.int (f1 s.nm - x1))))) (d := F2) (.inl hF28) (dp_tu tu8 hk27) nk2 (kdict_mem hsn)
          -- high_flows[name] += more
          refine ⟨_, rfl, _, rfl, F2, _, rfl, hg2, _, rfl, _, _, rfl, rfl, _, DPut.k (k := Sum.inr s.nm) hF28 lk2, ?_⟩
          have p2 := dp_put (k := s.nm) (v := V.int (f2 s.nm + x2)) (dp_tu tu8 hk27) rfl (by rw [kdict_keys]; exact hsn) nk2
          rw [kdict_set] at p2
          have tu9 := TupS.upd (o := .dK (putK kv2 (Sum.inr s.nm) (.int (f2 s.nm + x2)))) hF28 fun _ z => nomatch z
          generalize hG : upd (upd H7 F1 (.dK (putK kv1 (Sum.inr s.nm) (.int (f1 s.nm - x1))))) F2 (.dK (putK kv2 (Sum.inr s.nm) (.int (f2 s.nm + x2)))) = G at tu9
          have hG1 : G F1 = some (.dK (putK kv1 (Sum.inr s.nm) (.int (f1 s.nm - x1)))) := by rw [← hG, upd_ne n12, upd_same]
          have hG2 : G F2 = some (.dK (putK kv2 (Sum.inr s.nm) (.int (f2 s.nm + x2)))) := by rw [← hG, upd_same]
          have q1 : DPr rInt G (putK kv1 (Sum.inr s.nm) (.int (f1 s.nm - x1))) (kdict ks (Mt.setF f1 s.nm (f1 s.nm - x1))) := dp_tu (tu8.trans tu9) p1
          have q2 : DPr rInt G (putK kv2 (Sum.inr s.nm) (.int (f2 s.nm + x2))) (kdict ks (Mt.setF f2 s.nm (f2 s.nm + x2))) := dp_tu tu9 p2
          have xG : ExtD H7 G := by
            rw [← hG]
            exact ⟨fun a xs e => by rw [upd_ne (ne_of e hF27 (by intro z; cases z)), upd_ne (ne_of e hF17 (by intro z; cases z))]; exact e, fun a xs e => by rw [upd_ne (ne_of e hF27 (by intro z; cases z)), upd_ne (ne_of e hF17 (by intro z; cases z))]; exact e, fun a C dx fs e => by rw [upd_ne (ne_of e hF27 (by intro z; cases z)), upd_ne (ne_of e hF17 (by intro z; cases z))]; exact e⟩
          have lot1G : rOpt (rL rStr) G lv1 lot1 := NoD.mono xG (NoD.mono x7 hlot1)
          have lot2G : rOpt (rL rStr) G lv2 lot2 := NoD.mono xG hlot2
          obtain ⟨g1, hgg1, eg1⟩ := get_in (.inl hG1) q1 (by rw [kdict_keys]; exact ndk) (kdict_mem (f := Mt.setF f1 s.nm (f1 s.nm - x1)) hsn)
          obtain ⟨g2, hgg2, eg2⟩ := get_in (.inl hG2) q2 (by rw [kdict_keys]; exact ndk) (kdict_mem (f := Mt.setF f2 s.nm (f2 s.nm + x2)) hsn)
          rw [Mt.setF_same] at eg1 eg2
          have eg1' : g1 = .int (f1 s.nm - x1) := eg1
          have eg2' : g2 = .int (f2 s.nm + x2) := eg2
          subst eg1' eg2'
          have sG : Same H G := fun b o e => by
            have n1 := ne_of_none e hF1H
            have n2 := ne_of_none e hF2H
            rw [← hG, upd_ne n2, upd_ne n1]
            exact pu2.kept b o n2 (pu1.kept b o n1 (sH5 b o e))
          refine ⟨_, rfl, _, rfl, F1, _, rfl, hgg1, _, rfl, _, rfl, F2, _, rfl, hgg2, _, rfl, _, rfl, _, rfl, _, rfl, fun x dxx hx hdx hne => ?_⟩
          have sx := (Same.new (o := .own x) hdx).trans (Same.new (o := .ins T.C_Range dxx []) (by rw [upd_ne hne.symm]; exact hx))
          refine ⟨x, dxx, _, _, .ref F1, .ref F2, lv1, lv2, _, _, lot1, lot2, rfl, upd_same, ⟨F1, _, rfl, .inl (sx F1 _ hG1), dp_tu (TupS.of sx) q1⟩, ⟨F2, _, rfl, .inl (sx F2 _ hG2), dp_tu (TupS.of sx) q2⟩, Mono.same sx lot1G, Mono.same sx lot2G, fun H' hra hold => ⟨rfl, ?_⟩⟩
          obtain ⟨r1, r2⟩ := low_end ok hf hs hth pu1
          obtain ⟨r3, r4⟩ := high_end ok hf hs hth pu2
          refine k2 x H' _ _ (fun b o e => ?_) hra ⟨⟨_, r1, Mt.setF_same _ _ _⟩, ⟨_, r3, Mt.setF_same _ _ _⟩, fun g hg => ⟨r2 g hg, r4 g hg⟩⟩
          have e1 := sG b o e
          refine hold b o ?_ (sx b o e1)
          intro z
          subst z
          rw [hx] at e1
          cases e1
def sp_range_of (C Cr : Addr) : Sp := fun vs H Q _ => ∃ pv rv P R s, vs = [pv, rv, .str s.nm] ∧ rPl C H pv P ∧ PlOk P ∧ rD rLim H rv R ∧ RdOk P R ∧ s ∈ P.st ∧
  (∀ H', Same H H' → (¬ ∃ g, Mt.Feas P.E P.kn (limN P R) g) → Q .non H') ∧ ∀ a H' lo hi, Same H H' → rRa Cr H' (.ref a) (lo, hi) → RangeOk P (limN P R) s.nm lo hi → Q (.ref a) H'
theorem ok_range_of (T : Tx K mg) : FnOk P w K mg base CX0 9 T.a_range_of T.d_range_of P_range_of (sp_range_of T.C_Plant T.C_Range) := by
  refine T.F_range_of.ok sc_range_of (fun vs H Q E h => ?_) (fun cdv A outer s H vs Q E hr h => ⟨_, PSs.nox (pss_one (ps_ret (pe_call (ok_range_within T) (hr.mono (by decide)) rfl T.m_range_within T.F_range_within.kp (b_range_within T) .nil pass0 (pa_cons (pv 0) (pa_cons (pe_call (ok_limits_of T) (hr.mono (by decide)) rfl T.m_limits_of T.F_limits_of.kp (b_limits_of T) .nil pass0 (pa_cons (pv 0) (pa_cons (pv 1) pa_nil))) (pa_cons (pv 2) pa_nil)))))), ?_⟩)
  · obtain ⟨_, _, _, _, _, rfl, _⟩ := h
    rfl
  · obtain ⟨pv, rv, P, R, s, rfl, hP, ok, hRd, hR, hs, k1, k2⟩ := h
    refine ⟨_, rfl, _, rfl, _, rfl, pv, rv, P, R, rfl, hP, ok, hRd, hR, fun pl H1 lks hpl s1 el hlk => ?_⟩
    exact ⟨_, rfl, pv, .ref pl, P, P.names, limN P R, s, rfl, Mono.same s1 hP, ok, ⟨pl, lks, rfl, .inl el, hlk⟩, ok.nd, fun _ => Iff.rfl, hs, fun H2 s2 hn => k1 H2 (s1.trans s2) hn, fun a H2 lo hi s2 hf hfe => k2 a H2 lo hi (s1.trans s2) hf hfe⟩
end
end Mx

set_option Elab.async false
set_option linter.all false
set_option maxRecDepth 100000
set_option maxHeartbeats 4000000
/-! Days: check_days, check_all, names. -/
namespace Mx
open PySem PySem.Spec PyProof.Rows L2
def ixs : List Str → Str → Nat
  | [], _ => 0
  | a :: l, k => if a = k then 0 else ixs l k + 1
theorem ixs_at : ∀ {l : List Str} {k : Str}, k ∈ l → l[ixs l k]? = some k
  | a :: l, k, h => by
    unfold ixs
    by_cases e : a = k
    · rw [if_pos e, e]
      rfl
    · rw [if_neg e]
      exact ixs_at ((List.mem_cons.mp h).resolve_left fun z => e z.symm)
theorem ixs_before : ∀ {l : List Str} {k : Str} {m : Nat} {z : Str}, m < ixs l k → l[m]? = some z → z ≠ k
  | a :: l, k, m, z, h, hz => by
    unfold ixs at h
    by_cases e : a = k
    · rw [if_pos e] at h
      omega
    · rw [if_neg e] at h
      match m, hz with
      | 0, hz =>
        have : a = z := by simpa using hz
        exact this ▸ e
      | m + 1, hz => exact ixs_before (l := l) (k := k) (m := m) (by omega) (by simpa using hz)
theorem ixs_lt {l : List Str} {k : Str} (h : k ∈ l) : ixs l k < l.length := (List.getElem?_eq_some_iff.mp (ixs_at h)).1
theorem ixs_inj {l : List Str} {a b : Str} (ha : a ∈ l) (hb : b ∈ l) (e : ixs l a = ixs l b) : a = b := by
  have h1 := ixs_at ha
  have h2 := ixs_at hb
  rw [e, h2] at h1
  exact (Option.some.inj h1).symm
theorem ixs_eq {l : List Str} (nd : l.Nodup) {i : Nat} {k : Str} (h : l[i]? = some k) : ixs l k = i := nd_ix nd (ixs_at (List.mem_of_getElem? h)) h
def dnm (d : Nat) (sg : Str) (i : Nat) : Str := Str.empty ++ "d" ++ toString (d : Int) ++ sg ++ toString (i : Int)
def enm (d i : Nat) : Str := Str.empty ++ "e" ++ toString (d : Int) ++ "k" ++ toString (i : Int)
theorem dnm_len : ∀ d < 4, ∀ i < 3, ∀ sg ∈ (["s", "k"] : List Str), (Str.empty ++ ("d" : Str)).length ≤ 100 ∧ (Str.empty ++ ("d" : Str) ++ toString ((d : Nat) : Int)).length ≤ 100 ∧ (Str.empty ++ ("d" : Str) ++ toString ((d : Nat) : Int) ++ sg).length ≤ 100 ∧ (dnm d sg i).length ≤ 100 := by decide +kernel
theorem enm_len : ∀ d < 4, ∀ i < 3, (Str.empty ++ ("e" : Str)).length ≤ 100 ∧ (Str.empty ++ ("e" : Str) ++ toString ((d : Nat) : Int)).length ≤ 100 ∧ (Str.empty ++ ("e" : Str) ++ toString ((d : Nat) : Int) ++ "k").length ≤ 100 ∧ (enm d i).length ≤ 100 := by decide +kernel
theorem log_small {d : Nat} (h : d < 4) : ((d : Nat) : Int).natAbs.log2 < 1920 := by
  have : ∀ d < 4, ((d : Nat) : Int).natAbs.log2 < 1920 := by decide +kernel
  exact this d h
theorem sg_in {sg : Str} (h : sg = "s" ∨ sg = "k") : sg ∈ (["s", "k"] : List Str) := by
  rcases h with h | h <;> rw [h] <;> simp
abbrev rSt : Rep (Int × Int × Int) := rT3 rInt rInt rInt
/-- a small plant with stores -/
structure Sml (P : Pl) (S : List (Str × (Int × Int × Int))) : Prop where
  ok : PlOk P
  k1 : 1 ≤ P.kn.length
  k3 : P.kn.length ≤ 3
  s3 : P.st.length ≤ 3
  lim : ∀ s ∈ P.st, 0 ≤ s.lo ∧ s.lo ≤ s.hi ∧ s.hi ≤ 1000000
  snd : (S.map (·.1)).Nodup
  sub : ∀ k ∈ S.map (·.1), k ∈ P.kn
  sb : ∀ r ∈ S, 0 ≤ r.2.1 ∧ r.2.1 ≤ 1000000 ∧ 0 ≤ r.2.2.1 ∧ r.2.2.1 ≤ r.2.2.2 ∧ r.2.2.2 ≤ 1000000
theorem Sml.len {P : Pl} {S : List (Str × (Int × Int × Int))} (h : Sml P S) : S.length ≤ 3 := by
  have := Mt.nd_le h.snd h.sub
  rw [List.length_map] at this
  exact Nat.le_trans this h.k3
/-- readings of a day, of an evening -/
def EvOk (S : List (Str × (Int × Int × Int))) (R : List (Str × (Int × Int))) : Prop := (R.map (·.1)).Nodup ∧ (∀ k ∈ R.map (·.1), k ∈ S.map (·.1)) ∧ ∀ r ∈ R, 0 ≤ r.2.1 ∧ r.2.1 ≤ 1000000 ∧ 0 ≤ r.2.2 ∧ r.2.2 ≤ 1000000
section
variable {P : Program} {w : World} {K : PySem.W.Frag} {mg : Str → Option Value} {base : Heap}
def sp_day_name : Sp := fun vs H Q _ => ∃ (d i : Nat) (sg : Str), vs = [.int (d : Int), .str sg, .int (i : Int)] ∧ d < 4 ∧ i < 3 ∧ (sg = "s" ∨ sg = "k") ∧ ret rStr H Q (dnm d sg i)
theorem ok_day_name (T : Tx K mg) : FnOk P w K mg base CX0 1 T.a_day_name T.d_day_name P_day_name sp_day_name := by
  refine T.F_day_name.ok sc_day_name (fun vs H Q E h => ?_) (fun cdv A outer s H vs Q E hr h => ⟨_, PSs.nox (pss_one (ps_ret (pe_joined (PJ.cons pe_str (PJ.cons (pe_fmt (pv 0)) (PJ.cons (pe_fmt (pv 1)) (PJ.cons (pe_fmt (pv 2)) PJ.nil))))))), ?_⟩)
  · obtain ⟨_, _, _, rfl, _⟩ := h
    rfl
  · obtain ⟨d, i, sg, rfl, hd, hi, hsg, k⟩ := h
    obtain ⟨l1, l2, l3, l4⟩ := dnm_len d hd i hi sg (sg_in hsg)
    have sz := sizeLine_eq
    refine ⟨_, rfl, by omega, _, rfl, .inr ⟨_, rfl, log_small hd, _, rfl, by omega, _, rfl, .inl ⟨sg, rfl, ?_, _, rfl, by omega, _, rfl, .inr ⟨_, rfl, log_small (by omega), _, rfl, ?_, ?_⟩⟩⟩⟩
    · rcases hsg with rfl | rfl <;> rw [sz] <;> decide +kernel
    · exact Nat.le_trans l4 (by omega)
    · exact k _ _ (Same.refl _) rfl
def sp_evening_name (C : Addr) : Sp := fun vs H Q _ => ∃ (pv : V) (d : Nat) (k : Str) (P : Pl), vs = [pv, .int (d : Int), .str k] ∧ rPl C H pv P ∧ d < 4 ∧ k ∈ P.kn ∧ P.kn.length ≤ 3 ∧ ret rStr H Q (enm d (ixs P.kn k))
theorem ok_evening_name (T : Tx K mg) : FnOk P w K mg base CX0 3 T.a_evening_name T.d_evening_name P_evening_name (sp_evening_name T.C_Plant) := by
  refine T.F_evening_name.ok sc_evening_name (fun vs H Q E h => ?_) (fun cdv A outer s H vs Q E hr h => ⟨_, PSs.nox (pss_one (ps_ret (pe_joined (PJ.cons pe_str (PJ.cons (pe_fmt (pv 1)) (PJ.cons pe_str (PJ.cons (pe_fmt (pe_bm PySem.F.plainAttrs_list PySem.F.slot_list_index PySem.F.type_list_index mt_index (pe_prop (pv 0) T.c_Plant T.p_Plant_knots (ok_Plant_knots T) (hr.mono (by decide)) (b_Plant_knots T) .nil pass0 rfl) (pa_cons (pv 2) pa_nil))) PJ.nil))))))), ?_⟩)
  · obtain ⟨_, _, _, _, rfl, _⟩ := h
    rfl
  · obtain ⟨pv, d, kn, P, rfl, hP, hd, hk, k3, k⟩ := h
    obtain ⟨p, dx, ka, sa, rfl, hi, hkn, hst⟩ := id hP
    have hj := ixs_lt hk
    obtain ⟨l1, l2, l3, l4⟩ := enm_len d hd (ixs P.kn kn) (by omega)
    have sz := sizeLine_eq
    refine ⟨_, rfl, by omega, _, rfl, .inr ⟨_, rfl, log_small hd, _, rfl, by omega, _, rfl, by omega, ?_⟩⟩
    refine ⟨_, rfl, p, dx, _, rfl, hi, _, P, rfl, hP, fun l H1 xs hl s1 e1 hx => ?_⟩
    have ex := strs_eq hx
    subst ex
    refine ⟨.inl ⟨rfl, _, SqL.of e1⟩, _, rfl, l, _, _, ixs P.kn kn, .str kn, rfl, rfl, SqL.of e1, rfl, flat_strs _, by rw [List.getElem?_map, ixs_at hk] <;> rfl, ?_, fun m z hm hz => ?_, ?_⟩
    · show (kn == kn) = true
      exact beq_self_eq_true kn
    · rw [List.getElem?_map] at hz
      cases hy : P.kn[m]? with
      | none => rw [hy] at hz; cases hz
      | some y =>
        rw [hy] at hz
        cases hz
        show (y == kn) = false
        exact beq_eq_false_iff_ne.mpr (ixs_before hm hy)
    · refine .inr ⟨_, rfl, log_small (by omega), _, rfl, Nat.le_trans l4 (by omega), ?_⟩
      exact k _ _ s1 rfl
def kNm (kn : List Str) (D d : Nat) (k : Str) : Str := if d = 0 ∨ D < d then "ends" else dnm d "k" (ixs kn k)
def sp_knot_name (C : Addr) : Sp := fun vs H Q _ => ∃ (pv : V) (d D : Nat) (k : Str) (P : Pl), vs = [pv, .int (d : Int), .int (D : Int), .str k] ∧ rPl C H pv P ∧ d < 4 ∧ k ∈ P.kn ∧ P.kn.length ≤ 3 ∧ ret rStr H Q (kNm P.kn D d k)
theorem ok_knot_name (T : Tx K mg) : FnOk P w K mg base CX0 3 T.a_knot_name T.d_knot_name P_knot_name (sp_knot_name T.C_Plant) := by
  refine T.F_knot_name.ok sc_knot_name (fun vs H Q E h => ?_) (fun cdv A outer s H vs Q E hr h => ⟨_, PSs.nox (pss_cons (ps_if (PW.pt (pw_or (pt_cmpR op_eq (pv 1) pe_int (nomark _)) (pw_or1 (pt_cmpR op_gt (pv 1) (pv 2) (nomark _))))) (pss_one (ps_ret (pe_glob (v := v_ENDS) rfl T.g_ENDS.choose_spec ⟨_, rfl⟩))) pss_nil)
    (pss_one (ps_ret (pe_call (ok_day_name T) (hr.mono (by decide)) rfl T.m_day_name T.F_day_name.kp (b_day_name T) .nil pass0 (pa_cons (pv 1) (pa_cons pe_str (pa_cons (pe_bm PySem.F.plainAttrs_list PySem.F.slot_list_index PySem.F.type_list_index mt_index (pe_prop (pv 0) T.c_Plant T.p_Plant_knots (ok_Plant_knots T) (hr.mono (by decide)) (b_Plant_knots T) .nil pass0 rfl) (pa_cons (pv 3) pa_nil)) pa_nil))))))), ?_⟩)
  · obtain ⟨_, _, _, _, _, rfl, _⟩ := h
    rfl
  · obtain ⟨pv, d, D, kn, P, rfl, hP, hd, hk, k3, k⟩ := h
    obtain ⟨p, dx, ka, sa, rfl, hi, hkn, hst⟩ := id hP
    have hj := ixs_lt hk
    refine ⟨_, rfl, rfl, decide (d = 0), ?_, ?_⟩
    · show V.bl (decide (V.int (d : Int) = V.int 0)) = _
      by_cases e : d = 0
      · rw [decide_eq_true e, decide_eq_true (by rw [e]; rfl)]
      · rw [decide_eq_false e, decide_eq_false (fun z => e (by have := V.int.inj z; omega))]
    · by_cases e : d = 0
      · rw [decide_eq_true e]
        refine iteT ?_
        refine iteT ?_
        refine k _ _ (Same.refl _) ?_
        unfold kNm
        rw [if_pos (.inl e)]
        rfl
      · rw [decide_eq_false e]
        refine iteF ?_
        refine ⟨_, rfl, _, rfl, _, _, rfl, rfl, _, rfl, ?_⟩
        refine ite2 (fun h => ?_) (fun h => ?_)
        · have h' : (d : Int) > (D : Int) := of_decide_eq_true h
          refine k _ _ (Same.refl _) ?_
          unfold kNm
          rw [if_pos (.inr (by omega))]
          rfl
        · have h' : ¬ ((d : Int) > (D : Int)) := fun z => h (decide_eq_true z)
          refine ⟨_, rfl, _, rfl, p, dx, _, rfl, hi, _, P, rfl, hP, fun l H1 xs hl s1 e1 hx => ?_⟩
          have ex := strs_eq hx
          subst ex
          refine ⟨.inl ⟨rfl, _, SqL.of e1⟩, _, rfl, l, _, _, ixs P.kn kn, .str kn, rfl, rfl, SqL.of e1, rfl, flat_strs _, by rw [List.getElem?_map, ixs_at hk] <;> rfl, ?_, fun m z hm hz => ?_, ?_⟩
          · show (kn == kn) = true
            exact beq_self_eq_true kn
          · rw [List.getElem?_map] at hz
            cases hy : P.kn[m]? with
            | none => rw [hy] at hz; cases hz
            | some y =>
              rw [hy] at hz
              cases hz
              show (y == kn) = false
              exact beq_eq_false_iff_ne.mpr (ixs_before hm hy)
          · refine ⟨d, ixs P.kn kn, "k", rfl, hd, by omega, .inr rfl, fun v H2 s2 hv => ?_⟩
            refine k v H2 (s1.trans s2) ?_
            unfold kNm
            rw [if_neg (by omega)]
            exact hv
def sp_check_days (C : Addr) : Sp := fun vs H Q _ => ∃ (pv sv : V) (D : Nat) (P : Pl) (S : List (Str × (Int × Int × Int))), vs = [pv, sv, .int (D : Int)] ∧ rPl C H pv P ∧ rD rSt H sv S ∧ Sml P S ∧ D ≤ 2 ∧ retN H Q
theorem ok_check_days (T : Tx K mg) : FnOk P w K mg base CX0 3 T.a_check_days T.d_check_days P_check_days (sp_check_days T.C_Plant) := by
  refine T.F_check_days.ok sc_check_days (fun vs H Q E h => ?_) (fun cdv A outer s H vs Q E hr h => ⟨_, PSs.nox (pss_cons (ps_for PassesOwn.never rfl (pi_list (pe_callB (call_sortedD rfl) (by rfl) T.n_sorted (by decide +kernel) (pa_cons (pv 1) pa_nil))) (pg_name (i := 3) sc_check_days.nd rfl (Or.inl rfl))
    (pss_one (ps_expr (pe_meth (pv 0) T.c_Plant T.h_Plant_check_knot (ok_Plant_check_knot T) (hr.mono (by decide)) (b_Plant_check_knot T) .nil pass0 (pa_cons (pv 3) pa_nil)))))
    (pss_cons (ps_if (pt_cmpR op_gt (pe_op op_add (pe_op op_mul (pe_callB call_len_seq (by rfl) T.n_len (by decide +kernel) (pa_cons (pe_prop (pv 0) T.c_Plant T.p_Plant_knots (ok_Plant_knots T) (hr.mono (by decide)) (b_Plant_knots T) .nil pass0 rfl) pa_nil)) (pv 2)) pe_int) (pe_glob (v := v_MOST_KNOTS) rfl T.g_MOST_KNOTS.choose_spec ⟨_, rfl⟩) (nomark _)) (pss_one ps_never) pss_nil)
    (pss_one (ps_if (pt_cmpR op_gt (pe_op op_add (pe_op op_mul (pe_callB call_len_seq (by rfl) T.n_len (by decide +kernel) (pa_cons (pe_prop (pv 0) T.c_Plant T.p_Plant_streams (ok_Plant_streams T) (hr.mono (by decide)) (b_Plant_streams T) .nil pass0 rfl) pa_nil)) (pv 2)) (pe_op op_mul (pe_callB call_lenR (by rfl) T.n_len (by decide +kernel) (pa_cons (pv 1) pa_nil)) (pe_op op_add (pv 2) pe_int))) (pe_glob (v := v_MOST_STREAMS) rfl T.g_MOST_STREAMS.choose_spec ⟨_, rfl⟩) (nomark _)) (pss_one ps_never) pss_nil)))), ?_⟩)
  · obtain ⟨_, _, _, _, _, rfl, _⟩ := h
    rfl
  · obtain ⟨pv, sv, D, P, S, rfl, hP, ⟨sd, sks, rfl, hsd, hsk⟩, sm, hD, k⟩ := h
    obtain ⟨p, dx, ka, sa, rfl, hi, hkn, hst⟩ := id hP
    have h3 := sm.len
    refine ⟨_, rfl, sd, sks, S.map (·.1), rfl, hsd, dp_keys hsk, (by rw [List.length_map]; omega), fun ys p1 hperm _ hp1 => ?_⟩
    have s1 : Same H (upd H p1 (.lst (ys.map V.str))) := Same.new hp1
    refine ⟨p1, rfl, ⟨_, SqL.of upd_same⟩, for_it (walk_list (K := K)) (fun i σ H2 => (Same H H2 ∧ H2 p1 = some (.lst (ys.map V.str))) ∧ ∃ x, σ = [some (.ref p), some (.ref sd), some (.int (D : Int)), x])
      ⟨⟨s1, upd_same⟩, _, rfl⟩ (fun i σ H2 _ h => SqL.of h.1.2) ?_ ?_⟩
    · rintro i x σ H2 H3 hi' ⟨⟨s2, h12⟩, _, rfl⟩ ⟨rfl, hxi⟩
      rw [List.getElem?_map] at hxi
      cases hy : ys[i]? with
      | none => rw [hy] at hxi; cases hxi
      | some z =>
        rw [hy] at hxi
        cases hxi
        have hz : z ∈ P.kn := sm.sub z (hperm.mem_iff.mp (List.mem_of_getElem? hy))
        refine ⟨_, rfl, p, dx, _, rfl, s2 p _ hi, plF_no _ _ (by decide +kernel) (by decide +kernel), _, rfl, _, P, z, rfl, Mono.same s2 hP, hz, fun H4 s4 => ?_⟩
        exact ⟨⟨s2.trans s4, s4 p1 _ h12⟩, _, rfl⟩
    · rintro σ H2 ⟨⟨s2, h12⟩, _, rfl⟩
      refine ⟨_, rfl, p, dx, _, rfl, s2 p _ hi, _, P, rfl, Mono.same s2 hP, fun l H3 xs hl s3 e3 hx => ?_⟩
      have hlk := paired_len hx
      have hk3 := sm.k3
      have hs3 := sm.s3
      refine ⟨l, _, rfl, .inl (SqL.of e3), _, rfl, _, _, rfl, rfl, .inl (by rw [hlk]; omega), _, _, rfl, rfl, _, _, rfl, rfl, false, ?_, ?_⟩
      · refine cf ?_
        rw [hlk]
        have : ((P.kn.length : Nat) : Int) * (D : Int) ≤ 3 * 2 := Int.mul_le_mul (by omega) (by omega) (by omega) (by omega)
        omega
      · refine iteF ?_
        have s23 := s2.trans s3
        refine ⟨_, rfl, p, dx, _, rfl, s23 p _ hi, _, P, rfl, Mono.same s23 hP, fun l2 H4 xs2 hl2 s4 e4 hx2 => ?_⟩
        have hls := paired_len hx2
        have s24 := s23.trans s4
        refine ⟨l2, _, rfl, .inl (SqL.of e4), _, rfl, _, _, rfl, rfl, .inl (by rw [hls]; omega), _, rfl, sd, sks, rfl, rd_same s24 hsd, _, rfl, _, _, rfl, rfl, _, _, rfl, rfl, .inl (by rw [paired_len hsk]; omega), _, _, rfl, rfl, _, _, rfl, rfl, false, ?_, ?_⟩
        · refine cf ?_
          rw [hls, paired_len hsk]
          have h1 : ((P.st.length : Nat) : Int) * (D : Int) ≤ 3 * 2 := Int.mul_le_mul (by omega) (by omega) (by omega) (by omega)
          have h2 : ((S.length : Nat) : Int) * ((D : Int) + 1) ≤ 3 * 3 := Int.mul_le_mul (by omega) (by omega) (by omega) (by omega)
          omega
        · refine iteF ?_
          exact k _ s24
end
end Mx

set_option Elab.async false
set_option linter.all false
set_option maxRecDepth 100000
set_option maxHeartbeats 2000000
set_option synthInstance.maxHeartbeats 400000
set_option synthInstance.maxSize 2000
/-! laid_out: the lists; the walk. -/
namespace Mx
open PySem PySem.Spec PyProof.Rows L2
theorem nd_flat {α β : Type} {f : α → List β} : ∀ {l : List α}, l.Nodup → (∀ a ∈ l, (f a).Nodup) → (∀ a ∈ l, ∀ b ∈ l, a ≠ b → ∀ x ∈ f a, x ∉ f b) → (l.flatMap f).Nodup
  | [], _, _, _ => List.nodup_nil
  | a :: l, nd, h1, h2 => by
    rw [List.nodup_cons] at nd
    rw [List.flatMap_cons]
    refine List.nodup_append.mpr ⟨h1 a List.mem_cons_self, nd_flat nd.2 (fun b hb => h1 b (List.mem_cons_of_mem _ hb)) fun b hb c hc => h2 b (List.mem_cons_of_mem _ hb) c (List.mem_cons_of_mem _ hc), fun x hx y hy => ?_⟩
    rintro rfl
    obtain ⟨b, hb, hxb⟩ := List.mem_flatMap.mp hy
    exact h2 a List.mem_cons_self b (List.mem_cons_of_mem _ hb) (fun z => nd.1 (z ▸ hb)) x hx hxb
def lKn (n D : Nat) : List Str := "ends" :: (List.range D).flatMap fun d => (List.range n).map fun i => dnm (d + 1) "k" i
def dS (kn : List Str) (D d : Nat) (l : List Sm) : List Sm := l.zipIdx.map fun x => ⟨dnm d "s" x.2, kNm kn D d x.1.tl, kNm kn D d x.1.hd, x.1.lo, x.1.hi⟩
def dSs (P : Pl) (D n : Nat) : List Sm := (List.range n).flatMap fun d => dS P.kn D (d + 1) P.st
def eS1 (kn : List Str) (S : List (Str × (Int × Int × Int))) (D : Nat) (k : Str) (d : Nat) : Sm :=
  let b := (rdg S k).getD (0, 0, 0)
  ⟨enm d (ixs kn k), kNm kn D d k, kNm kn D (d + 1) k, if d = 0 then b.1 else b.2.1, if d = 0 then b.1 else b.2.2⟩
def eS (kn : List Str) (S : List (Str × (Int × Int × Int))) (D : Nat) (k : Str) (n : Nat) : List Sm := (List.range n).map (eS1 kn S D k)
def eSs (kn : List Str) (S : List (Str × (Int × Int × Int))) (D : Nat) (ys : List Str) : List Sm := ys.flatMap fun k => eS kn S D k (D + 1)
def lSt (P : Pl) (S : List (Str × (Int × Int × Int))) (D : Nat) (ys : List Str) : List Sm := dSs P D D ++ eSs P.kn S D ys
theorem dS_snoc (kn : List Str) (D d : Nat) (l : List Sm) (s : Sm) : dS kn D d (l ++ [s]) = dS kn D d l ++ [⟨dnm d "s" l.length, kNm kn D d s.tl, kNm kn D d s.hd, s.lo, s.hi⟩] := by
  unfold dS
  rw [List.zipIdx_append, List.map_append]
  simp
theorem range_succ_flat {β : Type} (f : Nat → List β) (n : Nat) : (List.range (n + 1)).flatMap f = (List.range n).flatMap f ++ f n := by
  rw [List.range_succ, List.flatMap_append]
  simp
theorem kn_ok : ∀ n < 4, ∀ D < 3, (lKn n D).Nodup ∧ (lKn n D).length ≤ 7 ∧ ∀ k ∈ lKn n D, 1 ≤ k.length ∧ k.length ≤ 12 ∧ ∀ c ∈ k.cps.toList, c ∈ letters.cps.toList := by decide +kernel
theorem ds_ok : ∀ d < 4, ∀ i < 3, ∀ sg ∈ (["s", "k"] : List Str), 1 ≤ (dnm d sg i).length ∧ (dnm d sg i).length ≤ 12 ∧ ∀ c ∈ (dnm d sg i).cps.toList, c ∈ letters.cps.toList := by decide +kernel
theorem en_ok : ∀ d < 4, ∀ i < 3, 1 ≤ (enm d i).length ∧ (enm d i).length ≤ 12 ∧ ∀ c ∈ (enm d i).cps.toList, c ∈ letters.cps.toList := by decide +kernel
theorem dnm_inj : ∀ d < 4, ∀ i < 3, ∀ d' < 4, ∀ i' < 3, ∀ sg ∈ (["s", "k"] : List Str), dnm d sg i = dnm d' sg i' → d = d' ∧ i = i' := by decide +kernel
theorem enm_inj : ∀ d < 4, ∀ i < 3, ∀ d' < 4, ∀ i' < 3, enm d i = enm d' i' → d = d' ∧ i = i' := by decide +kernel
theorem dnm_enm : ∀ d < 4, ∀ i < 3, ∀ d' < 4, ∀ i' < 3, ¬ dnm d "s" i = enm d' i' := by decide +kernel
theorem dnm_ends : ∀ d < 4, ∀ i < 3, ¬ dnm d "k" i = "ends" := by decide +kernel
theorem lKn_mem {n D d i : Nat} (hd : d < D) (hi : i < n) : dnm (d + 1) "k" i ∈ lKn n D := List.mem_cons_of_mem _ (List.mem_flatMap.mpr ⟨d, List.mem_range.mpr hd, List.mem_map.mpr ⟨i, List.mem_range.mpr hi, rfl⟩⟩)
theorem kNm_mem {kn : List Str} {D d : Nat} {k : Str} (hk : k ∈ kn) : kNm kn D d k ∈ lKn kn.length D := by
  unfold kNm
  by_cases h : d = 0 ∨ D < d
  · rw [if_pos h]
    exact List.mem_cons_self
  · rw [if_neg h]
    obtain ⟨e, rfl⟩ : ∃ e, d = e + 1 := ⟨d - 1, by omega⟩
    exact lKn_mem (by omega) (ixs_lt hk)
theorem dS_mem {kn : List Str} {D d : Nat} {l : List Sm} {t : Sm} (h : t ∈ dS kn D d l) : ∃ i s, l[i]? = some s ∧ t = ⟨dnm d "s" i, kNm kn D d s.tl, kNm kn D d s.hd, s.lo, s.hi⟩ := by
  obtain ⟨⟨s, i⟩, hx, rfl⟩ := List.mem_map.mp h
  have := List.mem_zipIdx_iff_getElem?.mp hx
  exact ⟨i, s, this, rfl⟩
theorem dS_in {kn : List Str} {D d : Nat} {l : List Sm} {i : Nat} {s : Sm} (h : l[i]? = some s) : (⟨dnm d "s" i, kNm kn D d s.tl, kNm kn D d s.hd, s.lo, s.hi⟩ : Sm) ∈ dS kn D d l :=
  List.mem_map.mpr ⟨(s, i), List.mem_zipIdx_iff_getElem?.mpr h, rfl⟩
theorem dS_names (kn : List Str) (D d : Nat) (l : List Sm) : (dS kn D d l).map (·.nm) = (List.range l.length).map fun i => dnm d "s" i := by
  unfold dS
  rw [List.map_map]
  have : (l.zipIdx.map fun x => dnm d "s" x.2) = (l.zipIdx.map Prod.snd).map fun i => dnm d "s" i := by rw [List.map_map]; rfl
  show (l.zipIdx.map fun x => dnm d "s" x.2) = _
  rw [this, List.zipIdx_map_snd, List.range_eq_range']
theorem lSt_mem {P : Pl} {S : List (Str × (Int × Int × Int))} {D : Nat} {ys : List Str} {t : Sm} (h : t ∈ lSt P S D ys) :
    (∃ d i s, d < D ∧ P.st[i]? = some s ∧ t = ⟨dnm (d + 1) "s" i, kNm P.kn D (d + 1) s.tl, kNm P.kn D (d + 1) s.hd, s.lo, s.hi⟩) ∨ ∃ d k, d ≤ D ∧ k ∈ ys ∧ t = eS1 P.kn S D k d := by
  rcases List.mem_append.mp h with h | h
  · obtain ⟨d, hd, h⟩ := List.mem_flatMap.mp h
    obtain ⟨i, s, h1, h2⟩ := dS_mem h
    exact .inl ⟨d, i, s, List.mem_range.mp hd, h1, h2⟩
  · obtain ⟨k, hk, h⟩ := List.mem_flatMap.mp h
    obtain ⟨d, hd, rfl⟩ := List.mem_map.mp h
    have := List.mem_range.mp hd
    exact .inr ⟨d, k, by omega, hk, rfl⟩
theorem names_nd {P : Pl} {S : List (Str × (Int × Int × Int))} (sm : Sml P S) {D : Nat} (hD : D ≤ 2) {ys : List Str} (hy : ys.Perm (S.map (·.1))) : ((lSt P S D ys).map (·.nm)).Nodup := by
  have h3 := sm.s3
  have k3 := sm.k3
  have yn : ys.Nodup := hy.nodup_iff.mpr sm.snd
  have yk : ∀ k ∈ ys, k ∈ P.kn := fun k hk => sm.sub k (hy.mem_iff.mp hk)
  have hsg : ("s" : Str) ∈ (["s", "k"] : List Str) := List.mem_cons_self
  unfold lSt
  rw [List.map_append]
  refine List.nodup_append.mpr ⟨?_, ?_, fun x hx y hy' => ?_⟩
  · unfold dSs
    rw [List.map_flatMap]
    refine nd_flat List.nodup_range (fun d hd => ?_) fun d hd d' hd' hne x hx hx' => ?_
    · rw [dS_names]
      have hd := List.mem_range.mp hd
      refine List.Pairwise.map (R := fun i j : Nat => i ≠ j ∧ i < 3 ∧ j < 3) _ (fun i j ⟨h1, h2, h3⟩ z => h1 (dnm_inj _ (by omega) i h2 _ (by omega) j h3 "s" hsg z).2) ?_
      refine List.Pairwise.imp_of_mem (fun {i j} hi hj h => ⟨h, ?_, ?_⟩) List.nodup_range
      · have := List.mem_range.mp hi; omega
      · have := List.mem_range.mp hj; omega
    · rw [dS_names] at hx hx'
      obtain ⟨i, hi, rfl⟩ := List.mem_map.mp hx
      obtain ⟨j, hj, e⟩ := List.mem_map.mp hx'
      have hi := List.mem_range.mp hi
      have hj := List.mem_range.mp hj
      have hd := List.mem_range.mp hd
      have hd' := List.mem_range.mp hd'
      have := (dnm_inj _ (by omega) j (by omega) _ (by omega) i (by omega) "s" hsg e).1
      omega
  · unfold eSs
    rw [List.map_flatMap]
    refine nd_flat yn (fun k hk => ?_) fun k hk k' hk' hne x hx hx' => ?_
    · have hj := ixs_lt (yk k hk)
      unfold eS
      rw [List.map_map]
      refine List.Pairwise.map (R := fun i j : Nat => i ≠ j ∧ i < 4 ∧ j < 4) _ (fun i j ⟨h1, h2, h3⟩ z => h1 (enm_inj i h2 _ (by omega) j h3 _ (by omega) z).1) ?_
      refine List.Pairwise.imp_of_mem (fun {i j} hi hj h => ⟨h, ?_, ?_⟩) List.nodup_range
      · have := List.mem_range.mp hi; omega
      · have := List.mem_range.mp hj; omega
    · obtain ⟨t, ht, rfl⟩ := List.mem_map.mp hx
      obtain ⟨d, hd, rfl⟩ := List.mem_map.mp ht
      obtain ⟨t', ht', e⟩ := List.mem_map.mp hx'
      obtain ⟨d', hd', rfl⟩ := List.mem_map.mp ht'
      have hd := List.mem_range.mp hd
      have hd' := List.mem_range.mp hd'
      have e' : enm d' (ixs P.kn k') = enm d (ixs P.kn k) := e
      have hj := ixs_lt (yk k hk)
      have hj' := ixs_lt (yk k' hk')
      have := (enm_inj _ (by omega) _ (by omega) _ (by omega) _ (by omega) e').2
      exact hne (ixs_inj (yk k hk) (yk k' hk') this.symm)
  · rintro rfl
    obtain ⟨t, ht, rfl⟩ := List.mem_map.mp hx
    obtain ⟨d, hd, ht⟩ := List.mem_flatMap.mp ht
    obtain ⟨i, s, h1, rfl⟩ := dS_mem ht
    obtain ⟨t', ht', e⟩ := List.mem_map.mp hy'
    obtain ⟨k, hk, ht'⟩ := List.mem_flatMap.mp ht'
    obtain ⟨d', hd', rfl⟩ := List.mem_map.mp ht'
    have hd := List.mem_range.mp hd
    have hd' := List.mem_range.mp hd'
    have hi := (List.getElem?_eq_some_iff.mp h1).1
    have hj := ixs_lt (yk k hk)
    exact dnm_enm _ (by omega) i (by omega) _ (by omega) _ (by omega) e.symm
theorem rdg_in {α : Type} {R : List (Str × α)} {k : Str} (h : k ∈ R.map (·.1)) : ∃ x, rdg R k = some x := by
  cases q : rdg R k with
  | none => exact absurd h (rdg_none q)
  | some x => exact ⟨x, rfl⟩
theorem lSt_ok {P : Pl} {S : List (Str × (Int × Int × Int))} (sm : Sml P S) {D : Nat} (hD : D ≤ 2) {ys : List Str} (hy : ys.Perm (S.map (·.1))) :
    ∀ s ∈ lSt P S D ys, NameOk s.nm ∧ s.tl ∈ lKn P.kn.length D ∧ s.hd ∈ lKn P.kn.length D ∧ 0 ≤ s.lo ∧ s.lo ≤ s.hi ∧ s.hi ≤ 1000000 := fun t ht => by
  have h3 := sm.s3
  have k3 := sm.k3
  have yk : ∀ k ∈ ys, k ∈ P.kn := fun k hk => sm.sub k (hy.mem_iff.mp hk)
  rcases lSt_mem ht with ⟨d, i, s, hd, hi, rfl⟩ | ⟨d, k, hd, hk, rfl⟩
  · have hil := (List.getElem?_eq_some_iff.mp hi).1
    have hs := List.mem_of_getElem? hi
    obtain ⟨q1, q2, q3⟩ := sm.lim s hs
    obtain ⟨e1, e2⟩ := sm.ok.ends s hs
    exact ⟨ds_ok _ (by omega) i (by omega) "s" List.mem_cons_self, kNm_mem e1, kNm_mem e2, q1, q2, q3⟩
  · have hj := ixs_lt (yk k hk)
    obtain ⟨⟨b, lo, hi⟩, hb⟩ := rdg_in (hy.mem_iff.mp hk)
    obtain ⟨q1, q2, q3, q4, q5⟩ := sm.sb _ (rdg_some hb)
    have q1' : 0 ≤ b := q1
    have q2' : b ≤ 1000000 := q2
    have q3' : 0 ≤ lo := q3
    have q4' : lo ≤ hi := q4
    have q5' : hi ≤ 1000000 := q5
    refine ⟨en_ok d (by omega) _ (by omega), kNm_mem (yk k hk), kNm_mem (yk k hk), ?_, ?_, ?_⟩
    · show 0 ≤ (if d = 0 then ((rdg S k).getD (0, 0, 0)).1 else ((rdg S k).getD (0, 0, 0)).2.1)
      rw [hb]
      show 0 ≤ (if d = 0 then b else lo)
      split <;> omega
    · show (if d = 0 then ((rdg S k).getD (0, 0, 0)).1 else ((rdg S k).getD (0, 0, 0)).2.1) ≤ (if d = 0 then ((rdg S k).getD (0, 0, 0)).1 else ((rdg S k).getD (0, 0, 0)).2.2)
      rw [hb]
      show (if d = 0 then b else lo) ≤ (if d = 0 then b else hi)
      split <;> omega
    · show (if d = 0 then ((rdg S k).getD (0, 0, 0)).1 else ((rdg S k).getD (0, 0, 0)).2.2) ≤ 1000000
      rw [hb]
      show (if d = 0 then b else hi) ≤ 1000000
      split <;> omega
theorem lSt_len {P : Pl} {S : List (Str × (Int × Int × Int))} (sm : Sml P S) {D : Nat} (hD : D ≤ 2) {ys : List Str} (hy : ys.Perm (S.map (·.1))) : (lSt P S D ys).length ≤ 15 := by
  have h3 := sm.s3
  have l3 := sm.len
  have hl : ys.length = S.length := by rw [hy.length_eq, List.length_map]
  have f1 : ∀ n, (dSs P D n).length = n * P.st.length := fun n => by
    induction n with
    | zero => simp [dSs]
    | succ n ih =>
      unfold dSs at ih ⊢
      rw [range_succ_flat, List.length_append, ih, Nat.succ_mul]
      congr 1
      unfold dS
      rw [List.length_map, List.length_zipIdx]
  have f2 : ∀ zs : List Str, (eSs P.kn S D zs).length = zs.length * (D + 1) := fun zs => by
    induction zs with
    | nil => simp [eSs]
    | cons z zs ih =>
      unfold eSs at ih ⊢
      rw [List.flatMap_cons, List.length_append, ih, List.length_cons, Nat.succ_mul]
      unfold eS
      rw [List.length_map, List.length_range]
      omega
  unfold lSt
  rw [List.length_append, f1, f2, hl]
  have h1 : D * P.st.length ≤ 2 * 3 := Nat.mul_le_mul hD h3
  have h2 : S.length * (D + 1) ≤ 3 * 3 := Nat.mul_le_mul l3 (by omega)
  omega
/-- a plant laid out -/
structure Laid (P : Pl) (S : List (Str × (Int × Int × Int))) (D : Nat) (P' : Pl) : Prop where
  kn : P'.kn.Perm (lKn P.kn.length D)
  st : ∃ ys, ys.Perm (S.map (·.1)) ∧ P'.st.Perm (lSt P S D ys)
theorem Laid.ok {P : Pl} {S : List (Str × (Int × Int × Int))} (sm : Sml P S) {D : Nat} (hD : D ≤ 2) {P' : Pl} (h : Laid P S D P') : PlOk P' := by
  have k3 := sm.k3
  obtain ⟨ys, hy, hp⟩ := h.st
  obtain ⟨q1, q2, q3⟩ := kn_ok P.kn.length (by omega) D (by omega)
  refine ⟨h.kn.nodup_iff.mpr q1, (show (P'.st.map (·.nm)).Nodup from (hp.map (·.nm)).nodup_iff.mpr (names_nd sm hD hy)), fun s hs => ?_, ?_, ?_⟩
  · obtain ⟨_, e1, e2, _⟩ := lSt_ok sm hD hy s (hp.mem_iff.mp hs)
    exact ⟨h.kn.mem_iff.mpr e1, h.kn.mem_iff.mpr e2⟩
  · rw [h.kn.length_eq]
    omega
  · rw [hp.length_eq]
    have := lSt_len sm hD hy
    omega
/-- while the lists grow -/
structure Lo (H0 : Hp) (Dk Ds : Addr) (kl : List Str) (sl : List Sm) (H : Hp) : Prop where
  same : Same H0 H
  dk : H Dk = some (.lst (kl.map V.str))
  ds : ∃ ss, H Ds = some (.lst ss) ∧ Paired (rSm H) ss sl
theorem Lo.grow {H0 : Hp} {Dk Ds : Addr} {kl : List Str} {sl : List Sm} {H H' : Hp} (h : Lo H0 Dk Ds kl sl H) (s : Same H H') : Lo H0 Dk Ds kl sl H' :=
  ⟨h.same.trans s, s Dk _ h.dk, let ⟨ss, h1, h2⟩ := h.ds; ⟨ss, s Ds _ h1, paired_mono (Ext.of s) h2⟩⟩
theorem Lo.kn {H0 : Hp} {Dk Ds : Addr} {kl : List Str} {sl : List Sm} {H : Hp} (h : Lo H0 Dk Ds kl sl H) (n : Dk ≠ Ds) (f : H0 Dk = none) (kl2 : List Str) : Lo H0 Dk Ds (kl ++ kl2) sl (upd H Dk (.lst (kl.map V.str ++ kl2.map V.str))) := by
  obtain ⟨ss, h1, h2⟩ := h.ds
  exact ⟨Same.mut h.same f, by rw [upd_same, List.map_append], ss, by rw [upd_ne n.symm]; exact h1, paired_tu (TupS.upd h.dk fun _ z => nomatch z) h2⟩
theorem Lo.app {H0 : Hp} {Dk Ds : Addr} {kl : List Str} {sl : List Sm} {H : Hp} (h : Lo H0 Dk Ds kl sl H) (n : Dk ≠ Ds) (f : H0 Ds = none) {ss : List V} (hs : H Ds = some (.lst ss)) {q : Addr} {s : Sm} (hq : H q = some (.tup [.str s.nm, .str s.tl, .str s.hd, .int s.lo, .int s.hi])) :
    Lo H0 Dk Ds kl (sl ++ [s]) (upd H Ds (.lst (ss ++ [.ref q]))) := by
  obtain ⟨ss', h1, h2⟩ := h.ds
  rw [hs] at h1
  cases h1
  have tu : TupS H (upd H Ds (.lst (ss ++ [.ref q]))) := TupS.upd hs fun _ z => nomatch z
  exact ⟨Same.mut h.same f, by rw [upd_ne n]; exact h.dk, _, upd_same, paired_snoc (paired_tu tu h2) ⟨q, rfl, tu q _ hq⟩⟩
end Mx

set_option Elab.async false
set_option linter.all false
set_option maxRecDepth 100000
set_option maxHeartbeats 2000000
/-! laid_out: the walk. -/
namespace Mx
open PySem PySem.Spec PyProof.Rows L2
section
variable {P : Program} {w : World} {K : PySem.W.Frag} {mg : Str → Option Value} {base : Heap}
def sp_laid_out (C : Addr) : Sp := fun vs H Q _ => ∃ (pv sv : V) (D : Nat) (P : Pl) (S : List (Str × (Int × Int × Int))), vs = [pv, sv, .int (D : Int)] ∧ rPl C H pv P ∧ rD rSt H sv S ∧ Sml P S ∧ D ≤ 2 ∧ ∀ v H' P', Same H H' → rPl C H' v P' → Laid P S D P' → Q v H'
theorem ok_laid_out (T : Tx K mg) : FnOk P w K mg base CX0 5 T.a_laid_out T.d_laid_out P_laid_out (sp_laid_out T.C_Plant) := by
  refine T.F_laid_out.ok sc_laid_out (fun vs H Q E h => ?_) (fun cdv A outer s H vs Q E hr h => ?_)
  · obtain ⟨_, _, _, _, _, rfl, _⟩ := h
    rfl
  · have hu := hu_of hr
    refine ⟨_, PSs.nox (pss_cons (ps_expr (pe_call (ok_check_days T) (hr.mono (by decide)) rfl T.m_check_days T.F_check_days.kp (b_check_days T) .nil pass0 (pa_cons (pv 0) (pa_cons (pv 1) (pa_cons (pv 2) pa_nil)))))
    (pss_cons (ps_set (i := 3) sc_laid_out.nd rfl (Or.inl rfl) (pe_lst (pa_cons (pe_glob (v := v_ENDS) rfl T.g_ENDS.choose_spec ⟨_, rfl⟩) pa_nil)))
    (pss_cons (ps_set (i := 4) sc_laid_out.nd rfl (Or.inl rfl) (pe_lst pa_nil))
    (pss_cons (ps_for PassesOwn.never rfl (pi_range2 rfl T.n_range (pa_cons pe_int (pa_cons (pe_op op_add (pv 2) pe_int) pa_nil))) (pg_name (i := 5) sc_laid_out.nd rfl (Or.inr rfl))
    (pss_cons (ps_expr (pe_bm PySem.F.plainAttrs_list PySem.F.slot_list_extend PySem.F.type_list_extend mt_extend (pv 3) (pa_cons (pe_lc (own := [("place", 7)]) rfl sc_laid_out.nd (pi_range1 rfl T.n_range (pa_cons (pe_callB call_len_seq (by rfl) T.n_len (by decide +kernel) (pa_cons (pe_prop (pv 0) T.c_Plant T.p_Plant_knots (ok_Plant_knots T) (hr.mono (by decide)) (b_Plant_knots T) .nil pass0 rfl) pa_nil)) pa_nil)) (blkOk_by (own := [("place", 7)]) (N := N_laid_out) (sc := defScope s_laid_out) (by decide +kernel)) (fun _ _ _ _ _ => (pg_name (i := 7) sc_laid_out.nd rfl (Or.inl rfl))) (fun _ _ _ _ _ => pts_nil) (fun _ _ _ _ _ => (pe_call (ok_day_name T) (hr.mono (by decide)) rfl T.m_day_name T.F_day_name.kp (b_day_name T) .nil pass0 (pa_cons (pv 5) (pa_cons pe_str (pa_cons (pv 7) pa_nil)))))) pa_nil)))
    (pss_one (ps_for PassesOwn.never rfl (pi_enum rfl T.n_enumerate (pa_cons (pe_prop (pv 0) T.c_Plant T.p_Plant_streams (ok_Plant_streams T) (hr.mono (by decide)) (b_Plant_streams T) .nil pass0 rfl) pa_nil)) (pg_tup rfl (pgs_cons (pg_name (i := 7) sc_laid_out.nd rfl (Or.inl rfl)) (pgs_cons (pg_tup rfl (pgs_cons (pg_name (i := 13) sc_laid_out.nd rfl (Or.inl rfl)) (pgs_cons (pg_name (i := 14) sc_laid_out.nd rfl (Or.inl rfl)) (pgs_cons (pg_name (i := 15) sc_laid_out.nd rfl (Or.inl rfl)) (pgs_cons (pg_name (i := 10) sc_laid_out.nd rfl (Or.inl rfl)) (pgs_cons (pg_name (i := 11) sc_laid_out.nd rfl (Or.inl rfl)) pgs_nil)))))) pgs_nil)))
    (pss_cons (ps_set (i := 8) sc_laid_out.nd rfl (Or.inl rfl) (pe_tup (pa_cons (pe_call (ok_knot_name T) (hr.mono (by decide)) rfl T.m_knot_name T.F_knot_name.kp (b_knot_name T) .nil pass0 (pa_cons (pv 0) (pa_cons (pv 5) (pa_cons (pv 2) (pa_cons (pv 14) pa_nil))))) (pa_cons (pe_call (ok_knot_name T) (hr.mono (by decide)) rfl T.m_knot_name T.F_knot_name.kp (b_knot_name T) .nil pass0 (pa_cons (pv 0) (pa_cons (pv 5) (pa_cons (pv 2) (pa_cons (pv 15) pa_nil))))) pa_nil))))
    (pss_one (ps_expr (pe_bm PySem.F.plainAttrs_list PySem.F.slot_list_append PySem.F.type_list_append mt_append (pv 4) (pa_cons (pe_op op_catT (pe_op op_catT (pe_tup (pa_cons (pe_call (ok_day_name T) (hr.mono (by decide)) rfl T.m_day_name T.F_day_name.kp (b_day_name T) .nil pass0 (pa_cons (pv 5) (pa_cons pe_str (pa_cons (pv 7) pa_nil)))) pa_nil)) (pv 8)) (pe_tup (pa_cons (pv 10) (pa_cons (pv 11) pa_nil)))) pa_nil)))))))))
    (pss_cons (ps_for PassesOwn.never rfl (pi_list (pe_callB (call_sortedD rfl) (by rfl) T.n_sorted (by decide +kernel) (pa_cons (pv 1) pa_nil))) (pg_name (i := 6) sc_laid_out.nd rfl (Or.inl rfl))
    (pss_cons (ps_asg (pe_dget hu (pv 1) (pv 6) (fun _ _ => rfl)) (pg_tup rfl (pgs_cons (pg_name (i := 9) sc_laid_out.nd rfl (Or.inl rfl)) (pgs_cons (pg_name (i := 10) sc_laid_out.nd rfl (Or.inl rfl)) (pgs_cons (pg_name (i := 11) sc_laid_out.nd rfl (Or.inl rfl)) pgs_nil)))))
    (pss_one (ps_for PassesOwn.never rfl (pi_range1 rfl T.n_range (pa_cons (pe_op op_add (pv 2) pe_int) pa_nil)) (pg_name (i := 5) sc_laid_out.nd rfl (Or.inr rfl))
    (pss_cons (ps_set (i := 8) sc_laid_out.nd rfl (Or.inl rfl) (pe_tup (pa_cons (pe_call (ok_knot_name T) (hr.mono (by decide)) rfl T.m_knot_name T.F_knot_name.kp (b_knot_name T) .nil pass0 (pa_cons (pv 0) (pa_cons (pv 5) (pa_cons (pv 2) (pa_cons (pv 6) pa_nil))))) (pa_cons (pe_call (ok_knot_name T) (hr.mono (by decide)) rfl T.m_knot_name T.F_knot_name.kp (b_knot_name T) .nil pass0 (pa_cons (pv 0) (pa_cons (pe_op op_add (pv 5) pe_int) (pa_cons (pv 2) (pa_cons (pv 6) pa_nil))))) pa_nil))))
    (pss_cons (ps_set (i := 12) sc_laid_out.nd rfl (Or.inl rfl) (pe_ifExp (pt_cmpR op_eq (pv 5) pe_int (nomark _)) (pe_tup (pa_cons (pv 9) (pa_cons (pv 9) pa_nil))) (pe_tup (pa_cons (pv 10) (pa_cons (pv 11) pa_nil)))))
    (pss_one (ps_expr (pe_bm PySem.F.plainAttrs_list PySem.F.slot_list_append PySem.F.type_list_append mt_append (pv 4) (pa_cons (pe_op op_catT (pe_op op_catT (pe_tup (pa_cons (pe_call (ok_evening_name T) (hr.mono (by decide)) rfl T.m_evening_name T.F_evening_name.kp (b_evening_name T) .nil pass0 (pa_cons (pv 0) (pa_cons (pv 5) (pa_cons (pv 6) pa_nil)))) pa_nil)) (pv 8)) (pv 12)) pa_nil))))))))))
    (pss_one (ps_ret (pe_make T.k_Plant (ok_Plant_init T) (hr.mono (by decide)) rfl T.m_Plant (b_Plant_init T) .nil pass0 (pa_cons (pv 3) (pa_cons (pv 4) pa_nil)))))))))), ?_⟩
    obtain ⟨pv, sv, D, P, S, rfl, hP, hS, sm, hD, k⟩ := h
    obtain ⟨p, dx, ka, sa, rfl, hi, hkn, hst⟩ := id hP
    obtain ⟨sd, sks, rfl, hsd, hsk⟩ := id hS
    have k3 := sm.k3
    have s3 := sm.s3
    have l3 := sm.len
    have sz := sizeLine_eq
    rw [show L2.start N_laid_out [V.ref p, V.ref sd, V.int (D : Int)] = [some (V.ref p), some (V.ref sd), some (V.int (D : Int)), none, none, none, none, none, none, none, none, none, none, none, none, none] from rfl]
    -- check_days
    refine ⟨_, rfl, _, rfl, _, rfl, .ref p, .ref sd, D, P, S, rfl, hP, hS, sm, hD, fun H1 s1 => ?_⟩
    refine ⟨(by show 1 ≤ sizeLine; decide), fun Dk hDk => ?_⟩
    have sk : Same H1 (upd H1 Dk (.lst [.str "ends"])) := Same.new hDk
    refine ⟨(by show 0 ≤ sizeLine; exact Nat.zero_le _), fun Ds hDs => ?_⟩
    dsimp only [gName, List.set_cons_zero, List.set_cons_succ]
    have nks : Dk ≠ Ds := ne_of_none (H := upd H1 Dk (.lst [.str "ends"])) upd_same hDs
    have ss : Same (upd H1 Dk (.lst [.str "ends"])) (upd (upd H1 Dk (.lst [.str "ends"])) Ds (.lst [])) := Same.new hDs
    have hDsn : H1 Ds = none := by
      cases z : H1 Ds with
      | none => rfl
      | some u => rw [sk Ds u z] at hDs; cases hDs
    have lo0 : Lo H1 Dk Ds ["ends"] [] (upd (upd H1 Dk (.lst [.str "ends"])) Ds (.lst [])) := ⟨sk.trans ss, by rw [upd_ne nks, upd_same]; rfl, [], upd_same, .nil⟩
    -- for day in range(1, days + 1)
    refine ⟨_, rfl, _, _, rfl, rfl, 1, (D : Int) + 1, rfl, ⟨by omega, by omega, by omega, by omega⟩, ?_⟩
    rw [show ((D : Int) + 1 - 1).toNat = D from by omega]
    refine for_it (walk_range) (fun i σ H2 => Lo H1 Dk Ds (lKn P.kn.length i) (dSs P D i) H2 ∧ ∃ a b c d e f g h x y z, σ = [some (.ref p), some (.ref sd), some (.int (D : Int)), some (.ref Dk), some (.ref Ds), a, b, c, d, e, f, g, h, x, y, z])
      ⟨lo0, _, _, _, _, _, _, _, _, _, _, _, rfl⟩ (fun _ _ _ _ _ => trivial) ?_ ?_
    · rintro i x σ H2 H3 hi' ⟨lo, _, _, _, _, _, _, _, _, _, _, _, rfl⟩ ⟨rfl, rfl⟩
      dsimp only [gName, List.set_cons_zero, List.set_cons_succ]
      have ed : (1 : Int) + ((i : Nat) : Int) = (((i + 1 : Nat)) : Int) := by omega
      rw [ed]
      -- knots.extend
      refine ⟨_, rfl, .inl ⟨rfl, _, SqL.of lo.dk⟩, _, rfl, p, dx, _, rfl, lo.same p _ (s1 p _ hi), _, P, rfl, Mono.same lo.same (Mono.same s1 hP), fun l H4 xs hl s4 e4 hx => ?_⟩
      have hlk := paired_len hx
      refine ⟨l, _, rfl, .inl (SqL.of e4), _, rfl, (by rw [hlk]; omega), (by rw [hlk]; omega), fun D1 hD1 => ?_⟩
      rw [show ((xs.length : Nat) : Int).toNat = xs.length from by omega, hlk]
      refine lc_gen (A := rStr) (B := fun _ v (j : Nat) => v = .int (j : Int) ∧ j < P.kn.length) walk_range (List.range P.kn.length) (List.length_range) (by omega) hD1 (fun _ _ => trivial) ?_ (fun _ => true) (fun j => dnm (i + 1) "k" j) ?_ ?_
      · rintro j H5 x H6 b hb _ ⟨rfl, rfl⟩
        have hb' := List.getElem?_eq_some_iff.mp hb
        obtain ⟨q1, q2⟩ := hb'
        rw [List.getElem_range] at q2
        rw [List.length_range] at q1
        exact ⟨Same.refl _, by show V.int (0 + (j : Int)) = V.int (b : Int); rw [q2]; congr 1; omega, by omega⟩
      · rintro j b x H' hb s5 ⟨rfl, hbl⟩ Ks Kc kt _
        refine ⟨rfl, yesT (iteT ?_)⟩
        exact ⟨_, rfl, _, rfl, i + 1, b, "k", rfl, by omega, by omega, .inr rfl, fun v H6 s6 hv => kt v H6 s6 hv rfl⟩
      · intro H5 ys s5 hD5 hp5
        rw [filt_true] at hp5
        have e5 := strs_eq hp5
        subst e5
        have lo5 := (lo.grow s4).grow s5
        refine ⟨Dk, D1, _, _, rfl, rfl, lo5.dk, hD5, ?_, ?_⟩
        · have h7 := (kn_ok P.kn.length (by omega) i (by omega)).2.1
          rw [List.length_map, List.length_map, List.length_map, List.length_range]
          omega
        have lo6 := lo5.kn nks hDk ((List.range P.kn.length).map fun j => dnm (i + 1) "k" j)
        have ek : lKn P.kn.length i ++ ((List.range P.kn.length).map fun j => dnm (i + 1) "k" j) = lKn P.kn.length (i + 1) := by
          unfold lKn
          rw [range_succ_flat]
          rfl
        rw [ek] at lo6
        generalize upd H5 Dk (.lst ((lKn P.kn.length i).map V.str ++ ((List.range P.kn.length).map fun j => dnm (i + 1) "k" j).map V.str)) = G6 at lo6
        -- for place, (_, tail, head, low, high) in enumerate(plant.streams)
        have sG6 := s1.trans lo6.same
        refine ⟨_, rfl, p, dx, _, rfl, sG6 p _ hi, _, P, rfl, Mono.same sG6 hP, fun l2 G7 xs2 hl2 s7 e7 hx7 => ?_⟩
        have hl2' := paired_len hx7
        refine ⟨l2, xs2, rfl, SqL.of e7, for_it (walk_enum (K := K)) (fun j σ G => (Lo H1 Dk Ds (lKn P.kn.length (i + 1)) (dSs P D i ++ dS P.kn D (i + 1) (P.st.take j)) G ∧ G l2 = some (.lst xs2) ∧ Paired (rSm G) xs2 P.st) ∧ ∃ a b c d e f g h x y, σ = [some (.ref p), some (.ref sd), some (.int (D : Int)), some (.ref Dk), some (.ref Ds), some (.int ((i + 1 : Nat) : Int)), a, b, c, d, e, f, g, h, x, y])
          ⟨⟨by rw [List.take_zero]; show Lo H1 Dk Ds _ (dSs P D i ++ []) _; rw [List.append_nil]; exact lo6.grow s7, e7, hx7⟩, _, _, _, _, _, _, _, _, _, _, rfl⟩ (fun j σ G _ h => SqL.of h.1.2.1) ?_ ?_⟩
        · rintro j x σ G G' hj ⟨⟨lo8, hl8, hx8⟩, _, _, _, _, _, _, _, _, _, _, rfl⟩ ⟨T0, x1, y1, rfl, hT0, rfl, hxi, hyi⟩
          cases hxi
          obtain ⟨t, ht, q, rfl, hq⟩ := paired_get' hx8 hyi
          have htm := List.mem_of_getElem? ht
          obtain ⟨et1, et2⟩ := sm.ok.ends t htm
          have sT : Same G (upd G T0 (.tup [.int ((j : Nat) : Int), .ref q])) := Same.new hT0
          have lo9 := lo8.grow sT
          have sG9 := s1.trans lo9.same
          have hj3 : j < 3 := by
            have := (List.getElem?_eq_some_iff.mp ht).1
            omega
          refine ⟨T0, _, rfl, SqT.of upd_same, rfl, _, _, rfl, _, _, rfl, q, _, rfl, SqT.of (sT q _ hq), rfl, _, _, rfl, _, _, rfl, _, _, rfl, _, _, rfl, _, _, rfl, rfl, rfl, ?_⟩
          dsimp only [gName, List.set_cons_zero, List.set_cons_succ]
          -- ends
          refine ⟨_, rfl, _, rfl, _, rfl, _, rfl, .ref p, i + 1, D, t.tl, P, rfl, Mono.same sG9 hP, by omega, et1, k3, fun v1 Ga sa hv1 => ?_⟩
          refine ⟨_, rfl, _, rfl, _, rfl, _, rfl, .ref p, i + 1, D, t.hd, P, rfl, Mono.same (sG9.trans sa) hP, by omega, et2, k3, fun v2 Gb sb hv2 => ?_⟩
          cases hv1
          cases hv2
          refine ⟨(by show 2 ≤ sizeLine; decide), fun te hte => ?_⟩
          dsimp only [gName, List.set_cons_zero, List.set_cons_succ]
          have se := Same.new (o := .tup [V.str (kNm P.kn D (i + 1) t.tl), .str (kNm P.kn D (i + 1) t.hd)]) hte
          have lob := (((lo9.grow sa).grow sb).grow se)
          obtain ⟨sv9, hsv9, hpv9⟩ := lob.ds
          -- streams.append
          refine ⟨_, rfl, .inl ⟨rfl, _, SqL.of hsv9⟩, _, rfl, _, rfl, i + 1, j, "s", rfl, by omega, hj3, .inl rfl, fun v3 Gc sc hv3 => ?_⟩
          cases hv3
          refine ⟨(by show 1 ≤ sizeLine; decide), fun t1 ht1 => ?_⟩
          have s1' := Same.new (o := .tup [V.str (dnm (i + 1) "s" j)]) ht1
          have hte2 := s1' te _ (sc te _ upd_same)
          refine ⟨_, rfl, t1, te, _, _, rfl, rfl, SqT.of upd_same, SqT.of hte2, (by intro z; cases z), (by show 1 + 2 ≤ sizeLine; decide), (fun z => nomatch z), fun _ t2 ht2 => ?_⟩
          have s2' := Same.new (o := .tup ([V.str (dnm (i + 1) "s" j)] ++ [V.str (kNm P.kn D (i + 1) t.tl), .str (kNm P.kn D (i + 1) t.hd)])) ht2
          refine ⟨_, rfl, _, rfl, (by show 2 ≤ sizeLine; decide), fun t3 ht3 => ?_⟩
          have s3' := Same.new (o := .tup [V.int t.lo, .int t.hi]) ht3
          refine ⟨t2, t3, _, _, rfl, rfl, SqT.of (s3' t2 _ upd_same), SqT.of upd_same, (by intro z; cases z), (by show 3 + 2 ≤ sizeLine; decide), (fun z => nomatch z), fun _ t4 ht4 => ?_⟩
          have s4' := Same.new (o := .tup (([V.str (dnm (i + 1) "s" j)] ++ [V.str (kNm P.kn D (i + 1) t.tl), .str (kNm P.kn D (i + 1) t.hd)]) ++ [V.int t.lo, .int t.hi])) ht4
          have sall := (((sc.trans s1').trans s2').trans s3').trans s4'
          have loz := lob.grow sall
          have hsvz := sall Ds _ hsv9
          have slen : sv9.length ≤ 100 := by
            rw [paired_len hpv9]
            have f1 : ∀ n, (dSs P D n).length = n * P.st.length := fun n => by
              induction n with
              | zero => simp [dSs]
              | succ n ih =>
                unfold dSs at ih ⊢
                rw [range_succ_flat, List.length_append, ih, Nat.succ_mul]
                congr 1
                unfold dS
                rw [List.length_map, List.length_zipIdx]
            rw [List.length_append, f1]
            unfold dS
            rw [List.length_map, List.length_zipIdx, List.length_take]
            have : i * P.st.length ≤ 2 * 3 := Nat.mul_le_mul (by omega) s3
            omega
          refine ⟨Ds, sv9, _, rfl, rfl, hsvz, by omega, ?_⟩
          have hfin := loz.app nks hDsn hsvz (q := t4) (s := ⟨dnm (i + 1) "s" j, kNm P.kn D (i + 1) t.tl, kNm P.kn D (i + 1) t.hd, t.lo, t.hi⟩) upd_same
          have et : dSs P D i ++ dS P.kn D (i + 1) (P.st.take j) ++ [⟨dnm (i + 1) "s" j, kNm P.kn D (i + 1) t.tl, kNm P.kn D (i + 1) t.hd, t.lo, t.hi⟩] = dSs P D i ++ dS P.kn D (i + 1) (P.st.take (j + 1)) := by
            rw [List.take_add_one, ht]
            show _ = dSs P D i ++ dS P.kn D (i + 1) (P.st.take j ++ [t])
            rw [dS_snoc, List.length_take, List.append_assoc]
            have : min j P.st.length = j := by omega
            rw [this]
          rw [et] at hfin
          have sgo := (((sT.trans sa).trans sb).trans se).trans sall
          have nl : l2 ≠ Ds := fun z => by
            subst z
            obtain ⟨a, h1, _⟩ := lo6.ds
            rw [hl2] at h1
            cases h1
          refine ⟨⟨hfin, by rw [upd_ne nl]; exact sgo l2 _ hl8, paired_tu (TupS.upd hsvz fun _ z => nomatch z) (paired_mono (Ext.of sgo) hx8)⟩, _, _, _, _, _, _, _, _, _, _, rfl⟩
        · rintro σ G ⟨⟨lo8, hl8, hx8⟩, _, _, _, _, _, _, _, _, _, _, rfl⟩
          rw [paired_len hx8, List.take_length] at lo8
          refine ⟨?_, _, _, _, _, _, _, _, _, _, _, _, rfl⟩
          have ed2 : dSs P D (i + 1) = dSs P D i ++ dS P.kn D (i + 1) P.st := range_succ_flat _ _
          rw [ed2]
          exact lo8
    · rintro σ H2 ⟨lo, _, _, _, _, _, _, _, _, _, _, _, rfl⟩
      have s12 := s1.trans lo.same
      -- for knot in sorted(stores)
      refine ⟨_, rfl, sd, sks, S.map (·.1), rfl, rd_same s12 hsd, dp_keys hsk, (by rw [List.length_map]; omega), fun ys p1 hperm _ hp1 => ?_⟩
      have lo1 := lo.grow (Same.new (o := .lst (ys.map V.str)) hp1)
      have yk : ∀ k ∈ ys, k ∈ P.kn := fun k hk => sm.sub k (hperm.mem_iff.mp hk)
      have yl : ys.length ≤ 3 := by rw [hperm.length_eq, List.length_map]; exact l3
      have np1 : p1 ≠ Ds := fun z => by
        obtain ⟨a, h1, _⟩ := lo.ds
        rw [z, h1] at hp1
        cases hp1
      have f2 : ∀ zs : List Str, (eSs P.kn S D zs).length = zs.length * (D + 1) := fun zs => by
        induction zs with
        | nil => simp [eSs]
        | cons z zs ih =>
          unfold eSs at ih ⊢
          rw [List.flatMap_cons, List.length_append, ih, List.length_cons, Nat.succ_mul]
          unfold eS
          rw [List.length_map, List.length_range]
          omega
      have f1 : (dSs P D D).length ≤ 6 := by
        have f1 : ∀ n, (dSs P D n).length = n * P.st.length := fun n => by
          induction n with
          | zero => simp [dSs]
          | succ n ih =>
            unfold dSs at ih ⊢
            rw [range_succ_flat, List.length_append, ih, Nat.succ_mul]
            congr 1
            unfold dS
            rw [List.length_map, List.length_zipIdx]
        rw [f1]
        exact Nat.mul_le_mul hD s3
      refine ⟨p1, rfl, ⟨_, SqL.of upd_same⟩, for_it (walk_list (K := K)) (fun i σ H3 => (Lo H1 Dk Ds (lKn P.kn.length D) (dSs P D D ++ eSs P.kn S D (ys.take i)) H3 ∧ H3 p1 = some (.lst (ys.map V.str))) ∧ ∃ a b c d e f g h x y z, σ = [some (.ref p), some (.ref sd), some (.int (D : Int)), some (.ref Dk), some (.ref Ds), a, b, c, d, e, f, g, h, x, y, z])
        ⟨⟨by rw [List.take_zero]; show Lo H1 Dk Ds _ (dSs P D D ++ []) _; rw [List.append_nil]; exact lo1, upd_same⟩, _, _, _, _, _, _, _, _, _, _, _, rfl⟩ (fun i σ H3 _ h => SqL.of h.1.2) ?_ ?_⟩
      · rintro i x σ H3 H4 hi' ⟨⟨lo3, h13⟩, _, _, _, _, _, _, _, _, _, _, _, rfl⟩ ⟨rfl, hxi⟩
        rw [List.getElem?_map] at hxi
        cases hy : ys[i]? with
        | none => rw [hy] at hxi; cases hxi
        | some kn =>
          rw [hy] at hxi
          cases hxi
          have hkm := List.mem_of_getElem? hy
          have hkn' := yk kn hkm
          have hj := ixs_lt hkn'
          have et : ys.take (i + 1) = ys.take i ++ [kn] := by
            rw [List.take_add_one, hy]
            rfl
          have i3 : i < 3 := by
            have := (List.getElem?_eq_some_iff.mp hy).1
            omega
          obtain ⟨⟨b, lo', hi''⟩, hb⟩ := rdg_in (hperm.mem_iff.mp hkm)
          have s13 := s1.trans lo3.same
          obtain ⟨v, hg, t, _, _, _, rfl, ht, rfl, rfl, rfl⟩ := get_in (rd_same s13 hsd) (dpair_mono (Ext.of s13) hsk) sm.snd (rdg_some hb)
          dsimp only [gName, List.set_cons_zero, List.set_cons_succ]
          refine ⟨_, rfl, _, rfl, sd, _, rfl, hg, t, _, rfl, SqT.of ht, rfl, _, _, rfl, _, _, rfl, _, _, rfl, rfl, ?_⟩
          dsimp only [gName, List.set_cons_zero, List.set_cons_succ]
          -- for day in range(days + 1)
          refine ⟨_, rfl, _, _, rfl, rfl, _, rfl, by omega, by omega, ?_⟩
          rw [show ((D : Int) + 1).toNat = D + 1 from by omega]
          refine for_it walk_range (fun j σ G => (Lo H1 Dk Ds (lKn P.kn.length D) (dSs P D D ++ eSs P.kn S D (ys.take i) ++ eS P.kn S D kn j) G ∧ G p1 = some (.lst (ys.map V.str))) ∧ ∃ a c d h x y z, σ = [some (.ref p), some (.ref sd), some (.int (D : Int)), some (.ref Dk), some (.ref Ds), a, some (.str kn), c, d, some (.int b), some (.int lo'), some (.int hi''), h, x, y, z])
            ⟨⟨by show Lo H1 Dk Ds _ (dSs P D D ++ eSs P.kn S D (ys.take i) ++ []) _; rw [List.append_nil]; exact lo3, h13⟩, _, _, _, _, _, _, _, rfl⟩ (fun _ _ _ _ _ => trivial) ?_ ?_
          · rintro j x σ G G' hj' ⟨⟨lo8, h18⟩, _, _, _, _, _, _, _, rfl⟩ ⟨rfl, rfl⟩
            dsimp only [gName, List.set_cons_zero, List.set_cons_succ]
            have ed : (0 : Int) + ((j : Nat) : Int) = ((j : Nat) : Int) := by omega
            rw [ed]
            have sG8 := s1.trans lo8.same
            have ed1 : ((j : Nat) : Int) + 1 = ((j + 1 : Nat) : Int) := by omega
            refine ⟨_, rfl, _, rfl, _, rfl, _, rfl, .ref p, j, D, kn, P, rfl, Mono.same sG8 hP, by omega, hkn', k3, fun v1 Ga sa hv1 => ?_⟩
            refine ⟨_, rfl, _, rfl, _, _, rfl, rfl, _, rfl, _, rfl, .ref p, j + 1, D, kn, P, rfl, Mono.same (sG8.trans sa) hP, by omega, hkn', k3, fun v2 Gb sb hv2 => ?_⟩
            cases hv1
            cases hv2
            refine ⟨(by show 2 ≤ sizeLine; decide), fun te hte => ?_⟩
            dsimp only [gName, List.set_cons_zero, List.set_cons_succ]
            have se := Same.new (o := .tup [V.str (kNm P.kn D j kn), .str (kNm P.kn D (j + 1) kn)]) hte
            have lob := (((lo8.grow sa).grow sb).grow se)
            -- bounds
            refine ⟨_, rfl, rfl, decide (j = 0), ?_, ?_⟩
            · show V.bl (decide (V.int (j : Int) = V.int 0)) = _
              by_cases e : j = 0
              · rw [decide_eq_true e, decide_eq_true (by rw [e]; rfl)]
              · rw [decide_eq_false e, decide_eq_false (fun z => e (by have := V.int.inj z; omega))]
            have fin : ∀ (lo9 hi9 : Int), lo9 = (if j = 0 then b else lo') → hi9 = (if j = 0 then b else hi'') → ∀ (tb : Addr) (G1 : Hp), G1 tb = some (.tup [.int lo9, .int hi9]) → Same (upd Gb te (.tup [V.str (kNm P.kn D j kn), .str (kNm P.kn D (j + 1) kn)])) G1 →
                ∀ (sv9 : List V), G1 Ds = some (.lst sv9) → ∀ (t4 : Addr) (G4 : Hp), Same G1 G4 → G4 t4 = some (.tup ([V.str (enm j (ixs P.kn kn))] ++ [V.str (kNm P.kn D j kn), .str (kNm P.kn D (j + 1) kn)] ++ [V.int lo9, .int hi9])) →
                (Lo H1 Dk Ds (lKn P.kn.length D) (dSs P D D ++ eSs P.kn S D (ys.take i) ++ eS P.kn S D kn (j + 1)) (upd G4 Ds (.lst (sv9 ++ [.ref t4]))) ∧ upd G4 Ds (.lst (sv9 ++ [.ref t4])) p1 = some (.lst (ys.map V.str))) := by
              intro lo9 hi9 el eh tb G1 htb sg1 sv9 hsv t4 G4 sg4 ht4
              have loz := (lob.grow sg1).grow sg4
              have hfin := loz.app nks hDsn (sg4 Ds _ hsv) (q := t4) (s := eS1 P.kn S D kn j) (by
                rw [ht4]
                unfold eS1
                rw [hb, el, eh]
                rfl)
              have ee : dSs P D D ++ eSs P.kn S D (ys.take i) ++ eS P.kn S D kn j ++ [eS1 P.kn S D kn j] = dSs P D D ++ eSs P.kn S D (ys.take i) ++ eS P.kn S D kn (j + 1) := by
                unfold eS
                rw [List.range_succ, List.map_append, ← List.append_assoc]
                rfl
              rw [ee] at hfin
              exact ⟨hfin, by
                rw [upd_ne np1]
                exact sg4 p1 _ (sg1 p1 _ (se p1 _ (sb p1 _ (sa p1 _ h18))))⟩
            have slen : ∀ (G1 : Hp) (sv9 : List V), Same (upd Gb te (.tup [V.str (kNm P.kn D j kn), .str (kNm P.kn D (j + 1) kn)])) G1 → G1 Ds = some (.lst sv9) → sv9.length ≤ 100 := fun G1 sv9 sg hsv => by
              obtain ⟨a, h1, h2⟩ := (lob.grow sg).ds
              rw [hsv] at h1
              cases h1
              rw [paired_len h2, List.length_append, List.length_append, f2, List.length_take]
              unfold eS
              rw [List.length_map, List.length_range]
              have : min i ys.length * (D + 1) ≤ 3 * 3 := Nat.mul_le_mul (by omega) (by omega)
              omega
            by_cases e : j = 0
            · rw [decide_eq_true e]
              refine iteT ?_
              refine ⟨_, rfl, _, rfl, (by show 2 ≤ sizeLine; decide), fun tb htb => ?_⟩
              dsimp only [gName, List.set_cons_zero, List.set_cons_succ]
              have sb' := Same.new (o := .tup [V.int b, .int b]) htb
              obtain ⟨sv9, hsv9, hpv9⟩ := (lob.grow sb').ds
              refine ⟨_, rfl, .inl ⟨rfl, _, SqL.of hsv9⟩, _, rfl, _, rfl, _, rfl, .ref p, j, kn, P, rfl, Mono.same ((((sG8.trans sa).trans sb).trans se).trans sb') hP, by omega, hkn', k3, fun v3 Gc sc hv3 => ?_⟩
              cases hv3
              refine ⟨(by show 1 ≤ sizeLine; decide), fun t1 ht1 => ?_⟩
              have s1' := Same.new (o := .tup [V.str (enm j (ixs P.kn kn))]) ht1
              have hte2 := s1' te _ (sc te _ (sb' te _ upd_same))
              refine ⟨_, rfl, t1, te, _, _, rfl, rfl, SqT.of upd_same, SqT.of hte2, (by intro z; cases z), (by show 1 + 2 ≤ sizeLine; decide), (fun z => nomatch z), fun _ t2 ht2 => ?_⟩
              have s2' := Same.new (o := .tup ([V.str (enm j (ixs P.kn kn))] ++ [V.str (kNm P.kn D j kn), .str (kNm P.kn D (j + 1) kn)])) ht2
              have htb2 := s2' tb _ (s1' tb _ (sc tb _ upd_same))
              refine ⟨_, rfl, t2, tb, _, _, rfl, rfl, SqT.of upd_same, SqT.of htb2, (by intro z; cases z), (by show 3 + 2 ≤ sizeLine; decide), (fun z => nomatch z), fun _ t4 ht4 => ?_⟩
              have s4' := Same.new (o := .tup (([V.str (enm j (ixs P.kn kn))] ++ [V.str (kNm P.kn D j kn), .str (kNm P.kn D (j + 1) kn)]) ++ [V.int b, .int b])) ht4
              have sall := ((sc.trans s1').trans s2').trans s4'
              refine ⟨Ds, sv9, _, rfl, rfl, sall Ds _ hsv9, (by have := slen _ sv9 sb' hsv9; omega), ?_⟩
              exact ⟨fin b b (by rw [if_pos e]) (by rw [if_pos e]) tb _ upd_same sb' sv9 hsv9 t4 _ sall upd_same, _, _, _, _, _, _, _, rfl⟩
            · rw [decide_eq_false e]
              refine iteF ?_
              refine ⟨_, rfl, _, rfl, (by show 2 ≤ sizeLine; decide), fun tb htb => ?_⟩
              dsimp only [gName, List.set_cons_zero, List.set_cons_succ]
              have sb' := Same.new (o := .tup [V.int lo', .int hi'']) htb
              obtain ⟨sv9, hsv9, hpv9⟩ := (lob.grow sb').ds
              refine ⟨_, rfl, .inl ⟨rfl, _, SqL.of hsv9⟩, _, rfl, _, rfl, _, rfl, .ref p, j, kn, P, rfl, Mono.same ((((sG8.trans sa).trans sb).trans se).trans sb') hP, by omega, hkn', k3, fun v3 Gc sc hv3 => ?_⟩
              cases hv3
              refine ⟨(by show 1 ≤ sizeLine; decide), fun t1 ht1 => ?_⟩
              have s1' := Same.new (o := .tup [V.str (enm j (ixs P.kn kn))]) ht1
              have hte2 := s1' te _ (sc te _ (sb' te _ upd_same))
              refine ⟨_, rfl, t1, te, _, _, rfl, rfl, SqT.of upd_same, SqT.of hte2, (by intro z; cases z), (by show 1 + 2 ≤ sizeLine; decide), (fun z => nomatch z), fun _ t2 ht2 => ?_⟩
              have s2' := Same.new (o := .tup ([V.str (enm j (ixs P.kn kn))] ++ [V.str (kNm P.kn D j kn), .str (kNm P.kn D (j + 1) kn)])) ht2
              have htb2 := s2' tb _ (s1' tb _ (sc tb _ upd_same))
              refine ⟨_, rfl, t2, tb, _, _, rfl, rfl, SqT.of upd_same, SqT.of htb2, (by intro z; cases z), (by show 3 + 2 ≤ sizeLine; decide), (fun z => nomatch z), fun _ t4 ht4 => ?_⟩
              have s4' := Same.new (o := .tup (([V.str (enm j (ixs P.kn kn))] ++ [V.str (kNm P.kn D j kn), .str (kNm P.kn D (j + 1) kn)]) ++ [V.int lo', .int hi''])) ht4
              have sall := ((sc.trans s1').trans s2').trans s4'
              refine ⟨Ds, sv9, _, rfl, rfl, sall Ds _ hsv9, (by have := slen _ sv9 sb' hsv9; omega), ?_⟩
              exact ⟨fin lo' hi'' (by rw [if_neg e]) (by rw [if_neg e]) tb _ upd_same sb' sv9 hsv9 t4 _ sall upd_same, _, _, _, _, _, _, _, rfl⟩
          · rintro σ G ⟨⟨lo8, h18⟩, _, _, _, _, _, _, _, rfl⟩
            refine ⟨⟨?_, h18⟩, _, _, _, _, _, _, _, _, _, _, _, rfl⟩
            have e9 : eSs P.kn S D (ys.take (i + 1)) = eSs P.kn S D (ys.take i) ++ eS P.kn S D kn (D + 1) := by
              rw [et]
              unfold eSs
              rw [List.flatMap_append]
              simp
            rw [e9, ← List.append_assoc]
            exact lo8
      · rintro σ H3 ⟨⟨lo3, h13⟩, _, _, _, _, _, _, _, _, _, _, _, rfl⟩
        rw [List.length_map, List.take_length] at lo3
        have s13 := s1.trans lo3.same
        obtain ⟨ss9, hss9, hp9⟩ := lo3.ds
        -- Plant(knots, streams)
        refine ⟨_, rfl, _, rfl, fun x dxx hx hdx hne => ?_⟩
        have sx := (Same.new (o := .own x) hdx).trans (Same.new (o := .ins T.C_Plant dxx []) (by rw [upd_ne hne.symm]; exact hx))
        obtain ⟨q1, q2, q3⟩ := kn_ok P.kn.length (by omega) D (by omega)
        have hl15 := lSt_len sm hD hperm
        refine ⟨x, dxx, .ref Dk, .ref Ds, lKn P.kn.length D, lSt P S D ys, rfl, upd_same, ⟨Dk, _, rfl, sx Dk _ lo3.dk, strs_of' _⟩, ⟨Ds, ss9, rfl, sx Ds _ hss9, paired_mono (Ext.of sx) hp9⟩, (by unfold lKn; rw [List.length_cons]; omega), by omega, q3, q1, by omega, lSt_ok sm hD hperm, names_nd sm hD hperm, fun kn' st' H' pk ps hpl hold => ⟨rfl, ?_⟩⟩
        refine k _ H' ⟨kn', st'⟩ (fun b o e => ?_) hpl ⟨pk, ys, hperm, ps⟩
        have e1 := s13 b o e
        refine hold b o (sx b o e1) ?_
        intro z
        subst z
        rw [hx] at e1
        cases e1
end
end Mx

set_option Elab.async false
set_option linter.all false
set_option maxRecDepth 100000
set_option maxHeartbeats 4000000
/-! enumerate(zip(a, b)) of two lists, to a target of a name and a pair. -/
namespace Mx
open PySem PySem.Spec PyProof.Rows L2
section
variable {prog : Program} {w : World} {A : Around} {E : Value → Shared → Prop} {s : Shared}
/-- a zip: nothing handed out, or the tuple handed out last -/
def ZipSt (h : Heap) (z TI TO : Addr) : Prop := IsZip h z TI TO .none ∨ ∃ T f, IsZipHeld h z TI TO T f
theorem dead_ask {a : Addr} {Q : Option Obj → Shared → Prop} (e : s.heap.get? a = none) (q : Q none s) : wpAny (model prog w) A (loadIfAlive a) Q E s := by
  have q' : Q (s.heap.get? a) s := by rw [e]; exact q
  exact fun _ _ _ => q'
theorem gone_free {z TI TO T : Addr} {f : Bool} {Q : Bool → Shared → Prop} (hz : IsZipHeld s.heap z TI TO T f) (e : s.heap.get? T = none) (q : Q true s) : wpAny (model prog w) A (Builtin.SmallTypes.ownedTupleIsFree (.ref z)) Q E s := by
  unfold Builtin.SmallTypes.ownedTupleIsFree
  refine wpAny_bind (wpAny_field hz rfl (x := rawInt T) rfl ?_)
  show wpAny _ _ (loadIfAlive ((T : Int).toNat) >>= _) _ _ _
  rw [Int.toNat_natCast]
  refine wpAny_bind (dead_ask e ?_)
  simp only [Option.isNone_none, if_true]
  exact wpAny_pure q
/-- what one more item leaves -/
structure ZipOn (s : Shared) (z TI TO i1 i2 l1 l2 : Addr) (k : Nat) (x y : Value) (g : Heap) : Prop where
  zip : ZipSt g z TI TO
  to : ∃ a b, IsPair g TO a b
  ti : IsPair g TI (.ref i1) (.ref i2)
  a1 : g.IsListIter i1 l1 (k + 1)
  a2 : g.IsListIter i2 l2 (k + 1)
  new : IsPair g s.heap.objs.size x y
  size : g.objs.size = s.heap.objs.size + 1
  old : ∀ c o, c ≠ z → c ≠ TO → c ≠ i1 → c ≠ i2 → s.heap.get? c = some o → g.get? c = some o
theorem zip_gone_item {z TI TO T i1 i2 l1 l2 : Addr} {f : Bool} {k : Nat} {xs ys : Array Value} {x y a b : Value} {Q : Value → Shared → Prop} (D : ZipApart z TI TO i1 i2 l1 l2) (hz : IsZipHeld s.heap z TI TO T f) (dead : s.heap.get? T = none)
    (hTI : IsPair s.heap TI (.ref i1) (.ref i2)) (hTO : IsPair s.heap TO a b) (q1 : s.heap.IsListIter i1 l1 k) (q2 : s.heap.IsListIter i2 l2 k) (m1 : s.heap.IsList l1 xs) (m2 : s.heap.IsList l2 ys) (hx : xs[k]? = some x) (hy : ys[k]? = some y)
    (hQ : ∀ g, ZipOn s z TI TO i1 i2 l1 l2 k x y g → Q (.ref s.heap.objs.size) { s with heap := g }) :
    wpAny (model prog w) A (Builtin.«zip.__next__» ⟨[.ref z], []⟩) (fun fin s' => ∃ v, fin = .done (.ret v) ∧ Q v s') E s := by
  show wpAny _ _ (field (.ref z) 2 >>= _) _ _ _
  refine wpAny_bind (wpAny_field hz rfl (x := .bool false) rfl ?_)
  show wpAny _ _ (field (.ref z) 3 >>= _) _ _ _
  refine wpAny_bind (wpAny_field hz rfl (x := .ref TI) rfl ?_)
  refine wpAny_bind (wpAny_seqItems hTI rfl ?_)
  show wpAny _ _ (Builtin.SmallTypes.ownedTupleIsFree (.ref z) >>= _) _ _ _
  refine wpAny_bind (gone_free hz dead ?_)
  simp only [if_true]
  refine wpAny_bind (wpAny_rule ?_)
  refine wpAny_bind (wpAny_field hz rfl (x := .ref TO) rfl ?_)
  refine wpAny_bind (wpAny_setField_rec hz (by simp) fun g1 zz1 d1 => ?_)
  have zz1' : g1.get? z = some { cls := .type "zip", dict := none, data := .fields #[.ellipsis, .bool f, .bool false, .ref TI, .ref TO], slots := #[] } := zz1
  refine wpAny_bind ?_
  simp only [List.zipIdx_cons, List.zipIdx_nil, List.forIn_cons, List.forIn_nil]
  refine wpAny_bind (wpAny_bind (wpAny_onRaise ?_))
  show wpAny _ _ (Builtin.SmallTypes.nextOf (.ref i1) >>= _) _ _ _
  refine wpAny_bind (wpAny_nextOf_list_item (q1.extBut d1.extBut D.i1z) (m1.extBut d1.extBut D.l1z) hx fun g2 r1 d2 => wpAny_pure ?_)
  have p2 : IsPair g2 TO a b := d2.extBut _ _ D.TOi1 (d1.extBut _ _ D.TOz hTO)
  refine wpAny_bind (wpAny_seqItems p2 rfl ?_)
  refine wpAny_bind (wpAny_updateSeq_pair p2 fun g3 p3 d3 => ?_)
  have p3' : IsPair g3 TO x b := p3
  refine wpAny_bind (wpAny_letGo (wpAny_pure ?_))
  refine wpAny_bind (wpAny_bind (wpAny_onRaise ?_))
  show wpAny _ _ (Builtin.SmallTypes.nextOf (.ref i2) >>= _) _ _ _
  refine wpAny_bind (wpAny_nextOf_list_item (((q2.extBut d1.extBut D.i2z).extBut d2.extBut D.i12.symm).extBut d3.extBut D.TOi2.symm) (((m2.extBut d1.extBut D.l2z).extBut d2.extBut D.l2i1).extBut d3.extBut D.l2TO) hy fun g4 r2 d4 => wpAny_pure ?_)
  have p4 : IsPair g4 TO x b := d4.extBut _ _ D.TOi2 p3'
  refine wpAny_bind (wpAny_seqItems p4 rfl ?_)
  refine wpAny_bind (wpAny_updateSeq_pair p4 fun g5 p5 d5 => ?_)
  have p5' : IsPair g5 TO x y := p5
  refine wpAny_bind (wpAny_letGo (wpAny_pure (wpAny_pure ?_)))
  refine wpAny_bind (wpAny_seqItems p5' rfl ?_)
  refine wpAny_bind (wpAny_newTuple ?_)
  have sz : g5.objs.size = s.heap.objs.size := by rw [d5.1, d4.1, d3.1, d2.1, d1.1]
  have zz5 : g5.get? z = some { cls := .type "zip", dict := none, data := .fields #[.ellipsis, .bool f, .bool false, .ref TI, .ref TO], slots := #[] } := d5.extBut _ _ D.TOz.symm (d4.extBut _ _ D.i2z.symm (d3.extBut _ _ D.TOz.symm (d2.extBut _ _ D.i1z.symm zz1')))
  have keep5 : ∀ c o, c ≠ z → c ≠ TO → c ≠ i1 → c ≠ i2 → s.heap.get? c = some o → g5.get? c = some o := fun c o c1 c2 c3 c4 e => d5.extBut _ _ c2 (d4.extBut _ _ c4 (d3.extBut _ _ c2 (d2.extBut _ _ c3 (d1.extBut _ _ c1 e))))
  have r1' : g5.IsListIter i1 l1 (k + 1) := ((r1.extBut d3.extBut D.TOi1.symm).extBut d4.extBut D.i12).extBut d5.extBut D.TOi1.symm
  have r2' : g5.IsListIter i2 l2 (k + 1) := r2.extBut d5.extBut D.TOi2.symm
  have zlt : z < g5.objs.size := Heap.lt_size zz5
  show wpAny _ _ (Builtin.SmallTypes.ownedTupleHandOut (.ref z) (.ref g5.objs.size) >>= _) _ _ _
  refine wpAny_bind ?_
  unfold Builtin.SmallTypes.ownedTupleHandOut
  have zz6 : (g5.push { cls := .type "tuple", data := .seq #[x, y] }).get? z = some { cls := .type "zip", dict := none, data := .fields #[.ellipsis, .bool f, .bool false, .ref TI, .ref TO], slots := #[] } := Heap.get?_push_of_some _ zz5
  refine wpAny_bind (wpAny_setField_rec zz6 (by simp) fun g7 zz7 d7 => ?_)
  have zz7' : IsZipHeld g7 z TI TO g5.objs.size f := zz7
  refine wpAny_setField_rec zz7' (by simp) fun g8 zz8 d8 => ?_
  have zz8' : IsZipHeld g8 z TI TO g5.objs.size false := zz8
  have up : ∀ c o, c ≠ z → g5.get? c = some o → g8.get? c = some o := fun c o c1 e => d8.extBut _ _ c1 (d7.extBut _ _ c1 (Heap.get?_push_of_some _ e))
  have t8 : IsPair g8 g5.objs.size x y := d8.extBut _ _ (Nat.ne_of_gt zlt) (d7.extBut _ _ (Nat.ne_of_gt zlt) (Heap.get?_push_size _ rfl))
  have n8 : g8.objs.size = g5.objs.size + 1 := by rw [d8.1, d7.1, Heap.size_push]
  rw [sz] at t8 n8
  refine wpAny_pure ⟨_, rfl, ?_⟩
  show Q (.ref g5.objs.size) _
  rw [sz]
  exact hQ g8 ⟨.inr ⟨_, _, zz8'⟩, ⟨_, _, up _ _ D.TOz p5'⟩, up _ _ D.TIz (keep5 _ _ D.TIz D.TITO D.TIi1 D.TIi2 hTI), r1'.at fun o e => up _ o D.i1z e, r2'.at fun o e => up _ o D.i2z e, t8, n8, fun c o c1 c2 c3 c4 e => up c o c1 (keep5 c o c1 c2 c3 c4 e)⟩
theorem zip_item_any {z TI TO i1 i2 l1 l2 : Addr} {k : Nat} {xs ys : Array Value} {x y : Value} {Q : Value → Shared → Prop} (D : ZipApart z TI TO i1 i2 l1 l2) (hz : ZipSt s.heap z TI TO)
    (hTI : IsPair s.heap TI (.ref i1) (.ref i2)) (hTO : ∃ a b, IsPair s.heap TO a b) (q1 : s.heap.IsListIter i1 l1 k) (q2 : s.heap.IsListIter i2 l2 k) (m1 : s.heap.IsList l1 xs) (m2 : s.heap.IsList l2 ys) (hx : xs[k]? = some x) (hy : ys[k]? = some y)
    (hQ : ∀ g, ZipOn s z TI TO i1 i2 l1 l2 k x y g → Q (.ref s.heap.objs.size) { s with heap := g }) :
    wpAny (model prog w) A (Builtin.«zip.__next__» ⟨[.ref z], []⟩) (fun fin s' => ∃ v, fin = .done (.ret v) ∧ Q v s') E s := by
  obtain ⟨a, b, hTO⟩ := hTO
  rcases hz with hz | ⟨T, f, hz⟩
  · refine zip_next_item D hz hTI hTO q1 q2 m1 m2 hx hy fun g e1 e2 e3 e4 e5 e6 e7 => hQ g ⟨.inr ⟨_, _, e1⟩, ⟨_, _, e2⟩, e7 _ _ D.TIz D.TITO D.TIi1 D.TIi2 hTI, e3, e4, e5, e6, e7⟩
  · cases hT : s.heap.get? T with
    | none => exact zip_gone_item D hz hT hTI hTO q1 q2 m1 m2 hx hy hQ
    | some oT => exact zip_next_item_held D hz hT hTI q1 q2 m1 m2 hx hy fun g e1 e3 e4 e5 e6 e7 => hQ g ⟨.inr ⟨_, _, e1⟩, ⟨_, _, e7 _ _ D.TOz D.TOi1 D.TOi2 hTO⟩, e7 _ _ D.TIz D.TIi1 D.TIi2 hTI, e3, e4, e5, e6, fun c o c1 _ c3 c4 e => e7 c o c1 c3 c4 e⟩
theorem zip_gone_end {z TI TO T i1 i2 l1 l2 : Addr} {f : Bool} {k : Nat} {xs ys : Array Value} {a b : Value} {Q : Fin → Shared → Prop} (hh : A.handled = none) (D : ZipApart z TI TO i1 i2 l1 l2) (hz : IsZipHeld s.heap z TI TO T f) (dead : s.heap.get? T = none)
    (hTI : IsPair s.heap TI (.ref i1) (.ref i2)) (hTO : IsPair s.heap TO a b) (q1 : s.heap.IsListIter i1 l1 k) (q2 : s.heap.IsListIter i2 l2 k) (m1 : s.heap.IsList l1 xs) (m2 : s.heap.IsList l2 ys) (over : xs[k]? = none ∨ ys[k]? = none)
    (hE : ∀ g e, (∀ c o, c ≠ z → c ≠ TO → c ≠ i1 → c ≠ i2 → s.heap.get? c = some o → g.get? c = some o) → (∃ o, g.get? e = some o ∧ o.cls = .type "StopIteration") → E (.ref e) { s with heap := g }) :
    wpAny (model prog w) A (Builtin.«zip.__next__» ⟨[.ref z], []⟩) Q E s := by
  show wpAny _ _ (field (.ref z) 2 >>= _) _ _ _
  refine wpAny_bind (wpAny_field hz rfl (x := .bool false) rfl ?_)
  show wpAny _ _ (field (.ref z) 3 >>= _) _ _ _
  refine wpAny_bind (wpAny_field hz rfl (x := .ref TI) rfl ?_)
  refine wpAny_bind (wpAny_seqItems hTI rfl ?_)
  show wpAny _ _ (Builtin.SmallTypes.ownedTupleIsFree (.ref z) >>= _) _ _ _
  refine wpAny_bind (gone_free hz dead ?_)
  simp only [if_true]
  refine wpAny_bind (wpAny_rule ?_)
  refine wpAny_bind (wpAny_field hz rfl (x := .ref TO) rfl ?_)
  refine wpAny_bind (wpAny_setField_rec hz (by simp) fun g1 zz1 d1 => ?_)
  have zz1' : g1.get? z = some { cls := .type "zip", dict := none, data := .fields #[.ellipsis, .bool f, .bool false, .ref TI, .ref TO], slots := #[] } := zz1
  refine wpAny_bind ?_
  simp only [List.zipIdx_cons, List.zipIdx_nil, List.forIn_cons, List.forIn_nil]
  refine wpAny_bind (wpAny_bind (wpAny_onRaise ?_))
  show wpAny _ _ (Builtin.SmallTypes.nextOf (.ref i1) >>= _) _ _ _
  cases hx : xs[k]? with
  | none =>
    refine wpAny_bind (wpAny_nextOf_list_end hh (q1.extBut d1.extBut D.i1z) (m1.extBut d1.extBut D.l1z) hx fun g2 e d2 st => ?_)
    obtain ⟨oe, ho, hc⟩ := st
    have zz2 := d2 _ _ D.i1z.symm zz1'
    have ez : e ≠ z := fun q => by subst q; rw [zz2] at ho; cases ho; simp at hc
    refine wpAny_setField_rec zz2 (by simp) fun g3 _ d3 => hE g3 e (fun c o c1 _ c3 _ q => d3.extBut _ _ c1 (d2 _ _ c3 (d1.extBut _ _ c1 q))) ⟨oe, d3.extBut _ _ ez ho, hc⟩
  | some x =>
    have hy : ys[k]? = none := by
      rcases over with q | q
      · rw [hx] at q; cases q
      · exact q
    refine wpAny_bind (wpAny_nextOf_list_item (q1.extBut d1.extBut D.i1z) (m1.extBut d1.extBut D.l1z) hx fun g2 r1 d2 => wpAny_pure ?_)
    have p2 : IsPair g2 TO a b := d2.extBut _ _ D.TOi1 (d1.extBut _ _ D.TOz hTO)
    refine wpAny_bind (wpAny_seqItems p2 rfl ?_)
    refine wpAny_bind (wpAny_updateSeq_pair p2 fun g3 p3 d3 => ?_)
    refine wpAny_bind (wpAny_letGo (wpAny_pure ?_))
    refine wpAny_bind (wpAny_bind (wpAny_onRaise ?_))
    show wpAny _ _ (Builtin.SmallTypes.nextOf (.ref i2) >>= _) _ _ _
    refine wpAny_bind (wpAny_nextOf_list_end hh (((q2.extBut d1.extBut D.i2z).extBut d2.extBut D.i12.symm).extBut d3.extBut D.TOi2.symm) (((m2.extBut d1.extBut D.l2z).extBut d2.extBut D.l2i1).extBut d3.extBut D.l2TO) hy fun g4 e d4 st => ?_)
    obtain ⟨oe, ho, hc⟩ := st
    have zz4 := d4 _ _ D.i2z.symm (d3.extBut _ _ D.TOz.symm (d2.extBut _ _ D.i1z.symm zz1'))
    have ez : e ≠ z := fun q => by subst q; rw [zz4] at ho; cases ho; simp at hc
    refine wpAny_setField_rec zz4 (by simp) fun g5 _ d5 => hE g5 e (fun c o c1 c2 c3 c4 q => d5.extBut _ _ c1 (d4 _ _ c4 (d3.extBut _ _ c2 (d2.extBut _ _ c3 (d1.extBut _ _ c1 q))))) ⟨oe, d5.extBut _ _ ez ho, hc⟩
theorem zip_end_any {z TI TO i1 i2 l1 l2 : Addr} {k : Nat} {xs ys : Array Value} {Q : Fin → Shared → Prop} (hh : A.handled = none) (D : ZipApart z TI TO i1 i2 l1 l2) (hz : ZipSt s.heap z TI TO)
    (hTI : IsPair s.heap TI (.ref i1) (.ref i2)) (hTO : ∃ a b, IsPair s.heap TO a b) (q1 : s.heap.IsListIter i1 l1 k) (q2 : s.heap.IsListIter i2 l2 k) (m1 : s.heap.IsList l1 xs) (m2 : s.heap.IsList l2 ys) (over : xs[k]? = none ∨ ys[k]? = none)
    (hE : ∀ g e, (∀ c o, c ≠ z → c ≠ TO → c ≠ i1 → c ≠ i2 → s.heap.get? c = some o → g.get? c = some o) → (∃ o, g.get? e = some o ∧ o.cls = .type "StopIteration") → E (.ref e) { s with heap := g }) :
    wpAny (model prog w) A (Builtin.«zip.__next__» ⟨[.ref z], []⟩) Q E s := by
  obtain ⟨a, b, hTO⟩ := hTO
  rcases hz with hz | ⟨T, f, hz⟩
  · exact zip_next_end hh D hz hTI hTO q1 q2 m1 m2 over hE
  · cases hT : s.heap.get? T with
    | none => exact zip_gone_end hh D hz hT hTI hTO q1 q2 m1 m2 over hE
    | some oT => exact zip_next_end_held hh D hz hT hTI q1 q2 m1 m2 over fun g e k1 k2 => hE g e (fun c o c1 _ c3 c4 q => k1 c o c1 c3 c4 q) k2
theorem zip_typed {z TI TO : Addr} (hz : ZipSt s.heap z TI TO) : s.TypeIs (.ref z) "zip" := by
  rcases hz with hz | ⟨T, f, hz⟩
  · exact ⟨_, hz, rfl⟩
  · exact ⟨_, hz, rfl⟩
theorem next_zip_any {z TI TO i1 i2 l1 l2 : Addr} {k : Nat} {xs ys : Array Value} {x y : Value} {Q : Value → Shared → Prop} (D : ZipApart z TI TO i1 i2 l1 l2) (hz : ZipSt s.heap z TI TO)
    (hTI : IsPair s.heap TI (.ref i1) (.ref i2)) (hTO : ∃ a b, IsPair s.heap TO a b) (q1 : s.heap.IsListIter i1 l1 k) (q2 : s.heap.IsListIter i2 l2 k) (m1 : s.heap.IsList l1 xs) (m2 : s.heap.IsList l2 ys) (hx : xs[k]? = some x) (hy : ys[k]? = some y)
    (hQ : ∀ g, ZipOn s z TI TO i1 i2 l1 l2 k x y g → Q (.ref s.heap.objs.size) { s with heap := g }) :
    wpAny (model prog w) A (Builtin.SmallTypes.nextOf (.ref z)) Q E s := by
  unfold Builtin.SmallTypes.nextOf
  exact wpAny_bind (wpAny_callSpecial?_slot (name := Str.ofString "__next__") (zip_typed hz) F.slot_zip_next (wpAny_call_entry F.slot_zip_next (zip_typed hz) F.entry_zip_next
    (zip_item_any D hz hTI hTO q1 q2 m1 m2 hx hy fun g on => wpAny_pure (hQ g on)) (F.args_zip_next_1 _)))
theorem next_zip_over {z TI TO i1 i2 l1 l2 : Addr} {k : Nat} {xs ys : Array Value} {Q : Value → Shared → Prop} (hh : A.handled = none) (D : ZipApart z TI TO i1 i2 l1 l2) (hz : ZipSt s.heap z TI TO)
    (hTI : IsPair s.heap TI (.ref i1) (.ref i2)) (hTO : ∃ a b, IsPair s.heap TO a b) (q1 : s.heap.IsListIter i1 l1 k) (q2 : s.heap.IsListIter i2 l2 k) (m1 : s.heap.IsList l1 xs) (m2 : s.heap.IsList l2 ys) (over : xs[k]? = none ∨ ys[k]? = none)
    (hE : ∀ g e, (∀ c o, c ≠ z → c ≠ TO → c ≠ i1 → c ≠ i2 → s.heap.get? c = some o → g.get? c = some o) → (∃ o, g.get? e = some o ∧ o.cls = .type "StopIteration") → E (.ref e) { s with heap := g }) :
    wpAny (model prog w) A (Builtin.SmallTypes.nextOf (.ref z)) Q E s := by
  unfold Builtin.SmallTypes.nextOf
  exact wpAny_bind (wpAny_callSpecial?_slot (name := Str.ofString "__next__") (zip_typed hz) F.slot_zip_next (wpAny_call_entry F.slot_zip_next (zip_typed hz) F.entry_zip_next
    (zip_end_any hh D hz hTI hTO q1 q2 m1 m2 over hE) (F.args_zip_next_1 _)))
/-- enumerate's next, whatever the inner iterator is -/
theorem enum_next_any {e it : Addr} {i : Nat} {old : Value} {Pn : Value → Heap → Prop} {Q : Value → Shared → Prop} (he : IsEnum s.heap e it i old)
    (inner : ∀ R : Value → Shared → Prop, (∀ x g, Pn x g → R x { s with heap := g }) → wpAny (model prog w) A (Builtin.SmallTypes.nextOf (.ref it)) R E s) (hP : ∀ x g, Pn x g → IsEnum g e it i old)
    (hQ : ∀ x g h', Pn x g → IsEnumOut h' e it ((i : Int) + 1) x g.objs.size → h'.get? g.objs.size = some { cls := .type "tuple", data := .seq #[.int i s.toks, x] } → h'.objs.size = g.objs.size + 1 →
      (∀ b o, b ≠ e → g.get? b = some o → h'.get? b = some o) → Q (.ref g.objs.size) { s with heap := h', toks := s.toks + 1 }) :
    wpAny (model prog w) A (Builtin.«enumerate.__next__» ⟨[.ref e], []⟩) (fun fin s' => ∃ v, fin = .done (.ret v) ∧ Q v s') E s := by
  obtain ⟨hp, gs, dr, tk, os⟩ := s
  show wpAny _ _ (field (.ref e) 2 >>= _) _ _ _
  refine wpAny_bind (wpAny_field he rfl (x := .ref it) rfl ?_)
  refine wpAny_bind (inner _ fun x g pn => ?_)
  have e1 : IsEnum g e it i old := hP x g pn
  show wpAny _ _ (field (.ref e) 3 >>= _) _ _ ⟨g, gs, dr, tk, os⟩
  refine wpAny_bind (wpAny_field e1 rfl (x := rawInt i) rfl ?_)
  show wpAny _ _ (field (.ref e) 4 >>= _) _ _ ⟨g, gs, dr, tk, os⟩
  refine wpAny_bind (wpAny_field e1 rfl (x := .none) rfl ?_)
  show wpAny _ _ (mkInt i >>= _) _ _ ⟨g, gs, dr, tk, os⟩
  refine wpAny_bind (wpAny_mkInt ?_)
  show wpAny _ _ (setField (.ref e) 3 (rawInt ((i : Int) + 1)) >>= _) _ _ ⟨g, gs, dr, tk + 1, os⟩
  refine wpAny_bind (wpAny_setField_rec e1 (by simp) fun g2 w2 d2 => ?_)
  have e2 : IsEnum g2 e it ((i : Int) + 1) old := w2
  show wpAny _ _ (setField (.ref e) 4 .none >>= _) _ _ ⟨g2, gs, dr, tk + 1, os⟩
  refine wpAny_bind (wpAny_setField_rec e2 (by simp) fun g3 w3 d3 => ?_)
  have e3 : IsEnum g3 e it ((i : Int) + 1) old := w3
  show wpAny _ _ (newTuple [.int i tk, x] >>= _) _ _ ⟨g3, gs, dr, tk + 1, os⟩
  refine wpAny_bind (wpAny_newTuple ?_)
  have e4 : IsEnum (g3.push { cls := .type "tuple", data := .seq #[.int i tk, x] }) e it ((i : Int) + 1) old := Heap.get?_push_of_some _ e3
  generalize hg4 : g3.push { cls := .type "tuple", data := .seq #[.int i tk, x] } = g4 at e4
  have sz : g3.objs.size = g.objs.size := by rw [d3.1, d2.1]
  have elt : e < g.objs.size := Heap.lt_size e1
  have t4 : g4.get? g.objs.size = some { cls := .type "tuple", data := .seq #[.int i tk, x] } := by
    rw [← hg4, ← sz]
    exact Heap.get?_push_size _ rfl
  have n4 : g4.objs.size = g.objs.size + 1 := by rw [← hg4, Heap.size_push, sz]
  have k4 : ∀ b o, b ≠ e → g.get? b = some o → g4.get? b = some o := fun b o hbe hb => by
    rw [← hg4]
    exact Heap.get?_push_of_some _ (d3.extBut b o hbe (d2.extBut b o hbe hb))
  show wpAny _ _ (Builtin.SmallTypes.ownedTupleIsFree (.ref e) >>= _) _ _ ⟨g4, gs, dr, tk + 1, os⟩
  rw [sz]
  refine wpAny_bind ?_
  unfold Builtin.SmallTypes.ownedTupleIsFree
  refine wpAny_bind (wpAny_field e4 rfl (x := .none) rfl (wpAny_pure ?_))
  simp only [if_true]
  refine wpAny_bind (wpAny_rule ?_)
  refine wpAny_bind (wpAny_field e4 rfl (x := old) rfl ?_)
  refine wpAny_bind (wpAny_setField_rec e4 (by simp) fun g5 w5 d5 => ?_)
  have e5 : IsEnum g5 e it ((i : Int) + 1) x := w5
  show wpAny _ _ (Builtin.SmallTypes.ownedTupleHandOut (.ref e) (.ref g.objs.size) >>= _) _ _ ⟨g5, gs, dr, tk + 1, os⟩
  refine wpAny_bind ?_
  unfold Builtin.SmallTypes.ownedTupleHandOut
  refine wpAny_bind (wpAny_setField_rec e5 (by simp) fun g6 w6 d6 => ?_)
  have e6 : IsEnumOut g6 e it ((i : Int) + 1) x g.objs.size := w6
  refine wpAny_setField_rec e6 (by simp) fun g7 w7 d7 => ?_
  have e7 : IsEnumOut g7 e it ((i : Int) + 1) x g.objs.size := w7
  have up : ∀ b o, b ≠ e → g4.get? b = some o → g7.get? b = some o := fun b o hbe q => d7.extBut b o hbe (d6.extBut b o hbe (d5.extBut b o hbe q))
  refine wpAny_bind (wpAny_letGo (wpAny_pure ⟨_, rfl, hQ x g g7 pn e7 (up _ _ (Nat.ne_of_gt elt) t4) (by rw [d7.1, d6.1, d5.1, n4]) fun b o hbe q => up b o hbe (k4 b o hbe q)⟩))
end
end Mx

set_option Elab.async false
set_option linter.all false
set_option maxRecDepth 100000
set_option maxHeartbeats 4000000
/-! enumerate(zip(a, b)): made, walked. -/
namespace Mx
open PySem PySem.Spec PyProof.Rows L2
open AutoSeq1 (wpAny_loadPart')
theorem ez_made (z TI TO : Addr) : Meets (Builtin.«enumerate.__new__» ⟨[.type "enumerate", .ref z], []⟩) (fun _ R s => IsZip s.heap z TI TO .none ∧
    R (.ok (.ret (.ref s.heap.objs.size))) { s with heap := s.heap.push { cls := .type "enumerate", data := .fields #[.none, .bool false, .ref z, rawInt 0, .none, .none] } }) :=
  .of_wp fun prog w A R s h => by
    obtain ⟨hp, g, d, tk, os⟩ := s
    obtain ⟨hz, h⟩ := h
    have hsub := sub_enumerate
    have hZ : IsZip (Shared.heap ⟨hp, g, d, tk, os⟩) z TI TO .none := hz
    wp_walk using wpAny_loadPart' hZ
    refine wpAny_stack_any fun st => wpAny_pure ?_
    split
    · rename_i c _ _ _ _ _
      cases (c == Value.type "enumerate")
      · wp_walk using wpAny_loadPart' hZ, wpAny_pyIter_zip hZ
        exact ⟨_, rfl, h⟩
      · wp_walk using wpAny_loadPart' hZ, wpAny_pyIter_zip hZ
        exact ⟨_, rfl, h⟩
    · wp_walk using wpAny_loadPart' hZ, wpAny_pyIter_zip hZ
      exact ⟨_, rfl, h⟩
section
variable {prog : Program} {w : World} {A : Around} {E : Value → Shared → Prop} {s : Shared}
theorem call_ez {z TI TO : Addr} {Q : Value → Shared → Prop} (hz : IsZip s.heap z TI TO .none)
    (h : ∀ g, IsEnum g s.heap.objs.size z 0 .none → (∀ b o, s.heap.get? b = some o → g.get? b = some o) → Q (.ref s.heap.objs.size) { s with heap := g }) :
    wpAny (model prog w) A (call (.type "enumerate") [.ref z]) Q E s := by
  refine callType_new F.called_enumerate (by decide) (F.typeCall_enumerate_1 _) (F.newCall_enumerate_1 _) (fun obj => F.args_object_init_2 obj _) F.entry_enumerate_new (ez_made z TI TO) ⟨hz, ?_⟩
  have he : IsEnum (s.heap.push { cls := .type "enumerate", data := .fields #[.none, .bool false, .ref z, rawInt 0, .none, .none] }) s.heap.objs.size z 0 .none := Heap.get?_push_size _ rfl
  exact ⟨⟨_, he, rfl⟩, h _ he fun b o q => Heap.get?_push_of_some _ q⟩
end
/-- the two lists as they stand at each turn -/
def Itez (K : PySem.W.Frag) (a b : Addr) : It :=
  ⟨fun i H => ∃ (xs ys : List V) (x y : V), SqL K H a xs ∧ SqL K H b ys ∧ xs[i]? = some x ∧ ys[i]? = some y,
    fun i H v H' => ∃ T T0 x y, v = .ref T ∧ H T0 = none ∧ upd H T0 (.tup [x, y]) T = none ∧ H' = upd (upd H T0 (.tup [x, y])) T (.tup [.int (i : Nat), .ref T0]) ∧ (∀ xs, SqL K H a xs → xs[i]? = some x) ∧ ∀ ys, SqL K H b ys → ys[i]? = some y,
    fun i H => ∃ xs ys : List V, SqL K H a xs ∧ SqL K H b ys ∧ (xs.length ≤ i ∨ ys.length ≤ i)⟩
/-- the enumerate apart from the zip's parts -/
structure EzApart (e z TI TO i1 i2 : Addr) : Prop where
  z : e ≠ z
  ti : e ≠ TI
  to : e ≠ TO
  a1 : e ≠ i1
  a2 : e ≠ i2
theorem turn_ez {P : Program} {w : World} {K : PySem.W.Frag} {elts : List Expr} {kk : Nat} {tpos : Pos} {a b e z TI TO i1 i2 : Addr} (D : ZipApart z TI TO i1 i2 a b) (F : EzApart e z TI TO i1 i2) :
    Turn P w K (.Tuple elts kk tpos) (Itez K a b) [e, z, TI, TO, i1, i2] e (fun i h => (∃ old, IsEnum h e z ((i : Nat) : Int) old) ∧ ZipSt h z TI TO ∧ IsPair h TI (.ref i1) (.ref i2) ∧ (∃ x y, IsPair h TO x y) ∧ h.IsListIter i1 a i ∧ h.IsListIter i2 b i) where
  mem := by simp
  obj := fun i h st c hc => by
    obtain ⟨⟨old, he⟩, hz, hTI, ⟨x, y, hTO⟩, ⟨o1, w1, _, d1⟩, ⟨o2, w2, _, d2⟩⟩ := st
    have e' : c = e ∨ c = z ∨ c = TI ∨ c = TO ∨ c = i1 ∨ c = i2 := by simpa using hc
    rcases e' with q | q | q | q | q | q
    · rw [q]; exact ⟨_, he, fun v q => nomatch q⟩
    · rw [q]
      rcases hz with hz | ⟨T, f, hz⟩
      · exact ⟨_, hz, fun v q => nomatch q⟩
      · exact ⟨_, hz, fun v q => nomatch q⟩
    · rw [q]; exact ⟨_, hTI, fun v q => nomatch q⟩
    · rw [q]; exact ⟨_, hTO, fun v q => nomatch q⟩
    · rw [q]; exact ⟨o1, w1, fun v q => by rw [d1] at q; cases q⟩
    · rw [q]; exact ⟨o2, w2, fun v q => by rw [d2] at q; cases q⟩
  keep := fun i h h' st k => by
    obtain ⟨⟨old, he⟩, hz, hTI, ⟨x, y, hTO⟩, h1, h2⟩ := st
    refine ⟨⟨old, k e (by simp) _ he⟩, ?_, k TI (by simp) _ hTI, ⟨x, y, k TO (by simp) _ hTO⟩, h1.at fun o q => k i1 (by simp) o q, h2.at fun o q => k i2 (by simp) o q⟩
    rcases hz with hz | ⟨T, f, hz⟩
    · exact .inl (k z (by simp) _ hz)
    · exact .inr ⟨T, f, k z (by simp) _ hz⟩
  item := by
    intro X hP hw hK hc i pins s σ H E I hf st hg
    subst hP hw hK
    obtain ⟨⟨old, he⟩, hz, hTI, hTO, h1, h2⟩ := st
    obtain ⟨xs, ys, x, y, hqx, hqy, hx, hy⟩ := hg
    obtain ⟨its, rv, p, _⟩ := I.list hqx
    obtain ⟨its2, rv2, p2, _⟩ := I.list hqy
    obtain ⟨u, hu, ru⟩ := rv.get hx
    obtain ⟨u2, hu2, ru2⟩ := rv2.get hy
    have hT : s.TypeIs (.ref e) "enumerate" := ⟨_, he, rfl⟩
    have elt : e < s.heap.objs.size := Heap.lt_size he
    unfold pyNext
    refine wpAny_bind (wpAny_attempt (wpAny_callSpecial?_slot (name := Str.ofString "__next__") hT PySem.F.slot_enumerate_next (wpAny_call_entry PySem.F.slot_enumerate_next hT PySem.F.entry_enumerate_next
      (enum_next_any (Pn := fun v g => v = .ref s.heap.objs.size ∧ ZipOn s z TI TO i1 i2 a b i u u2 g) he (fun R k => next_zip_any D hz hTI hTO h1 h2 p.isList p2.isList (x := u) (y := u2) (by simpa using hu) (by simpa using hu2) fun g on => k _ g ⟨rfl, on⟩)
        (fun v g pn => pn.2.old e _ F.z F.to F.a1 F.a2 he) fun v g h' pn ho hT2 hsz hk => wpAny_pure ?_) (PySem.F.args_enumerate_next_1 _))))
    obtain ⟨rfl, on⟩ := pn
    refine ⟨_, rfl, wpAny_letOwnedTupleGo_enum (s := { s with heap := h', toks := s.toks + 1 }) ho fun h'' he' sb => ?_⟩
    have gsz := on.size
    have new1 : ObjOk X.prog X.w (upd H s.heap.objs.size (.tup [x, y])) g s.heap.objs.size (.tup [x, y]) := ⟨by show 2 ≤ sizeLine; decide, [u, u2], .cons ru (.cons ru2 .nil), ⟨_, on.new, rfl, _, rfl⟩⟩
    have I1 : Inv X pins σ (upd H s.heap.objs.size (.tup [x, y])) { s with heap := g } :=
      I.turnedNew (t' := s.toks) (ch := [z, TO, i1, i2]) (fun c o hb q => on.old c o (fun z => hb (by simp [z])) (fun z => hb (by simp [z])) (fun z => hb (by simp [z])) (fun z => hb (by simp [z])) q) (fun c hcm => hf c (by
        have e' : c = z ∨ c = TO ∨ c = i1 ∨ c = i2 := by simpa using hcm
        rcases e' with q | q | q | q <;> rw [q] <;> simp)) (Nat.le_refl _) new1
    have gl : g.objs.size ≠ e := Nat.ne_of_gt (Nat.lt_of_lt_of_le elt (by rw [gsz]; exact Nat.le_succ _))
    have t3 : h''.get? g.objs.size = some { cls := .type "tuple", data := .seq #[.int i s.toks, .ref s.heap.objs.size] } := (sb.2 _ gl).trans hT2
    have new2 : ObjOk X.prog X.w (upd (upd H s.heap.objs.size (.tup [x, y])) g.objs.size (.tup [.int (i : Nat), .ref s.heap.objs.size])) h'' g.objs.size (.tup [.int (i : Nat), .ref s.heap.objs.size]) :=
      ⟨by show 2 ≤ sizeLine; decide, [.int i s.toks, .ref s.heap.objs.size], .cons ⟨_, rfl⟩ (.cons rfl .nil), ⟨_, t3, rfl, _, rfl⟩⟩
    have fe := hf e (by simp)
    have I2 : Inv X pins σ (upd (upd H s.heap.objs.size (.tup [x, y])) g.objs.size (.tup [.int (i : Nat), .ref s.heap.objs.size])) { s with heap := h'', toks := s.toks + 1 } :=
      I1.turnedNew (t' := s.toks + 1) (ch := [e]) (fun c o hb q => (sb.2 c (fun z => hb (by simp [z]))).trans (hk c o (fun z => hb (by simp [z])) q)) (fun c hcm => by
        have q : c = e := by simpa using hcm
        rw [q]
        exact ⟨by rw [upd_ne (Nat.ne_of_lt elt)]; exact fe.1, fe.2⟩) (Nat.le_refl _) new2
    have hfre : upd H s.heap.objs.size (.tup [x, y]) g.objs.size = none := I1.hok.fresh (Nat.le_refl _)
    have kp : ∀ c o, c ≠ e → g.get? c = some o → h''.get? c = some o := fun c o n q => (sb.2 c n).trans (hk c o n q)
    refine ⟨.ref g.objs.size, _, I2, rfl, ⟨_, _, x, y, rfl, I.hok.fresh (Nat.le_refl _), hfre, rfl, fun l hl => by rw [I.list_inj hl hqx]; exact hx, fun l hl => by rw [I.list_inj hl hqy]; exact hy⟩, ⟨⟨.ref s.heap.objs.size, ?_⟩, ?_, kp _ _ (Ne.symm F.ti) on.ti, ?_, on.a1.at fun o q => kp _ o (Ne.symm F.a1) q, on.a2.at fun o q => kp _ o (Ne.symm F.a2) q⟩, fun c hcm => ?_⟩
    · have e1 : ((i + 1 : Nat) : Int) = (i : Int) + 1 := by omega
      rw [e1]; exact he'
    · rcases on.zip with q | ⟨T, f, q⟩
      · exact .inl (kp _ _ (Ne.symm F.z) q)
      · exact .inr ⟨T, f, kp _ _ (Ne.symm F.z) q⟩
    · obtain ⟨q1, q2, q⟩ := on.to
      exact ⟨q1, q2, kp _ _ (Ne.symm F.to) q⟩
    · have fc := hf c hcm
      have hlt : c < s.heap.objs.size := by
        have e' : c = e ∨ c = z ∨ c = TI ∨ c = TO ∨ c = i1 ∨ c = i2 := by simpa using hcm
        obtain ⟨q1, q2, qo⟩ := hTO
        obtain ⟨_, w1, _⟩ := h1
        obtain ⟨_, w2, _⟩ := h2
        rcases e' with q | q | q | q | q | q
        · rw [q]; exact elt
        · rw [q]
          rcases hz with hz | ⟨T, f, hz⟩
          · exact Heap.lt_size hz
          · exact Heap.lt_size hz
        · rw [q]; exact Heap.lt_size hTI
        · rw [q]; exact Heap.lt_size qo
        · rw [q]; exact Heap.lt_size w1
        · rw [q]; exact Heap.lt_size w2
      rw [upd_ne (Nat.ne_of_lt (Nat.lt_of_lt_of_le hlt (by rw [gsz]; exact Nat.le_succ _))), upd_ne (Nat.ne_of_lt hlt)]
      exact fc.1
  done := by
    intro X hP hw hK hc i pins s σ H E I hf st hg
    subst hP hw hK
    obtain ⟨⟨old, he⟩, hz, hTI, hTO, h1, h2⟩ := st
    obtain ⟨xs, ys, hqx, hqy, hend⟩ := hg
    obtain ⟨its, rv, p, _⟩ := I.list hqx
    obtain ⟨its2, rv2, p2, _⟩ := I.list hqy
    have l1 := rv.length
    have l2 := rv2.length
    have over : its.toArray[i]? = none ∨ its2.toArray[i]? = none := by
      rcases hend with q | q
      · exact .inl (by simp; omega)
      · exact .inr (by simp; omega)
    have hT : s.TypeIs (.ref e) "enumerate" := ⟨_, he, rfl⟩
    unfold pyNext
    refine wpAny_bind (wpAny_attempt (wpAny_callSpecial?_slot (name := Str.ofString "__next__") hT PySem.F.slot_enumerate_next (wpAny_call_entry PySem.F.slot_enumerate_next hT PySem.F.entry_enumerate_next ?_ (PySem.F.args_enumerate_next_1 _))))
    show wpAny _ _ (field (.ref e) 2 >>= _) _ _ _
    refine wpAny_bind (wpAny_field he rfl (x := .ref z) rfl ?_)
    refine wpAny_bind (next_zip_over (I.ok.hd hc) D hz hTI hTO h1 h2 p.isList p2.isList over fun g x kp st => ?_)
    obtain ⟨o, ho, hc'⟩ := st
    refine wpAny_bind (wpAny_isInstance (T := "StopIteration") (b := true) ⟨o, ho, hc'⟩ isSubtype_stop ?_)
    exact wpAny_pure ⟨rfl, I.turnedL (t' := s.toks) (ch := [e, z, TI, TO, i1, i2]) (fun c o hb q => kp c o (fun z => hb (by simp [z])) (fun z => hb (by simp [z])) (fun z => hb (by simp [z])) (fun z => hb (by simp [z])) q) hf⟩
  self := fun A i s Q E st h => by
    obtain ⟨⟨old, he⟩, _⟩ := st
    exact wpAny_pyIter_enum he h
theorem walk_ez {K : PySem.W.Frag} {a b : Addr} {xs ys : List V} {n : Nat} (hn : n = min xs.length ys.length) : Walk (Itez K a b) n (fun H => SqL K H a xs ∧ SqL K H b ys)
    (fun i H v H' => ∃ T T0 x y, v = .ref T ∧ H T0 = none ∧ upd H T0 (.tup [x, y]) T = none ∧ H' = upd (upd H T0 (.tup [x, y])) T (.tup [.int (i : Nat), .ref T0]) ∧ xs[i]? = some x ∧ ys[i]? = some y) := by
  subst hn
  refine ⟨fun i _ hi q => ?_, fun _ q => ⟨xs, ys, q.1, q.2, by omega⟩, fun i H v H' _ q y => ?_⟩
  · have h1 : i < xs.length := by omega
    have h2 : i < ys.length := by omega
    exact ⟨xs, ys, xs[i], ys[i], q.1, q.2, by simp [h1], by simp [h2]⟩
  · obtain ⟨T, T0, x, y', e1, e2, e3, e4, e5, e6⟩ := y
    exact ⟨T, T0, x, y', e1, e2, e3, e4, e5 xs q.1, e6 ys q.2⟩
section
def iEz (K : PySem.W.Frag) (ta : TA) : TI := fun σ H R => ta σ H fun vs H1 => ∃ a b xs ys, vs = [.ref a, .ref b] ∧ SqL K H1 a xs ∧ SqL K H1 b ys ∧ R (Itez K a b) H1
theorem pi_enumzip {X : Cx} {e e2 : Expr} {ta : TA} {p p2 pos pos2 tpos : Pos} {elts : List Expr} {kk : Nat} (hg : Gl X "enumerate") (hm : X.mg "enumerate" = none) (hg2 : Gl X "zip") (hm2 : X.mg "zip" = none) (ha : PA X [e, e2] ta)
    (hs0 : starEach [Expr.Call (.Name "zip" p2) [e, e2] [] pos2] X.env = [(false, eval (.Call (.Name "zip" p2) [e, e2] [] pos2) X.env)] := by rfl)
    (hs : starEach [e, e2] X.env = (false, eval e X.env) :: starEach [e2] X.env := by rfl) (hpl : (backTo pos2 (starEach [e2] X.env)).any (·.1) = false := by rfl) :
    PI X (.Tuple elts kk tpos) (.Call (.Name "enumerate" p) [.Call (.Name "zip" p2) [e, e2] [] pos2] [] pos) (iEz X.K ta) := by
  refine ⟨fun pins s σ H R I h => ?_⟩
  refine Call_ (ld_blt I hg hm boot_enumerate ?_)
  rw [hs0]
  refine PyProof.Rows.callWith_type rfl (Calls.evalArgs_plain ?_)
  refine Calls.spliced_cons ?_
  refine Call_ (ld_blt I hg2 hm2 PyProof.Rows.boot_zip (PyProof.Rows.callWith_type1 (thn (ha.run pos2 pins s σ H _ I h) fun us s1 ⟨vs, H1, I1, r1, q1⟩ => ?_) hs hpl))
  obtain ⟨a, b, xs, ys, ex, hqx, hqy, q⟩ := q1
  subst ex
  cases r1 with
  | cons r rr =>
    cases rr with
    | cons r' rr =>
      cases rr
      cases r
      cases r'
      obtain ⟨its, rv, p1, _⟩ := I1.list hqx
      obtain ⟨its2, rv2, p2, _⟩ := I1.list hqy
      have la : a < s1.heap.objs.size := p1.lt
      have lb : b < s1.heap.objs.size := p2.lt
      refine call_zip_2 p1.isList p2.isList fun h' hz hTI hTO h1 h2 hsz hk => Calls.spliced_nil ?_
      show wpAny _ _ (call (.type "enumerate") [.ref (s1.heap.objs.size + 4)]) _ _ _
      refine call_ez hz fun g he kp => wpAny_pyIter_enum he ?_
      have I2 : Inv X pins σ H1 { s1 with heap := g } := I1.kept (t' := s1.toks) fun c o q => kp c o (hk c o q)
      have hsz' : h'.objs.size = s1.heap.objs.size + 5 := hsz
      have ne5 : ∀ k, k < 5 → h'.objs.size ≠ s1.heap.objs.size + k := fun k hk z => by
        rw [hsz'] at z
        exact absurd (Nat.add_left_cancel z) (by omega)
      refine ⟨h'.objs.size, [h'.objs.size, s1.heap.objs.size + 4, s1.heap.objs.size + 2, s1.heap.objs.size + 3, s1.heap.objs.size, s1.heap.objs.size + 1], _, _, H1, rfl, I2, turn_ez (PySem.W.ktu_apart s1.heap.objs.size a b la lb) ⟨ne5 4 (by decide), ne5 2 (by decide), ne5 3 (by decide), ne5 0 (by decide), ne5 1 (by decide)⟩,
        ⟨⟨_, he⟩, .inl (kp _ _ hz), kp _ _ hTI, ⟨_, _, kp _ _ hTO⟩, h1.at fun o q => kp _ o q, h2.at fun o q => kp _ o q⟩, fun c hcm => ?_, q⟩
      have e' : c = h'.objs.size ∨ c = s1.heap.objs.size + 4 ∨ c = s1.heap.objs.size + 2 ∨ c = s1.heap.objs.size + 3 ∨ c = s1.heap.objs.size ∨ c = s1.heap.objs.size + 1 := by simpa using hcm
      have hle : s1.heap.objs.size ≤ c := by
        rcases e' with z | z | z | z | z | z
        · rw [z, hsz']; exact Nat.le_add_right _ _
        · rw [z]; exact Nat.le_add_right _ _
        · rw [z]; exact Nat.le_add_right _ _
        · rw [z]; exact Nat.le_add_right _ _
        · rw [z]; exact Nat.le_refl _
        · rw [z]; exact Nat.le_add_right _ _
      exact I1.fpOk hle (I1.hok.fresh hle)
end
end Mx

set_option Elab.async false
set_option linter.all false
set_option maxRecDepth 100000
set_option maxHeartbeats 2000000
/-! check_all, laid_readings. -/
namespace Mx
open PySem PySem.Spec PyProof.Rows L2
/-- while the dict at d is locked: the rest stays -/
structure Lk (H : Hp) (d : Addr) (od : Obj) (kvs : List (Key × V)) (Hc : Hp) : Prop where
  kept : Kept d H Hc
  frz : Hc d = some (.frz od (.dK kvs))
theorem Lk.start {H H0 H1 : Hp} {d : Addr} {od : Obj} {kvs : List (Key × V)} (s : Same H H0) (h : H1 d = some (.frz od (.dK kvs))) (hb : ∀ b, b ≠ d → H1 b = H0 b) : Lk H d od kvs H1 := ⟨fun b o n e => by rw [hb b n]; exact s b o e, h⟩
theorem Lk.grow {H Hc H' : Hp} {d : Addr} {od : Obj} {kvs : List (Key × V)} (l : Lk H d od kvs Hc) (s : Same Hc H') : Lk H d od kvs H' := ⟨l.kept.trans (Kept.of s), s d _ l.frz⟩
theorem Lk.mut {H Hc : Hp} {d p : Addr} {od : Obj} {kvs : List (Key × V)} {o : HO} (l : Lk H d od kvs Hc) (h : H p = none) (n : d ≠ p) : Lk H d od kvs (upd Hc p o) := ⟨fun b u q e => by rw [upd_ne (ne_of_none e h)]; exact l.kept b u q e, by rw [upd_ne n]; exact l.frz⟩
theorem Lk.ext {H Hc : Hp} {d : Addr} {od : Obj} {kvs : List (Key × V)} (l : Lk H d od kvs Hc) (r : Rd H d (.dK kvs)) : Ext H Hc := by
  have nd : ∀ a o, H a = some o → (∀ ks, o ≠ .dK ks) → (∀ ob ks, o ≠ .frz ob (.dK ks)) → a ≠ d := fun a o e n1 n2 z => by
    subst z
    rcases r with q | ⟨ob, q⟩
    · rw [q] at e; exact n1 kvs (Option.some.inj e).symm
    · rw [q] at e; exact n2 ob kvs (Option.some.inj e).symm
  refine ⟨fun a xs e => l.kept a _ (nd a _ e (fun _ z => nomatch z) fun _ _ z => nomatch z) e, fun a xs e => l.kept a _ (nd a _ e (fun _ z => nomatch z) fun _ _ z => nomatch z) e, fun a C dx fs e => l.kept a _ (nd a _ e (fun _ z => nomatch z) fun _ _ z => nomatch z) e, fun a ks e => ?_⟩
  by_cases q : a = d
  · subst q
    have ek : ks = kvs := by
      rcases r with h | ⟨ob, h⟩ <;> rcases e with e | ⟨ob', e⟩ <;> rw [h] at e <;> cases e <;> rfl
    subst ek
    exact .inr ⟨od, l.frz⟩
  · rcases e with e | ⟨ob, e⟩
    · exact .inl (l.kept a _ q e)
    · exact .inr ⟨ob, l.kept a _ q e⟩
theorem Lk.done {H H0 Hc H2 : Hp} {d : Addr} {od : Obj} {kvs : List (Key × V)} (l : Lk H d od kvs Hc) (s : Same H H0) (h2 : H2 d = H0 d) (hb : ∀ b, b ≠ d → H2 b = Hc b) : Same H H2 := fun b o e => by
  by_cases q : b = d
  · subst q
    rw [h2]
    exact s b o e
  · rw [hb b q]
    exact l.kept b o q e
theorem kv_key {α : Type} {A : Rep α} {H : Hp} {ks : List (Key × V)} {l : List (Str × α)} (h : DPr A H ks l) {i : Nat} {k : Key} {v : V} (e : ks[i]? = some (k, v)) : ∃ r, l[i]? = some r ∧ k = Sum.inr r.1 ∧ A H v r.2 := by
  obtain ⟨r, h1, h2, h3⟩ := paired_get' h e
  exact ⟨r, h1, h2, h3⟩
/-! the readings laid out -/
abbrev RL := List (Str × (Int × Int))
def ldD (P : Pl) (r e : RL) (d : Nat) : RL := (r.map fun x => (dnm d "s" (ixs P.names x.1), x.2)) ++ e.map fun x => (enm d (ixs P.kn x.1), x.2)
def ldL (P : Pl) : Nat → List (RL × RL) → RL
  | _, [] => []
  | d, z :: Z => ldD P z.1 z.2 d ++ ldL P (d + 1) Z
theorem ldL_snoc (P : Pl) (z : RL × RL) : ∀ (Z : List (RL × RL)) (d : Nat), ldL P d (Z ++ [z]) = ldL P d Z ++ ldD P z.1 z.2 (d + Z.length)
  | [], d => by
    show ldD P z.1 z.2 d ++ [] = [] ++ ldD P z.1 z.2 (d + 0)
    rw [List.append_nil]
    rfl
  | y :: Z, d => by
    show ldD P y.1 y.2 d ++ ldL P (d + 1) (Z ++ [z]) = ldD P y.1 y.2 d ++ ldL P (d + 1) Z ++ _
    rw [ldL_snoc P z Z (d + 1), List.append_assoc, List.length_cons]
    congr 3
    omega
/-- readings of the days and evenings of a small plant -/
structure Rds (P : Pl) (S : List (Str × (Int × Int × Int))) (R E : List RL) : Prop where
  r : ∀ x ∈ R, RdOk P x
  e : ∀ x ∈ E, EvOk S x
  len : R.length = E.length
  two : R.length ≤ 2
/-- what is asked of one pair of readings -/
def ZOk (P : Pl) (S : List (Str × (Int × Int × Int))) (z : RL × RL) : Prop := RdOk P z.1 ∧ EvOk S z.2
theorem Rds.z {P : Pl} {S : List (Str × (Int × Int × Int))} {R E : List RL} (h : Rds P S R E) : ∀ z ∈ R.zip E, ZOk P S z := fun z hz => ⟨h.r _ (List.of_mem_zip hz).1, h.e _ (List.of_mem_zip hz).2⟩
theorem names_len (P : Pl) : P.names.length = P.st.length := List.length_map _
theorem ldD_key {P : Pl} {S : List (Str × (Int × Int × Int))} (sm : Sml P S) {z : RL × RL} (hz : ZOk P S z) {d : Nat} {k : Str} (h : k ∈ (ldD P z.1 z.2 d).map (·.1)) :
    (∃ n ∈ z.1.map (·.1), n ∈ P.names ∧ k = dnm d "s" (ixs P.names n)) ∨ ∃ n ∈ z.2.map (·.1), n ∈ P.kn ∧ k = enm d (ixs P.kn n) := by
  unfold ldD at h
  rw [List.map_append, List.map_map, List.map_map] at h
  rcases List.mem_append.mp h with h | h
  · obtain ⟨x, hx, rfl⟩ := List.mem_map.mp h
    have hm : x.1 ∈ z.1.map (·.1) := List.mem_map.mpr ⟨x, hx, rfl⟩
    exact .inl ⟨x.1, hm, hz.1.2.1 _ hm, rfl⟩
  · obtain ⟨x, hx, rfl⟩ := List.mem_map.mp h
    have hm : x.1 ∈ z.2.map (·.1) := List.mem_map.mpr ⟨x, hx, rfl⟩
    exact .inr ⟨x.1, hm, sm.sub _ (hz.2.2.1 _ hm), rfl⟩
theorem nd_on {α β : Type} {f : α → β} : ∀ {l : List α}, (∀ a ∈ l, ∀ b ∈ l, f a = f b → a = b) → l.Nodup → (l.map f).Nodup
  | [], _, _ => List.nodup_nil
  | a :: l, hf, h => by
    rw [List.nodup_cons] at h
    rw [List.map_cons, List.nodup_cons]
    refine ⟨fun z => ?_, nd_on (fun x hx y hy => hf x (List.mem_cons_of_mem _ hx) y (List.mem_cons_of_mem _ hy)) h.2⟩
    obtain ⟨b, hb, e⟩ := List.mem_map.mp z
    exact h.1 (hf b (List.mem_cons_of_mem _ hb) a List.mem_cons_self e ▸ hb)
theorem ldD_nd {P : Pl} {S : List (Str × (Int × Int × Int))} (sm : Sml P S) {z : RL × RL} (hz : ZOk P S z) {d : Nat} (hd : d < 4) : ((ldD P z.1 z.2 d).map (·.1)).Nodup := by
  have s3 := sm.s3
  have k3 := sm.k3
  have nl := names_len P
  have hsg : ("s" : Str) ∈ (["s", "k"] : List Str) := List.mem_cons_self
  unfold ldD
  rw [List.map_append, List.map_map, List.map_map]
  have e1 : (z.1.map ((fun x : Str × (Int × Int) => x.1) ∘ fun x => (dnm d "s" (ixs P.names x.1), x.2))) = (z.1.map (·.1)).map fun n => dnm d "s" (ixs P.names n) := by rw [List.map_map]; rfl
  have e2 : (z.2.map ((fun x : Str × (Int × Int) => x.1) ∘ fun x => (enm d (ixs P.kn x.1), x.2))) = (z.2.map (·.1)).map fun n => enm d (ixs P.kn n) := by rw [List.map_map]; rfl
  rw [e1, e2]
  have m1 := hz.1.2.1
  have m2 : ∀ k ∈ z.2.map (·.1), k ∈ P.kn := fun k hk => sm.sub _ (hz.2.2.1 k hk)
  refine List.nodup_append.mpr ⟨nd_on (fun a ha b hb e => ?_) hz.1.1, nd_on (fun a ha b hb e => ?_) hz.2.1, fun x hx y hy => ?_⟩
  · have i1 := ixs_lt (m1 a ha)
    have i2 := ixs_lt (m1 b hb)
    exact ixs_inj (m1 a ha) (m1 b hb) (dnm_inj d hd _ (by omega) d hd _ (by omega) "s" hsg e).2
  · have i1 := ixs_lt (m2 a ha)
    have i2 := ixs_lt (m2 b hb)
    exact ixs_inj (m2 a ha) (m2 b hb) (enm_inj d hd _ (by omega) d hd _ (by omega) e).2
  · rintro rfl
    obtain ⟨a, ha, rfl⟩ := List.mem_map.mp hx
    obtain ⟨b, hb, e⟩ := List.mem_map.mp hy
    have i1 := ixs_lt (m1 a ha)
    have i2 := ixs_lt (m2 b hb)
    exact dnm_enm d hd _ (by omega) d hd _ (by omega) e.symm
theorem ldL_key {P : Pl} {S : List (Str × (Int × Int × Int))} (sm : Sml P S) : ∀ {Z : List (RL × RL)} {d : Nat}, (∀ z ∈ Z, ZOk P S z) → ∀ {k : Str}, k ∈ (ldL P d Z).map (·.1) →
    ∃ d', d ≤ d' ∧ d' < d + Z.length ∧ ((∃ n ∈ P.names, k = dnm d' "s" (ixs P.names n)) ∨ ∃ n ∈ P.kn, k = enm d' (ixs P.kn n))
  | [], _, _, _, h => nomatch h
  | z :: Z, d, hz, k, h => by
    have h : k ∈ (ldD P z.1 z.2 d ++ ldL P (d + 1) Z).map (·.1) := h
    rw [List.map_append] at h
    rcases List.mem_append.mp h with h | h
    · refine ⟨d, Nat.le_refl _, by rw [List.length_cons]; omega, ?_⟩
      rcases ldD_key sm (hz z List.mem_cons_self) h with ⟨n, _, h1, h2⟩ | ⟨n, _, h1, h2⟩
      · exact .inl ⟨n, h1, h2⟩
      · exact .inr ⟨n, h1, h2⟩
    · obtain ⟨d', h1, h2, h3⟩ := ldL_key sm (fun x hx => hz x (List.mem_cons_of_mem _ hx)) h
      exact ⟨d', by omega, by rw [List.length_cons]; omega, h3⟩
theorem ldL_nd {P : Pl} {S : List (Str × (Int × Int × Int))} (sm : Sml P S) : ∀ {Z : List (RL × RL)} {d : Nat}, (∀ z ∈ Z, ZOk P S z) → d + Z.length ≤ 4 → ((ldL P d Z).map (·.1)).Nodup
  | [], _, _, _ => List.nodup_nil
  | z :: Z, d, hz, hl => by
    rw [List.length_cons] at hl
    have s3 := sm.s3
    have k3 := sm.k3
    have nl := names_len P
    have hsg : ("s" : Str) ∈ (["s", "k"] : List Str) := List.mem_cons_self
    show ((ldD P z.1 z.2 d ++ ldL P (d + 1) Z).map (·.1)).Nodup
    rw [List.map_append]
    refine List.nodup_append.mpr ⟨ldD_nd sm (hz z List.mem_cons_self) (by omega), ldL_nd sm (fun x hx => hz x (List.mem_cons_of_mem _ hx)) (by omega), fun x hx y hy => ?_⟩
    rintro rfl
    obtain ⟨d', h1, h2, h3⟩ := ldL_key sm (fun x hx => hz x (List.mem_cons_of_mem _ hx)) hy
    rcases ldD_key sm (hz z List.mem_cons_self) hx with ⟨n, _, h4, h5⟩ | ⟨n, _, h4, h5⟩ <;> rcases h3 with ⟨m, h6, h7⟩ | ⟨m, h6, h7⟩
    · have i1 := ixs_lt h4
      have i2 := ixs_lt h6
      have := (dnm_inj d (by omega) _ (by omega) d' (by omega) _ (by omega) "s" hsg (h5.symm.trans h7)).1
      omega
    · have i1 := ixs_lt h4
      have i2 := ixs_lt h6
      exact dnm_enm d (by omega) _ (by omega) d' (by omega) _ (by omega) (h5.symm.trans h7)
    · have i1 := ixs_lt h4
      have i2 := ixs_lt h6
      exact dnm_enm d' (by omega) _ (by omega) d (by omega) _ (by omega) (h7.symm.trans h5)
    · have i1 := ixs_lt h4
      have i2 := ixs_lt h6
      have := (enm_inj d (by omega) _ (by omega) d' (by omega) _ (by omega) (h5.symm.trans h7)).1
      omega
theorem ldL_len {P : Pl} {S : List (Str × (Int × Int × Int))} (sm : Sml P S) : ∀ {Z : List (RL × RL)} {d : Nat}, (∀ z ∈ Z, ZOk P S z) → (ldL P d Z).length ≤ 6 * Z.length
  | [], _, _ => Nat.le_refl _
  | z :: Z, d, hz => by
    have ih := ldL_len sm (d := d + 1) fun x hx => hz x (List.mem_cons_of_mem _ hx)
    obtain ⟨h1, h2⟩ := hz z List.mem_cons_self
    have l1 := Mt.nd_le h1.1 h1.2.1
    have l2 := Mt.nd_le h2.1 h2.2.1
    rw [List.length_map, names_len] at l1
    rw [List.length_map, List.length_map] at l2
    have s3 := sm.s3
    have k3 := sm.len
    show (ldD P z.1 z.2 d ++ ldL P (d + 1) Z).length ≤ _
    rw [List.length_append, List.length_cons]
    unfold ldD
    rw [List.length_append, List.length_map, List.length_map]
    omega
section
variable {P : Program} {w : World} {K : PySem.W.Frag} {mg : Str → Option Value} {base : Heap}
def sp_check_all (C : Addr) : Sp := fun vs H Q _ => ∃ pv sv rv ev P S R E, vs = [pv, sv, rv, ev] ∧ rPl C H pv P ∧ rD rSt H sv S ∧ Sml P S ∧ rL (rD rLim) H rv R ∧ rL (rD rLim) H ev E ∧ Rds P S R E ∧ retN H Q
theorem ok_check_all (T : Tx K mg) : FnOk P w K mg base CX0 4 T.a_check_all T.d_check_all P_check_all (sp_check_all T.C_Plant) := by
  refine T.F_check_all.ok sc_check_all (fun vs H Q E h => ?_) (fun cdv A outer s H vs Q E hr h => ?_)
  · obtain ⟨_, _, _, _, _, _, _, _, rfl, _⟩ := h
    rfl
  · have hu := hu_of hr
    refine ⟨_, PSs.nox (pss_cons (ps_expr (pe_call (ok_check_days T) (hr.mono (by decide)) rfl T.m_check_days T.F_check_days.kp (b_check_days T) .nil pass0 (pa_cons (pv 0) (pa_cons (pv 1) (pa_cons (pe_callB call_len_seq (by rfl) T.n_len (by decide +kernel) (pa_cons (pv 2) pa_nil)) pa_nil)))))
    (pss_cons (ps_set (i := 4) sc_check_all.nd rfl (Or.inl rfl) (pe_meth0 (pv 0) T.c_Plant T.h_Plant_stream_names (ok_Plant_stream_names T) (hr.mono (by decide)) (b_Plant_stream_names T) .nil pass0))
    (pss_one (ps_for PassesOwn.never rfl (pi_zip rfl T.n_zip (pa_cons (pv 2) (pa_cons (pv 3) pa_nil))) (pg_tup rfl (pgs_cons (pg_name (i := 5) sc_check_all.nd rfl (Or.inl rfl)) (pgs_cons (pg_name (i := 6) sc_check_all.nd rfl (Or.inl rfl)) pgs_nil)))
    (pss_cons (ps_for PassesOwn.never rfl (pi_list (pe_callB (call_sortedD rfl) (by rfl) T.n_sorted (by decide +kernel) (pa_cons (pv 5) pa_nil))) (pg_name (i := 7) sc_check_all.nd rfl (Or.inl rfl))
    (pss_one (ps_if (pt_cmpR op_notIn_seq (pv 7) (pv 4) (by rfl)) (pss_one ps_never) pss_nil)))
    (pss_one (ps_for PassesOwn.never rfl (pi_list (pe_callB (call_sortedD rfl) (by rfl) T.n_sorted (by decide +kernel) (pa_cons (pv 6) pa_nil))) (pg_name (i := 8) sc_check_all.nd rfl (Or.inl rfl))
    (pss_one (ps_if (pt_cmp (pc_dnotin hu (pv 8) (pv 1))) (pss_one ps_never) pss_nil))))))))), ?_⟩
    obtain ⟨pv, sv, rv, ev, P, S, R, E', rfl, hP, hS, sm, ⟨ra, rxs, rfl, hra, hrx⟩, ⟨ea, exs, rfl, hea, hex⟩, rd, k⟩ := h
    obtain ⟨p, dx, ka, sa, rfl, hi, hkn, hst⟩ := id hP
    obtain ⟨sd, sks, rfl, hsd, hsk⟩ := id hS
    have nl := names_len P
    have s3 := sm.s3
    have l3 := sm.len
    refine ⟨_, rfl, _, rfl, _, rfl, ra, rxs, rfl, .inl (SqL.of hra), .ref p, .ref sd, R.length, P, S, (by rw [paired_len hrx] <;> rfl), hP, hS, sm, rd.two, fun H1 s1 => ?_⟩
    refine ⟨_, rfl, p, dx, _, rfl, s1 p _ hi, plF_no _ _ (by decide +kernel) (by decide +kernel), ⟨_, P, rfl, Mono.same s1 hP, sm.ok.sl, fun l H2 xs hl s2 e2 hx => ?_⟩⟩
    have ex := strs_eq hx
    subst ex
    have s12 := s1.trans s2
    refine ⟨_, rfl, _, rfl, ra, ea, rxs, exs, rfl, SqL.of (s12 ra _ hra), SqL.of (s12 ea _ hea), for_it (walk_zip (K := K) (a := ra) (b := ea) (xs := rxs) (ys := exs) rfl) (fun i σ H3 => (Same H H3 ∧ H3 l = some (.lst (P.names.map V.str))) ∧ ∃ a b c d, σ = [some (.ref p), some (.ref sd), some (.ref ra), some (.ref ea), some (.ref l), a, b, c, d])
      ⟨⟨s12, e2⟩, _, _, _, _, rfl⟩ (fun i σ H3 _ h => ⟨SqL.of (h.1.1 ra _ hra), SqL.of (h.1.1 ea _ hea)⟩) ?_ ?_⟩
    · rintro i x σ H3 H4 hi' ⟨⟨s3', hl3⟩, _, _, _, _, rfl⟩ ⟨T0, x1, y1, rfl, hT0, rfl, hx1, hy1⟩
      have sT := Same.new (o := .tup [x1, y1]) hT0
      have s4 := s3'.trans sT
      obtain ⟨r, hr1, td, tks, rfl, htd, htk⟩ := paired_get' hrx hx1
      obtain ⟨e, he1, gd, gks, rfl, hgd, hgk⟩ := paired_get' hex hy1
      have hrm := rd.r r (List.mem_of_getElem? hr1)
      have hem := rd.e e (List.mem_of_getElem? he1)
      have rl := hrm.len sm.ok.sl
      have el : e.length ≤ 3 := by
        have := Mt.nd_le hem.1 hem.2.1
        rw [List.length_map, List.length_map] at this
        omega
      refine ⟨T0, _, rfl, SqT.of upd_same, rfl, _, _, rfl, _, _, rfl, rfl, ?_⟩
      refine ⟨_, rfl, td, tks, r.map (·.1), rfl, rd_same s4 htd, dp_keys htk, (by rw [List.length_map]; omega), fun ys p1 hperm _ hp1 => ?_⟩
      have s5 := s4.trans (Same.new (o := .lst (ys.map V.str)) hp1)
      have hl5 := Same.new (o := .lst (ys.map V.str)) hp1 l _ (sT l _ hl3)
      refine ⟨p1, rfl, ⟨_, SqL.of upd_same⟩, for_it (walk_list (K := K)) (fun j σ H5 => (Same H H5 ∧ H5 l = some (.lst (P.names.map V.str)) ∧ H5 p1 = some (.lst (ys.map V.str))) ∧ ∃ c d, σ = [some (.ref p), some (.ref sd), some (.ref ra), some (.ref ea), some (.ref l), some (.ref td), some (.ref gd), c, d])
        ⟨⟨s5, hl5, upd_same⟩, _, _, rfl⟩ (fun j σ H5 _ h => SqL.of h.1.2.2) ?_ ?_⟩
      · rintro j x σ H5 H6 hj ⟨⟨s6, hl6, hp6⟩, _, _, rfl⟩ ⟨rfl, hxi⟩
        rw [List.getElem?_map] at hxi
        cases hy : ys[j]? with
        | none => rw [hy] at hxi; cases hxi
        | some z =>
          rw [hy] at hxi
          cases hxi
          have hz := hrm.2.1 z (hperm.mem_iff.mp (List.mem_of_getElem? hy))
          refine ⟨_, rfl, _, rfl, l, _, rfl, .inl (SqL.of hl6), rfl, flat_strs _, false, nin_no hz, ?_⟩
          refine iteF ?_
          exact ⟨⟨s6, hl6, hp6⟩, _, _, rfl⟩
      · rintro σ H5 ⟨⟨s6, hl6, hp6⟩, _, _, rfl⟩
        refine ⟨_, rfl, gd, gks, e.map (·.1), rfl, rd_same s6 hgd, dp_keys hgk, (by rw [List.length_map]; omega), fun zs p2 hperm2 _ hp2 => ?_⟩
        have s7 := s6.trans (Same.new (o := .lst (zs.map V.str)) hp2)
        refine ⟨p2, rfl, ⟨_, SqL.of upd_same⟩, for_it (walk_list (K := K)) (fun j σ H7 => (Same H H7 ∧ H7 l = some (.lst (P.names.map V.str)) ∧ H7 p2 = some (.lst (zs.map V.str))) ∧ ∃ c d, σ = [some (.ref p), some (.ref sd), some (.ref ra), some (.ref ea), some (.ref l), some (.ref td), some (.ref gd), c, d])
          ⟨⟨s7, Same.new hp2 l _ hl6, upd_same⟩, _, _, rfl⟩ (fun j σ H7 _ h => SqL.of h.1.2.2) ?_ ?_⟩
        · rintro j x σ H7 H8 hj ⟨⟨s8, hl8, hp8⟩, _, _, rfl⟩ ⟨rfl, hxi⟩
          rw [List.getElem?_map] at hxi
          cases hy : zs[j]? with
          | none => rw [hy] at hxi; cases hxi
          | some z =>
            rw [hy] at hxi
            cases hxi
            have hz := hem.2.1 z (hperm2.mem_iff.mp (List.mem_of_getElem? hy))
            obtain ⟨v, _, _, hg, _⟩ := get_some (rd_same s8 hsd) (dpair_mono (Ext.of s8) hsk) sm.snd hz
            refine ⟨_, rfl, _, rfl, sd, _, rfl, hg, false, rfl, ?_⟩
            refine iteF ?_
            exact ⟨⟨s8, hl8, hp8⟩, _, _, rfl⟩
        · rintro σ H7 ⟨⟨s8, hl8, hp8⟩, _, _, rfl⟩
          exact ⟨⟨s8, hl8⟩, _, _, _, _, rfl⟩
    · rintro σ H3 ⟨⟨s3', _⟩, _, _, _, _, rfl⟩
      exact k _ s3'
def sp_laid_readings (C : Addr) : Sp := fun vs H Q _ => ∃ pv sv rv ev P S R E, vs = [pv, sv, rv, ev] ∧ rPl C H pv P ∧ rD rSt H sv S ∧ Sml P S ∧ rL (rD rLim) H rv R ∧ rL (rD rLim) H ev E ∧ Rds P S R E ∧ ∀ a H', Same H H' → rD rLim H' (.ref a) (ldL P 1 (R.zip E)) → Q (.ref a) H'
theorem ok_laid_readings (T : Tx K mg) : FnOk P w K mg base CX0 5 T.a_laid_readings T.d_laid_readings P_laid_readings (sp_laid_readings T.C_Plant) := by
  refine T.F_laid_readings.ok sc_laid_readings (fun vs H Q E h => ?_) (fun cdv A outer s H vs Q E hr h => ?_)
  · obtain ⟨_, _, _, _, _, _, _, _, rfl, _⟩ := h
    rfl
  · have hu := hu_of hr
    refine ⟨_, PSs.nox (pss_cons (ps_expr (pe_call (ok_check_all T) (hr.mono (by decide)) rfl T.m_check_all T.F_check_all.kp (b_check_all T) .nil pass0 (pa_cons (pv 0) (pa_cons (pv 1) (pa_cons (pv 2) (pa_cons (pv 3) pa_nil))))))
    (pss_cons (ps_set (i := 4) sc_laid_readings.nd rfl (Or.inl rfl) (pe_meth0 (pv 0) T.c_Plant T.h_Plant_stream_names (ok_Plant_stream_names T) (hr.mono (by decide)) (b_Plant_stream_names T) .nil pass0))
    (pss_cons (ps_set (i := 5) sc_laid_readings.nd rfl (Or.inl rfl) pe_dnewK)
    (pss_cons (ps_for PassesOwn.never rfl (pi_enumzip rfl T.n_enumerate rfl T.n_zip (pa_cons (pv 2) (pa_cons (pv 3) pa_nil))) (pg_tup rfl (pgs_cons (pg_name (i := 6) sc_laid_readings.nd rfl (Or.inl rfl)) (pgs_cons (pg_tup rfl (pgs_cons (pg_name (i := 9) sc_laid_readings.nd rfl (Or.inl rfl)) (pgs_cons (pg_name (i := 10) sc_laid_readings.nd rfl (Or.inl rfl)) pgs_nil))) pgs_nil)))
    (pss_cons (ps_lockR (ps_for PassesOwn.never rfl (pi_keys (pv 9)) (pg_name (i := 7) sc_laid_readings.nd rfl (Or.inl rfl))
    (pss_one (ps_dput hu (pv 5) (pe_call (ok_day_name T) (hr.mono (by decide)) rfl T.m_day_name T.F_day_name.kp (b_day_name T) .nil pass0 (pa_cons (pe_op op_add (pv 6) pe_int) (pa_cons pe_str (pa_cons (pe_bm PySem.F.plainAttrs_list PySem.F.slot_list_index PySem.F.type_list_index mt_index (pv 4) (pa_cons (pv 7) pa_nil)) pa_nil)))) (pe_dget hu (pv 9) (pv 7) (fun _ _ => rfl)) rfl))))
    (pss_one (ps_lockR (ps_for PassesOwn.never rfl (pi_keys (pv 10)) (pg_name (i := 8) sc_laid_readings.nd rfl (Or.inl rfl))
    (pss_one (ps_dput hu (pv 5) (pe_call (ok_evening_name T) (hr.mono (by decide)) rfl T.m_evening_name T.F_evening_name.kp (b_evening_name T) .nil pass0 (pa_cons (pv 0) (pa_cons (pe_op op_add (pv 6) pe_int) (pa_cons (pv 8) pa_nil)))) (pe_dget hu (pv 10) (pv 8) (fun _ _ => rfl)) rfl)))))))
    (pss_one (ps_ret (pv 5))))))), ?_⟩
    obtain ⟨pv, sv, rv, ev, P, S, R, E', rfl, hP, hS, sm, hRr, hEr, rd, k⟩ := h
    obtain ⟨ra, rxs, rfl, hra, hrx⟩ := id hRr
    obtain ⟨ea, exs, rfl, hea, hex⟩ := id hEr
    obtain ⟨p, dx, ka, sa, rfl, hi, hkn, hst⟩ := id hP
    obtain ⟨sd, sks, rfl, hsd, hsk⟩ := id hS
    have nl := names_len P
    have s3 := sm.s3
    have k3 := sm.k3
    have sz := sizeLine_eq
    have zok := rd.z
    have zl : (R.zip E').length ≤ 2 := by rw [List.length_zip]; have := rd.two; omega
    have ndall := ldL_nd sm (d := 1) zok (by omega)
    rw [show L2.start N_laid_readings [V.ref p, V.ref sd, V.ref ra, V.ref ea] = [some (V.ref p), some (V.ref sd), some (V.ref ra), some (V.ref ea), none, none, none, none, none, none, none] from rfl]
    refine ⟨_, rfl, _, rfl, _, rfl, _, rfl, .ref p, .ref sd, .ref ra, .ref ea, P, S, R, E', rfl, hP, hS, sm, hRr, hEr, rd, fun H1 s1 => ?_⟩
    refine ⟨_, rfl, p, dx, _, rfl, s1 p _ hi, plF_no _ _ (by decide +kernel) (by decide +kernel), ⟨_, P, rfl, Mono.same s1 hP, sm.ok.sl, fun l H2 xs hl s2 e2 hx => ?_⟩⟩
    have ex := strs_eq hx
    subst ex
    dsimp only [gName, List.set_cons_zero, List.set_cons_succ]
    have s12 := s1.trans s2
    intro D hD
    dsimp only [gName, List.set_cons_zero, List.set_cons_succ]
    have hDH : H D = none := by
      cases z : H D with
      | none => rfl
      | some u => rw [s12 D u z] at hD; cases hD
    have hD1 : H1 D = none := by
      cases z : H1 D with
      | none => rfl
      | some u => rw [s2 D u z] at hD; cases hD
    have sD := s12.trans (Same.new (o := .dK []) hD)
    have nlD : l ≠ D := ne_of_none e2 hD
    have hidx : ∀ (G : Hp) (n : Str), n ∈ P.names → (P.names.map V.str)[ixs P.names n]? = some (.str n) ∧ ∀ (m : Nat) (z' : V), m < ixs P.names n → (P.names.map V.str)[m]? = some z' → eqV z' (.str n) = false := fun G n hn => by
      refine ⟨by rw [List.getElem?_map, ixs_at hn] <;> rfl, fun m z hm hz => ?_⟩
      rw [List.getElem?_map] at hz
      cases hy : P.names[m]? with
      | none => rw [hy] at hz; cases hz
      | some y =>
        rw [hy] at hz
        cases hz
        show (y == n) = false
        exact beq_eq_false_iff_ne.mpr (ixs_before hm hy)
    refine ⟨_, rfl, _, rfl, ra, ea, rxs, exs, rfl, SqL.of (sD ra _ hra), SqL.of (sD ea _ hea), for_it (walk_ez (K := K) (a := ra) (b := ea) (xs := rxs) (ys := exs) rfl) (fun i σ H3 => (Same H H3 ∧ H3 l = some (.lst (P.names.map V.str)) ∧ ∃ fks, H3 D = some (.dK fks) ∧ DPr rLim H3 fks (ldL P 1 ((R.zip E').take i))) ∧ ∃ a b c d e, σ = [some (.ref p), some (.ref sd), some (.ref ra), some (.ref ea), some (.ref l), some (.ref D), a, b, c, d, e])
      ⟨⟨sD, by rw [upd_ne nlD]; exact e2, [], upd_same, .nil⟩, _, _, _, _, _, rfl⟩ (fun i σ H3 _ h => ⟨SqL.of (h.1.1 ra _ hra), SqL.of (h.1.1 ea _ hea)⟩) ?_ ?_⟩
    · rintro i x σ H3 H4 hi' ⟨⟨s3', hl3, fks, hD3, hp3⟩, _, _, _, _, _, rfl⟩ ⟨T1, T0, x1, y1, rfl, hT0, hT1, rfl, hx1, hy1⟩
      have sT0 := Same.new (o := .tup [x1, y1]) hT0
      have sT1 := Same.new (o := .tup [V.int ((i : Nat) : Int), .ref T0]) hT1
      have sT := sT0.trans sT1
      have s4 := s3'.trans sT
      obtain ⟨r, hr1, td, tks, rfl, htd, htk⟩ := paired_get' hrx hx1
      obtain ⟨e, he1, gd, gks, rfl, hgd, hgk⟩ := paired_get' hex hy1
      have hz : (R.zip E')[i]? = some (r, e) := by rw [List.getElem?_zip_eq_some]; exact ⟨hr1, he1⟩
      obtain ⟨hrm, hem⟩ := zok _ (List.mem_of_getElem? hz)
      have hi2 : i < 2 := by have := (List.getElem?_eq_some_iff.mp hz).1; omega
      have et : (R.zip E').take (i + 1) = (R.zip E').take i ++ [(r, e)] := by
        rw [List.take_add_one, hz]
        rfl
      have tl : ((R.zip E').take i).length = i := by rw [List.length_take]; have := (List.getElem?_eq_some_iff.mp hz).1; omega
      have ed : ldL P 1 ((R.zip E').take (i + 1)) = ldL P 1 ((R.zip E').take i) ++ ldD P r e (i + 1) := by
        rw [et, ldL_snoc, tl, Nat.add_comm 1 i]
      have nd1 : ((ldL P 1 ((R.zip E').take i) ++ ldD P r e (i + 1)).map (·.1)).Nodup := by
        rw [← ed]
        exact ldL_nd sm (d := 1) (fun z hz => zok z (List.mem_of_mem_take hz)) (by rw [List.length_take]; omega)
      have nd2 : ((ldL P 1 ((R.zip E').take i)).map (·.1) ++ ((r.map (·.1)).map (fun n => dnm (i + 1) "s" (ixs P.names n)) ++ (e.map (·.1)).map fun n => enm (i + 1) (ixs P.kn n))).Nodup := by
        rw [List.map_append] at nd1
        unfold ldD at nd1
        rw [List.map_append, List.map_map, List.map_map] at nd1
        rw [List.map_map, List.map_map]
        exact nd1
      have ll := ldL_len sm (d := 1) (Z := (R.zip E').take i) fun z hz => zok z (List.mem_of_mem_take hz)
      rw [tl] at ll
      have rl : r.length ≤ 3 := by
        have : (r.map (·.1)).length ≤ P.names.length := Mt.nd_le hrm.1 hrm.2.1
        rw [List.length_map] at this
        omega
      have el : e.length ≤ 3 := by
        have : (e.map (·.1)).length ≤ (S.map (·.1)).length := Mt.nd_le hem.1 hem.2.1
        rw [List.length_map, List.length_map] at this
        have := sm.len
        omega
      have ei1 : ((i : Nat) : Int) + 1 = ((i + 1 : Nat) : Int) := by omega
      refine ⟨T1, _, rfl, SqT.of upd_same, rfl, _, _, rfl, _, _, rfl, T0, _, rfl, SqT.of (sT1 T0 _ upd_same), rfl, _, _, rfl, _, _, rfl, rfl, rfl, ?_⟩
      dsimp only [gName, List.set_cons_zero, List.set_cons_succ]
      have ndD : td ≠ D := fun z => by
        subst z
        rcases htd with q | ⟨_, q⟩ <;> rw [hDH] at q <;> cases q
      have gdD : gd ≠ D := fun z => by
        subst z
        rcases hgd with q | ⟨_, q⟩ <;> rw [hDH] at q <;> cases q
      -- for name in today
      refine ⟨td, tks, rd_same s4 htd, fun od G1 hG1 hb1 => ?_⟩
      have lk0 : Lk H td od tks G1 := Lk.start s4 hG1 hb1
      have hl1 : G1 l = some (.lst (P.names.map V.str)) := by
        have q := sT l _ hl3
        rw [hb1 l (fun z => by subst z; rcases rd_same s4 htd with w | ⟨_, w⟩ <;> rw [q] at w <;> cases w)]
        exact q
      have hD1' : G1 D = some (.dK fks) := by rw [hb1 D ndD.symm]; exact sT D _ hD3
      have tuG1 : TupS H3 G1 := fun a xs q => by
        have q2 := sT a _ q
        rw [hb1 a (fun z => by subst z; rcases rd_same s4 htd with w | ⟨_, w⟩ <;> rw [q2] at w <;> cases w)]
        exact q2
      have hp1 : DPr rLim G1 fks (ldL P 1 ((R.zip E').take i)) := dp_tu tuG1 hp3
      refine ⟨_, rfl, td, od, rfl, .inl ⟨tks, hG1, for_it walk_keys (fun j σ G => (Lk H td od tks G ∧ G l = some (.lst (P.names.map V.str)) ∧ ∃ fks, G D = some (.dK fks) ∧ DPr rLim G fks (ldL P 1 ((R.zip E').take i) ++ (r.take j).map fun x => (dnm (i + 1) "s" (ixs P.names x.1), x.2))) ∧
          ∃ b c, σ = [some (.ref p), some (.ref sd), some (.ref ra), some (.ref ea), some (.ref l), some (.ref D), some (.int ((i : Nat) : Int)), b, c, some (.ref td), some (.ref gd)])
        ⟨⟨lk0, hl1, fks, hD1', by rw [List.take_zero]; show DPr rLim G1 fks (_ ++ []); rw [List.append_nil]; exact hp1⟩, _, _, rfl⟩ (fun j σ G _ h => h.1.1.frz) ?_ ?_⟩⟩
      · rintro j x σ G G' hj ⟨⟨lk, hl5, fk5, hD5, hp5⟩, _, _, rfl⟩ ⟨rfl, kk, vv, hkv, rfl⟩
        dsimp only [gName, List.set_cons_zero, List.set_cons_succ]
        have xt := lk.ext htd
        obtain ⟨⟨n, rx⟩, hrj, rfl, hvv⟩ := kv_key (dpair_mono xt htk) hkv
        have hnm : n ∈ P.names := hrm.2.1 n (List.mem_map.mpr ⟨_, List.mem_of_getElem? hrj, rfl⟩)
        obtain ⟨v, hg, hv⟩ := get_in (H := G') (d := td) (.inr ⟨od, lk.frz⟩) (dpair_mono xt htk) hrm.1 (List.mem_of_getElem? hrj)
        obtain ⟨i1, i2⟩ := hidx G' n hnm
        have hlt := ixs_lt hnm
        have lk5 : fk5.length < sizeLine := by
          rw [paired_len hp5, List.length_append, List.length_map, List.length_take]
          omega
        refine ⟨_, rfl, _, rfl, td, _, rfl, hg, _, rfl, _, rfl, _, _, rfl, rfl, _, rfl, .inl ⟨rfl, _, SqL.of hl5⟩, _, rfl, l, _, _, ixs P.names n, .str n, rfl, rfl, SqL.of hl5, rfl, flat_strs _, i1, (by show (n == n) = true; exact beq_self_eq_true n), i2, ?_⟩
        refine ⟨i + 1, ixs P.names n, "s", rfl, by omega, by omega, .inl rfl, fun w9 G9 s9 hw9 => ?_⟩
        cases hw9
        refine ⟨D, _, rfl, DPut.k (k := Sum.inr (dnm (i + 1) "s" (ixs P.names n))) (s9 D _ hD5) lk5, ?_⟩
        have hnew : dnm (i + 1) "s" (ixs P.names n) ∉ (ldL P 1 ((R.zip E').take i) ++ (r.take j).map fun x => (dnm (i + 1) "s" (ixs P.names x.1), x.2)).map (·.1) := by
          intro hm
          rw [List.map_append, List.map_map] at hm
          have e3 : r.map (·.1) = (r.take j).map (·.1) ++ (n :: (r.drop (j + 1)).map (·.1)) := by
            have := List.take_append_drop j r
            have hd : r.drop j = (n, rx) :: r.drop (j + 1) := (List.drop_eq_getElem_cons (List.getElem?_eq_some_iff.mp hrj).1).trans (by rw [(List.getElem?_eq_some_iff.mp hrj).2])
            rw [hd] at this
            conv => lhs; rw [← this]
            rw [List.map_append]
            rfl
          rw [e3] at nd2
          rcases List.mem_append.mp hm with h | h
          · exact (List.nodup_append.mp nd2).2.2 _ h _ (List.mem_append.mpr (.inl (List.mem_map.mpr ⟨n, List.mem_append.mpr (.inr List.mem_cons_self), rfl⟩))) rfl
          · obtain ⟨y, hy, ey⟩ := List.mem_map.mp h
            have q1 := (List.nodup_append.mp (List.nodup_append.mp nd2).2.1).1
            rw [List.map_append] at q1
            exact (List.nodup_append.mp q1).2.2 _ (List.mem_map.mpr ⟨y.1, List.mem_map.mpr ⟨y, hy, rfl⟩, ey⟩) _ (List.mem_map.mpr ⟨n, List.mem_cons_self, rfl⟩) rfl
        have tu9 := TupS.of s9
        have tuD : TupS G9 (upd G9 D (.dK (putK fk5 (Sum.inr (dnm (i + 1) "s" (ixs P.names n))) v))) := TupS.upd (s9 D _ hD5) fun _ z => nomatch z
        refine ⟨⟨(lk.grow s9).mut hDH ndD, by rw [upd_ne nlD]; exact s9 l _ hl5, _, upd_same, ?_⟩, _, _, rfl⟩
        have et9 : r.take (j + 1) = r.take j ++ [(n, rx)] := by
          rw [List.take_add_one, hrj]
          rfl
        rw [et9, List.map_append, ← List.append_assoc]
        exact dp_tu tuD (dp_snoc (A := rLim) (x := rx) (dp_tu tu9 hp5) (Tu.mono tu9 hv) hnew)
      · rintro σ G ⟨⟨lk, hl5, fk5, hD5, hp5⟩, _, _, rfl⟩
        rw [paired_len htk, List.take_length] at hp5
        refine ⟨lk.frz, fun G2 h2 hb2 => ?_⟩
        have sG2 : Same H G2 := lk.done s4 h2 hb2
        have hl6 : G2 l = some (.lst (P.names.map V.str)) := by
          rw [hb2 l (fun z => by subst z; rw [lk.frz] at hl5; cases hl5)]
          exact hl5
        have hD6 : G2 D = some (.dK fk5) := by rw [hb2 D ndD.symm]; exact hD5
        have tuG2 : TupS G G2 := fun a xs q => by
          rw [hb2 a (fun z => by subst z; rw [lk.frz] at q; cases q)]
          exact q
        -- for knot in evening
        refine ⟨gd, gks, rd_same sG2 hgd, fun od2 G3 hG3 hb3 => ?_⟩
        have lk3 : Lk H gd od2 gks G3 := Lk.start sG2 hG3 hb3
        have hl7 : G3 l = some (.lst (P.names.map V.str)) := by
          rw [hb3 l (fun z => by subst z; rcases rd_same sG2 hgd with w | ⟨_, w⟩ <;> rw [hl6] at w <;> cases w)]
          exact hl6
        have tuG3 : TupS G2 G3 := fun a xs q => by
          rw [hb3 a (fun z => by subst z; rcases rd_same sG2 hgd with w | ⟨_, w⟩ <;> rw [q] at w <;> cases w)]
          exact q
        refine ⟨_, rfl, gd, od2, rfl, .inl ⟨gks, hG3, for_it walk_keys (fun j σ G => (Lk H gd od2 gks G ∧ G l = some (.lst (P.names.map V.str)) ∧ ∃ fks, G D = some (.dK fks) ∧ DPr rLim G fks (ldL P 1 ((R.zip E').take i) ++ (r.map fun x => (dnm (i + 1) "s" (ixs P.names x.1), x.2)) ++ (e.take j).map fun x => (enm (i + 1) (ixs P.kn x.1), x.2))) ∧
            ∃ b c, σ = [some (.ref p), some (.ref sd), some (.ref ra), some (.ref ea), some (.ref l), some (.ref D), some (.int ((i : Nat) : Int)), b, c, some (.ref td), some (.ref gd)])
          ⟨⟨lk3, hl7, fk5, by rw [hb3 D gdD.symm]; exact hD6, by rw [List.take_zero]; show DPr rLim G3 fk5 (_ ++ []); rw [List.append_nil]; exact dp_tu (tuG2.trans tuG3) hp5⟩, _, _, rfl⟩ (fun j σ G _ h => h.1.1.frz) ?_ ?_⟩⟩
        · rintro j x σ G G' hj ⟨⟨lk, hl5, fk5, hD5, hp5⟩, _, _, rfl⟩ ⟨rfl, kk, vv, hkv, rfl⟩
          dsimp only [gName, List.set_cons_zero, List.set_cons_succ]
          have xt := lk.ext hgd
          obtain ⟨⟨n, rx⟩, hrj, rfl, hvv⟩ := kv_key (dpair_mono xt hgk) hkv
          have hnm : n ∈ P.kn := sm.sub n (hem.2.1 n (List.mem_map.mpr ⟨_, List.mem_of_getElem? hrj, rfl⟩))
          obtain ⟨v, hg, hv⟩ := get_in (H := G') (d := gd) (.inr ⟨od2, lk.frz⟩) (dpair_mono xt hgk) hem.1 (List.mem_of_getElem? hrj)
          have hlt := ixs_lt hnm
          have lk5 : fk5.length < sizeLine := by
            rw [paired_len hp5, List.length_append, List.length_append, List.length_map, List.length_map, List.length_take]
            omega
          refine ⟨_, rfl, _, rfl, gd, _, rfl, hg, _, rfl, _, rfl, _, rfl, _, _, rfl, rfl, _, rfl, ?_⟩
          refine ⟨.ref p, i + 1, n, P, rfl, Mono.mono xt hP, by omega, hnm, k3, fun w9 G9 s9 hw9 => ?_⟩
          cases hw9
          refine ⟨D, _, rfl, DPut.k (k := Sum.inr (enm (i + 1) (ixs P.kn n))) (s9 D _ hD5) lk5, ?_⟩
          have hnew : enm (i + 1) (ixs P.kn n) ∉ (ldL P 1 ((R.zip E').take i) ++ (r.map fun x => (dnm (i + 1) "s" (ixs P.names x.1), x.2)) ++ (e.take j).map fun x => (enm (i + 1) (ixs P.kn x.1), x.2)).map (·.1) := by
            intro hm
            rw [List.map_append, List.map_append, List.map_map, List.map_map] at hm
            have e3 : e.map (·.1) = (e.take j).map (·.1) ++ (n :: (e.drop (j + 1)).map (·.1)) := by
              have := List.take_append_drop j e
              have hd : e.drop j = (n, rx) :: e.drop (j + 1) := (List.drop_eq_getElem_cons (List.getElem?_eq_some_iff.mp hrj).1).trans (by rw [(List.getElem?_eq_some_iff.mp hrj).2])
              rw [hd] at this
              conv => lhs; rw [← this]
              rw [List.map_append]
              rfl
            have q0 := nd2
            rw [← List.append_assoc] at q0
            rw [e3] at q0
            rcases List.mem_append.mp hm with h | h
            · refine (List.nodup_append.mp q0).2.2 _ ?_ _ (List.mem_map.mpr ⟨n, List.mem_append.mpr (.inr List.mem_cons_self), rfl⟩) rfl
              rw [List.map_map]
              exact h
            · obtain ⟨y, hy, ey⟩ := List.mem_map.mp h
              have q1 := (List.nodup_append.mp q0).2.1
              rw [List.map_append] at q1
              exact (List.nodup_append.mp q1).2.2 _ (List.mem_map.mpr ⟨y.1, List.mem_map.mpr ⟨y, hy, rfl⟩, ey⟩) _ (List.mem_map.mpr ⟨n, List.mem_cons_self, rfl⟩) rfl
          have tu9 := TupS.of s9
          have tuD : TupS G9 (upd G9 D (.dK (putK fk5 (Sum.inr (enm (i + 1) (ixs P.kn n))) v))) := TupS.upd (s9 D _ hD5) fun _ z => nomatch z
          refine ⟨⟨(lk.grow s9).mut hDH gdD, by rw [upd_ne nlD]; exact s9 l _ hl5, _, upd_same, ?_⟩, _, _, rfl⟩
          have et9 : e.take (j + 1) = e.take j ++ [(n, rx)] := by
            rw [List.take_add_one, hrj]
            rfl
          rw [et9, List.map_append, ← List.append_assoc]
          exact dp_tu tuD (dp_snoc (A := rLim) (x := rx) (dp_tu tu9 hp5) (Tu.mono tu9 hv) hnew)
        · rintro σ G4 ⟨⟨lk, hl5, fk6, hD6', hp6⟩, _, _, rfl⟩
          rw [paired_len hgk, List.take_length] at hp6
          refine ⟨lk.frz, fun G5 h5 hb5 => ?_⟩
          have sG5 : Same H G5 := lk.done sG2 h5 hb5
          refine ⟨⟨sG5, ?_, fk6, by rw [hb5 D gdD.symm]; exact hD6', ?_⟩, _, _, _, _, _, rfl⟩
          · rw [hb5 l (fun z => by subst z; rw [lk.frz] at hl5; cases hl5)]
            exact hl5
          · rw [ed]
            unfold ldD
            rw [← List.append_assoc]
            exact dp_tu (fun a xs q => by
              rw [hb5 a (fun z => by subst z; rw [lk.frz] at q; cases q)]
              exact q) hp6
    · rintro σ H3 ⟨⟨s3', hl3, fks, hD3, hp3⟩, _, _, _, _, _, rfl⟩
      have em : min rxs.length exs.length = (R.zip E').length := by rw [List.length_zip, paired_len hrx, paired_len hex]
      rw [em, List.take_length] at hp3
      exact ⟨_, rfl, k D H3 s3' ⟨D, fks, rfl, .inl hD3, hp3⟩⟩
end
end Mx

set_option Elab.async false
set_option linter.all false
set_option maxRecDepth 100000
set_option maxHeartbeats 2000000
/-! The plain law of the plant laid out: its flows are the courses. -/
namespace Mx
open PySem PySem.Spec PyProof.Rows L2
abbrev SL := List (Str × (Int × Int × Int))
def edg (s : Sm) : Mt.Edge Str := ⟨s.nm, s.tl, s.hd⟩
def netL (l : List Sm) (f : Str → Int) (k : Str) : Int := (l.map fun s => Mt.con f k (edg s)).sum
theorem net_netL (l : List Sm) (f : Str → Int) (k : Str) : Mt.net (l.map edg) f k = netL l f k := by
  unfold Mt.net netL
  rw [List.map_map]
  rfl
theorem sum_perm {β : Type} {g : β → Int} {l m : List β} (p : l.Perm m) : (l.map g).sum = (m.map g).sum := by
  induction p with
  | nil => rfl
  | cons x p ih => rw [List.map_cons, List.map_cons, List.sum_cons, List.sum_cons, ih]
  | swap x y l =>
    rw [List.map_cons, List.map_cons, List.map_cons, List.map_cons, List.sum_cons, List.sum_cons, List.sum_cons, List.sum_cons]
    omega
  | trans p q ih1 ih2 => rw [ih1, ih2]
theorem sum_flat {β γ : Type} {g : γ → Int} {f : β → List γ} : ∀ l : List β, ((l.flatMap f).map g).sum = (l.map fun x => ((f x).map g).sum).sum
  | [] => rfl
  | x :: l => by rw [List.flatMap_cons, List.map_append, List.sum_append, List.map_cons, List.sum_cons, sum_flat l]
theorem sum_congr {β : Type} {g h : β → Int} {l : List β} (e : ∀ x ∈ l, g x = h x) : (l.map g).sum = (l.map h).sum := by rw [List.map_congr_left e]
theorem sum_ite_not {β : Type} [DecidableEq β] {a : β} {c : Int} {l : List β} (h : a ∉ l) : (l.map fun x => if x = a then c else 0).sum = 0 := Mt.sum_zero fun x hx => by
  rw [if_neg]
  intro z
  exact h (z ▸ hx)
theorem sum_ite_in {β : Type} [DecidableEq β] {a : β} {c : Int} : ∀ {l : List β}, l.Nodup → a ∈ l → (l.map fun x => if x = a then c else 0).sum = c
  | b :: l, nd, h => by
    rw [List.nodup_cons] at nd
    rw [List.map_cons, List.sum_cons]
    by_cases e : b = a
    · subst e
      rw [if_pos rfl, sum_ite_not nd.1]
      omega
    · rw [if_neg e, sum_ite_in nd.2 ((List.mem_cons.mp h).resolve_left fun z => e z.symm)]
      omega
/-- the flows of a day, the stocks -/
def dayF (P : Pl) (f : Str → Int) (d : Nat) (n : Str) : Int := f (dnm d "s" (ixs P.names n))
def stk (P : Pl) (S : SL) (f : Str → Int) (d : Nat) (k : Str) : Int := if k ∈ S.map (·.1) then f (enm d (ixs P.kn k)) else 0
section
variable {P : Pl} {S : SL} {D : Nat}
theorem kNm_eq {kn : List Str} {a : Str} {d d' : Nat} (k3 : kn.length ≤ 3) (ha : a ∈ kn) (hd : d < D) (hD : D ≤ 2) (hd' : d' < 4) {k : Str} (hk : k ∈ kn) : kNm kn D d' a = dnm (d + 1) "k" (ixs kn k) ↔ d' = d + 1 ∧ a = k := by
  have i1 := ixs_lt ha
  have i2 := ixs_lt hk
  have hsg : ("k" : Str) ∈ (["s", "k"] : List Str) := List.mem_cons_of_mem _ List.mem_cons_self
  unfold kNm
  by_cases h : d' = 0 ∨ D < d'
  · rw [if_pos h]
    constructor
    · intro e
      exact absurd e.symm (dnm_ends _ (by omega) _ (by omega))
    · rintro ⟨e, _⟩
      omega
  · rw [if_neg h]
    constructor
    · intro e
      obtain ⟨e1, e2⟩ := dnm_inj d' hd' _ (by omega) (d + 1) (by omega) _ (by omega) "k" hsg e
      exact ⟨e1, ixs_inj ha hk e2⟩
    · rintro ⟨rfl, rfl⟩
      rfl
theorem net_day (sm : Sml P S) (hD : D ≤ 2) {d d' : Nat} (hd : d < D) (hd' : d' < D) {k : Str} (hk : k ∈ P.kn) (f : Str → Int) :
    netL (dS P.kn D (d' + 1) P.st) f (dnm (d + 1) "k" (ixs P.kn k)) = if d' = d then Mt.net P.E (dayF P f (d + 1)) k else 0 := by
  unfold netL dS
  rw [List.map_map]
  have e1 : ∀ x ∈ P.st.zipIdx, ((fun s => Mt.con f (dnm (d + 1) "k" (ixs P.kn k)) (edg s)) ∘ fun x : Sm × Nat => (⟨dnm (d' + 1) "s" x.2, kNm P.kn D (d' + 1) x.1.tl, kNm P.kn D (d' + 1) x.1.hd, x.1.lo, x.1.hi⟩ : Sm)) x = if d' = d then Mt.con (dayF P f (d + 1)) k (edg x.1) else 0 := by
    rintro ⟨s, i⟩ hx
    have hi := List.mem_zipIdx_iff_getElem?.mp hx
    obtain ⟨q1, q2⟩ := sm.ok.ends s (List.mem_of_getElem? hi)
    have hix : ixs P.names s.nm = i := ixs_eq sm.ok.nd (show (P.st.map (·.nm))[i]? = some s.nm by rw [List.getElem?_map, hi] <;> rfl)
    show Mt.con f (dnm (d + 1) "k" (ixs P.kn k)) ⟨dnm (d' + 1) "s" i, kNm P.kn D (d' + 1) s.tl, kNm P.kn D (d' + 1) s.hd⟩ = if d' = d then Mt.con (dayF P f (d + 1)) k ⟨s.nm, s.tl, s.hd⟩ else 0
    unfold Mt.con dayF
    rw [hix]
    have a1 := kNm_eq (d' := d' + 1) sm.k3 q2 hd hD (by omega) hk
    have a2 := kNm_eq (d' := d' + 1) sm.k3 q1 hd hD (by omega) hk
    by_cases e : d' = d
    · subst e
      rw [if_pos rfl]
      have b1 : (kNm P.kn D (d' + 1) s.hd = dnm (d' + 1) "k" (ixs P.kn k)) ↔ s.hd = k := a1.trans ⟨fun h => h.2, fun h => ⟨rfl, h⟩⟩
      have b2 : (kNm P.kn D (d' + 1) s.tl = dnm (d' + 1) "k" (ixs P.kn k)) ↔ s.tl = k := a2.trans ⟨fun h => h.2, fun h => ⟨rfl, h⟩⟩
      simp only [b1, b2]
    · rw [if_neg e, if_neg (fun z => e (by have := (a1.mp z).1; omega)), if_neg (fun z => e (by have := (a2.mp z).1; omega))]
      rfl
  rw [sum_congr e1]
  by_cases e : d' = d
  · simp only [if_pos e]
    have : (P.st.zipIdx.map fun x => Mt.con (dayF P f (d + 1)) k (edg x.1)) = (P.st.zipIdx.map Prod.fst).map fun s => Mt.con (dayF P f (d + 1)) k (edg s) := by
      rw [List.map_map]
      rfl
    rw [this, List.zipIdx_map_fst]
    unfold Mt.net Pl.E
    rw [List.map_map]
    rfl
  · simp only [if_neg e]
    exact Mt.sum_zero fun _ _ => rfl
theorem net_eve (sm : Sml P S) (hD : D ≤ 2) {d : Nat} (hd : d < D) {k a : Str} (hk : k ∈ P.kn) (ha : a ∈ P.kn) (f : Str → Int) :
    netL (eS P.kn S D a (D + 1)) f (dnm (d + 1) "k" (ixs P.kn k)) = if a = k then f (enm d (ixs P.kn k)) - f (enm (d + 1) (ixs P.kn k)) else 0 := by
  unfold netL eS
  rw [List.map_map]
  have e1 : ∀ d' ∈ List.range (D + 1), ((fun s => Mt.con f (dnm (d + 1) "k" (ixs P.kn k)) (edg s)) ∘ eS1 P.kn S D a) d' = (if d' = d then (if a = k then f (enm d (ixs P.kn k)) else 0) else 0) - (if d' = d + 1 then (if a = k then f (enm (d + 1) (ixs P.kn k)) else 0) else 0) := by
    intro d' hd'
    have hd' := List.mem_range.mp hd'
    show Mt.con f (dnm (d + 1) "k" (ixs P.kn k)) ⟨enm d' (ixs P.kn a), kNm P.kn D d' a, kNm P.kn D (d' + 1) a⟩ = _
    unfold Mt.con
    have a1 := kNm_eq (d' := d' + 1) sm.k3 ha hd hD (by omega) hk
    have a2 := kNm_eq (d' := d') sm.k3 ha hd hD (by omega) hk
    congr 1
    · by_cases e : d' = d
      · subst e
        rw [if_pos rfl]
        by_cases e2 : a = k
        · subst e2
          rw [if_pos (a1.mpr ⟨rfl, rfl⟩), if_pos rfl]
        · rw [if_neg (fun z => e2 (a1.mp z).2), if_neg e2]
      · rw [if_neg (fun z => e (by have := (a1.mp z).1; omega)), if_neg e]
    · by_cases e : d' = d + 1
      · subst e
        rw [if_pos rfl]
        by_cases e2 : a = k
        · subst e2
          rw [if_pos (a2.mpr ⟨rfl, rfl⟩), if_pos rfl]
        · rw [if_neg (fun z => e2 (a2.mp z).2), if_neg e2]
      · rw [if_neg (fun z => e (a2.mp z).1), if_neg e]
  rw [sum_congr e1, Mt.sum_sub, sum_ite_in List.nodup_range (List.mem_range.mpr (by omega)), sum_ite_in List.nodup_range (List.mem_range.mpr (by omega))]
  by_cases e : a = k
  · rw [if_pos e, if_pos e, if_pos e]
  · rw [if_neg e, if_neg e, if_neg e]
    rfl
theorem net_knot (sm : Sml P S) (hD : D ≤ 2) {P' : Pl} (hl : Laid P S D P') {d : Nat} (hd : d < D) {k : Str} (hk : k ∈ P.kn) (f : Str → Int) :
    Mt.net P'.E f (dnm (d + 1) "k" (ixs P.kn k)) = Mt.net P.E (dayF P f (d + 1)) k + stk P S f d k - stk P S f (d + 1) k := by
  obtain ⟨ys, hy, hp⟩ := hl.st
  have yk : ∀ k ∈ ys, k ∈ P.kn := fun k hk => sm.sub k (hy.mem_iff.mp hk)
  have yn : ys.Nodup := hy.nodup_iff.mpr sm.snd
  have h1 : Mt.net P'.E f (dnm (d + 1) "k" (ixs P.kn k)) = netL (lSt P S D ys) f (dnm (d + 1) "k" (ixs P.kn k)) := by
    rw [← net_netL]
    unfold Mt.net
    exact sum_perm (hp.map edg)
  rw [h1]
  unfold lSt
  have h2 : ∀ (l m : List Sm) (z : Str), netL (l ++ m) f z = netL l f z + netL m f z := fun l m z => by
    unfold netL
    rw [List.map_append, List.sum_append]
  rw [h2]
  have h3 : netL (dSs P D D) f (dnm (d + 1) "k" (ixs P.kn k)) = Mt.net P.E (dayF P f (d + 1)) k := by
    unfold dSs netL
    rw [sum_flat]
    have : ∀ d' ∈ List.range D, ((dS P.kn D (d' + 1) P.st).map fun s => Mt.con f (dnm (d + 1) "k" (ixs P.kn k)) (edg s)).sum = if d' = d then Mt.net P.E (dayF P f (d + 1)) k else 0 := fun d' hd' => net_day sm hD hd (List.mem_range.mp hd') hk f
    rw [sum_congr this, sum_ite_in List.nodup_range (List.mem_range.mpr hd)]
  have h4 : netL (eSs P.kn S D ys) f (dnm (d + 1) "k" (ixs P.kn k)) = stk P S f d k - stk P S f (d + 1) k := by
    unfold eSs netL
    rw [sum_flat]
    have : ∀ a ∈ ys, ((eS P.kn S D a (D + 1)).map fun s => Mt.con f (dnm (d + 1) "k" (ixs P.kn k)) (edg s)).sum = if a = k then f (enm d (ixs P.kn k)) - f (enm (d + 1) (ixs P.kn k)) else 0 := fun a ha => net_eve sm hD hd hk (yk a ha) f
    rw [sum_congr this]
    unfold stk
    by_cases e : k ∈ ys
    · have e' := hy.mem_iff.mp e
      rw [sum_ite_in yn e, if_pos e', if_pos e']
    · have e' : ¬ k ∈ S.map (·.1) := fun z => e (hy.mem_iff.mpr z)
      rw [sum_ite_not e, if_neg e', if_neg e']
      rfl
  rw [h3, h4]
  omega
end
/-! what the readings laid out say -/
theorem rdg_app {α : Type} (A B : List (Str × α)) (k : Str) : rdg (A ++ B) k = (rdg A k).or (rdg B k) := by
  unfold rdg
  rw [List.find?_append]
  cases A.find? (fun r => decide (r.1 = k)) <;> simp
theorem rdg_not {α : Type} {A : List (Str × α)} {k : Str} (h : k ∉ A.map (·.1)) : rdg A k = none := by
  cases q : rdg A k with
  | none => rfl
  | some x => exact absurd (List.mem_map.mpr ⟨_, rdg_some q, rfl⟩) h
theorem rdg_map {α : Type} {g : Str → Str} : ∀ {A : List (Str × α)} {k : Str}, (∀ x ∈ A, g x.1 = g k → x.1 = k) → rdg (A.map fun x => (g x.1, x.2)) (g k) = rdg A k
  | [], _, _ => rfl
  | x :: A, k, h => by
    have ih := rdg_map (g := g) (A := A) (k := k) fun y hy => h y (List.mem_cons_of_mem _ hy)
    unfold rdg at ih ⊢
    rw [List.map_cons]
    by_cases e : x.1 = k
    · rw [List.find?_cons_of_pos (by simp [e]), List.find?_cons_of_pos (by simp [e])]
      rfl
    · have e' : ¬ g x.1 = g k := fun z => e (h x List.mem_cons_self z)
      rw [List.find?_cons_of_neg (by simp [e']), List.find?_cons_of_neg (by simp [e])]
      exact ih
theorem ldL_day {P : Pl} {S : SL} (sm : Sml P S) : ∀ {Z : List (RL × RL)} {d i : Nat} {z : RL × RL} {n : Str}, (∀ z ∈ Z, ZOk P S z) → d + Z.length ≤ 4 → Z[i]? = some z → n ∈ P.names → rdg (ldL P d Z) (dnm (d + i) "s" (ixs P.names n)) = rdg z.1 n
  | [], _, _, _, _, _, _, h, _ => by simp at h
  | y :: Z, d, i, z, n, hz, hl, h, hn => by
    have s3 := sm.s3
    have k3 := sm.k3
    have nl := names_len P
    have hsg : ("s" : Str) ∈ (["s", "k"] : List Str) := List.mem_cons_self
    rw [List.length_cons] at hl
    have hn1 := ixs_lt hn
    obtain ⟨y1, y2⟩ := hz y List.mem_cons_self
    have eve_no : ∀ d' < 4, dnm d' "s" (ixs P.names n) ∉ ((y.2.map fun x => (enm d (ixs P.kn x.1), x.2)) : RL).map (·.1) := fun d' hd' hm => by
      rw [List.map_map] at hm
      obtain ⟨x, hx, e⟩ := List.mem_map.mp hm
      have hk : x.1 ∈ P.kn := sm.sub _ (y2.2.1 _ (List.mem_map.mpr ⟨x, hx, rfl⟩))
      have := ixs_lt hk
      exact dnm_enm d' hd' _ (by omega) d (by omega) _ (by omega) e.symm
    show rdg (ldD P y.1 y.2 d ++ ldL P (d + 1) Z) _ = _
    rw [rdg_app]
    match i, h with
    | 0, h =>
      have h' : y = z := by simpa using h
      subst h'
      have e1 : rdg (ldD P y.1 y.2 d) (dnm (d + 0) "s" (ixs P.names n)) = rdg y.1 n := by
        unfold ldD
        rw [Nat.add_zero, rdg_app, rdg_not (eve_no d (by omega))]
        have := rdg_map (g := fun m => dnm d "s" (ixs P.names m)) (A := y.1) (k := n) fun x hx e => by
          have hm : x.1 ∈ P.names := y1.2.1 _ (List.mem_map.mpr ⟨x, hx, rfl⟩)
          have := ixs_lt hm
          exact ixs_inj hm hn (dnm_inj d (by omega) _ (by omega) d (by omega) _ (by omega) "s" hsg e).2
        show (rdg (y.1.map fun x => (dnm d "s" (ixs P.names x.1), x.2)) (dnm d "s" (ixs P.names n))).or none = _
        rw [this]
        cases rdg y.1 n <;> rfl
      rw [e1]
      have e2 : rdg (ldL P (d + 1) Z) (dnm (d + 0) "s" (ixs P.names n)) = none := rdg_not fun hm => by
        obtain ⟨d', h1, h2, h3⟩ := ldL_key sm (fun x hx => hz x (List.mem_cons_of_mem _ hx)) hm
        rcases h3 with ⟨m, h6, h7⟩ | ⟨m, h6, h7⟩
        · have := ixs_lt h6
          have := (dnm_inj d (by omega) _ (by omega) d' (by omega) _ (by omega) "s" hsg h7).1
          omega
        · have := ixs_lt h6
          exact dnm_enm d (by omega) _ (by omega) d' (by omega) _ (by omega) h7
      rw [e2]
      cases rdg y.1 n <;> rfl
    | i + 1, h =>
      have hi : i < Z.length := (List.getElem?_eq_some_iff.mp (show Z[i]? = some z by simpa using h)).1
      have e1 : rdg (ldD P y.1 y.2 d) (dnm (d + (i + 1)) "s" (ixs P.names n)) = none := rdg_not fun hm => by
        rcases ldD_key sm ⟨y1, y2⟩ hm with ⟨m, _, h6, h7⟩ | ⟨m, _, h6, h7⟩
        · have := ixs_lt h6
          have := (dnm_inj (d + (i + 1)) (by omega) _ (by omega) d (by omega) _ (by omega) "s" hsg h7).1
          omega
        · have := ixs_lt h6
          exact dnm_enm (d + (i + 1)) (by omega) _ (by omega) d (by omega) _ (by omega) h7
      rw [e1]
      have := ldL_day sm (Z := Z) (d := d + 1) (i := i) (z := z) (n := n) (fun x hx => hz x (List.mem_cons_of_mem _ hx)) (by omega) (by simpa using h) hn
      rw [show d + (i + 1) = d + 1 + i by omega, this]
      rfl
theorem ldL_eve {P : Pl} {S : SL} (sm : Sml P S) : ∀ {Z : List (RL × RL)} {d i : Nat} {z : RL × RL} {n : Str}, (∀ z ∈ Z, ZOk P S z) → d + Z.length ≤ 4 → Z[i]? = some z → n ∈ P.kn → rdg (ldL P d Z) (enm (d + i) (ixs P.kn n)) = rdg z.2 n
  | [], _, _, _, _, _, _, h, _ => by simp at h
  | y :: Z, d, i, z, n, hz, hl, h, hn => by
    have s3 := sm.s3
    have k3 := sm.k3
    have nl := names_len P
    rw [List.length_cons] at hl
    have hn1 := ixs_lt hn
    obtain ⟨y1, y2⟩ := hz y List.mem_cons_self
    have day_no : ∀ d' < 4, enm d' (ixs P.kn n) ∉ ((y.1.map fun x => (dnm d "s" (ixs P.names x.1), x.2)) : RL).map (·.1) := fun d' hd' hm => by
      rw [List.map_map] at hm
      obtain ⟨x, hx, e⟩ := List.mem_map.mp hm
      have hk : x.1 ∈ P.names := y1.2.1 _ (List.mem_map.mpr ⟨x, hx, rfl⟩)
      have := ixs_lt hk
      exact dnm_enm d (by omega) _ (by omega) d' hd' _ (by omega) e
    show rdg (ldD P y.1 y.2 d ++ ldL P (d + 1) Z) _ = _
    rw [rdg_app]
    match i, h with
    | 0, h =>
      have h' : y = z := by simpa using h
      subst h'
      have e1 : rdg (ldD P y.1 y.2 d) (enm (d + 0) (ixs P.kn n)) = rdg y.2 n := by
        unfold ldD
        rw [Nat.add_zero, rdg_app, rdg_not (day_no d (by omega))]
        have := rdg_map (g := fun m => enm d (ixs P.kn m)) (A := y.2) (k := n) fun x hx e => by
          have hm : x.1 ∈ P.kn := sm.sub _ (y2.2.1 _ (List.mem_map.mpr ⟨x, hx, rfl⟩))
          have := ixs_lt hm
          exact ixs_inj hm hn (enm_inj d (by omega) _ (by omega) d (by omega) _ (by omega) e).2
        show (none : Option (Int × Int)).or (rdg (y.2.map fun x => (enm d (ixs P.kn x.1), x.2)) (enm d (ixs P.kn n))) = _
        rw [this]
        rfl
      rw [e1]
      have e2 : rdg (ldL P (d + 1) Z) (enm (d + 0) (ixs P.kn n)) = none := rdg_not fun hm => by
        obtain ⟨d', h1, h2, h3⟩ := ldL_key sm (fun x hx => hz x (List.mem_cons_of_mem _ hx)) hm
        rcases h3 with ⟨m, h6, h7⟩ | ⟨m, h6, h7⟩
        · have := ixs_lt h6
          exact dnm_enm d' (by omega) _ (by omega) d (by omega) _ (by omega) h7.symm
        · have := ixs_lt h6
          have := (enm_inj d (by omega) _ (by omega) d' (by omega) _ (by omega) h7).1
          omega
      rw [e2]
      cases rdg y.2 n <;> rfl
    | i + 1, h =>
      have hi : i < Z.length := (List.getElem?_eq_some_iff.mp (show Z[i]? = some z by simpa using h)).1
      have e1 : rdg (ldD P y.1 y.2 d) (enm (d + (i + 1)) (ixs P.kn n)) = none := rdg_not fun hm => by
        rcases ldD_key sm ⟨y1, y2⟩ hm with ⟨m, _, h6, h7⟩ | ⟨m, _, h6, h7⟩
        · have := ixs_lt h6
          exact dnm_enm d (by omega) _ (by omega) (d + (i + 1)) (by omega) _ (by omega) h7.symm
        · have := ixs_lt h6
          have := (enm_inj (d + (i + 1)) (by omega) _ (by omega) d (by omega) _ (by omega) h7).1
          omega
      rw [e1]
      have := ldL_eve sm (Z := Z) (d := d + 1) (i := i) (z := z) (n := n) (fun x hx => hz x (List.mem_cons_of_mem _ hx)) (by omega) (by simpa using h) hn
      rw [show d + (i + 1) = d + 1 + i by omega, this]
      rfl
theorem ldL_zero {P : Pl} {S : SL} (sm : Sml P S) {Z : List (RL × RL)} (hz : ∀ z ∈ Z, ZOk P S z) (hl : Z.length ≤ 2) {n : Str} (hn : n ∈ P.kn) : rdg (ldL P 1 Z) (enm 0 (ixs P.kn n)) = none := rdg_not fun hm => by
  have s3 := sm.s3
  have k3 := sm.k3
  have nl := names_len P
  have hn1 := ixs_lt hn
  obtain ⟨d', h1, h2, h3⟩ := ldL_key sm hz hm
  rcases h3 with ⟨m, h6, h7⟩ | ⟨m, h6, h7⟩
  · have := ixs_lt h6
    exact dnm_enm d' (by omega) _ (by omega) 0 (by omega) _ (by omega) h7.symm
  · have := ixs_lt h6
    have := (enm_inj 0 (by omega) _ (by omega) d' (by omega) _ (by omega) h7).1
    omega
end Mx

set_option Elab.async false
set_option linter.all false
set_option maxRecDepth 100000
set_option maxHeartbeats 2000000
/-! The flows of the plant laid out are the courses. -/
namespace Mx
open PySem PySem.Spec PyProof.Rows L2
def limB (o : Option (Int × Int)) (lo hi : Int) : Int × Int := match o with
  | none => (lo, hi)
  | some x => (if x.1 - x.2 > lo then x.1 - x.2 else lo, if x.1 + x.2 < hi then x.1 + x.2 else hi)
theorem limS_B (R : RL) (s : Sm) : limS R s = limB (rdg R s.nm) s.lo s.hi := rfl
structure Crs (P : Pl) (S : SL) (R E : List RL) (f : Str → Int) : Prop where
  day : ∀ d r, R[d]? = some r → ∀ s ∈ P.st, (limS r s).1 ≤ dayF P f (d + 1) s.nm ∧ dayF P f (d + 1) s.nm ≤ (limS r s).2
  beg : ∀ k b, rdg S k = some b → f (enm 0 (ixs P.kn k)) = b.1
  eve : ∀ d e, E[d]? = some e → ∀ k b, rdg S k = some b → (limB (rdg e k) b.2.1 b.2.2).1 ≤ f (enm (d + 1) (ixs P.kn k)) ∧ f (enm (d + 1) (ixs P.kn k)) ≤ (limB (rdg e k) b.2.1 b.2.2).2
  bal : ∀ d, d < R.length → ∀ k ∈ P.kn, Mt.net P.E (dayF P f (d + 1)) k + stk P S f d k - stk P S f (d + 1) k = 0
theorem rdg_mem {α : Type} {R : List (Str × α)} {k : Str} {x : α} (h : rdg R k = some x) : k ∈ R.map (·.1) := List.mem_map.mpr ⟨_, rdg_some h, rfl⟩
theorem lSt_day {P : Pl} {S : SL} {D : Nat} {ys : List Str} {d i : Nat} {s : Sm} (hd : d < D) (hi : P.st[i]? = some s) : (⟨dnm (d + 1) "s" i, kNm P.kn D (d + 1) s.tl, kNm P.kn D (d + 1) s.hd, s.lo, s.hi⟩ : Sm) ∈ lSt P S D ys :=
  List.mem_append.mpr (.inl (List.mem_flatMap.mpr ⟨d, List.mem_range.mpr hd, dS_in hi⟩))
theorem lSt_eve {P : Pl} {S : SL} {D : Nat} {ys : List Str} {d : Nat} {k : Str} (hd : d ≤ D) (hk : k ∈ ys) : eS1 P.kn S D k d ∈ lSt P S D ys :=
  List.mem_append.mpr (.inr (List.mem_flatMap.mpr ⟨k, hk, List.mem_map.mpr ⟨d, List.mem_range.mpr (by omega), rfl⟩⟩))
theorem nm_ix {P : Pl} (nd : P.names.Nodup) {i : Nat} {s : Sm} (h : P.st[i]? = some s) : ixs P.names s.nm = i := ixs_eq nd (show (P.st.map (·.nm))[i]? = some s.nm by rw [List.getElem?_map, h] <;> rfl)
theorem zip_at {R E : List RL} (hl : R.length = E.length) {d : Nat} (hd : d < R.length) : ∃ r e, R[d]? = some r ∧ E[d]? = some e ∧ (R.zip E)[d]? = some (r, e) := by
  refine ⟨R[d], E[d]'(by omega), List.getElem?_eq_getElem _, List.getElem?_eq_getElem _, ?_⟩
  rw [List.getElem?_zip_eq_some]
  exact ⟨List.getElem?_eq_getElem _, List.getElem?_eq_getElem _⟩
section
variable {P : Pl} {S : SL} {R E : List RL} {P' : Pl}
/-- the limits of the plant laid out -/
theorem lim_day (sm : Sml P S) (rd : Rds P S R E) (hl : Laid P S R.length P') {d i : Nat} {s : Sm} {r : RL} (hr : R[d]? = some r) (hi : P.st[i]? = some s) :
    ∃ t ∈ P'.st, t.nm = dnm (d + 1) "s" i ∧ limN P' (ldL P 1 (R.zip E)) t.nm = limS r s := by
  obtain ⟨ys, hy, hp⟩ := hl.st
  have hd := (List.getElem?_eq_some_iff.mp hr).1
  obtain ⟨r', e, h1, h2, h3⟩ := zip_at rd.len hd
  rw [hr] at h1
  cases h1
  have two := rd.two
  have zl : (R.zip E).length ≤ 2 := by rw [List.length_zip]; omega
  have ht := hp.mem_iff.mpr (lSt_day (S := S) (D := R.length) (ys := ys) hd hi)
  refine ⟨_, ht, rfl, ?_⟩
  rw [limN_eq (hl.ok sm two).nd _ ht, limS_B, limS_B]
  have hn : s.nm ∈ P.names := List.mem_map.mpr ⟨s, List.mem_of_getElem? hi, rfl⟩
  have := ldL_day sm (d := 1) rd.z (by omega) h3 hn
  rw [nm_ix sm.ok.nd hi, Nat.add_comm 1 d] at this
  show limB (rdg (ldL P 1 (R.zip E)) (dnm (d + 1) "s" i)) s.lo s.hi = _
  rw [this]
theorem lim_eve (sm : Sml P S) (rd : Rds P S R E) (hl : Laid P S R.length P') {d : Nat} {k : Str} {b : Int × Int × Int} {e : RL} (he : E[d]? = some e) (hb : rdg S k = some b) :
    ∃ t ∈ P'.st, t.nm = enm (d + 1) (ixs P.kn k) ∧ limN P' (ldL P 1 (R.zip E)) t.nm = limB (rdg e k) b.2.1 b.2.2 := by
  obtain ⟨ys, hy, hp⟩ := hl.st
  have hd := (List.getElem?_eq_some_iff.mp he).1
  obtain ⟨r, e', h1, h2, h3⟩ := zip_at rd.len (d := d) (by have := rd.len; omega)
  rw [he] at h2
  cases h2
  have two := rd.two
  have hlen := rd.len
  have zl : (R.zip E).length ≤ 2 := by rw [List.length_zip]; omega
  have hk := rdg_mem hb
  have ht := hp.mem_iff.mpr (lSt_eve (P := P) (S := S) (D := R.length) (d := d + 1) (by omega) (hy.mem_iff.mpr hk))
  refine ⟨_, ht, rfl, ?_⟩
  rw [limN_eq (hl.ok sm two).nd _ ht, limS_B]
  have := ldL_eve sm (d := 1) rd.z (by omega) h3 (sm.sub k hk)
  rw [Nat.add_comm 1 d] at this
  show limB (rdg (ldL P 1 (R.zip E)) (enm (d + 1) (ixs P.kn k))) (if d + 1 = 0 then ((rdg S k).getD (0, 0, 0)).1 else ((rdg S k).getD (0, 0, 0)).2.1) (if d + 1 = 0 then ((rdg S k).getD (0, 0, 0)).1 else ((rdg S k).getD (0, 0, 0)).2.2) = _
  rw [this, hb, if_neg (by omega), if_neg (by omega)]
  rfl
theorem lim_beg (sm : Sml P S) (rd : Rds P S R E) (hl : Laid P S R.length P') {k : Str} {b : Int × Int × Int} (hb : rdg S k = some b) :
    ∃ t ∈ P'.st, t.nm = enm 0 (ixs P.kn k) ∧ limN P' (ldL P 1 (R.zip E)) t.nm = (b.1, b.1) := by
  obtain ⟨ys, hy, hp⟩ := hl.st
  have two := rd.two
  have zl : (R.zip E).length ≤ 2 := by rw [List.length_zip]; omega
  have hk := rdg_mem hb
  have ht := hp.mem_iff.mpr (lSt_eve (P := P) (S := S) (D := R.length) (d := 0) (by omega) (hy.mem_iff.mpr hk))
  refine ⟨_, ht, rfl, ?_⟩
  rw [limN_eq (hl.ok sm two).nd _ ht, limS_B]
  show limB (rdg (ldL P 1 (R.zip E)) (enm 0 (ixs P.kn k))) (if 0 = 0 then ((rdg S k).getD (0, 0, 0)).1 else ((rdg S k).getD (0, 0, 0)).2.1) (if 0 = 0 then ((rdg S k).getD (0, 0, 0)).1 else ((rdg S k).getD (0, 0, 0)).2.2) = _
  rw [ldL_zero sm rd.z (by omega) (sm.sub k hk), hb, if_pos rfl, if_pos rfl]
  rfl
theorem E_in {t : Sm} (h : t ∈ P'.st) : (⟨t.nm, t.tl, t.hd⟩ : Mt.Edge Str) ∈ P'.E := List.mem_map.mpr ⟨t, h, rfl⟩
theorem feas_crs (sm : Sml P S) (rd : Rds P S R E) (hl : Laid P S R.length P') (f : Str → Int) : Mt.Feas P'.E P'.kn (limN P' (ldL P 1 (R.zip E))) f ↔ Crs P S R E f := by
  have two := rd.two
  have hlen := rd.len
  constructor
  · intro h
    refine ⟨fun d r hr s hs => ?_, fun k b hb => ?_, fun d e he k b hb => ?_, fun d hd k hk => ?_⟩
    · obtain ⟨i, hi⟩ := List.getElem?_of_mem hs
      obtain ⟨t, ht, e1, e2⟩ := lim_day sm rd hl hr hi
      have := h.win _ (E_in ht)
      have this' : (limN P' (ldL P 1 (R.zip E)) t.nm).1 ≤ f t.nm ∧ f t.nm ≤ (limN P' (ldL P 1 (R.zip E)) t.nm).2 := this
      rw [e2, e1] at this'
      unfold dayF
      rw [nm_ix sm.ok.nd hi]
      exact this'
    · obtain ⟨t, ht, e1, e2⟩ := lim_beg sm rd hl hb
      have this' : (limN P' (ldL P 1 (R.zip E)) t.nm).1 ≤ f t.nm ∧ f t.nm ≤ (limN P' (ldL P 1 (R.zip E)) t.nm).2 := h.win _ (E_in ht)
      rw [e2, e1] at this'
      have a1 : b.1 ≤ f (enm 0 (ixs P.kn k)) := this'.1
      have a2 : f (enm 0 (ixs P.kn k)) ≤ b.1 := this'.2
      omega
    · obtain ⟨t, ht, e1, e2⟩ := lim_eve sm rd hl he hb
      have this' : (limN P' (ldL P 1 (R.zip E)) t.nm).1 ≤ f t.nm ∧ f t.nm ≤ (limN P' (ldL P 1 (R.zip E)) t.nm).2 := h.win _ (E_in ht)
      rw [e2, e1] at this'
      exact this'
    · rw [← net_knot sm two hl hd hk f]
      exact h.bal _ (hl.kn.mem_iff.mpr (lKn_mem hd (ixs_lt hk)))
  · intro h
    obtain ⟨ys, hy, hp⟩ := hl.st
    have ok' := hl.ok sm two
    have N := net_of P' ok'
    have hinner : ∀ z ∈ P'.kn, z ≠ "ends" → Mt.net P'.E f z = 0 := fun z hz hne => by
      have hz' := hl.kn.mem_iff.mp hz
      rcases List.mem_cons.mp hz' with e | hz'
      · exact absurd e hne
      · obtain ⟨d, hd, hz'⟩ := List.mem_flatMap.mp hz'
        obtain ⟨i, hi, rfl⟩ := List.mem_map.mp hz'
        have hd := List.mem_range.mp hd
        have hi := List.mem_range.mp hi
        have hk : P.kn[i] ∈ P.kn := List.getElem_mem hi
        have hix : ixs P.kn P.kn[i] = i := ixs_eq sm.ok.kn (List.getElem?_eq_getElem hi)
        have := net_knot sm two hl hd hk f
        rw [hix] at this
        rw [this]
        exact h.bal d hd _ hk
    refine ⟨fun x hx => ?_, fun z hz => ?_⟩
    · obtain ⟨t, ht, rfl⟩ := List.mem_map.mp hx
      rcases lSt_mem (hp.mem_iff.mp ht) with ⟨d, i, s, hd, hi, rfl⟩ | ⟨d, k, hd, hk, rfl⟩
      · obtain ⟨r, e, h1, h2, h3⟩ := zip_at rd.len hd
        obtain ⟨t', ht', e1, e2⟩ := lim_day sm rd hl h1 hi
        have := h.day d r h1 s (List.mem_of_getElem? hi)
        unfold dayF at this
        rw [nm_ix sm.ok.nd hi, ← e1, ← e2] at this
        rw [e1] at this
        exact this
      · have hk' := hy.mem_iff.mp hk
        obtain ⟨b, hb⟩ := rdg_in hk'
        match d, hd with
        | 0, hd =>
          obtain ⟨t', ht', e1, e2⟩ := lim_beg sm rd hl hb
          show (limN P' (ldL P 1 (R.zip E)) (enm 0 (ixs P.kn k))).1 ≤ f (enm 0 (ixs P.kn k)) ∧ f (enm 0 (ixs P.kn k)) ≤ (limN P' (ldL P 1 (R.zip E)) (enm 0 (ixs P.kn k))).2
          rw [← e1, e2, e1, h.beg k b hb]
          exact ⟨Int.le_refl _, Int.le_refl _⟩
        | d + 1, hd =>
          obtain ⟨r, e, h1, h2, h3⟩ := zip_at rd.len (d := d) (by omega)
          obtain ⟨t', ht', e1, e2⟩ := lim_eve sm rd hl h2 hb
          show (limN P' (ldL P 1 (R.zip E)) (enm (d + 1) (ixs P.kn k))).1 ≤ f (enm (d + 1) (ixs P.kn k)) ∧ f (enm (d + 1) (ixs P.kn k)) ≤ (limN P' (ldL P 1 (R.zip E)) (enm (d + 1) (ixs P.kn k))).2
          rw [← e1, e2, e1]
          exact h.eve d e h2 k b hb
    · by_cases hne : z = "ends"
      · subst hne
        have tot := Mt.total N f
        have e1 : ∀ x ∈ P'.kn, Mt.net P'.E f x = if x = "ends" then Mt.net P'.E f "ends" else 0 := fun x hx => by
          by_cases q : x = "ends"
          · rw [if_pos q, q]
          · rw [if_neg q, hinner x hx q]
        rw [sum_congr e1, sum_ite_in ok'.kn hz] at tot
        exact tot
      · exact hinner z hz hne
/-- the readings laid out are readings of the plant laid out -/
theorem laid_rd (sm : Sml P S) (rd : Rds P S R E) (hl : Laid P S R.length P') : RdOk P' (ldL P 1 (R.zip E)) := by
  have two := rd.two
  have hlen := rd.len
  have zl : (R.zip E).length = R.length := by rw [List.length_zip]; omega
  obtain ⟨ys, hy, hp⟩ := hl.st
  refine ⟨ldL_nd sm rd.z (by omega), fun k hk => ?_, ?_⟩
  · have key : ∀ {Z : List (RL × RL)} {d : Nat}, (∀ z ∈ Z, ZOk P S z) → ∀ {k : Str}, k ∈ (ldL P d Z).map (·.1) → ∃ d', d ≤ d' ∧ d' < d + Z.length ∧ ((∃ n ∈ P.names, k = dnm d' "s" (ixs P.names n)) ∨ ∃ n ∈ S.map (·.1), k = enm d' (ixs P.kn n)) := by
      intro Z
      induction Z with
      | nil => intro d _ k h; cases h
      | cons z Z ih =>
        intro d hz k h
        have h : k ∈ (ldD P z.1 z.2 d ++ ldL P (d + 1) Z).map (·.1) := h
        rw [List.map_append] at h
        rcases List.mem_append.mp h with h | h
        · refine ⟨d, Nat.le_refl _, by rw [List.length_cons]; omega, ?_⟩
          have zo := hz z List.mem_cons_self
          rcases ldD_key sm zo h with ⟨n, _, h1, h2⟩ | ⟨n, h0, h1, h2⟩
          · exact .inl ⟨n, h1, h2⟩
          · exact .inr ⟨n, zo.2.2.1 n h0, h2⟩
        · obtain ⟨d', h1, h2, h3⟩ := ih (fun x hx => hz x (List.mem_cons_of_mem _ hx)) h
          exact ⟨d', by omega, by rw [List.length_cons]; omega, h3⟩
    obtain ⟨d', h1, h2, h3⟩ := key rd.z hk
    obtain ⟨d, rfl⟩ : ∃ d, d' = d + 1 := ⟨d' - 1, by omega⟩
    rcases h3 with ⟨n, hn, rfl⟩ | ⟨n, hn, rfl⟩
    · obtain ⟨s, hs, rfl⟩ := List.mem_map.mp hn
      obtain ⟨i, hi⟩ := List.getElem?_of_mem hs
      rw [nm_ix sm.ok.nd hi]
      exact List.mem_map.mpr ⟨_, hp.mem_iff.mpr (lSt_day (S := S) (D := R.length) (ys := ys) (d := d) (by omega) hi), rfl⟩
    · exact List.mem_map.mpr ⟨_, hp.mem_iff.mpr (lSt_eve (P := P) (S := S) (D := R.length) (d := d + 1) (by omega) (hy.mem_iff.mpr hn)), rfl⟩
  · have key : ∀ {Z : List (RL × RL)} {d : Nat}, (∀ z ∈ Z, ZOk P S z) → ∀ x ∈ ldL P d Z, 0 ≤ x.2.1 ∧ x.2.1 ≤ 1000000 ∧ 0 ≤ x.2.2 ∧ x.2.2 ≤ 1000000 := by
      intro Z
      induction Z with
      | nil => intro d _ x h; cases h
      | cons z Z ih =>
        intro d hz x h
        rcases List.mem_append.mp (show x ∈ ldD P z.1 z.2 d ++ ldL P (d + 1) Z from h) with h | h
        · obtain ⟨z1, z2⟩ := hz z List.mem_cons_self
          rcases List.mem_append.mp h with h | h
          · obtain ⟨y, hy, rfl⟩ := List.mem_map.mp h
            exact z1.2.2 y hy
          · obtain ⟨y, hy, rfl⟩ := List.mem_map.mp h
            exact z2.2.2 y hy
        · exact ih (fun x hx => hz x (List.mem_cons_of_mem _ hx)) x h
    exact key rd.z
/-- the first day of a course is a course -/
theorem crs_first {r e : RL} {R' E' : List RL} {f : Str → Int} (h : Crs P S (r :: R') (e :: E') f) : Crs P S [r] [e] f := by
  refine ⟨fun d x hx s hs => ?_, h.beg, fun d x hx k b hb => ?_, fun d hd k hk => ?_⟩
  · match d, hx with
    | 0, hx => exact h.day 0 x (by simpa using hx) s hs
    | d + 1, hx => simp at hx
  · match d, hx with
    | 0, hx => exact h.eve 0 x (by simpa using hx) k b hb
    | d + 1, hx => simp at hx
  · have hd : d < 1 := hd
    have e : d = 0 := by omega
    subst e
    exact h.bal 0 (by rw [List.length_cons]; omega) k hk
/-- what is in the stores is the same at each evening -/
theorem sum_sub_keys {g : Str → Int} : ∀ {K ks : List Str}, K.Nodup → ks.Nodup → (∀ k ∈ ks, k ∈ K) → (K.map fun k => if k ∈ ks then g k else 0).sum = (ks.map g).sum := by
  intro K ks hK hks hs
  have e1 : (K.filter fun k => decide (k ∈ ks)).Perm ks := by
    refine (List.perm_ext_iff_of_nodup (hK.sublist List.filter_sublist) hks).mpr fun x => ?_
    rw [List.mem_filter, decide_eq_true_iff]
    exact ⟨fun h => h.2, fun h => ⟨hs x h, h⟩⟩
  rw [← sum_perm (g := g) e1]
  clear e1 hs hK hks
  induction K with
  | nil => rfl
  | cons x K ih =>
    rw [List.map_cons, List.sum_cons, ih]
    by_cases h : x ∈ ks
    · rw [if_pos h, List.filter_cons_of_pos (by simp [h]), List.map_cons, List.sum_cons]
    · rw [if_neg h, List.filter_cons_of_neg (by simp [h])]
      omega
theorem whole_step (sm : Sml P S) {f : Str → Int} (h : Crs P S R E f) {d : Nat} (hd : d < R.length) : ((S.map (·.1)).map fun k => f (enm (d + 1) (ixs P.kn k))).sum = ((S.map (·.1)).map fun k => f (enm d (ixs P.kn k))).sum := by
  have N := net_of P sm.ok
  have t := Mt.total N (dayF P f (d + 1))
  have e1 : ∀ k ∈ P.kn, Mt.net P.E (dayF P f (d + 1)) k = stk P S f (d + 1) k - stk P S f d k := fun k hk => by have := h.bal d hd k hk; omega
  rw [sum_congr e1, Mt.sum_sub] at t
  have a1 := sum_sub_keys (g := fun k => f (enm (d + 1) (ixs P.kn k))) sm.ok.kn sm.snd sm.sub
  have a2 := sum_sub_keys (g := fun k => f (enm d (ixs P.kn k))) sm.ok.kn sm.snd sm.sub
  have b1 : (P.kn.map (stk P S f (d + 1))).sum = ((S.map (·.1)).map fun k => f (enm (d + 1) (ixs P.kn k))).sum := a1
  have b2 : (P.kn.map (stk P S f d)).sum = ((S.map (·.1)).map fun k => f (enm d (ixs P.kn k))).sum := a2
  rw [← b1, ← b2]
  omega
theorem whole (sm : Sml P S) {f : Str → Int} (h : Crs P S R E f) : ∀ d, d ≤ R.length → ((S.map (·.1)).map fun k => f (enm d (ixs P.kn k))).sum = (S.map fun r => r.2.1).sum
  | 0, _ => by
    rw [List.map_map]
    refine sum_congr fun r hr => ?_
    obtain ⟨b, hb⟩ := rdg_in (List.mem_map.mpr ⟨r, hr, rfl⟩ : r.1 ∈ S.map (·.1))
    show f (enm 0 (ixs P.kn r.1)) = r.2.1
    rw [h.beg _ b hb]
    have h1 := rdg_some hb
    obtain ⟨i, hi⟩ := List.getElem?_of_mem h1
    obtain ⟨j, hj⟩ := List.getElem?_of_mem hr
    have := nd_ix sm.snd (x := r.1) (i := i) (j := j) (by rw [List.getElem?_map, hi] <;> rfl) (by rw [List.getElem?_map, hj] <;> rfl)
    subst this
    rw [hi] at hj
    have e := Option.some.inj hj
    rw [← e]
  | d + 1, hd => by rw [whole_step sm h (by omega), whole sm h d (by omega)]
end
end Mx

set_option Elab.async false
set_option linter.all false
set_option maxRecDepth 100000
set_option maxHeartbeats 2000000
/-! range_named, day_range, stock_range, course, is_course. -/
namespace Mx
open PySem PySem.Spec PyProof.Rows L2
theorem day_in {P : Pl} {S : SL} {R E : List RL} {P' : Pl} (sm : Sml P S) (rd : Rds P S R E) (hl : Laid P S R.length P') {d : Nat} (hd : d < R.length) {n : Str} (hn : n ∈ P.names) : ∃ t ∈ P'.st, t.nm = dnm (d + 1) "s" (ixs P.names n) := by
  obtain ⟨s, hs, rfl⟩ := List.mem_map.mp hn
  obtain ⟨i, hi⟩ := List.getElem?_of_mem hs
  obtain ⟨t, ht, e, _⟩ := lim_day sm rd hl (List.getElem?_eq_getElem hd) hi
  exact ⟨t, ht, by rw [e, nm_ix sm.ok.nd hi]⟩
theorem eve_in {P : Pl} {S : SL} {R E : List RL} {P' : Pl} (sm : Sml P S) (rd : Rds P S R E) (hl : Laid P S R.length P') {d : Nat} (hd : d < R.length) {k : Str} (hk : k ∈ S.map (·.1)) : ∃ t ∈ P'.st, t.nm = enm (d + 1) (ixs P.kn k) := by
  obtain ⟨b, hb⟩ := rdg_in hk
  have := rd.len
  obtain ⟨t, ht, e, _⟩ := lim_eve sm rd hl (List.getElem?_eq_getElem (show d < E.length by omega)) hb
  exact ⟨t, ht, e⟩
theorem beg_in {P : Pl} {S : SL} {R E : List RL} {P' : Pl} (sm : Sml P S) (rd : Rds P S R E) (hl : Laid P S R.length P') {k : Str} (hk : k ∈ S.map (·.1)) : ∃ t ∈ P'.st, t.nm = enm 0 (ixs P.kn k) := by
  obtain ⟨b, hb⟩ := rdg_in hk
  obtain ⟨t, ht, e, _⟩ := lim_beg sm rd hl hb
  exact ⟨t, ht, e⟩
/-- the numbers that a name has in the flows of the plant laid out -/
def Rng (P : Pl) (S : SL) (R E : List RL) (n : Str) (lo hi : Int) : Prop := (∃ f, Crs P S R E f ∧ f n = lo) ∧ (∃ f, Crs P S R E f ∧ f n = hi) ∧ ∀ f, Crs P S R E f → lo ≤ f n ∧ f n ≤ hi
section
variable {P : Program} {w : World} {K : PySem.W.Frag} {mg : Str → Option Value} {base : Heap}
def sp_range_named (C : Addr) : Sp := fun vs H Q _ => ∃ pv sv rv tv n P S R E, vs = [pv, sv, rv, tv, .str n] ∧ rPl C H pv P ∧ rD rSt H sv S ∧ Sml P S ∧ rL (rD rLim) H rv R ∧ rD rLim H tv (ldL P 1 (R.zip E)) ∧ Rds P S R E ∧ (∀ P', Laid P S R.length P' → ∃ t ∈ P'.st, t.nm = n) ∧
  (∀ H', Same H H' → (¬ ∃ f, Crs P S R E f) → Q .non H') ∧ ∀ a H' lo hi, Same H H' → H' a = some (.tup [.int lo, .int hi]) → Rng P S R E n lo hi → Q (.ref a) H'
theorem ok_range_named (T : Tx K mg) : FnOk P w K mg base CX0 10 T.a_range_named T.d_range_named P_range_named (sp_range_named T.C_Plant) := by
  refine T.F_range_named.ok sc_range_named (fun vs H Q E h => ?_) (fun cdv A outer s H vs Q E hr h => ⟨_, PSs.nox (pss_cons (ps_set (i := 5) sc_range_named.nd rfl (Or.inl rfl) (pe_call (ok_range_of T) (hr.mono (by decide)) rfl T.m_range_of T.F_range_of.kp (b_range_of T) .nil pass0 (pa_cons (pe_call (ok_laid_out T) (hr.mono (by decide)) rfl T.m_laid_out T.F_laid_out.kp (b_laid_out T) .nil pass0 (pa_cons (pv 0) (pa_cons (pv 1) (pa_cons (pe_callB call_len_seq (by rfl) T.n_len (by decide +kernel) (pa_cons (pv 2) pa_nil)) pa_nil)))) (pa_cons (pv 3) (pa_cons (pv 4) pa_nil)))))
    (pss_one (ps_ret (pe_ifExp (pt_cmp (pc_isN (pv 5))) pe_non (pe_tup (pa_cons (pe_fld (pv 5) rfl) (pa_cons (pe_fld (pv 5) rfl) pa_nil))))))), ?_⟩)
  · obtain ⟨_, _, _, _, _, _, _, _, _, rfl, _⟩ := h
    rfl
  · obtain ⟨pv, sv, rv, tv, n, P, S, R, E', rfl, hP, hS, sm, ⟨ra, rxs, rfl, hra, hrx⟩, hT, rd, hn, k1, k2⟩ := h
    refine ⟨_, rfl, _, rfl, _, rfl, ra, rxs, rfl, .inl (SqL.of hra), pv, sv, R.length, P, S, (by rw [paired_len hrx] <;> rfl), hP, hS, sm, rd.two, fun v H1 P' s1 hP' hl => ?_⟩
    obtain ⟨t, ht, en⟩ := hn P' hl
    subst en
    have ok' := hl.ok sm rd.two
    refine ⟨_, rfl, _, rfl, v, tv, P', ldL P 1 (R.zip E'), t, rfl, hP', ok', Mono.same s1 hT, laid_rd sm rd hl, ht, fun H2 s2 hno => ?_, fun a H2 lo hi s2 hra2 hok => ?_⟩
    · refine ⟨_, rfl, true, rfl, ?_⟩
      refine iteT ?_
      exact k1 H2 (s1.trans s2) fun ⟨f, hf⟩ => hno ⟨f, (feas_crs sm rd hl f).mpr hf⟩
    · obtain ⟨p2, dx2, fs2, e2, hp2, hlo, hhi⟩ := hra2
      cases e2
      refine ⟨_, rfl, false, rfl, ?_⟩
      refine iteF ?_
      refine ⟨_, rfl, a, _, dx2, _, _, rfl, hp2, T.c_Range, T.f_Range_low, hlo, _, rfl, a, _, dx2, _, _, rfl, hp2, T.c_Range, T.f_Range_high, hhi, (by show 2 ≤ sizeLine; decide), fun tt htt => ?_⟩
      obtain ⟨⟨g1, h1, h2⟩, ⟨g2, h3, h4⟩, h5⟩ := hok
      exact k2 tt _ lo hi ((s1.trans s2).trans (Same.new htt)) upd_same ⟨⟨g1, (feas_crs sm rd hl g1).mp h1, h2⟩, ⟨g2, (feas_crs sm rd hl g2).mp h3, h4⟩, fun f hf => h5 f ((feas_crs sm rd hl f).mpr hf)⟩
def sp_day_range (C : Addr) : Sp := fun vs H Q _ => ∃ (pv sv rv ev : V) (n : Str) (d : Nat) (P : Pl) (S : SL) (R E : List RL), vs = [pv, sv, rv, ev, .str n, .int ((d : Int) + 1)] ∧ rPl C H pv P ∧ rD rSt H sv S ∧ Sml P S ∧ rL (rD rLim) H rv R ∧ rL (rD rLim) H ev E ∧ Rds P S R E ∧ d < R.length ∧ n ∈ P.names ∧
  (∀ H', Same H H' → (¬ ∃ f, Crs P S R E f) → Q .non H') ∧ ∀ a H' lo hi, Same H H' → H' a = some (.tup [.int lo, .int hi]) → Rng P S R E (dnm (d + 1) "s" (ixs P.names n)) lo hi → Q (.ref a) H'
theorem ok_day_range (T : Tx K mg) : FnOk P w K mg base CX0 11 T.a_day_range T.d_day_range P_day_range (sp_day_range T.C_Plant) := by
  refine T.F_day_range.ok sc_day_range (fun vs H Q E h => ?_) (fun cdv A outer s H vs Q E hr h => ⟨_, PSs.nox (pss_cons (ps_set (i := 6) sc_day_range.nd rfl (Or.inl rfl) (pe_call (ok_laid_readings T) (hr.mono (by decide)) rfl T.m_laid_readings T.F_laid_readings.kp (b_laid_readings T) .nil pass0 (pa_cons (pv 0) (pa_cons (pv 1) (pa_cons (pv 2) (pa_cons (pv 3) pa_nil))))))
    (pss_cons (ps_expr (pe_meth (pv 0) T.c_Plant T.h_Plant_stream_named (ok_Plant_stream_named T) (hr.mono (by decide)) (b_Plant_stream_named T) .nil pass0 (pa_cons (pv 4) pa_nil)))
    (pss_one (ps_ret (pe_call (ok_range_named T) (hr.mono (by decide)) rfl T.m_range_named T.F_range_named.kp (b_range_named T) .nil pass0 (pa_cons (pv 0) (pa_cons (pv 1) (pa_cons (pv 2) (pa_cons (pv 6) (pa_cons (pe_call (ok_day_name T) (hr.mono (by decide)) rfl T.m_day_name T.F_day_name.kp (b_day_name T) .nil pass0 (pa_cons (pv 5) (pa_cons pe_str (pa_cons (pe_bm PySem.F.plainAttrs_list PySem.F.slot_list_index PySem.F.type_list_index mt_index (pe_meth0 (pv 0) T.c_Plant T.h_Plant_stream_names (ok_Plant_stream_names T) (hr.mono (by decide)) (b_Plant_stream_names T) .nil pass0) (pa_cons (pv 4) pa_nil)) pa_nil)))) pa_nil)))))))))), ?_⟩)
  · obtain ⟨_, _, _, _, _, _, _, _, _, _, rfl, _⟩ := h
    rfl
  · obtain ⟨pv, sv, rv, ev, n, d, P, S, R, E', rfl, hP, hS, sm, hR, hE, rd, hd, hn, k1, k2⟩ := h
    have two := rd.two
    have nl := names_len P
    have s3 := sm.s3
    have hlt := ixs_lt hn
    refine ⟨_, rfl, _, rfl, _, rfl, _, rfl, pv, sv, rv, ev, P, S, R, E', rfl, hP, hS, sm, hR, hE, rd, fun a H1 s1 ha => ?_⟩
    obtain ⟨s, hs, rfl⟩ := List.mem_map.mp hn
    obtain ⟨p, dx, ka, sa, rfl, hi, hkn, hst⟩ := id hP
    refine ⟨_, rfl, p, dx, _, rfl, s1 p _ hi, plF_no _ _ (by decide +kernel) (by decide +kernel), _, rfl, _, P, s, rfl, Mono.same s1 hP, sm.ok.nd, hs, fun v H2 s2 _ => ?_⟩
    have s12 := s1.trans s2
    refine ⟨_, rfl, _, rfl, _, rfl, _, rfl, _, rfl, _, rfl, p, dx, _, rfl, s12 p _ hi, plF_no _ _ (by decide +kernel) (by decide +kernel), ⟨_, P, rfl, Mono.same s12 hP, sm.ok.sl, fun l H3 xs hl s3' e3 hx => ?_⟩⟩
    have ex := strs_eq hx
    subst ex
    have s13 := s12.trans s3'
    refine ⟨.inl ⟨rfl, _, SqL.of e3⟩, _, rfl, l, _, _, ixs P.names s.nm, .str s.nm, rfl, rfl, SqL.of e3, rfl, flat_strs _, by rw [List.getElem?_map, ixs_at hn] <;> rfl, (by show (s.nm == s.nm) = true; exact beq_self_eq_true s.nm), fun m z hm hz => ?_, ?_⟩
    · rw [List.getElem?_map] at hz
      cases hy : P.names[m]? with
      | none => rw [hy] at hz; cases hz
      | some y =>
        rw [hy] at hz
        cases hz
        show (y == s.nm) = false
        exact beq_eq_false_iff_ne.mpr (ixs_before hm hy)
    · refine ⟨d + 1, ixs P.names s.nm, "s", rfl, by omega, by omega, .inl rfl, fun w4 H4 s4 hw4 => ?_⟩
      cases hw4
      have s14 := s13.trans s4
      exact ⟨.ref p, sv, rv, .ref a, _, P, S, R, E', rfl, Mono.same s14 hP, Mono.same s14 hS, sm, Mono.same s14 hR, Mono.same ((s2.trans s3').trans s4) ha, rd, fun P' hl => day_in sm rd hl hd hn,
        fun H5 s5 hno => k1 H5 (s14.trans s5) hno, fun b H5 lo hi' s5 hb hr => k2 b H5 lo hi' (s14.trans s5) hb hr⟩
def sp_stock_range (C : Addr) : Sp := fun vs H Q _ => ∃ (pv sv rv ev : V) (n : Str) (d : Nat) (P : Pl) (S : SL) (R E : List RL), vs = [pv, sv, rv, ev, .str n, .int ((d : Int) + 1)] ∧ rPl C H pv P ∧ rD rSt H sv S ∧ Sml P S ∧ rL (rD rLim) H rv R ∧ rL (rD rLim) H ev E ∧ Rds P S R E ∧ d < R.length ∧ n ∈ S.map (·.1) ∧
  (∀ H', Same H H' → (¬ ∃ f, Crs P S R E f) → Q .non H') ∧ ∀ a H' lo hi, Same H H' → H' a = some (.tup [.int lo, .int hi]) → Rng P S R E (enm (d + 1) (ixs P.kn n)) lo hi → Q (.ref a) H'
theorem ok_stock_range (T : Tx K mg) : FnOk P w K mg base CX0 11 T.a_stock_range T.d_stock_range P_stock_range (sp_stock_range T.C_Plant) := by
  refine T.F_stock_range.ok sc_stock_range (fun vs H Q E h => ?_) (fun cdv A outer s H vs Q E hr h => ?_)
  · obtain ⟨_, _, _, _, _, _, _, _, _, _, rfl, _⟩ := h
    rfl
  · have hu := hu_of hr
    refine ⟨_, PSs.nox (pss_cons (ps_set (i := 6) sc_stock_range.nd rfl (Or.inl rfl) (pe_call (ok_laid_readings T) (hr.mono (by decide)) rfl T.m_laid_readings T.F_laid_readings.kp (b_laid_readings T) .nil pass0 (pa_cons (pv 0) (pa_cons (pv 1) (pa_cons (pv 2) (pa_cons (pv 3) pa_nil))))))
    (pss_cons (ps_if (pt_cmp (pc_dnotin hu (pv 4) (pv 1))) (pss_one ps_never) pss_nil)
    (pss_one (ps_ret (pe_call (ok_range_named T) (hr.mono (by decide)) rfl T.m_range_named T.F_range_named.kp (b_range_named T) .nil pass0 (pa_cons (pv 0) (pa_cons (pv 1) (pa_cons (pv 2) (pa_cons (pv 6) (pa_cons (pe_call (ok_evening_name T) (hr.mono (by decide)) rfl T.m_evening_name T.F_evening_name.kp (b_evening_name T) .nil pass0 (pa_cons (pv 0) (pa_cons (pv 5) (pa_cons (pv 4) pa_nil)))) pa_nil)))))))))), ?_⟩
    obtain ⟨pv, sv, rv, ev, n, d, P, S, R, E', rfl, hP, hS, sm, hR, hE, rd, hd, hn, k1, k2⟩ := h
    have two := rd.two
    have k3 := sm.k3
    have hnk := sm.sub n hn
    refine ⟨_, rfl, _, rfl, _, rfl, _, rfl, pv, sv, rv, ev, P, S, R, E', rfl, hP, hS, sm, hR, hE, rd, fun a H1 s1 ha => ?_⟩
    obtain ⟨sd, sks, rfl, hsd, hsk⟩ := id hS
    obtain ⟨v, _, _, hg, _⟩ := get_some (rd_same s1 hsd) (dpair_mono (Ext.of s1) hsk) sm.snd hn
    refine ⟨_, rfl, _, rfl, sd, _, rfl, hg, false, rfl, ?_⟩
    refine iteF ?_
    refine ⟨_, rfl, _, rfl, _, rfl, _, rfl, _, rfl, _, rfl, _, rfl, pv, d + 1, n, P, rfl, Mono.same s1 hP, by omega, hnk, k3, fun w4 H4 s4 hw4 => ?_⟩
    cases hw4
    have s14 := s1.trans s4
    exact ⟨pv, .ref sd, rv, .ref a, _, P, S, R, E', rfl, Mono.same s14 hP, Mono.same s14 hS, sm, Mono.same s14 hR, Mono.same s4 ha, rd, fun P' hl => eve_in sm rd hl hd hn,
      fun H5 s5 hno => k1 H5 (s14.trans s5) hno, fun b H5 lo hi' s5 hb hr => k2 b H5 lo hi' (s14.trans s5) hb hr⟩
end
end Mx

set_option Elab.async false
set_option linter.all false
set_option maxRecDepth 100000
set_option maxHeartbeats 2000000
/-! course. -/
namespace Mx
open PySem PySem.Spec PyProof.Rows L2
def skeys (S : SL) : List Str := S.map (·.1)
def dayD (P : Pl) (f : Str → Int) (d : Nat) : List (Str × Int) := kdict P.names (dayF P f d)
def eveD (P : Pl) (S : SL) (f : Str → Int) (d : Nat) : List (Str × Int) := kdict (skeys S) fun k => f (enm d (ixs P.kn k))
theorem dayD_zip {P : Pl} (nd : P.names.Nodup) (f : Str → Int) (d : Nat) : (P.names.zipIdx.map fun b => (b.1, f (dnm d "s" b.2))) = dayD P f d := by
  unfold dayD kdict dayF
  have e : (P.names.zipIdx.map fun b => (b.1, f (dnm d "s" b.2))) = P.names.zipIdx.map ((fun k => (k, f (dnm d "s" (ixs P.names k)))) ∘ Prod.fst) := by
    refine List.map_congr_left fun b hb => ?_
    have := List.mem_zipIdx_iff_getElem?.mp hb
    show (b.1, f (dnm d "s" b.2)) = (b.1, f (dnm d "s" (ixs P.names b.1)))
    rw [ixs_eq nd this]
  rw [e, ← List.map_map, List.zipIdx_map_fst]
/-- the two lists while they grow -/
structure Cs (H : Hp) (D1 D2 : Addr) (l1 l2 : List (List (Str × Int))) (G : Hp) : Prop where
  same : Same H G
  d1 : ∃ xs, G D1 = some (.lst xs) ∧ Paired (rD rInt G) xs l1
  d2 : ∃ xs, G D2 = some (.lst xs) ∧ Paired (rD rInt G) xs l2
theorem Cs.grow {H : Hp} {D1 D2 : Addr} {l1 l2 : List (List (Str × Int))} {G G' : Hp} (c : Cs H D1 D2 l1 l2 G) (s : Same G G') : Cs H D1 D2 l1 l2 G' :=
  ⟨c.same.trans s, let ⟨xs, h1, h2⟩ := c.d1; ⟨xs, s _ _ h1, paired_mono (Ext.of s) h2⟩, let ⟨xs, h1, h2⟩ := c.d2; ⟨xs, s _ _ h1, paired_mono (Ext.of s) h2⟩⟩
theorem Cs.app1 {H : Hp} {D1 D2 : Addr} {l1 l2 : List (List (Str × Int))} {G : Hp} (c : Cs H D1 D2 l1 l2 G) (n : D1 ≠ D2) (f : H D1 = none) {xs : List V} (h : G D1 = some (.lst xs)) {v : V} {y : List (Str × Int)} (hv : rD rInt G v y) : Cs H D1 D2 (l1 ++ [y]) l2 (upd G D1 (.lst (xs ++ [v]))) := by
  obtain ⟨ys, h1, h2⟩ := c.d1
  rw [h] at h1
  cases h1
  obtain ⟨zs, h3, h4⟩ := c.d2
  have x := ExtN.upd (o := .lst (xs ++ [v])) h
  exact ⟨Same.mut c.same f, ⟨_, upd_same, paired_snoc (paired_noL x h2) (NoL.mono x hv)⟩, zs, by rw [upd_ne n.symm]; exact h3, paired_noL x h4⟩
theorem Cs.app2 {H : Hp} {D1 D2 : Addr} {l1 l2 : List (List (Str × Int))} {G : Hp} (c : Cs H D1 D2 l1 l2 G) (n : D1 ≠ D2) (f : H D2 = none) {xs : List V} (h : G D2 = some (.lst xs)) {v : V} {y : List (Str × Int)} (hv : rD rInt G v y) : Cs H D1 D2 l1 (l2 ++ [y]) (upd G D2 (.lst (xs ++ [v]))) := by
  obtain ⟨ys, h1, h2⟩ := c.d2
  rw [h] at h1
  cases h1
  obtain ⟨zs, h3, h4⟩ := c.d1
  have x := ExtN.upd (o := .lst (xs ++ [v])) h
  exact ⟨Same.mut c.same f, ⟨zs, by rw [upd_ne n]; exact h3, paired_noL x h4⟩, _, upd_same, paired_snoc (paired_noL x h2) (NoL.mono x hv)⟩
section
variable {P : Program} {w : World} {K : PySem.W.Frag} {mg : Str → Option Value} {base : Heap}
def sp_course (C Cc : Addr) : Sp := fun vs H Q _ => ∃ pv sv rv ev P S R E, vs = [pv, sv, rv, ev] ∧ rPl C H pv P ∧ rD rSt H sv S ∧ Sml P S ∧ rL (rD rLim) H rv R ∧ rL (rD rLim) H ev E ∧ Rds P S R E ∧
  (∀ H', Same H H' → (¬ ∃ f, Crs P S R E f) → Q .non H') ∧ ∀ a H' f, Same H H' → rCo Cc H' (.ref a) ((List.range R.length).map fun d => dayD P f (d + 1), (List.range R.length).map fun d => eveD P S f (d + 1)) → Crs P S R E f → Q (.ref a) H'
theorem ok_course (T : Tx K mg) : FnOk P w K mg base CX0 9 T.a_course T.d_course P_course (sp_course T.C_Plant T.C_Course) := by
  refine T.F_course.ok sc_course (fun vs H Q E h => ?_) (fun cdv A outer s H vs Q E hr h => ?_)
  · obtain ⟨_, _, _, _, _, _, _, _, rfl, _⟩ := h
    rfl
  · have hu := hu_of hr
    refine ⟨_, PSs.nox (pss_cons (ps_set (i := 4) sc_course.nd rfl (Or.inl rfl) (pe_call (ok_laid_readings T) (hr.mono (by decide)) rfl T.m_laid_readings T.F_laid_readings.kp (b_laid_readings T) .nil pass0 (pa_cons (pv 0) (pa_cons (pv 1) (pa_cons (pv 2) (pa_cons (pv 3) pa_nil))))))
    (pss_cons (ps_set (i := 5) sc_course.nd rfl (Or.inl rfl) (pe_callB call_len_seq (by rfl) T.n_len (by decide +kernel) (pa_cons (pv 2) pa_nil)))
    (pss_cons (ps_set (i := 6) sc_course.nd rfl (Or.inr rfl) (pe_call (ok_flows_of T) (hr.mono (by decide)) rfl T.m_flows_of T.F_flows_of.kp (b_flows_of T) .nil pass0 (pa_cons (pe_call (ok_laid_out T) (hr.mono (by decide)) rfl T.m_laid_out T.F_laid_out.kp (b_laid_out T) .nil pass0 (pa_cons (pv 0) (pa_cons (pv 1) (pa_cons (pv 5) pa_nil)))) (pa_cons (pv 4) pa_nil))))
    (pss_cons (ps_if (pt_cmp (pc_isN (pv 6))) (pss_one (ps_ret pe_non)) pss_nil)
    (pss_cons (ps_set (i := 7) sc_course.nd rfl (Or.inl rfl) (pe_meth0 (pv 0) T.c_Plant T.h_Plant_stream_names (ok_Plant_stream_names T) (hr.mono (by decide)) (b_Plant_stream_names T) .nil pass0))
    (pss_cons (ps_set (i := 8) sc_course.nd rfl (Or.inl rfl) (pe_lst pa_nil))
    (pss_cons (ps_set (i := 9) sc_course.nd rfl (Or.inl rfl) (pe_lst pa_nil))
    (pss_cons (ps_for PassesOwn.never rfl (pi_range2 rfl T.n_range (pa_cons pe_int (pa_cons (pe_op op_add (pv 5) pe_int) pa_nil))) (pg_name (i := 10) sc_course.nd rfl (Or.inr rfl))
    (pss_cons (ps_expr (pe_bm PySem.F.plainAttrs_list PySem.F.slot_list_append PySem.F.type_list_append mt_append (pv 8) (pa_cons (pe_dc (own := [("place", 12), ("name", 13)]) rfl sc_course.nd (pi_enum rfl T.n_enumerate (pa_cons (pv 7) pa_nil)) (blkOk_by (own := [("place", 12), ("name", 13)]) (N := N_course) (sc := defScope s_course) (by decide +kernel)) (fun _ _ _ _ _ => (pg_tupK (K := K) (n := 2) rfl (pg_tup rfl (pgs_cons (pg_name (i := 12) sc_course.nd rfl (Or.inl rfl)) (pgs_cons (pg_name (i := 13) sc_course.nd rfl (Or.inl rfl)) pgs_nil))))) (fun _ _ _ _ _ => pts_nil) (fun _ _ _ _ _ => (pv 13)) (fun _ _ _ _ _ => (pe_dget hu (pv 6) (pe_call (ok_day_name T) (hr.mono (by decide)) rfl T.m_day_name T.F_day_name.kp (b_day_name T) .nil pass0 (pa_cons (pv 10) (pa_cons pe_str (pa_cons (pv 12) pa_nil)))) (fun _ _ => rfl)))) pa_nil)))
    (pss_one (ps_expr (pe_bm PySem.F.plainAttrs_list PySem.F.slot_list_append PySem.F.type_list_append mt_append (pv 9) (pa_cons (pe_lockR (pe_dc (own := [("knot", 11)]) rfl sc_course.nd (pi_keys (pv 1)) (blkOk_by (own := [("knot", 11)]) (N := N_course) (sc := defScope s_course) (by decide +kernel)) (fun _ _ _ _ _ => (pg_name (i := 11) sc_course.nd rfl (Or.inl rfl))) (fun _ _ _ _ _ => pts_nil) (fun _ _ _ _ _ => (pv 11)) (fun _ _ _ _ _ => (pe_dget hu (pv 6) (pe_call (ok_evening_name T) (hr.mono (by decide)) rfl T.m_evening_name T.F_evening_name.kp (b_evening_name T) .nil pass0 (pa_cons (pv 0) (pa_cons (pv 10) (pa_cons (pv 11) pa_nil)))) (fun _ _ => rfl))))) pa_nil))))))
    (pss_one (ps_ret (pe_make T.k_Course (ok_Course_init T) (hr.mono (by decide)) rfl T.m_Course (b_Course_init T) .nil pass0 (pa_cons (pv 8) (pa_cons (pv 9) pa_nil))))))))))))), ?_⟩
    obtain ⟨pv, sv, rv, ev, P, S, R, E', rfl, hP, hS, sm, hR, hE, rd, k1, k2⟩ := h
    obtain ⟨p, dx, ka, sa, rfl, hi, hkn, hst⟩ := id hP
    obtain ⟨sd, sks, rfl, hsd, hsk⟩ := id hS
    obtain ⟨ra, rxs, rfl, hra, hrx⟩ := id hR
    obtain ⟨ea, exs, rfl, hea, hex⟩ := id hE
    have two := rd.two
    have nl := names_len P
    have s3 := sm.s3
    have k3 := sm.k3
    have l3 := sm.len
    have sz := sizeLine_eq
    rw [show L2.start N_course [V.ref p, V.ref sd, V.ref ra, V.ref ea] = [some (V.ref p), some (V.ref sd), some (V.ref ra), some (V.ref ea), none, none, none, none, none, none, none, none, none, none] from rfl]
    refine ⟨_, rfl, _, rfl, _, rfl, _, rfl, .ref p, .ref sd, .ref ra, .ref ea, P, S, R, E', rfl, hP, hS, sm, hR, hE, rd, fun ta H1 s1 hta => ?_⟩
    dsimp only [gName, List.set_cons_zero, List.set_cons_succ]
    refine ⟨_, rfl, ra, rxs, rfl, .inl (SqL.of (s1 ra _ hra)), ?_⟩
    dsimp only [gName, List.set_cons_zero, List.set_cons_succ]
    rw [paired_len hrx]
    refine ⟨_, rfl, _, rfl, _, rfl, .ref p, .ref sd, R.length, P, S, rfl, Mono.same s1 hP, Mono.same s1 hS, sm, two, fun v H2 P' s2 hP' hl => ?_⟩
    have s12 := s1.trans s2
    have ok' := hl.ok sm two
    refine ⟨_, rfl, v, .ref ta, P', _, rfl, hP', ok', Mono.same s2 hta, laid_rd sm rd hl, fun H3 s3' hno => ?_, fun fa H3 f s3' hf hfe => ?_⟩
    · dsimp only [gName, List.set_cons_zero, List.set_cons_succ]
      refine ⟨_, rfl, true, rfl, ?_⟩
      refine iteT ?_
      exact k1 H3 (s12.trans s3') fun ⟨f, hf⟩ => hno ⟨f, (feas_crs sm rd hl f).mpr hf⟩
    · have crs := (feas_crs sm rd hl f).mp hfe
      dsimp only [gName, List.set_cons_zero, List.set_cons_succ]
      refine ⟨_, rfl, false, rfl, ?_⟩
      refine iteF ?_
      have s13 := s12.trans s3'
      obtain ⟨_, fks, ef, hfa, hfk⟩ := hf
      cases ef
      refine ⟨_, rfl, p, dx, _, rfl, s13 p _ hi, plF_no _ _ (by decide +kernel) (by decide +kernel), ⟨_, P, rfl, Mono.same s13 hP, sm.ok.sl, fun l H4 xs hl' s4 e4 hx => ?_⟩⟩
      have ex := strs_eq hx
      subst ex
      dsimp only [gName, List.set_cons_zero, List.set_cons_succ]
      have s14 := s13.trans s4
      refine ⟨(by show 0 ≤ sizeLine; exact Nat.zero_le _), fun D1 hD1 => ?_⟩
      dsimp only [gName, List.set_cons_zero, List.set_cons_succ]
      have sD1 := Same.new (o := .lst []) hD1
      refine ⟨(by show 0 ≤ sizeLine; exact Nat.zero_le _), fun D2 hD2 => ?_⟩
      dsimp only [gName, List.set_cons_zero, List.set_cons_succ]
      have sD2 := Same.new (o := .lst []) hD2
      have n12 : D1 ≠ D2 := ne_of_none (H := upd H4 D1 (.lst [])) upd_same hD2
      have f2 : H4 D2 = none := by
        cases z : H4 D2 with
        | none => rfl
        | some u => rw [sD1 D2 u z] at hD2; cases hD2
      have c0 : Cs H4 D1 D2 [] [] (upd (upd H4 D1 (.lst [])) D2 (.lst [])) := ⟨sD1.trans sD2, ⟨[], by rw [upd_ne n12, upd_same], .nil⟩, [], upd_same, .nil⟩
      have hfa4 : Rd H4 fa (.dK fks) := rd_same s4 hfa
      have hfk4 : DPr rInt H4 fks (kdict P'.names f) := dpair_mono (Ext.of s4) hfk
      have ndk : ((kdict P'.names f).map (·.1)).Nodup := by rw [kdict_keys]; exact ok'.nd
      refine ⟨_, rfl, _, _, rfl, rfl, 1, (R.length : Int) + 1, rfl, ⟨by omega, by omega, by omega, by omega⟩, ?_⟩
      rw [show ((R.length : Int) + 1 - 1).toNat = R.length from by omega]
      refine for_it (walk_range) (fun i σ G => Cs H4 D1 D2 ((List.range i).map fun d => dayD P f (d + 1)) ((List.range i).map fun d => eveD P S f (d + 1)) G ∧ ∃ a b c e, σ = [some (.ref p), some (.ref sd), some (.ref ra), some (.ref ea), some (.ref ta), some (.int (R.length : Int)), some (.ref fa), some (.ref l), some (.ref D1), some (.ref D2), a, b, c, e])
        ⟨c0, _, _, _, _, rfl⟩ (fun _ _ _ _ _ => trivial) ?_ ?_
      · rintro i x σ G G' hi' ⟨cs, _, _, _, _, rfl⟩ ⟨rfl, rfl⟩
        dsimp only [gName, List.set_cons_zero, List.set_cons_succ]
        have ed : (1 : Int) + ((i : Nat) : Int) = (((i + 1 : Nat)) : Int) := by omega
        rw [ed]
        obtain ⟨xs1, hx1, hpx1⟩ := cs.d1
        have hlG := cs.same l _ e4
        refine ⟨_, rfl, .inl ⟨rfl, _, SqL.of hx1⟩, _, rfl, l, _, rfl, SqL.of hlG, fun D hD => dc_gen (A := rInt) (B := fun H v (b : Str × Nat) => ∃ T, v = .ref T ∧ H T = some (.tup [.int ((b.2 : Nat) : Int), .str b.1])) (walk_enum (K := K)) P.names.zipIdx (by rw [List.length_zipIdx, List.length_map]) (by rw [List.length_map]; omega) hD (fun H5 s5 => SqL.of (s5 l _ hlG)) ?_ (·.1) (fun b => f (dnm (i + 1) "s" b.2)) (by rw [List.zipIdx_map_fst]; exact sm.ok.nd) ?_ ?_⟩
        · rintro j H5 x H6 ⟨n, m⟩ hb s5 ⟨T0, x1, y1, rfl, hT0, rfl, hx, hy⟩
          cases hx
          have hb' := List.mem_zipIdx_iff_getElem?.mp (List.mem_of_getElem? hb)
          rw [List.getElem?_zipIdx] at hb
          have hm : m = j := by
            cases q : P.names[j]? with
            | none => rw [q] at hb; cases hb
            | some z => rw [q] at hb; simp at hb; exact hb.2.symm
          have hn : P.names[j]? = some n := by rw [← hm]; exact hb'
          have hy' : (P.names.map V.str)[j]? = some y1 := hy
          rw [List.getElem?_map, hn] at hy'
          cases hy'
          exact ⟨Same.new hT0, T0, rfl, by rw [upd_same, hm]⟩
        · rintro j ⟨n, m⟩ x H' hb s5 ⟨T0, rfl, hT0⟩ Ks Kc kt
          have hb' := List.mem_zipIdx_iff_getElem?.mp (List.mem_of_getElem? hb)
          have hb' : P.names[m]? = some n := hb'
          have hmlt := (List.getElem?_eq_some_iff.mp hb').1
          have hnm := List.mem_of_getElem? hb'
          refine ⟨T0, _, rfl, SqT.of hT0, rfl, _, _, rfl, _, _, rfl, rfl, ?_⟩
          refine ⟨rfl, yesT (iteT ?_)⟩
          refine ⟨_, rfl, _, rfl, _, rfl, _, rfl, i + 1, m, "s", rfl, by omega, by omega, .inl rfl, fun w9 G9 s9 hw9 => ?_⟩
          cases hw9
          obtain ⟨t, ht, et⟩ := day_in sm rd hl hi' hnm
          rw [ixs_eq sm.ok.nd hb'] at et
          have s49 := (cs.same.trans s5).trans s9
          obtain ⟨v9, hg9, rfl⟩ := get_in (rd_same s49 hfa4) (dpair_mono (Ext.of s49) hfk4) ndk (kdict_mem (f := f) (k := dnm (i + 1) "s" m) (List.mem_map.mpr ⟨t, ht, et⟩))
          exact ⟨fa, _, rfl, hg9, kt _ _ s9 rfl⟩
        · intro G5 ks5 s5 hD5 hp5
          rw [dayD_zip sm.ok.nd] at hp5
          have cs5 := cs.grow s5
          refine ⟨D1, xs1, _, rfl, rfl, s5 D1 _ hx1, (by rw [paired_len hpx1, List.length_map, List.length_range]; omega), ?_⟩
          have cs6 := cs5.app1 n12 hD1 (s5 D1 _ hx1) (v := .ref D) (y := dayD P f (i + 1)) ⟨D, ks5, rfl, .inl hD5, hp5⟩
          generalize upd G5 D1 (.lst (xs1 ++ [.ref D])) = G6 at cs6
          obtain ⟨xs2, hx2, hpx2⟩ := cs6.d2
          have s46 := s14.trans cs6.same
          refine ⟨_, rfl, .inl ⟨rfl, _, SqL.of hx2⟩, ?_⟩
          refine ⟨sd, sks, rd_same s46 hsd, fun od G7 h7 hb7 => ?_⟩
          refine ⟨_, rfl, sd, od, rfl, .inl ⟨sks, h7, fun D' hD' => ?_⟩⟩
          have ekl : sks.length = S.length := paired_len hsk
          have x67 : Ext G6 G7 := Ext.lock (rd_same s46 hsd) h7 hb7
          refine dc_gen (A := rInt) (B := rStr) walk_keys (skeys S) (by unfold skeys; rw [List.length_map, ekl]) (by omega) hD' (fun H8 s8 => s8 sd _ h7) (keys_y hsk) (fun b => b) (fun b => f (enm (i + 1) (ixs P.kn b))) (by rw [List.map_id']; exact sm.snd) ?_ ?_
          · rintro j b x H' hb s8 rfl Ks Kc kt
            have hbm : b ∈ S.map (·.1) := List.mem_of_getElem? hb
            refine ⟨rfl, yesT (iteT ?_)⟩
            have xx := (Ext.of s46).trans (x67.trans (Ext.of s8))
            refine ⟨_, rfl, _, rfl, _, rfl, _, rfl, _, rfl, .ref p, i + 1, b, P, rfl, Mono.mono xx hP, by omega, sm.sub b hbm, k3, fun w9 G9 s9 hw9 => ?_⟩
            cases hw9
            obtain ⟨t, ht, et⟩ := eve_in sm rd hl hi' hbm
            have x49 := ((Ext.of cs6.same).trans x67).trans ((Ext.of s8).trans (Ext.of s9))
            obtain ⟨v9, hg9, rfl⟩ := get_in (x49.dk fa _ hfa4) (dpair_mono x49 hfk4) ndk (kdict_mem (f := f) (k := enm (i + 1) (ixs P.kn b)) (List.mem_map.mpr ⟨t, ht, et⟩))
            exact ⟨fa, _, rfl, hg9, kt _ _ s9 rfl⟩
          · intro G8 ks8 s8 hD8 hp8
            refine ⟨s8 sd _ h7, fun G9 h9 hb9 => ?_⟩
            have s69 : Same G6 G9 := Same.unlock hb7 s8 h9 hb9
            have nDd : D' ≠ sd := fun z => by rw [z, h7] at hD'; cases hD'
            have cs9 := cs6.grow s69
            have hD9 : G9 D' = some (.dK ks8) := by rw [hb9 D' nDd]; exact hD8
            refine ⟨D2, xs2, _, rfl, rfl, s69 D2 _ hx2, (by rw [paired_len hpx2, List.length_map, List.length_range]; omega), ?_⟩
            have csA := cs9.app2 n12 f2 (s69 D2 _ hx2) (v := .ref D') (y := eveD P S f (i + 1)) ⟨D', ks8, rfl, .inl hD9, dp_tu (fun a xs q => by rw [hb9 a (fun z => by subst z; rw [s8 a _ h7] at q; cases q)]; exact q) hp8⟩
            refine ⟨?_, _, _, _, _, rfl⟩
            rw [List.range_succ, List.map_append, List.map_append]
            exact csA
      · rintro σ G ⟨cs, _, _, _, _, rfl⟩
        obtain ⟨xs1, hx1, hpx1⟩ := cs.d1
        obtain ⟨xs2, hx2, hpx2⟩ := cs.d2
        have sG := s14.trans cs.same
        refine ⟨_, rfl, _, rfl, fun x dxx hx hdx hne => ?_⟩
        have sx := (Same.new (o := .own x) hdx).trans (Same.new (o := .ins T.C_Course dxx []) (by rw [upd_ne hne.symm]; exact hx))
        refine ⟨x, dxx, .ref D1, .ref D2, _, _, rfl, upd_same, ⟨D1, xs1, rfl, sx D1 _ hx1, paired_mono (Ext.of sx) hpx1⟩, ⟨D2, xs2, rfl, sx D2 _ hx2, paired_mono (Ext.of sx) hpx2⟩, (by rw [List.length_map, List.length_range]; omega), (by rw [List.length_map, List.length_range]; omega), fun H' hco hold => ⟨rfl, ?_⟩⟩
        refine k2 x H' f (fun b o e => ?_) hco crs
        have e1 := sG b o e
        refine hold b o ?_ (sx b o e1)
        intro z
        subst z
        rw [hx] at e1
        cases e1
end
end Mx

set_option Elab.async false
set_option linter.all false
set_option maxRecDepth 100000
set_option maxHeartbeats 2000000
/-! is_course. -/
namespace Mx
open PySem PySem.Spec PyProof.Rows L2
/-- the names that have flows so far: all of the first i days, j streams and m stores of the next one -/
def Nms (P : Pl) (S : SL) (i j m : Nat) (x : Str) : Prop :=
  (∃ k ∈ skeys S, x = enm 0 (ixs P.kn k)) ∨ (∃ d, d < i ∧ ∃ n ∈ P.names, x = dnm (d + 1) "s" (ixs P.names n)) ∨ (∃ d, d < i ∧ ∃ k ∈ skeys S, x = enm (d + 1) (ixs P.kn k)) ∨
  (∃ n ∈ P.names.take j, x = dnm (i + 1) "s" (ixs P.names n)) ∨ ∃ k ∈ (skeys S).take m, x = enm (i + 1) (ixs P.kn k)
structure Kl (P : Pl) (S : SL) (f : Str → Int) (i j m : Nat) (K : List Str) : Prop where
  nd : K.Nodup
  mem : ∀ x, x ∈ K ↔ Nms P S i j m x
  len : K.length ≤ 40
theorem not_day {P : Pl} {S : SL} (sm : Sml P S) {i j : Nat} (hi : i < 2) {n : Str} (hn : P.names[j]? = some n) : ¬ Nms P S i j 0 (dnm (i + 1) "s" (ixs P.names n)) := by
  have s3 := sm.s3
  have k3 := sm.k3
  have nl := names_len P
  have hnm := List.mem_of_getElem? hn
  have hlt := ixs_lt hnm
  have hsg : ("s" : Str) ∈ (["s", "k"] : List Str) := List.mem_cons_self
  rintro (⟨k, hk, e⟩ | ⟨d, hd, n', hn', e⟩ | ⟨d, hd, k, hk, e⟩ | ⟨n', hn', e⟩ | ⟨k, hk, e⟩)
  · have := ixs_lt (sm.sub k hk)
    exact dnm_enm _ (by omega) _ (by omega) 0 (by omega) _ (by omega) e
  · have := ixs_lt hn'
    have := (dnm_inj _ (by omega) _ (by omega) (d + 1) (by omega) _ (by omega) "s" hsg e).1
    omega
  · have := ixs_lt (sm.sub k hk)
    exact dnm_enm _ (by omega) _ (by omega) (d + 1) (by omega) _ (by omega) e
  · have hm' := List.mem_of_mem_take hn'
    have := ixs_lt hm'
    have e2 := (dnm_inj _ (by omega) _ (by omega) (i + 1) (by omega) _ (by omega) "s" hsg e).2
    have e3 := ixs_inj hnm hm' e2
    obtain ⟨q, hq⟩ := List.getElem?_of_mem hn'
    have hqj : q < j := by
      have := (List.getElem?_eq_some_iff.mp hq).1
      rw [List.length_take] at this
      omega
    rw [List.getElem?_take_of_lt hqj] at hq
    have := nd_ix sm.ok.nd (x := n) hn (by rw [e3]; exact hq)
    omega
  · rw [List.take_zero] at hk
    cases hk
theorem not_eve {P : Pl} {S : SL} (sm : Sml P S) {i j m : Nat} (hi : i < 2) {n : Str} (hn : (skeys S)[m]? = some n) : ¬ Nms P S i j m (enm (i + 1) (ixs P.kn n)) := by
  have s3 := sm.s3
  have k3 := sm.k3
  have nl := names_len P
  have hnm := sm.sub n (List.mem_of_getElem? hn)
  have hlt := ixs_lt hnm
  rintro (⟨k, hk, e⟩ | ⟨d, hd, n', hn', e⟩ | ⟨d, hd, k, hk, e⟩ | ⟨n', hn', e⟩ | ⟨k, hk, e⟩)
  · have := ixs_lt (sm.sub k hk)
    have := (enm_inj _ (by omega) _ (by omega) 0 (by omega) _ (by omega) e).1
    omega
  · have := ixs_lt hn'
    exact dnm_enm (d + 1) (by omega) _ (by omega) _ (by omega) _ (by omega) e.symm
  · have := ixs_lt (sm.sub k hk)
    have := (enm_inj _ (by omega) _ (by omega) (d + 1) (by omega) _ (by omega) e).1
    omega
  · have := ixs_lt (List.mem_of_mem_take hn')
    exact dnm_enm (i + 1) (by omega) _ (by omega) _ (by omega) _ (by omega) e.symm
  · have hm' := sm.sub k (List.mem_of_mem_take hk)
    have := ixs_lt hm'
    have e2 := (enm_inj _ (by omega) _ (by omega) (i + 1) (by omega) _ (by omega) e).2
    have e3 := ixs_inj hnm hm' e2
    obtain ⟨q, hq⟩ := List.getElem?_of_mem hk
    have hqj : q < m := by
      have := (List.getElem?_eq_some_iff.mp hq).1
      rw [List.length_take] at this
      omega
    rw [List.getElem?_take_of_lt hqj] at hq
    have := nd_ix sm.snd (x := n) hn (by rw [e3]; exact hq)
    omega
theorem Kl.snoc {P : Pl} {S : SL} {f : Str → Int} {i j m j' m' : Nat} {K : List Str} {x : Str} (h : Kl P S f i j m K) (hx : ¬ Nms P S i j m x) (hm : ∀ y, Nms P S i j' m' y ↔ Nms P S i j m y ∨ y = x) (hl : K.length < 40) : Kl P S f i j' m' (K ++ [x]) := by
  refine ⟨List.nodup_append.mpr ⟨h.nd, List.nodup_cons.mpr ⟨List.not_mem_nil, List.nodup_nil⟩, fun a ha b hb => ?_⟩, fun y => ?_, by rw [List.length_append]; exact hl⟩
  · rintro rfl
    rw [List.mem_singleton.mp hb] at ha
    exact hx ((h.mem x).mp ha)
  · rw [List.mem_append, hm, h.mem y, List.mem_singleton]
theorem Nms.day {P : Pl} {S : SL} {i j : Nat} {n : Str} (hn : P.names[j]? = some n) (y : Str) : Nms P S i (j + 1) 0 y ↔ Nms P S i j 0 y ∨ y = dnm (i + 1) "s" (ixs P.names n) := by
  have et : P.names.take (j + 1) = P.names.take j ++ [n] := by
    rw [List.take_add_one, hn]
    rfl
  unfold Nms
  rw [et]
  constructor
  · rintro (h | h | h | ⟨n', hn', e⟩ | h)
    · exact .inl (.inl h)
    · exact .inl (.inr (.inl h))
    · exact .inl (.inr (.inr (.inl h)))
    · rcases List.mem_append.mp hn' with h | h
      · exact .inl (.inr (.inr (.inr (.inl ⟨n', h, e⟩))))
      · rw [List.mem_singleton.mp h] at e
        exact .inr e
    · exact .inl (.inr (.inr (.inr (.inr h))))
  · rintro ((h | h | h | ⟨n', hn', e⟩ | h) | h)
    · exact .inl h
    · exact .inr (.inl h)
    · exact .inr (.inr (.inl h))
    · exact .inr (.inr (.inr (.inl ⟨n', List.mem_append.mpr (.inl hn'), e⟩)))
    · exact .inr (.inr (.inr (.inr h)))
    · exact .inr (.inr (.inr (.inl ⟨n, List.mem_append.mpr (.inr (List.mem_singleton.mpr rfl)), h⟩)))
theorem Nms.eve {P : Pl} {S : SL} {i j m : Nat} {n : Str} (hn : (skeys S)[m]? = some n) (y : Str) : Nms P S i j (m + 1) y ↔ Nms P S i j m y ∨ y = enm (i + 1) (ixs P.kn n) := by
  have et : (skeys S).take (m + 1) = (skeys S).take m ++ [n] := by
    rw [List.take_add_one, hn]
    rfl
  unfold Nms
  rw [et]
  constructor
  · rintro (h | h | h | h | ⟨n', hn', e⟩)
    · exact .inl (.inl h)
    · exact .inl (.inr (.inl h))
    · exact .inl (.inr (.inr (.inl h)))
    · exact .inl (.inr (.inr (.inr (.inl h))))
    · rcases List.mem_append.mp hn' with h | h
      · exact .inl (.inr (.inr (.inr (.inr ⟨n', h, e⟩))))
      · rw [List.mem_singleton.mp h] at e
        exact .inr e
  · rintro ((h | h | h | h | ⟨n', hn', e⟩) | h)
    · exact .inl h
    · exact .inr (.inl h)
    · exact .inr (.inr (.inl h))
    · exact .inr (.inr (.inr (.inl h)))
    · exact .inr (.inr (.inr (.inr ⟨n', List.mem_append.mpr (.inl hn'), e⟩)))
    · exact .inr (.inr (.inr (.inr ⟨n, List.mem_append.mpr (.inr (List.mem_singleton.mpr rfl)), h⟩)))
theorem Nms.next {P : Pl} {S : SL} {i : Nat} (y : Str) : Nms P S (i + 1) 0 0 y ↔ Nms P S i P.names.length (skeys S).length y := by
  unfold Nms
  rw [List.take_length, List.take_length, List.take_zero, List.take_zero]
  constructor
  · rintro (h | ⟨d, hd, h⟩ | ⟨d, hd, h⟩ | ⟨_, h, _⟩ | ⟨_, h, _⟩)
    · exact .inl h
    · by_cases e : d = i
      · subst e
        exact .inr (.inr (.inr (.inl h)))
      · exact .inr (.inl ⟨d, by omega, h⟩)
    · by_cases e : d = i
      · subst e
        exact .inr (.inr (.inr (.inr h)))
      · exact .inr (.inr (.inl ⟨d, by omega, h⟩))
    · cases h
    · cases h
  · rintro (h | ⟨d, hd, h⟩ | ⟨d, hd, h⟩ | h | h)
    · exact .inl h
    · exact .inr (.inl ⟨d, by omega, h⟩)
    · exact .inr (.inr (.inl ⟨d, by omega, h⟩))
    · exact .inr (.inl ⟨i, by omega, h⟩)
    · exact .inr (.inr (.inl ⟨i, by omega, h⟩))
theorem Nms.all {P : Pl} {S : SL} {R E : List RL} {P' : Pl} (sm : Sml P S) (rd : Rds P S R E) (hl : Laid P S R.length P') (x : Str) : Nms P S R.length 0 0 x ↔ x ∈ P'.names := by
  obtain ⟨ys, hy, hp⟩ := hl.st
  constructor
  · rintro (⟨k, hk, rfl⟩ | ⟨d, hd, n, hn, rfl⟩ | ⟨d, hd, k, hk, rfl⟩ | ⟨_, h, _⟩ | ⟨_, h, _⟩)
    · obtain ⟨t, ht, e⟩ := beg_in sm rd hl hk
      exact List.mem_map.mpr ⟨t, ht, e⟩
    · obtain ⟨t, ht, e⟩ := day_in sm rd hl hd hn
      exact List.mem_map.mpr ⟨t, ht, e⟩
    · obtain ⟨t, ht, e⟩ := eve_in sm rd hl hd hk
      exact List.mem_map.mpr ⟨t, ht, e⟩
    · rw [List.take_zero] at h; cases h
    · rw [List.take_zero] at h; cases h
  · intro h
    obtain ⟨t, ht, rfl⟩ := List.mem_map.mp h
    rcases lSt_mem (hp.mem_iff.mp ht) with ⟨d, i, s, hd, hi, rfl⟩ | ⟨d, k, hd, hk, rfl⟩
    · refine .inr (.inl ⟨d, hd, s.nm, List.mem_map.mpr ⟨s, List.mem_of_getElem? hi, rfl⟩, ?_⟩)
      rw [nm_ix sm.ok.nd hi]
    · have hk' := hy.mem_iff.mp hk
      match d, hd with
      | 0, _ => exact .inl ⟨k, hk', rfl⟩
      | d + 1, hd => exact .inr (.inr (.inl ⟨d, by omega, k, hk', rfl⟩))
theorem kdict_snoc (K : List Str) (f : Str → Int) (x : Str) : kdict (K ++ [x]) f = kdict K f ++ [(x, f x)] := by
  unfold kdict
  rw [List.map_append]
  rfl
section
variable {P : Program} {w : World} {K : PySem.W.Frag} {mg : Str → Option Value} {base : Heap}
def sp_is_course (C Cc : Addr) : Sp := fun vs H Q _ => ∃ pv sv rv ev cv P S R E f fl sl, vs = [pv, sv, rv, ev, cv] ∧ rPl C H pv P ∧ rD rSt H sv S ∧ Sml P S ∧ rL (rD rLim) H rv R ∧ rL (rD rLim) H ev E ∧ Rds P S R E ∧ rCo Cc H cv (fl, sl) ∧
  (∀ d, d < R.length → fl[d]? = some (dayD P f (d + 1)) ∧ sl[d]? = some (eveD P S f (d + 1))) ∧ Crs P S R E f ∧ ret rBl H Q true
theorem ok_is_course (T : Tx K mg) : FnOk P w K mg base CX0 6 T.a_is_course T.d_is_course P_is_course (sp_is_course T.C_Plant T.C_Course) := by
  refine T.F_is_course.ok sc_is_course (fun vs H Q E h => ?_) (fun cdv A outer s H vs Q E hr h => ?_)
  · obtain ⟨_, _, _, _, _, _, _, _, _, _, _, _, rfl, _⟩ := h
    rfl
  · have hu := hu_of hr
    refine ⟨_, PSs.nox (pss_cons (ps_set (i := 5) sc_is_course.nd rfl (Or.inl rfl) (pe_call (ok_laid_readings T) (hr.mono (by decide)) rfl T.m_laid_readings T.F_laid_readings.kp (b_laid_readings T) .nil pass0 (pa_cons (pv 0) (pa_cons (pv 1) (pa_cons (pv 2) (pa_cons (pv 3) pa_nil))))))
    (pss_cons (ps_set (i := 6) sc_is_course.nd rfl (Or.inl rfl) (pe_callB call_len_seq (by rfl) T.n_len (by decide +kernel) (pa_cons (pv 2) pa_nil)))
    (pss_cons (ps_set (i := 7) sc_is_course.nd rfl (Or.inl rfl) (pe_meth0 (pv 0) T.c_Plant T.h_Plant_stream_names (ok_Plant_stream_names T) (hr.mono (by decide)) (b_Plant_stream_names T) .nil pass0))
    (pss_cons (ps_lockR (ps_setDc (i := 8) (own := [("knot", 10)]) rfl sc_is_course.nd rfl rfl (sw_trueD rfl rfl rfl (by decide +kernel)) (pi_keys (pv 1)) (blkOk_by (own := [("knot", 10)]) (N := N_is_course) (sc := defScope s_is_course) (by decide +kernel)) (fun _ _ _ _ _ => (pg_name (i := 10) sc_is_course.nd rfl (Or.inl rfl))) (fun _ _ _ _ _ => pts_nil) (fun _ _ _ _ _ => (pe_call (ok_evening_name T) (hr.mono (by decide)) rfl T.m_evening_name T.F_evening_name.kp (b_evening_name T) .nil pass0 (pa_cons (pv 0) (pa_cons pe_int (pa_cons (pv 10) pa_nil))))) (fun _ _ _ _ _ => (pe_ix (ix_tupK (K := K) rfl) (pe_dget hu (pv 1) (pv 10) (fun _ _ => rfl)) pe_int (fun _ _ => rfl)))))
    (pss_cons (ps_for PassesOwn.never rfl (pi_range2 rfl T.n_range (pa_cons pe_int (pa_cons (pe_op op_add (pv 6) pe_int) pa_nil))) (pg_name (i := 9) sc_is_course.nd rfl (Or.inl rfl))
    (pss_cons (ps_for PassesOwn.never rfl (pi_enum rfl T.n_enumerate (pa_cons (pv 7) pa_nil)) (pg_tup rfl (pgs_cons (pg_name (i := 11) sc_is_course.nd rfl (Or.inl rfl)) (pgs_cons (pg_name (i := 12) sc_is_course.nd rfl (Or.inl rfl)) pgs_nil)))
    (pss_one (ps_dput hu (pv 8) (pe_call (ok_day_name T) (hr.mono (by decide)) rfl T.m_day_name T.F_day_name.kp (b_day_name T) .nil pass0 (pa_cons (pv 9) (pa_cons pe_str (pa_cons (pv 11) pa_nil)))) (pe_dget hu (pe_ix ix_list (pe_fld (pv 4) rfl) (pe_op op_sub (pv 9) pe_int) (fun _ _ => rfl)) (pv 12) (fun _ _ => rfl)) rfl)))
    (pss_one (ps_lockR (ps_for PassesOwn.never rfl (pi_keys (pv 1)) (pg_name (i := 10) sc_is_course.nd rfl (Or.inl rfl))
    (pss_one (ps_dput hu (pv 8) (pe_call (ok_evening_name T) (hr.mono (by decide)) rfl T.m_evening_name T.F_evening_name.kp (b_evening_name T) .nil pass0 (pa_cons (pv 0) (pa_cons (pv 9) (pa_cons (pv 10) pa_nil)))) (pe_dget hu (pe_ix ix_list (pe_fld (pv 4) rfl) (pe_op op_sub (pv 9) pe_int) (fun _ _ => rfl)) (pv 10) (fun _ _ => rfl)) rfl)))))))
    (pss_one (ps_ret (pe_call (ok_do_agree T) (hr.mono (by decide)) rfl T.m_do_agree T.F_do_agree.kp (b_do_agree T) .nil pass0 (pa_cons (pe_call (ok_laid_out T) (hr.mono (by decide)) rfl T.m_laid_out T.F_laid_out.kp (b_laid_out T) .nil pass0 (pa_cons (pv 0) (pa_cons (pv 1) (pa_cons (pv 6) pa_nil)))) (pa_cons (pv 5) (pa_cons (pv 8) pa_nil))))))))))), ?_⟩
    obtain ⟨pv, sv, rv, ev, cv, P, S, R, E', f, fl, sl, rfl, hP, hS, sm, hR, hE, rd, hC, hat, crs, k⟩ := h
    obtain ⟨p, dx, ka, sa, rfl, hi, hkn, hst⟩ := id hP
    obtain ⟨sd, sks, rfl, hsd, hsk⟩ := id hS
    obtain ⟨ra, rxs, rfl, hra, hrx⟩ := id hR
    obtain ⟨ea, exs, rfl, hea, hex⟩ := id hE
    obtain ⟨ca, cdx, cfs, cfv, csv, rfl, hca, hcf, hcs, ⟨cfa, cfx, rfl, hcfa, hcfx⟩, ⟨csa, csx, rfl, hcsa, hcsx⟩⟩ := id hC
    have two := rd.two
    have nl := names_len P
    have s3 := sm.s3
    have k3 := sm.k3
    have l3 := sm.len
    have skl : (skeys S).length = S.length := List.length_map _
    have sz := sizeLine_eq
    rw [show L2.start N_is_course [V.ref p, V.ref sd, V.ref ra, V.ref ea, V.ref ca] = [some (V.ref p), some (V.ref sd), some (V.ref ra), some (V.ref ea), some (V.ref ca), none, none, none, none, none, none, none, none] from rfl]
    refine ⟨_, rfl, _, rfl, _, rfl, _, rfl, .ref p, .ref sd, .ref ra, .ref ea, P, S, R, E', rfl, hP, hS, sm, hR, hE, rd, fun ta H1 s1 hta => ?_⟩
    dsimp only [gName, List.set_cons_zero, List.set_cons_succ]
    refine ⟨_, rfl, ra, rxs, rfl, .inl (SqL.of (s1 ra _ hra)), ?_⟩
    dsimp only [gName, List.set_cons_zero, List.set_cons_succ]
    rw [paired_len hrx]
    refine ⟨_, rfl, p, dx, _, rfl, s1 p _ hi, plF_no _ _ (by decide +kernel) (by decide +kernel), ⟨_, P, rfl, Mono.same s1 hP, sm.ok.sl, fun l H2 xs hl' s2 e2 hx => ?_⟩⟩
    have ex := strs_eq hx
    subst ex
    dsimp only [gName, List.set_cons_zero, List.set_cons_succ]
    have s12 := s1.trans s2
    -- flows = {evening_name(plant, 0, knot): stores[knot][0] for knot in stores}
    refine ⟨sd, sks, rd_same s12 hsd, fun od H3 h3 hb3 => ?_⟩
    have x23 : Ext H2 H3 := Ext.lock (rd_same s12 hsd) h3 hb3
    have x03 := (Ext.of s12).trans x23
    refine ⟨_, rfl, sd, od, rfl, .inl ⟨sks, h3, fun D hD => ?_⟩⟩
    have ekl : sks.length = S.length := paired_len hsk
    refine dc_gen (A := rInt) (B := rStr) walk_keys (skeys S) (by unfold skeys; rw [List.length_map, ekl]) (by omega) hD (fun H8 s8 => s8 sd _ h3) (keys_y hsk) (fun b => enm 0 (ixs P.kn b)) (fun b => f (enm 0 (ixs P.kn b))) ?_ ?_ ?_
    · refine nd_on (fun a ha b hb e => ?_) sm.snd
      have h1 := sm.sub a ha
      have h2 := sm.sub b hb
      have := ixs_lt h1
      have := ixs_lt h2
      exact ixs_inj h1 h2 (enm_inj 0 (by omega) _ (by omega) 0 (by omega) _ (by omega) e).2
    · rintro j b x H' hb s8 rfl Ks Kc kt
      have hbm : b ∈ S.map (·.1) := List.mem_of_getElem? hb
      obtain ⟨y, hy⟩ := rdg_in hbm
      refine ⟨rfl, yesT (iteT ?_)⟩
      have xx := x03.trans (Ext.of s8)
      refine ⟨_, rfl, _, rfl, .ref p, 0, b, P, rfl, Mono.mono xx hP, by omega, sm.sub b hbm, k3, fun w9 G9 s9 hw9 => ?_⟩
      cases hw9
      obtain ⟨v, hg, t, _, _, _, rfl, ht, rfl, rfl, rfl⟩ := get_in (H := G9) (d := sd) (.inr ⟨od, s9 sd _ (s8 sd _ h3)⟩) (dpair_mono (xx.trans (Ext.of s9)) hsk) sm.snd (rdg_some hy)
      refine ⟨_, rfl, _, rfl, sd, _, rfl, hg, t, _, _, _, rfl, rfl, SqT.of ht, atI_nat (j := 0) rfl, ?_⟩
      exact kt _ _ s9 (by rw [crs.beg b y hy]; rfl)
    · intro H4 fks s4 hD4 hp4
      refine ⟨s4 sd _ h3, fun H5 h5 hb5 => ?_⟩
      have s25 : Same H2 H5 := Same.unlock hb3 s4 h5 hb5
      have nDd : D ≠ sd := fun z => by rw [z, h3] at hD; cases hD
      have hD5 : H5 D = some (.dK fks) := by rw [hb5 D nDd]; exact hD4
      have hD2 : H2 D = none := by rw [← hb3 D nDd]; exact hD
      have hD0 : H D = none := by
        cases z : H D with
        | none => rfl
        | some u => rw [s12 D u z] at hD2; cases hD2
      dsimp only [gName, List.set_cons_zero, List.set_cons_succ]
      have s05 := s12.trans s25
      have hp5 : DPr rInt H5 fks (kdict ((skeys S).map fun b => enm 0 (ixs P.kn b)) f) := by
        have e : (kdict ((skeys S).map fun b => enm 0 (ixs P.kn b)) f) = (skeys S).map fun b => (enm 0 (ixs P.kn b), f (enm 0 (ixs P.kn b))) := by
          unfold kdict
          rw [List.map_map]
          rfl
        rw [e]
        exact dp_tu (fun a xs q => by rw [hb5 a (fun z => by subst z; rw [s4 a _ h3] at q; cases q)]; exact q) hp4
      have kl0 : Kl P S f 0 0 0 ((skeys S).map fun b => enm 0 (ixs P.kn b)) := by
        refine ⟨nd_on (fun a ha b hb e => ?_) sm.snd, fun x => ?_, by rw [List.length_map, skl]; omega⟩
        · have h1 := sm.sub a ha
          have h2 := sm.sub b hb
          have := ixs_lt h1
          have := ixs_lt h2
          exact ixs_inj h1 h2 (enm_inj 0 (by omega) _ (by omega) 0 (by omega) _ (by omega) e).2
        · rw [List.mem_map]
          constructor
          · rintro ⟨k, hk, rfl⟩
            exact .inl ⟨k, hk, rfl⟩
          · rintro (⟨k, hk, rfl⟩ | ⟨d, hd, _⟩ | ⟨d, hd, _⟩ | ⟨_, h, _⟩ | ⟨_, h, _⟩)
            · exact ⟨k, hk, rfl⟩
            · omega
            · omega
            · rw [List.take_zero] at h; cases h
            · rw [List.take_zero] at h; cases h
      have hl5 : H5 l = some (.lst (P.names.map V.str)) := s25 l _ e2
      have nlD : l ≠ D := ne_of hl5 hD5 (by intro z; cases z)
      -- for day in range(1, days + 1)
      refine ⟨_, rfl, _, _, rfl, rfl, 1, (R.length : Int) + 1, rfl, ⟨by omega, by omega, by omega, by omega⟩, ?_⟩
      rw [show ((R.length : Int) + 1 - 1).toNat = R.length from by omega]
      refine for_it (walk_range) (fun i σ G => (Same H G ∧ G l = some (.lst (P.names.map V.str)) ∧ rD rLim G (.ref ta) (ldL P 1 (R.zip E')) ∧ ∃ K fks, Kl P S f i 0 0 K ∧ K.length ≤ 3 + 6 * i ∧ G D = some (.dK fks) ∧ DPr rInt G fks (kdict K f)) ∧ ∃ a b c e, σ = [some (.ref p), some (.ref sd), some (.ref ra), some (.ref ea), some (.ref ca), some (.ref ta), some (.int (R.length : Int)), some (.ref l), some (.ref D), a, b, c, e])
        ⟨⟨s05, hl5, Mono.same (s2.trans s25) hta, _, fks, kl0, by rw [List.length_map, skl]; omega, hD5, hp5⟩, _, _, _, _, rfl⟩ (fun _ _ _ _ _ => trivial) ?_ ?_
      · rintro i x σ G G' hi' ⟨⟨sG, hlG, htG, K0, fk0, kl, klen, hDG, hpG⟩, _, _, _, _, rfl⟩ ⟨rfl, rfl⟩
        dsimp only [gName, List.set_cons_zero, List.set_cons_succ]
        have ed : (1 : Int) + ((i : Nat) : Int) = (((i + 1 : Nat)) : Int) := by omega
        rw [ed]
        obtain ⟨hat1, hat2⟩ := hat i hi'
        obtain ⟨tad, taks, eta, htad, htak⟩ := htG
        cases eta
        have nta : ta ≠ D := fun z => by
          obtain ⟨q1, q2, q3, q4, q5⟩ := hta
          cases q3
          subst z
          rcases rd_same s2 q4 with w | ⟨_, w⟩ <;> rw [hD2] at w <;> cases w
        -- for place, name in enumerate(names)
        refine ⟨_, rfl, l, _, rfl, SqL.of hlG, for_it (walk_enum (K := K)) (fun j σ G => (Same H G ∧ G l = some (.lst (P.names.map V.str)) ∧ rD rLim G (.ref ta) (ldL P 1 (R.zip E')) ∧ ∃ K fks, Kl P S f i j 0 K ∧ K.length ≤ 3 + 6 * i + j ∧ G D = some (.dK fks) ∧ DPr rInt G fks (kdict K f)) ∧ ∃ b c e, σ = [some (.ref p), some (.ref sd), some (.ref ra), some (.ref ea), some (.ref ca), some (.ref ta), some (.int (R.length : Int)), some (.ref l), some (.ref D), some (.int ((i + 1 : Nat) : Int)), b, c, e])
          ⟨⟨sG, hlG, ⟨ta, taks, rfl, htad, htak⟩, K0, fk0, kl, by omega, hDG, hpG⟩, _, _, _, rfl⟩ (fun j σ G _ h => SqL.of h.1.2.1) ?_ ?_⟩
        · rintro j x σ G G' hj ⟨⟨sG, hlG, htG, K1, fk1, kl, klen, hDG, hpG⟩, _, _, _, rfl⟩ ⟨T0, x1, y1, rfl, hT0, rfl, hx, hy⟩
          cases hx
          have hy' : (P.names.map V.str)[j]? = some y1 := hy
          rw [List.getElem?_map] at hy'
          cases hn : P.names[j]? with
          | none => rw [hn] at hy'; cases hy'
          | some n =>
            rw [hn] at hy'
            cases hy'
            have hnm := List.mem_of_getElem? hn
            have hjl := (List.getElem?_eq_some_iff.mp hn).1
            have sT := Same.new (o := .tup [V.int ((j : Nat) : Int), .str n]) hT0
            have sGT := sG.trans sT
            refine ⟨T0, _, rfl, SqT.of upd_same, rfl, _, _, rfl, _, _, rfl, rfl, ?_⟩
            dsimp only [gName, List.set_cons_zero, List.set_cons_succ]
            obtain ⟨dv, hdv, dd, dks, rfl, hdd, hdk⟩ := paired_got hcfx hat1
            obtain ⟨v, hg, rfl⟩ := get_in (rd_same sGT hdd) (dpair_mono (Ext.of sGT) hdk) (by unfold dayD; rw [kdict_keys]; exact sm.ok.nd) (kdict_mem (f := dayF P f (i + 1)) hnm)
            have ei : ((i + 1 : Nat) : Int) - 1 = ((i : Nat) : Int) := by omega
            refine ⟨_, rfl, ca, _, cdx, _, _, rfl, sGT ca _ hca, T.c_Course, T.f_Course_flows, hcf, _, rfl, _, _, rfl, rfl, cfa, cfx, _, _, rfl, rfl, SqL.of (sGT cfa _ hcfa), (by rw [ei]; exact atI_nat (j := i) hdv), _, rfl, dd, _, rfl, hg, ?_⟩
            refine ⟨_, rfl, _, rfl, _, rfl, i + 1, j, "s", rfl, by omega, by omega, .inl rfl, fun w9 G9 s9 hw9 => ?_⟩
            cases hw9
            have lk : fk1.length < sizeLine := by rw [paired_len hpG, kdict_len]; omega
            have eix : ixs P.names n = j := ixs_eq sm.ok.nd hn
            have hnot := not_day sm (i := i) (by omega) hn
            rw [eix] at hnot
            refine ⟨D, _, rfl, DPut.k (k := Sum.inr (dnm (i + 1) "s" j)) (s9 D _ (sT D _ hDG)) lk, ?_⟩
            have s9' := sGT.trans s9
            have sT9 := sT.trans s9
            refine ⟨⟨Same.mut s9' hD0, by rw [upd_ne nlD]; exact sT9 l _ hlG, ?_, K1 ++ [dnm (i + 1) "s" j], _, kl.snoc hnot (fun y => by have := Nms.day (S := S) (i := i) hn y; rw [eix] at this; exact this) (by omega), by rw [List.length_append]; show K1.length + 1 ≤ _; omega, upd_same, ?_⟩, _, _, _, rfl⟩
            · obtain ⟨_, taks, eta, htad, htak⟩ := htG
              cases eta
              refine ⟨ta, taks, rfl, ?_, dp_tu ((TupS.of sT9).trans (TupS.upd (s9 D _ (sT D _ hDG)) fun _ z => nomatch z)) htak⟩
              rcases rd_same sT9 htad with q | ⟨o, q⟩
              · exact .inl (by rw [upd_ne nta]; exact q)
              · exact .inr ⟨o, by rw [upd_ne nta]; exact q⟩
            · rw [kdict_snoc]
              refine dp_tu (TupS.upd (s9 D _ (sT D _ hDG)) fun _ z => nomatch z) (dp_snoc (A := rInt) (x := f (dnm (i + 1) "s" j)) (dp_tu (TupS.of sT9) hpG) ?_ ?_)
              · show V.int (dayF P f (i + 1) n) = V.int (f (dnm (i + 1) "s" j))
                unfold dayF
                rw [eix]
              · rw [kdict_keys]
                exact fun z => hnot ((kl.mem _).mp z)
        · rintro σ G ⟨⟨sG, hlG, htG, K1, fk1, kl, klen, hDG, hpG⟩, _, _, _, rfl⟩
          rw [List.length_map] at kl klen
          -- for knot in stores
          refine ⟨sd, sks, rd_same sG hsd, fun od2 G1 hG1 hb1 => ?_⟩
          have lk0 : Lk H sd od2 sks G1 := Lk.start sG hG1 hb1
          have nsD : sd ≠ D := fun z => by
            subst z
            rcases hsd with q | ⟨_, q⟩ <;> rw [hD0] at q <;> cases q
          have x1 : Ext G G1 := Ext.lock (rd_same sG hsd) hG1 hb1
          have tu1 : TupS G G1 := fun a xs q => x1.tup a xs q
          refine ⟨_, rfl, sd, od2, rfl, .inl ⟨sks, hG1, for_it walk_keys (fun m σ G => (Lk H sd od2 sks G ∧ G l = some (.lst (P.names.map V.str)) ∧ (∃ taks, Rd G ta (.dK taks) ∧ DPr rLim G taks (ldL P 1 (R.zip E'))) ∧ ∃ K fks, Kl P S f i P.names.length m K ∧ K.length ≤ 3 + 6 * i + P.names.length + m ∧ G D = some (.dK fks) ∧ DPr rInt G fks (kdict K f)) ∧ ∃ b c e, σ = [some (.ref p), some (.ref sd), some (.ref ra), some (.ref ea), some (.ref ca), some (.ref ta), some (.int (R.length : Int)), some (.ref l), some (.ref D), some (.int ((i + 1 : Nat) : Int)), b, c, e])
            ⟨⟨lk0, x1.lst l _ hlG, ?_, K1, fk1, kl, by omega, by rw [hb1 D nsD.symm]; exact hDG, dp_tu tu1 hpG⟩, _, _, _, rfl⟩ (fun m σ G _ h => h.1.1.frz) ?_ ?_⟩⟩
          · obtain ⟨_, taks, eta, htad, htak⟩ := htG
            cases eta
            exact ⟨taks, x1.dk ta _ htad, dp_tu tu1 htak⟩
          · rintro m x σ G2 G3 hm ⟨⟨lk, hl5, ⟨taks, htad, htak⟩, K2, fk2, kl, klen, hD5, hp5⟩, _, _, _, rfl⟩ ⟨rfl, kk, vv, hkv, rfl⟩
            dsimp only [gName, List.set_cons_zero, List.set_cons_succ]
            have xt := lk.ext hsd
            obtain ⟨⟨n, sx⟩, hnj, rfl, hvv⟩ := kv_key (dpair_mono xt hsk) hkv
            have hn : (skeys S)[m]? = some n := by unfold skeys; rw [List.getElem?_map, hnj] <;> rfl
            have hnm : n ∈ skeys S := List.mem_of_getElem? hn
            have hnk := sm.sub n hnm
            have hml : m < S.length := (List.getElem?_eq_some_iff.mp hnj).1
            obtain ⟨dv, hdv, dd, dks, rfl, hdd, hdk⟩ := paired_got hcsx hat2
            obtain ⟨v, hg, rfl⟩ := get_in (xt.dk dd _ hdd) (dpair_mono xt hdk) (by unfold eveD; rw [kdict_keys]; exact sm.snd) (kdict_mem (f := fun k => f (enm (i + 1) (ixs P.kn k))) hnm)
            have ei : ((i + 1 : Nat) : Int) - 1 = ((i : Nat) : Int) := by omega
            refine ⟨_, rfl, ca, _, cdx, _, _, rfl, xt.ins ca _ _ _ hca, T.c_Course, T.f_Course_stocks, hcs, _, rfl, _, _, rfl, rfl, csa, csx, _, _, rfl, rfl, SqL.of (xt.lst csa _ hcsa), (by rw [ei]; exact atI_nat (j := i) hdv), _, rfl, dd, _, rfl, hg, ?_⟩
            refine ⟨_, rfl, _, rfl, _, rfl, _, rfl, .ref p, i + 1, n, P, rfl, Mono.mono xt hP, by omega, hnk, k3, fun w9 G9 s9 hw9 => ?_⟩
            cases hw9
            have lkz : fk2.length < sizeLine := by rw [paired_len hp5, kdict_len]; omega
            have hnot := not_eve sm (i := i) (j := P.names.length) (by omega) hn
            refine ⟨D, _, rfl, DPut.k (k := Sum.inr (enm (i + 1) (ixs P.kn n))) (s9 D _ hD5) lkz, ?_⟩
            refine ⟨⟨(lk.grow s9).mut hD0 nsD, by rw [upd_ne nlD]; exact s9 l _ hl5, ⟨taks, ?_, dp_tu ((TupS.of s9).trans (TupS.upd (s9 D _ hD5) fun _ z => nomatch z)) htak⟩, K2 ++ [enm (i + 1) (ixs P.kn n)], _, kl.snoc hnot (Nms.eve hn) (by omega), by rw [List.length_append]; show K2.length + 1 ≤ _; omega, upd_same, ?_⟩, _, _, _, rfl⟩
            · rcases rd_same s9 htad with q | ⟨o, q⟩
              · exact .inl (by rw [upd_ne nta]; exact q)
              · exact .inr ⟨o, by rw [upd_ne nta]; exact q⟩
            · rw [kdict_snoc]
              refine dp_tu (TupS.upd (s9 D _ hD5) fun _ z => nomatch z) (dp_snoc (A := rInt) (x := f (enm (i + 1) (ixs P.kn n))) (dp_tu (TupS.of s9) hp5) rfl ?_)
              rw [kdict_keys]
              exact fun z => hnot ((kl.mem _).mp z)
          · rintro σ G2 ⟨⟨lk, hl5, ⟨taks, htad, htak⟩, K2, fk2, kl, klen, hD5, hp5⟩, _, _, _, rfl⟩
            refine ⟨lk.frz, fun G3 h3' hb3' => ?_⟩
            have sG3 : Same H G3 := lk.done sG h3' hb3'
            have tu3 : TupS G2 G3 := fun a xs q => by
              rw [hb3' a (fun z => by subst z; rw [lk.frz] at q; cases q)]
              exact q
            refine ⟨⟨sG3, ?_, ⟨ta, taks, rfl, ?_, dp_tu tu3 htak⟩, K2, fk2, ⟨kl.nd, fun x => ?_, kl.len⟩, by rw [ekl] at klen; omega, by rw [hb3' D nsD.symm]; exact hD5, dp_tu tu3 hp5⟩, _, _, _, _, rfl⟩
            · rw [hb3' l (fun z => by subst z; rw [lk.frz] at hl5; cases hl5)]
              exact hl5
            · by_cases q : ta = sd
              · subst q
                have hS2 := rd_same sG3 hsd
                have e9 : taks = sks := by
                  rcases htad with w | ⟨_, w⟩ <;> rw [lk.frz] at w <;> cases w <;> rfl
                rw [e9]
                exact hS2
              · rcases htad with w | ⟨o, w⟩
                · exact .inl (by rw [hb3' ta q]; exact w)
                · exact .inr ⟨o, by rw [hb3' ta q]; exact w⟩
            · rw [Nms.next, skl, ← ekl]
              exact kl.mem x
      · rintro σ G ⟨⟨sG, hlG, htG, K0, fk0, kl, klen, hDG, hpG⟩, _, _, _, _, rfl⟩
        refine ⟨_, rfl, _, rfl, _, rfl, .ref p, .ref sd, R.length, P, S, rfl, Mono.same sG hP, Mono.same sG hS, sm, two, fun v H8 P' s8 hP' hl => ?_⟩
        have ok' := hl.ok sm two
        refine ⟨_, rfl, _, rfl, v, .ref ta, .ref D, P', _, K0, f, rfl, hP', ok', Mono.same s8 htG, laid_rd sm rd hl, Mono.same s8 ⟨D, fk0, rfl, .inl hDG, hpG⟩, kl.nd, fun n => (kl.mem n).trans (Nms.all sm rd hl n), (feas_crs sm rd hl f).mpr crs, fun w9 H9 s9 hw9 => k w9 H9 ((sG.trans s8).trans s9) hw9⟩
end
end Mx

set_option Elab.async false
set_option linter.all false
set_option maxRecDepth 100000
set_option maxHeartbeats 2000000
/-! The law's numbers. -/
namespace Mx
open PySem PySem.Spec PyProof.Rows L2
section
variable {X : Cx} {K : PySem.W.Frag}
theorem pg_unlK (h : X.K = K) {es : List Expr} {n : Nat} {t : TGs} {k : Nat} {pos : Pos} (hp : PG X (.Tuple es k pos) (gUnl X.K n t)) : PG X (.Tuple es k pos) (gUnl K n t) := h ▸ hp
end
theorem p1009 : (0 : Int) < 1009 := by decide
theorem pM : (0 : Int) < 2147483647 := by decide
def Small (l : List Int) : Prop := ∀ x ∈ l, 0 ≤ x ∧ x < 1009
theorem small_snoc {l : List Int} {x : Int} (h : Small l) (h0 : 0 ≤ x) (h1 : x < 1009) : Small (l ++ [x]) := fun y hy => by
  rcases List.mem_append.mp hy with hy | hy
  · exact h y hy
  · rw [List.mem_singleton.mp hy]
    exact ⟨h0, h1⟩
theorem cutV_to (xs : List V) (n : Nat) : cutV xs none (some (n : Int)) = xs.take n := by
  have e1 : HT.sIx xs.length xs.length (some (n : Int)) = min n xs.length := by
    unfold HT.sIx
    simp
    try omega
  have e0 : HT.sIx xs.length 0 none = 0 := rfl
  unfold cutV
  rw [e1, e0, List.drop_zero, Nat.sub_zero]
  rw [Nat.min_def]
  split
  · rfl
  · rw [List.take_of_length_le (Nat.le_refl _), List.take_of_length_le (by omega)]
section
variable {P : Program} {w : World} {K : PySem.W.Frag} {mg : Str → Option Value} {base : Heap}
def sp_law_row : Sp := fun vs H Q _ => ∃ (c : Int) (m : Nat), vs = [.int c, .int (m : Int)] ∧ m ≤ 200 ∧ ∀ l : List Int, l.length = m → Small l → retL rInt H Q l
theorem ok__law_row (T : Tx K mg) : FnOk P w K mg base CX0 1 T.a__law_row T.d__law_row P__law_row sp_law_row := by
  refine T.F__law_row.ok sc__law_row (fun vs H Q E h => ?_) (fun cdv A outer s H vs Q E hr h => ⟨_, PSs.nox (pss_cons (ps_set (i := 2) sc__law_row.nd rfl (Or.inl rfl) (pe_lst pa_nil))
    (pss_cons (ps_set (i := 3) sc__law_row.nd rfl (Or.inl rfl) pe_int)
    (pss_cons (ps_if (pt_cmpR op_ge (pe_callB call_abs (by rfl) T.n_abs (by decide +kernel) (pa_cons (pv 0) pa_nil)) (pe_op op_pow pe_int pe_int) (nomark _)) (pss_one (ps_set (i := 3) sc__law_row.nd rfl (Or.inl rfl) (pe_callB call_abs (by rfl) T.n_abs (by decide +kernel) (pa_cons (pv 0) pa_nil)))) pss_nil)
    (pss_cons (ps_set (i := 4) sc__law_row.nd rfl (Or.inl rfl) (pe_op op_mod (pe_callTy call_int1 (by rfl) T.n_int (by decide +kernel) (pa_cons (pe_callB call_abs (by rfl) T.n_abs (by decide +kernel) (pa_cons (pv 0) pa_nil)) pa_nil)) pe_int))
    (pss_cons (ps_for PassesOwn.never rfl (pi_range1 rfl T.n_range (pa_cons (pv 1) pa_nil)) (pg_name (i := 5) sc__law_row.nd rfl (Or.inl rfl))
    (pss_cons (ps_set (i := 4) sc__law_row.nd rfl (Or.inl rfl) (pe_op op_mod (pe_callTy call_int1 (by rfl) T.n_int (by decide +kernel) (pa_cons (pe_op op_add (pe_op op_mul (pe_op op_add (pv 4) pe_int) pe_int) (pe_op op_mul pe_int (pv 5))) pa_nil)) pe_int))
    (pss_one (ps_if (pt_cmpR op_gt (pv 3) pe_int (nomark _)) (pss_cons (ps_expr (pe_bm PySem.F.plainAttrs_list PySem.F.slot_list_append PySem.F.type_list_append mt_append (pv 2) (pa_cons (pe_op op_mod (pe_callTy call_int1 (by rfl) T.n_int (by decide +kernel) (pa_cons (pv 3) pa_nil)) pe_int) pa_nil)))
    (pss_one (ps_set (i := 3) sc__law_row.nd rfl (Or.inl rfl) (pe_op op_fdiv (pv 3) pe_int)))) (pss_one (ps_expr (pe_bm PySem.F.plainAttrs_list PySem.F.slot_list_append PySem.F.type_list_append mt_append (pv 2) (pa_cons (pe_op op_mod (pe_callTy call_int1 (by rfl) T.n_int (by decide +kernel) (pa_cons (pe_op op_fdiv (pv 4) pe_int) pa_nil)) pe_int) pa_nil))))))))
    (pss_one (ps_ret (pv 2)))))))), ?_⟩)
  · obtain ⟨_, _, rfl, _⟩ := h
    rfl
  · obtain ⟨c, m, rfl, hm, k⟩ := h
    have sz := sizeLine_eq
    rw [show L2.start N__law_row [V.int c, V.int (m : Int)] = [some (V.int c), some (V.int (m : Int)), none, none, none, none] from rfl]
    refine ⟨(by show 0 ≤ sizeLine; exact Nat.zero_le _), fun D hD => ?_⟩
    dsimp only [gName, List.set_cons_zero, List.set_cons_succ]
    refine ⟨_, rfl, _, rfl, _, _, rfl, rfl, ⟨by decide, by decide, by decide⟩, _, _, rfl, rfl, _, rfl, ?_⟩
    refine ite2 (fun h => ⟨_, rfl, _, rfl, ?_⟩) (fun h => ?_)
    all_goals
      dsimp only [gName, List.set_cons_zero, List.set_cons_succ]
      refine ⟨_, rfl, _, rfl, .inl ⟨_, rfl, _, _, rfl, rfl, pM, ?_⟩⟩
      dsimp only [gName, List.set_cons_zero, List.set_cons_succ]
      refine ⟨_, rfl, _, rfl, by omega, by omega, ?_⟩
      rw [show ((m : Nat) : Int).toNat = m from by omega]
      refine for_it walk_range (fun i σ H1 => ∃ acc : List Int, (Same H H1 ∧ H1 D = some (.lst (acc.map V.int)) ∧ acc.length = i ∧ Small acc) ∧ ∃ (r st : Int) (x : Option V), σ = [some (.int c), some (.int (m : Int)), some (.ref D), some (.int r), some (.int st), x])
        ⟨[], ⟨Same.new hD, upd_same, rfl, fun _ h => nomatch h⟩, _, _, _, rfl⟩ (fun _ _ _ _ _ => trivial) ?_ ?_
      · rintro i x σ H1 H2 hi ⟨acc, ⟨s1, hD1, hl, hs⟩, r, st, _, rfl⟩ ⟨rfl, rfl⟩
        dsimp only [gName, List.set_cons_zero, List.set_cons_succ]
        refine ⟨_, rfl, _, _, rfl, rfl, _, _, rfl, rfl, .inr ⟨by decide, by decide⟩, _, rfl, _, _, rfl, rfl, .inl ⟨by decide, by decide⟩, _, _, rfl, rfl, .inl ⟨_, rfl, _, _, rfl, rfl, pM, ?_⟩⟩
        dsimp only [gName, List.set_cons_zero, List.set_cons_succ]
        refine ⟨_, rfl, _, _, rfl, rfl, _, rfl, ?_⟩
        refine ite2 (fun h => ?_) (fun h => ?_)
        · refine ⟨_, rfl, .inl ⟨rfl, _, SqL.of hD1⟩, _, rfl, .inl ⟨_, rfl, _, _, rfl, rfl, p1009, D, _, _, rfl, rfl, hD1, (by rw [List.length_map]; omega), ?_⟩⟩
          refine ⟨_, rfl, _, _, rfl, rfl, ⟨by decide, by decide⟩, ?_⟩
          refine ⟨acc ++ [r % 1009], ⟨Same.mut s1 hD, by rw [upd_same, List.map_append]; rfl, by rw [List.length_append, hl]; rfl, small_snoc hs (Int.emod_nonneg _ (by decide)) (Int.emod_lt_of_pos _ (by decide))⟩, _, _, _, rfl⟩
        · refine ⟨_, rfl, .inl ⟨rfl, _, SqL.of hD1⟩, _, rfl, _, _, rfl, rfl, ⟨by decide, by decide⟩, .inl ⟨_, rfl, _, _, rfl, rfl, p1009, D, _, _, rfl, rfl, hD1, (by rw [List.length_map]; omega), ?_⟩⟩
          refine ⟨acc ++ [_], ⟨Same.mut s1 hD, by rw [upd_same, List.map_append]; rfl, by rw [List.length_append, hl]; rfl, small_snoc hs (Int.emod_nonneg _ (by decide)) (Int.emod_lt_of_pos _ (by decide))⟩, _, _, _, rfl⟩
      · rintro σ H1 ⟨acc, ⟨s1, hD1, hl, hs⟩, r, st, _, rfl⟩
        exact ⟨_, rfl, k acc hl hs D H1 _ hD s1 hD1 (ints_of' acc)⟩
def sp_law_numbers (K : PySem.W.Frag) : Sp := fun vs H Q _ => ∃ (sa : Addr) (sc : List Int), vs = [.ref sa, .int 110] ∧ SqL K H sa (sc.map V.int) ∧ sc.length ≤ 63 ∧ ∀ l : List Int, l.length = 110 → Small l → retL rInt H Q l
theorem ok__law_numbers (T : Tx K mg) : FnOk P w K mg base CX0 2 T.a__law_numbers T.d__law_numbers P__law_numbers (sp_law_numbers K) := by
  refine T.F__law_numbers.ok sc__law_numbers (fun vs H Q E h => ?_) (fun cdv A outer s H vs Q E hr h => ⟨_, PSs.nox (pss_cons (ps_set (i := 2) sc__law_numbers.nd rfl (Or.inl rfl) (pe_slice sl_list (pv 0) po_none (po_some pe_int)))
    (pss_cons (ps_set (i := 3) sc__law_numbers.nd rfl (Or.inl rfl) (pe_op op_add pe_int (pe_op op_fdiv (pv 1) (pe_callB (call_max2 rfl) (by rfl) T.n_max (by decide +kernel) (pa_cons pe_int (pa_cons (pe_callB call_len_seq (by rfl) T.n_len (by decide +kernel) (pa_cons (pv 2) pa_nil)) pa_nil))))))
    (pss_cons (ps_set (i := 4) sc__law_numbers.nd rfl (Or.inl rfl) (pe_lst pa_nil))
    (pss_cons (ps_for PassesOwn.never rfl (pi_list (pv 2)) (pg_name (i := 5) sc__law_numbers.nd rfl (Or.inl rfl))
    (pss_one (ps_for PassesOwn.never rfl (pi_list (pe_call (ok__law_row T) (hr.mono (by decide)) rfl T.m__law_row T.F__law_row.kp (b__law_row T) .nil pass0 (pa_cons (pv 5) (pa_cons (pv 3) pa_nil)))) (pg_name (i := 6) sc__law_numbers.nd rfl (Or.inl rfl))
    (pss_one (ps_expr (pe_bm PySem.F.plainAttrs_list PySem.F.slot_list_append PySem.F.type_list_append mt_append (pv 4) (pa_cons (pv 6) pa_nil)))))))
    (pss_cons (ps_while PassesOwn.never (pt_cmpR op_lt (pe_callB call_len_seq (by rfl) T.n_len (by decide +kernel) (pa_cons (pv 4) pa_nil)) (pv 1) (nomark _)) (pss_one (ps_expr (pe_bm PySem.F.plainAttrs_list PySem.F.slot_list_append PySem.F.type_list_append mt_append (pv 4) (pa_cons pe_int pa_nil)))))
    (pss_one (ps_ret (pe_slice sl_list (pv 4) po_none (po_some (pv 1)))))))))), ?_⟩)
  · obtain ⟨_, _, rfl, _⟩ := h
    rfl
  · obtain ⟨sa, sc, rfl, hsa, h63, k⟩ := h
    have sz := sizeLine_eq
    rw [show L2.start N__law_numbers [V.ref sa, V.int 110] = [some (V.ref sa), some (V.int 110), none, none, none, none, none] from rfl]
    refine ⟨_, rfl, _, rfl, sa, _, rfl, hsa, fun C hC => ?_⟩
    have ecut : cutV (sc.map V.int) none (some 63) = sc.map V.int := by
      rw [show (63 : Int) = ((63 : Nat) : Int) from rfl, cutV_to, List.take_of_length_le (by rw [List.length_map]; omega)]
    rw [ecut]
    dsimp only [gName, List.set_cons_zero, List.set_cons_succ]
    have sC : Same H (upd H C (.lst (sc.map V.int))) := Same.new hC
    refine ⟨_, rfl, _, rfl, C, _, rfl, .inl (SqL.of upd_same), _, _, rfl, ?_⟩
    have hdiv : (0 : Int) < (if (((sc.map V.int).length : Nat) : Int) > 1 then (((sc.map V.int).length : Nat) : Int) else 1) ∧ (if (((sc.map V.int).length : Nat) : Int) > 1 then (((sc.map V.int).length : Nat) : Int) else 1) < 1073741824 := by
      rw [List.length_map]
      split <;> omega
    refine ⟨_, _, rfl, rfl, hdiv, _, _, rfl, rfl, ?_⟩
    generalize hq : (110 : Int) / (if (((sc.map V.int).length : Nat) : Int) > 1 then (((sc.map V.int).length : Nat) : Int) else 1) = q
    have hq0 : 0 ≤ q ∧ q ≤ 110 := by
      rw [← hq]
      exact ⟨Int.ediv_nonneg (by decide) (Int.le_of_lt hdiv.1), Int.ediv_le_self _ (by decide)⟩
    obtain ⟨e, he⟩ : ∃ e : Nat, 1 + q = (e : Int) := ⟨(1 + q).toNat, by omega⟩
    dsimp only [gName, List.set_cons_zero, List.set_cons_succ]
    rw [he]
    have he2 : e ≤ 111 := by omega
    refine ⟨(by show 0 ≤ sizeLine; exact Nat.zero_le _), fun D hD => ?_⟩
    dsimp only [gName, List.set_cons_zero, List.set_cons_succ]
    have sD := sC.trans (Same.new (o := .lst []) hD)
    have hDH : H D = none := by
      cases z : H D with
      | none => rfl
      | some u => rw [sC D u z] at hD; cases hD
    have nCD : C ≠ D := ne_of_none (H := upd H C (.lst (sc.map V.int))) upd_same hD
    refine ⟨_, rfl, C, rfl, ⟨_, SqL.of (by rw [upd_ne nCD, upd_same])⟩, for_it (walk_list (K := K)) (fun i σ H1 => ∃ acc : List Int, (Same H H1 ∧ H1 C = some (.lst (sc.map V.int)) ∧ H1 D = some (.lst (acc.map V.int)) ∧ acc.length ≤ 111 * i ∧ Small acc) ∧ ∃ x y, σ = [some (.ref sa), some (.int 110), some (.ref C), some (.int (e : Int)), some (.ref D), x, y])
      ⟨[], ⟨sD, by rw [upd_ne nCD, upd_same], upd_same, Nat.zero_le _, fun _ h => nomatch h⟩, _, _, rfl⟩ (fun i σ H1 _ ⟨_, h, _⟩ => SqL.of h.2.1) ?_ ?_⟩
    · rintro i x σ H1 H2 hi ⟨acc, ⟨s1, hC1, hD1, hl, hs⟩, _, _, rfl⟩ ⟨rfl, hxi⟩
      rw [List.getElem?_map] at hxi
      cases hy : sc[i]? with
      | none => rw [hy] at hxi; cases hxi
      | some c =>
        rw [hy] at hxi
        cases hxi
        have hi63 : i < 63 := by have := (List.getElem?_eq_some_iff.mp hy).1; omega
        dsimp only [gName, List.set_cons_zero, List.set_cons_succ]
        refine ⟨_, rfl, _, rfl, c, e, rfl, by omega, fun rl hrl hrs ra H3 rxs hra s3 hra3 hrp => ?_⟩
        have er := ints_eq hrp
        subst er
        refine ⟨ra, rfl, ⟨_, SqL.of hra3⟩, for_it (walk_list (K := K)) (fun j σ H4 => ∃ acc : List Int, (Same H H4 ∧ H4 C = some (.lst (sc.map V.int)) ∧ H4 ra = some (.lst (rl.map V.int)) ∧ H4 D = some (.lst (acc.map V.int)) ∧ acc.length ≤ 111 * i + j ∧ Small acc) ∧ ∃ x y, σ = [some (.ref sa), some (.int 110), some (.ref C), some (.int (e : Int)), some (.ref D), x, y])
          ⟨acc, ⟨s1.trans s3, s3 C _ hC1, hra3, s3 D _ hD1, hl, hs⟩, _, _, rfl⟩ (fun j σ H4 _ ⟨_, h, _⟩ => SqL.of h.2.2.1) ?_ ?_⟩
        · rintro j x σ H4 H5 hj ⟨acc, ⟨s4, hC4, hra4, hD4, hl4, hs4⟩, _, _, rfl⟩ ⟨rfl, hxj⟩
          rw [List.getElem?_map] at hxj
          cases hz : rl[j]? with
          | none => rw [hz] at hxj; cases hxj
          | some z =>
            rw [hz] at hxj
            cases hxj
            obtain ⟨z0, z1⟩ := hrs z (List.mem_of_getElem? hz)
            have hjl : j < 111 := by have := (List.getElem?_eq_some_iff.mp hz).1; omega
            have nra : ra ≠ D := fun q => by rw [q, hD1] at hra; cases hra
            refine ⟨_, rfl, .inl ⟨rfl, _, SqL.of hD4⟩, _, rfl, D, _, _, rfl, rfl, hD4, (by rw [List.length_map]; omega), ?_⟩
            exact ⟨acc ++ [z], ⟨Same.mut s4 hDH, by rw [upd_ne nCD]; exact hC4, by rw [upd_ne nra]; exact hra4, by rw [upd_same, List.map_append]; rfl, by rw [List.length_append]; show acc.length + 1 ≤ _; omega, small_snoc hs4 z0 z1⟩, _, _, rfl⟩
        · rintro σ H4 ⟨acc, ⟨s4, hC4, hra4, hD4, hl4, hs4⟩, _, _, rfl⟩
          exact ⟨acc, ⟨s4, hC4, hD4, by rw [List.length_map, hrl] at hl4; omega, hs4⟩, _, _, rfl⟩
    · rintro σ H1 ⟨acc, ⟨s1, hC1, hD1, hl, hs⟩, _, _, rfl⟩
      rw [List.length_map] at hl
      refine ⟨fun m σ G => ∃ acc : List Int, (Same H G ∧ G D = some (.lst (acc.map V.int)) ∧ acc.length ≤ 7000 ∧ Small acc ∧ m = 110 - acc.length) ∧ ∃ x y, σ = [some (.ref sa), some (.int 110), some (.ref C), some (.int (e : Int)), some (.ref D), x, y],
        ⟨_, acc, ⟨s1, hD1, by omega, hs, rfl⟩, _, _, rfl⟩, ?_⟩
      rintro m σ G ⟨acc, ⟨s2, hD2, hl2, hs2, rfl⟩, _, _, rfl⟩
      refine ⟨_, rfl, D, _, rfl, .inl (SqL.of hD2), _, rfl, _, _, rfl, rfl, _, rfl, ?_⟩
      refine ite2 (fun h => ?_) (fun h => ?_)
      · have hlt : acc.length < 110 := by
          have := of_decide_eq_true h
          rw [List.length_map] at this
          omega
        refine ⟨fun σ' G' => ∃ m', m' < 110 - acc.length ∧ ∃ acc : List Int, (Same H G' ∧ G' D = some (.lst (acc.map V.int)) ∧ acc.length ≤ 7000 ∧ Small acc ∧ m' = 110 - acc.length) ∧ ∃ x y, σ' = [some (.ref sa), some (.int 110), some (.ref C), some (.int (e : Int)), some (.ref D), x, y], fun _ _ h => h, ?_⟩
        refine ⟨_, rfl, .inl ⟨rfl, _, SqL.of hD2⟩, D, _, _, rfl, rfl, hD2, (by rw [List.length_map]; omega), ?_⟩
        refine ⟨110 - (acc ++ [0]).length, by rw [List.length_append]; show 110 - (acc.length + 1) < _; omega, acc ++ [0], ⟨Same.mut s2 hDH, by rw [upd_same, List.map_append]; rfl, by rw [List.length_append]; show acc.length + 1 ≤ _; omega, small_snoc hs2 (by decide) (by decide), rfl⟩, _, _, rfl⟩
      · have hge : 110 ≤ acc.length := by
          have : ¬ ((((acc.map V.int).length : Nat) : Int) < 110) := fun z => h (decide_eq_true z)
          rw [List.length_map] at this
          omega
        refine ⟨_, rfl, _, rfl, _, rfl, D, _, rfl, SqL.of hD2, fun p hp => ?_⟩
        have ec : cutV (acc.map V.int) none (some 110) = (acc.take 110).map V.int := by
          rw [show (110 : Int) = ((110 : Nat) : Int) from rfl, cutV_to, List.map_take]
        rw [ec]
        have hpH : H p = none := by
          cases z : H p with
          | none => rfl
          | some u => rw [s2 p u z] at hp; cases hp
        exact k (acc.take 110) (by rw [List.length_take]; omega) (fun x hx => hs2 x (List.mem_of_mem_take hx)) p _ _ hpH (s2.trans (Same.new hp)) upd_same (ints_of' _)
end
end Mx

set_option Elab.async false
set_option linter.all false
set_option maxRecDepth 100000
set_option maxHeartbeats 2000000
/-! The law's names. -/
namespace Mx
open PySem PySem.Spec PyProof.Rows L2
abbrev LS : List Nat := letters.cps.toList
theorem LS_len : LS.length = 36 := by decide +kernel
theorem LS_nd : LS.Nodup := by decide +kernel
def ltr (x : Int) : Nat := LS.getD (x % 36).toNat 0
theorem ltr_lt (x : Int) : (x % 36).toNat < 36 := by omega
theorem ltr_get (x : Int) : LS[(x % 36).toNat]? = some (ltr x) := by
  have h := ltr_lt x
  unfold ltr
  rw [List.getD_eq_getElem?_getD, List.getElem?_eq_getElem (by rw [LS_len]; exact h)]
  rfl
theorem ltr_at (x : Int) : atI LS (x % 36) = some (ltr x) := by
  have e : (x % 36 : Int) = (((x % 36).toNat : Nat) : Int) := by omega
  rw [e]
  exact atI_nat (ltr_get x)
theorem ltr_mem (x : Int) : ltr x ∈ LS := List.mem_of_getElem? (ltr_get x)
theorem ltr_inj {x y : Int} (h : ltr x = ltr y) : x % 36 = y % 36 := by
  have h1 := ltr_get x
  have h2 := ltr_get y
  rw [h] at h1
  have := nd_ix LS_nd h1 h2
  omega
def nmL (B : List Nat) (p : Nat) (o : Bool) (c : Nat) : List Nat :=
  let own := if o = true then B.drop 1 else B
  own.take (min p own.length) ++ c :: own.drop (min p own.length)
theorem nmL_len (B : List Nat) (p : Nat) (o : Bool) (c : Nat) : (nmL B p o c).length = (if o = true then B.drop 1 else B).length + 1 := by
  unfold nmL
  simp only []
  rw [List.length_append, List.length_cons, List.length_take, List.length_drop]
  omega
theorem nmL_mem {B : List Nat} {p : Nat} {o : Bool} {c x : Nat} (h : x ∈ nmL B p o c) : x ∈ B ∨ x = c := by
  unfold nmL at h
  simp only [] at h
  have hs : ∀ y, y ∈ (if o = true then B.drop 1 else B) → y ∈ B := fun y hy => by
    cases o with
    | true => exact List.mem_of_mem_drop hy
    | false => exact hy
  rcases List.mem_append.mp h with h | h
  · exact .inl (hs x (List.mem_of_mem_take h))
  · rcases List.mem_cons.mp h with h | h
    · exact .inr h
    · exact .inl (hs x (List.mem_of_mem_drop h))
theorem nmL_ne {B : List Nat} {p : Nat} {o o' : Bool} {c c' : Nat} (hc : c ≠ c') : nmL B p o c ≠ nmL B p o' c' := fun h => by
  have same : ∀ own : List Nat, own.take (min p own.length) ++ c :: own.drop (min p own.length) ≠ own.take (min p own.length) ++ c' :: own.drop (min p own.length) := fun own q => by
    have := List.append_cancel_left q
    injection this with e _
    exact hc e
  have hl : (nmL B p o c).length = (nmL B p o' c').length := by rw [h]
  rw [nmL_len, nmL_len] at hl
  cases o <;> cases o'
  · exact same B h
  · have : B = [] := by
      cases B with
      | nil => rfl
      | cons a B => simp at hl
    subst this
    exact same [] h
  · have : B = [] := by
      cases B with
      | nil => rfl
      | cons a B => simp at hl
    subst this
    exact same [] h
  · exact same (B.drop 1) h
def ofL (l : List Nat) : Str := ⟨l.toArray⟩
theorem ofL_inj {a b : List Nat} (h : ofL a = ofL b) : a = b := by
  have := congrArg (fun s : Str => s.cps.toList) h
  simpa [ofL] using this
theorem ofL_len (l : List Nat) : (ofL l).length = l.length := by
  show l.toArray.size = l.length
  simp
theorem cut_lo (z : Str) (n : Nat) : cutS z none (some (n : Int)) = ofL (z.cps.toList.take n) := by
  have hl : z.length = z.cps.toList.length := by rw [Array.length_toList]; rfl
  unfold cutS ofL
  rw [HT.sIx_nat, HT.sIx_none, List.drop_zero, Nat.sub_zero, hl]
  congr 2
  rw [Nat.min_def]
  split
  · rfl
  · rw [List.take_of_length_le (Nat.le_refl _), List.take_of_length_le (by omega)]
theorem cut_hi (z : Str) (n : Nat) : cutS z (some (n : Int)) none = ofL (z.cps.toList.drop n) := by
  have hl : z.length = z.cps.toList.length := by rw [Array.length_toList]; rfl
  unfold cutS ofL
  rw [HT.sIx_nat, HT.sIx_none, hl]
  congr 2
  rw [List.take_of_length_le (by rw [List.length_drop]; exact Nat.le_refl _)]
  rw [Nat.min_def]
  split
  · rfl
  · rw [List.drop_of_length_le (Nat.le_refl _), List.drop_of_length_le (by omega)]
theorem app_ofL (a b : List Nat) : ofL a ++ ofL b = ofL (a ++ b) := by
  show (⟨a.toArray ++ b.toArray⟩ : Str) = ⟨(a ++ b).toArray⟩
  congr 1
  simp
def nmS (B : List Nat) (p : Nat) (n : Int) (k : Nat) : Str := ofL (nmL B p (decide ((n / 144 + (k : Int)) % 3 = 0)) (ltr (n / 11 + 5 * (k : Int))))
theorem nmS_ok {B : List Nat} {p : Nat} {n : Int} (hB : ∀ x ∈ B, x ∈ LS) (hl : B.length ≤ 11) (m : Nat) (hm : m ≤ 3) : ((List.range m).map (nmS B p n)).Nodup ∧ ∀ s ∈ (List.range m).map (nmS B p n), NameOk s := by
  refine ⟨nd_on (fun a ha b hb e => ?_) List.nodup_range, fun s hs => ?_⟩
  · have ha := List.mem_range.mp ha
    have hb := List.mem_range.mp hb
    by_cases q : ltr (n / 11 + 5 * (a : Int)) = ltr (n / 11 + 5 * (b : Int))
    · have := ltr_inj q
      omega
    · exact absurd (ofL_inj e) (nmL_ne q)
  · obtain ⟨k, hk, rfl⟩ := List.mem_map.mp hs
    have hlen : (nmS B p n k).length = (if decide ((n / 144 + (k : Int)) % 3 = 0) = true then B.drop 1 else B).length + 1 := by
      unfold nmS
      rw [ofL_len, nmL_len]
    have hle : (if decide ((n / 144 + (k : Int)) % 3 = 0) = true then B.drop 1 else B).length ≤ 11 := by
      split
      · rw [List.length_drop]; omega
      · exact hl
    refine ⟨by omega, by omega, fun c hc => ?_⟩
    have hc' : c ∈ nmL B p (decide ((n / 144 + (k : Int)) % 3 = 0)) (ltr (n / 11 + 5 * (k : Int))) := by
      have : (nmS B p n k).cps.toList = nmL B p (decide ((n / 144 + (k : Int)) % 3 = 0)) (ltr (n / 11 + 5 * (k : Int))) := by
        unfold nmS ofL
        simp
      rw [this] at hc
      exact hc
    rcases nmL_mem hc' with h | h
    · exact hB c h
    · rw [h]
      exact ltr_mem _
end Mx

set_option Elab.async false
set_option linter.all false
set_option maxRecDepth 100000
set_option maxHeartbeats 2000000
/-! The law's names: the walk. -/
namespace Mx
open PySem PySem.Spec PyProof.Rows L2
theorem join_ofL {e : Str} (he : e.cps.toList = []) : ∀ cs : List Nat, Txt.join e (cs.map fun c => (⟨#[c]⟩ : Str)) = ofL cs := fun cs => by
  have hee : e = ofL [] := by
    have : e.cps = #[] := by
      have := congrArg List.toArray he
      simpa using this
    show e = (⟨[].toArray⟩ : Str)
    cases e
    simp at this
    subst this
    rfl
  rw [TL.join_eq, hee]
  induction cs with
  | nil => rfl
  | cons c cs ih =>
    cases cs with
    | nil => rfl
    | cons d cs =>
      show (⟨#[c]⟩ : Str) ++ ofL [] ++ Str.join (ofL []) ((d :: cs).map fun c => (⟨#[c]⟩ : Str)) = ofL (c :: d :: cs)
      rw [ih]
      show ofL [c] ++ ofL [] ++ ofL (d :: cs) = _
      rw [app_ofL, app_ofL]
      rfl
theorem str_ofL (s : Str) : ofL s.cps.toList = s := by
  unfold ofL
  simp
section
variable {P : Program} {w : World} {K : PySem.W.Frag} {mg : Str → Option Value} {base : Heap}
def sp_law_names : Sp := fun vs H Q _ => ∃ (n : Int) (m : Nat), vs = [.int n, .int (m : Int)] ∧ 0 ≤ n ∧ n < 1009 ∧ m ≤ 3 ∧ ∀ l : List Str, l.length = m → l.Nodup → (∀ s ∈ l, NameOk s) → retL rStr H Q l
theorem ok__law_names (T : Tx K mg) : FnOk P w K mg base CX0 1 T.a__law_names T.d__law_names P__law_names sp_law_names := by
  refine T.F__law_names.ok sc__law_names (fun vs H Q E h => ?_) (fun cdv A outer s H vs Q E hr h => ⟨_, PSs.nox (pss_cons (ps_set (i := 2) sc__law_names.nd rfl (Or.inr rfl) pe_str)
    (pss_cons (ps_set (i := 3) sc__law_names.nd rfl (Or.inl rfl) (pe_join pe_str (pe_lc (own := [("_law_k", 6)]) rfl sc__law_names.nd (pi_range1 rfl T.n_range (pa_cons (pe_op op_mod (pe_callTy call_int1 (by rfl) T.n_int (by decide +kernel) (pa_cons (pv 0) pa_nil)) pe_int) pa_nil)) (blkOk_by (own := [("_law_k", 6)]) (N := N__law_names) (sc := defScope s__law_names) (by decide +kernel)) (fun _ _ _ _ _ => (pg_name (i := 6) sc__law_names.nd rfl (Or.inl rfl))) (fun _ _ _ _ _ => pts_nil) (fun _ _ _ _ _ => (pe_ix ix_str (pv 2) (pe_op op_mod (pe_callTy call_int1 (by rfl) T.n_int (by decide +kernel) (pa_cons (pe_op op_add (pv 0) (pe_op op_mul (pe_op op_mul pe_int (pv 6)) (pv 6))) pa_nil)) pe_int) (fun _ _ => rfl))))))
    (pss_cons (ps_set (i := 4) sc__law_names.nd rfl (Or.inl rfl) (pe_op op_mod (pe_callTy call_int1 (by rfl) T.n_int (by decide +kernel) (pa_cons (pe_op op_fdiv (pv 0) pe_int) pa_nil)) (pe_op op_add (pe_callB call_len_str (by rfl) T.n_len (by decide +kernel) (pa_cons (pv 3) pa_nil)) pe_int)))
    (pss_cons (ps_set (i := 5) sc__law_names.nd rfl (Or.inl rfl) (pe_lst pa_nil))
    (pss_cons (ps_for PassesOwn.never rfl (pi_range1 rfl T.n_range (pa_cons (pv 1) pa_nil)) (pg_name (i := 6) sc__law_names.nd rfl (Or.inl rfl))
    (pss_cons (ps_set (i := 7) sc__law_names.nd rfl (Or.inl rfl) (pv 3))
    (pss_cons (ps_if (pt_cmpR op_eq (pe_op op_mod (pe_callTy call_int1 (by rfl) T.n_int (by decide +kernel) (pa_cons (pe_op op_add (pe_op op_fdiv (pv 0) pe_int) (pv 6)) pa_nil)) pe_int) pe_int (nomark _)) (pss_one (ps_set (i := 7) sc__law_names.nd rfl (Or.inl rfl) (pe_slice sl_str (pv 3) (po_some pe_int) po_none))) pss_nil)
    (pss_cons (ps_set (i := 8) sc__law_names.nd rfl (Or.inl rfl) (pe_callB (call_min2 rfl) (by rfl) T.n_min (by decide +kernel) (pa_cons (pv 4) (pa_cons (pe_callB call_len_str (by rfl) T.n_len (by decide +kernel) (pa_cons (pv 7) pa_nil)) pa_nil))))
    (pss_one (ps_expr (pe_bm PySem.F.plainAttrs_list PySem.F.slot_list_append PySem.F.type_list_append mt_append (pv 5) (pa_cons (pe_op op_add_str (pe_op op_add_str (pe_slice sl_str (pv 7) po_none (po_some (pv 8))) (pe_ix ix_str (pv 2) (pe_op op_mod (pe_callTy call_int1 (by rfl) T.n_int (by decide +kernel) (pa_cons (pe_op op_add (pe_op op_fdiv (pv 0) pe_int) (pe_op op_mul pe_int (pv 6))) pa_nil)) pe_int) (fun _ _ => rfl))) (pe_slice sl_str (pv 7) (po_some (pv 8)) po_none)) pa_nil))))))))
    (pss_one (ps_ret (pv 5)))))))), ?_⟩)
  · obtain ⟨_, _, rfl, _⟩ := h
    rfl
  · obtain ⟨n, m, rfl, n0, n1, hm, k⟩ := h
    have sz := sizeLine_eq
    rw [show L2.start N__law_names [V.int n, V.int (m : Int)] = [some (V.int n), some (V.int (m : Int)), none, none, none, none, none, none, none] from rfl]
    have h12 : (n % 12).toNat ≤ 11 := by omega
    refine ⟨⟨_, rfl⟩, _, rfl, .inl ⟨_, rfl, _, _, rfl, rfl, (by show (0 : Int) < 12; decide), _, rfl, (by omega), (by omega), fun D hD => ?_⟩⟩
    refine lc_gen (A := rStr) (B := fun _ v (j : Nat) => v = .int (j : Int) ∧ j < (n % 12).toNat) walk_range (List.range (n % 12).toNat) (List.length_range) (by omega) hD (fun _ _ => trivial) ?_ (fun _ => true) (fun j : Nat => (⟨#[ltr (n + 7 * (j : Int) * (j : Int))]⟩ : Str)) ?_ ?_
    · rintro j H5 x H6 b hb _ ⟨rfl, rfl⟩
      obtain ⟨q1, q2⟩ := List.getElem?_eq_some_iff.mp hb
      rw [List.getElem_range] at q2
      rw [List.length_range] at q1
      exact ⟨Same.refl _, by show V.int (0 + (j : Int)) = V.int (b : Int); rw [q2]; congr 1; omega, by omega⟩
    · rintro j b x H' hb s5 ⟨rfl, hbl⟩ Ks Kc kt _
      refine ⟨rfl, yesT (iteT ?_)⟩
      refine ⟨_, rfl, _, rfl, _, rfl, _, _, rfl, rfl, .inl ⟨by decide, by decide⟩, _, rfl, _, _, rfl, rfl, .inr ⟨by omega, by omega⟩, _, _, rfl, rfl, .inl ⟨_, rfl, _, _, rfl, rfl, (by show (0 : Int) < 36; decide), letters, _, ltr (n + 7 * (b : Int) * (b : Int)), rfl, rfl, (by show 36 ≤ sizeLine; omega), ltr_at _, ?_⟩⟩
      exact kt _ _ (Same.refl _) rfl rfl
    · intro H1 ys s1 hD1 hp1
      rw [filt_true] at hp1
      have e1 := strs_eq hp1
      subst e1
      have ecs : ((List.range (n % 12).toNat).map fun j : Nat => (⟨#[ltr (n + 7 * (j : Int) * (j : Int))]⟩ : Str)) = ((List.range (n % 12).toNat).map fun j : Nat => ltr (n + 7 * (j : Int) * (j : Int))).map fun c => (⟨#[c]⟩ : Str) := by
        rw [List.map_map]
        rfl
      have hBm : ∀ x ∈ (List.range (n % 12).toNat).map (fun j : Nat => ltr (n + 7 * (j : Int) * (j : Int))), x ∈ LS := fun x hx => by
        obtain ⟨j, _, rfl⟩ := List.mem_map.mp hx
        exact ltr_mem _
      have hBl : ((List.range (n % 12).toNat).map fun j : Nat => ltr (n + 7 * (j : Int) * (j : Int))).length ≤ 11 := by rw [List.length_map, List.length_range]; exact h12
      generalize (List.range (n % 12).toNat).map (fun j : Nat => ltr (n + 7 * (j : Int) * (j : Int))) = B at ecs hBm hBl
      refine ⟨_, D, _, rfl, rfl, .inl (SqL.of hD1), ?_, ?_⟩
      · rw [ecs, List.map_map]
        have : (B.map ((fun x : Str => x.length) ∘ fun c => (⟨#[c]⟩ : Str))) = B.map fun _ => 1 := List.map_congr_left fun _ _ => rfl
        rw [this]
        have h2 : (B.map fun _ => 1).sum = B.length := by
          clear hBm hBl ecs this
          induction B with
          | nil => rfl
          | cons b B ih => rw [List.map_cons, List.sum_cons, ih, List.length_cons]; omega
        rw [h2, List.length_map]
        have : B.length * (Str.ofString "").length = 0 := by rw [show (Str.ofString "").length = 0 from rfl]; omega
        omega
      rw [ecs, join_ofL rfl]
      dsimp only [gName, List.set_cons_zero, List.set_cons_succ]
      -- place
      have hbl : (ofL B).length = B.length := ofL_len B
      refine ⟨_, rfl, _, _, rfl, rfl, ⟨by decide, by decide⟩, .inl ⟨_, rfl, _, rfl, _, rfl, (by rw [hbl]; omega), _, _, rfl, rfl, _, _, rfl, rfl, (by rw [hbl]; show (0 : Int) < ((B.length : Nat) : Int) + 1; omega), ?_⟩⟩
      dsimp only [gName, List.set_cons_zero, List.set_cons_succ]
      rw [hbl]
      obtain ⟨p, hp⟩ : ∃ p : Nat, (n / 12) % (((B.length : Nat) : Int) + 1) = (p : Int) := ⟨((n / 12) % (((B.length : Nat) : Int) + 1)).toNat, by have := Int.emod_nonneg (n / 12) (show (((B.length : Nat) : Int) + 1) ≠ 0 by omega); omega⟩
      have hpl : p ≤ 11 := by
        have := Int.emod_lt_of_pos (n / 12) (show (0 : Int) < ((B.length : Nat) : Int) + 1 by omega)
        omega
      rw [hp]
      refine ⟨(by show 0 ≤ sizeLine; omega), fun G hG => ?_⟩
      dsimp only [gName, List.set_cons_zero, List.set_cons_succ]
      have hGH : H G = none := by
        cases z : H G with
        | none => rfl
        | some u => rw [s1 G u z] at hG; cases hG
      refine ⟨_, rfl, _, rfl, by omega, by omega, ?_⟩
      rw [show ((m : Nat) : Int).toNat = m from by omega]
      refine for_it walk_range (fun i σ H2 => (Same H H2 ∧ H2 G = some (.lst (((List.range i).map (nmS B p n)).map V.str))) ∧ ∃ a b c, σ = [some (.int n), some (.int (m : Int)), some (.str letters), some (.str (ofL B)), some (.int (p : Int)), some (.ref G), a, b, c])
        ⟨⟨s1.trans (Same.new hG), upd_same⟩, _, _, _, rfl⟩ (fun _ _ _ _ _ => trivial) ?_ ?_
      · rintro i x σ H2 H3 hi ⟨⟨s2, hG2⟩, _, _, _, rfl⟩ ⟨rfl, rfl⟩
        have ei : (0 : Int) + ((i : Nat) : Int) = ((i : Nat) : Int) := by omega
        dsimp only [gName, List.set_cons_zero, List.set_cons_succ]
        rw [ei]
        refine ⟨_, rfl, ?_⟩
        dsimp only [gName, List.set_cons_zero, List.set_cons_succ]
        refine ⟨_, rfl, _, _, rfl, rfl, ⟨by decide, by decide⟩, _, rfl, _, _, rfl, rfl, .inl ⟨_, rfl, _, _, rfl, rfl, (by show (0 : Int) < 3; decide), rfl, decide ((n / 144 + ((i : Nat) : Int)) % 3 = 0), ?_, ?_⟩⟩
        · show V.bl (decide (V.int ((n / 144 + ((i : Nat) : Int)) % 3) = V.int 0)) = _
          by_cases e : (n / 144 + ((i : Nat) : Int)) % 3 = 0
          · rw [decide_eq_true e, decide_eq_true (by rw [e])]
          · rw [decide_eq_false e, decide_eq_false (fun z => e (V.int.inj z))]
        refine ite2 (fun h => ⟨_, rfl, _, rfl, _, rfl, (by rw [hbl]; omega), ?_⟩) (fun h => ?_)
        · have ecut : cutS (ofL B) (some 1) none = ofL (B.drop 1) := by
            rw [show (1 : Int) = ((1 : Nat) : Int) from rfl, cut_hi]
            show ofL ((⟨B.toArray⟩ : Str).cps.toList.drop 1) = _
            simp
          rw [ecut]
          have eo : (if decide ((n / 144 + ((i : Nat) : Int)) % 3 = 0) = true then B.drop 1 else B) = B.drop 1 := if_pos h
          have hol : (ofL (B.drop 1)).length = (B.drop 1).length := ofL_len _
          have hol2 : (B.drop 1).length ≤ 11 := by rw [List.length_drop]; omega
          dsimp only [gName, List.set_cons_zero, List.set_cons_succ]
          refine ⟨_, rfl, _, rfl, _, rfl, (by rw [hol]; omega), _, _, rfl, ?_⟩
          rw [hol]
          have emin : (if (((B.drop 1).length : Nat) : Int) < ((p : Nat) : Int) then (((B.drop 1).length : Nat) : Int) else ((p : Nat) : Int)) = ((min p (B.drop 1).length : Nat) : Int) := by
            rw [Nat.min_def]
            split <;> split <;> omega
          rw [emin]
          dsimp only [gName, List.set_cons_zero, List.set_cons_succ]
          have l1 : (cutS (ofL (B.drop 1)) none (some ((min p (B.drop 1).length : Nat) : Int))).length ≤ 11 := Nat.le_trans (cutS_length _ _ _) (by rw [hol]; exact hol2)
          have l2 : (cutS (ofL (B.drop 1)) (some ((min p (B.drop 1).length : Nat) : Int)) none).length ≤ 11 := Nat.le_trans (cutS_length _ _ _) (by rw [hol]; exact hol2)
          have lc1 : (⟨#[ltr (n / 11 + 5 * ((i : Nat) : Int))]⟩ : Str).length = 1 := rfl
          have l3 : (cutS (ofL (B.drop 1)) none (some ((min p (B.drop 1).length : Nat) : Int)) ++ (⟨#[ltr (n / 11 + 5 * ((i : Nat) : Int))]⟩ : Str)).length ≤ 12 := by rw [PySem.Str.length_append, lc1]; omega
          refine ⟨_, rfl, .inl ⟨rfl, _, SqL.of hG2⟩, _, rfl, _, rfl, _, rfl, _, rfl, (by rw [hol]; omega), _, rfl, _, rfl, _, _, rfl, rfl, ⟨by decide, by decide⟩, _, rfl, _, _, rfl, rfl, .inl ⟨by decide, by decide⟩, _, _, rfl, rfl, .inl ⟨_, rfl, _, _, rfl, rfl, (by show (0 : Int) < 36; decide), letters, _, ltr (n / 11 + 5 * ((i : Nat) : Int)), rfl, rfl, (by show 36 ≤ sizeLine; omega), ltr_at _,
            _, _, rfl, rfl, (by rw [lc1]; omega), _, rfl, _, rfl, _, rfl, _, rfl, (by rw [hol]; omega), _, _, rfl, rfl, (by omega), G, _, _, rfl, rfl, hG2, (by rw [List.length_map, List.length_map, List.length_range]; omega), ?_⟩⟩
          refine ⟨⟨Same.mut s2 hGH, ?_⟩, _, _, _, rfl⟩
          rw [upd_same, List.range_succ, List.map_append, List.map_append]
          have el : ∀ l : List Nat, (ofL l).cps.toList = l := fun l => by unfold ofL; simp
          have efin : cutS (ofL (B.drop 1)) none (some ((min p (B.drop 1).length : Nat) : Int)) ++ (⟨#[ltr (n / 11 + 5 * ((i : Nat) : Int))]⟩ : Str) ++ cutS (ofL (B.drop 1)) (some ((min p (B.drop 1).length : Nat) : Int)) none = nmS B p n i := by
            rw [cut_lo, cut_hi, el]
            show ofL _ ++ ofL [ltr (n / 11 + 5 * ((i : Nat) : Int))] ++ ofL _ = nmS B p n i
            rw [app_ofL, app_ofL]
            unfold nmS nmL
            simp only []
            rw [eo, List.append_assoc]
            rfl
          rw [efin]
          rfl
        · have eo : (if decide ((n / 144 + ((i : Nat) : Int)) % 3 = 0) = true then B.drop 1 else B) = B := if_neg h
          have hol : (ofL B).length = (B).length := ofL_len _
          have hol2 : (B).length ≤ 11 := hBl
          dsimp only [gName, List.set_cons_zero, List.set_cons_succ]
          refine ⟨_, rfl, _, rfl, _, rfl, (by rw [hol]; omega), _, _, rfl, ?_⟩
          rw [hol]
          have emin : (if (((B).length : Nat) : Int) < ((p : Nat) : Int) then (((B).length : Nat) : Int) else ((p : Nat) : Int)) = ((min p (B).length : Nat) : Int) := by
            rw [Nat.min_def]
            split <;> split <;> omega
          rw [emin]
          dsimp only [gName, List.set_cons_zero, List.set_cons_succ]
          have l1 : (cutS (ofL (B)) none (some ((min p (B).length : Nat) : Int))).length ≤ 11 := Nat.le_trans (cutS_length _ _ _) (by rw [hol]; exact hol2)
          have l2 : (cutS (ofL (B)) (some ((min p (B).length : Nat) : Int)) none).length ≤ 11 := Nat.le_trans (cutS_length _ _ _) (by rw [hol]; exact hol2)
          have lc1 : (⟨#[ltr (n / 11 + 5 * ((i : Nat) : Int))]⟩ : Str).length = 1 := rfl
          have l3 : (cutS (ofL (B)) none (some ((min p (B).length : Nat) : Int)) ++ (⟨#[ltr (n / 11 + 5 * ((i : Nat) : Int))]⟩ : Str)).length ≤ 12 := by rw [PySem.Str.length_append, lc1]; omega
          refine ⟨_, rfl, .inl ⟨rfl, _, SqL.of hG2⟩, _, rfl, _, rfl, _, rfl, _, rfl, (by rw [hol]; omega), _, rfl, _, rfl, _, _, rfl, rfl, ⟨by decide, by decide⟩, _, rfl, _, _, rfl, rfl, .inl ⟨by decide, by decide⟩, _, _, rfl, rfl, .inl ⟨_, rfl, _, _, rfl, rfl, (by show (0 : Int) < 36; decide), letters, _, ltr (n / 11 + 5 * ((i : Nat) : Int)), rfl, rfl, (by show 36 ≤ sizeLine; omega), ltr_at _,
            _, _, rfl, rfl, (by rw [lc1]; omega), _, rfl, _, rfl, _, rfl, _, rfl, (by rw [hol]; omega), _, _, rfl, rfl, (by omega), G, _, _, rfl, rfl, hG2, (by rw [List.length_map, List.length_map, List.length_range]; omega), ?_⟩⟩
          refine ⟨⟨Same.mut s2 hGH, ?_⟩, _, _, _, rfl⟩
          rw [upd_same, List.range_succ, List.map_append, List.map_append]
          have el : ∀ l : List Nat, (ofL l).cps.toList = l := fun l => by unfold ofL; simp
          have efin : cutS (ofL (B)) none (some ((min p (B).length : Nat) : Int)) ++ (⟨#[ltr (n / 11 + 5 * ((i : Nat) : Int))]⟩ : Str) ++ cutS (ofL (B)) (some ((min p (B).length : Nat) : Int)) none = nmS B p n i := by
            rw [cut_lo, cut_hi, el]
            show ofL _ ++ ofL [ltr (n / 11 + 5 * ((i : Nat) : Int))] ++ ofL _ = nmS B p n i
            rw [app_ofL, app_ofL]
            unfold nmS nmL
            simp only []
            rw [eo, List.append_assoc]
            rfl
          rw [efin]
          rfl
      · rintro σ H2 ⟨⟨s2, hG2⟩, _, _, _, rfl⟩
        obtain ⟨q1, q2⟩ := nmS_ok (p := p) (n := n) hBm hBl m hm
        exact ⟨_, rfl, k _ (by rw [List.length_map, List.length_range]) q1 q2 G H2 _ hGH s2 hG2 (strs_of' _)⟩
end
end Mx

set_option Elab.async false
set_option linter.all false
set_option maxRecDepth 100000
set_option maxHeartbeats 2000000
/-! The law's plant. -/
namespace Mx
open PySem PySem.Spec PyProof.Rows L2
/-- what the law's plant is -/
structure Lpk (kl : List Str) (sl : List Sm) : Prop where
  nd : kl.Nodup
  ok : ∀ k ∈ kl, NameOk k
  l1 : 1 ≤ kl.length
  l3 : kl.length ≤ 3
  s3 : sl.length ≤ 3
  snd : (sl.map (·.nm)).Nodup
  sok : ∀ s ∈ sl, NameOk s.nm ∧ s.tl ∈ kl ∧ s.hd ∈ kl ∧ 0 ≤ s.lo ∧ s.lo ≤ s.hi ∧ s.hi ≤ 2
def rLp : Rep (List Str × List Sm) := fun H v x => ∃ a ka sa, v = .ref a ∧ H a = some (.lst [.ref ka, .ref sa]) ∧ rL rStr H (.ref ka) x.1 ∧ rL rSm H (.ref sa) x.2
instance : Mono rLp := ⟨fun e ⟨a, ka, sa, h1, h2, h3, h4⟩ => ⟨a, ka, sa, h1, e.lst a _ h2, Mono.mono e h3, Mono.mono e h4⟩⟩
theorem num_at {N : List Int} (hl : N.length = 110) (hs : Small N) {j : Nat} (h : j < 110) : ∃ x, (N.map V.int)[j]? = some (.int x) ∧ 0 ≤ x ∧ x < 1009 := by
  have hj : j < N.length := by omega
  refine ⟨N[j], by rw [List.getElem?_map, List.getElem?_eq_getElem hj] <;> rfl, hs _ (List.getElem_mem hj)⟩
theorem num_ix {N : List Int} (hl : N.length = 110) (hs : Small N) {i : Int} (h0 : 0 ≤ i) (h1 : i < 110) : ∃ x, atI (N.map V.int) i = some (.int x) ∧ 0 ≤ x ∧ x < 1009 := by
  obtain ⟨x, h2, h3⟩ := num_at hl hs (j := i.toNat) (by omega)
  have e : i = ((i.toNat : Nat) : Int) := by omega
  exact ⟨x, by rw [e]; exact atI_nat h2, h3⟩
theorem str_ix {l : List Str} {i : Int} (h0 : 0 ≤ i) (h1 : i < l.length) : ∃ x ∈ l, atI (l.map V.str) i = some (.str x) := by
  have hj : i.toNat < l.length := by omega
  have e : i = ((i.toNat : Nat) : Int) := by omega
  refine ⟨l[i.toNat], List.getElem_mem hj, ?_⟩
  have q := atI_nat (xs := l.map V.str) (j := i.toNat) (v := .str l[i.toNat]) (by rw [List.getElem?_map, List.getElem?_eq_getElem hj] <;> rfl)
  rw [← e] at q
  exact q
/-- the streams while they grow -/
structure Sg (H : Hp) (D : Addr) (kl nl : List Str) (i : Nat) (sl : List Sm) (G : Hp) : Prop where
  same : Same H G
  d : ∃ xs, G D = some (.lst xs) ∧ Paired (rSm G) xs sl
  nm : sl.map (·.nm) = nl.take i
  sok : ∀ s ∈ sl, s.tl ∈ kl ∧ s.hd ∈ kl ∧ 0 ≤ s.lo ∧ s.lo ≤ s.hi ∧ s.hi ≤ 2
section
variable {P : Program} {w : World} {K : PySem.W.Frag} {mg : Str → Option Value} {base : Heap}
def sp_law_plant : Sp := fun vs H Q _ => ∃ nv N, vs = [nv, .int 0, .int 3, .int 3, .int 2] ∧ rL rInt H nv N ∧ N.length = 110 ∧ Small N ∧ ∀ v H' kl sl, Same H H' → rLp H' v (kl, sl) → Lpk kl sl → Q v H'
theorem ok__law_plant (T : Tx K mg) : FnOk P w K mg base CX0 2 T.a__law_plant T.d__law_plant P__law_plant sp_law_plant := by
  refine T.F__law_plant.ok sc__law_plant (fun vs H Q E h => ?_) (fun cdv A outer s H vs Q E hr h => ⟨_, PSs.nox (pss_cons (ps_set (i := 5) sc__law_plant.nd rfl (Or.inl rfl) (pe_callB cr_sortedS (by rfl) T.n_sorted (by decide +kernel) (pa_cons (pe_call (ok__law_names T) (hr.mono (by decide)) rfl T.m__law_names T.F__law_names.kp (b__law_names T) .nil pass0 (pa_cons (pe_ix ix_list (pv 0) (pv 1) (fun _ _ => rfl)) (pa_cons (pe_op op_add pe_int (pe_op op_mod (pe_callTy call_int1 (by rfl) T.n_int (by decide +kernel) (pa_cons (pe_ix ix_list (pv 0) (pe_op op_add (pv 1) pe_int) (fun _ _ => rfl)) pa_nil)) (pv 2))) pa_nil))) pa_nil)))
    (pss_cons (ps_set (i := 6) sc__law_plant.nd rfl (Or.inl rfl) (pe_lst pa_nil))
    (pss_cons (ps_for PassesOwn.never rfl (pi_list (pe_call (ok__law_names T) (hr.mono (by decide)) rfl T.m__law_names T.F__law_names.kp (b__law_names T) .nil pass0 (pa_cons (pe_ix ix_list (pv 0) (pe_op op_add (pv 1) pe_int) (fun _ _ => rfl)) (pa_cons (pe_op op_mod (pe_callTy call_int1 (by rfl) T.n_int (by decide +kernel) (pa_cons (pe_ix ix_list (pv 0) (pe_op op_add (pv 1) pe_int) (fun _ _ => rfl)) pa_nil)) (pe_op op_add (pv 3) pe_int)) pa_nil)))) (pg_name (i := 7) sc__law_plant.nd rfl (Or.inl rfl))
    (pss_cons (ps_set (i := 8) sc__law_plant.nd rfl (Or.inl rfl) (pe_callB call_len_seq (by rfl) T.n_len (by decide +kernel) (pa_cons (pv 6) pa_nil)))
    (pss_cons (ps_set (i := 9) sc__law_plant.nd rfl (Or.inl rfl) (pe_op op_mod (pe_callTy call_int1 (by rfl) T.n_int (by decide +kernel) (pa_cons (pe_ix ix_list (pv 0) (pe_op op_add (pe_op op_add (pv 1) pe_int) (pe_op op_mul pe_int (pv 8))) (fun _ _ => rfl)) pa_nil)) (pe_op op_add (pv 4) pe_int)))
    (pss_cons (ps_set (i := 10) sc__law_plant.nd rfl (Or.inl rfl) (pe_op op_add (pv 9) (pe_op op_mod (pe_op op_fdiv (pe_callTy call_int1 (by rfl) T.n_int (by decide +kernel) (pa_cons (pe_ix ix_list (pv 0) (pe_op op_add (pe_op op_add (pv 1) pe_int) (pe_op op_mul pe_int (pv 8))) (fun _ _ => rfl)) pa_nil)) pe_int) (pe_op op_sub (pe_op op_add (pv 4) pe_int) (pv 9)))))
    (pss_cons (ps_if (pt_cmpR op_gt (pe_op op_mod (pe_callTy call_int1 (by rfl) T.n_int (by decide +kernel) (pa_cons (pe_ix ix_list (pv 0) (pe_op op_add (pe_op op_add (pv 1) pe_int) (pe_op op_mul pe_int (pv 8))) (fun _ _ => rfl)) pa_nil)) pe_int) pe_int (nomark _)) (pss_one (ps_par (i := 9) (j := 10) rfl sc__law_plant.nd rfl rfl (by decide) rfl rfl (pa_cons pe_int (pa_cons (pe_callB (call_max2 rfl) (by rfl) T.n_max (by decide +kernel) (pa_cons (pv 9) (pa_cons (pv 10) pa_nil))) pa_nil)) (by rfl))) pss_nil)
    (pss_one (ps_expr (pe_bm PySem.F.plainAttrs_list PySem.F.slot_list_append PySem.F.type_list_append mt_append (pv 6) (pa_cons (pe_tup (pa_cons (pv 7) (pa_cons (pe_ix ix_list (pv 5) (pe_op op_mod (pe_callTy call_int1 (by rfl) T.n_int (by decide +kernel) (pa_cons (pe_ix ix_list (pv 0) (pe_op op_add (pe_op op_add (pv 1) pe_int) (pe_op op_mul pe_int (pv 8))) (fun _ _ => rfl)) pa_nil)) (pe_callB call_len_seq (by rfl) T.n_len (by decide +kernel) (pa_cons (pv 5) pa_nil))) (fun _ _ => rfl)) (pa_cons (pe_ix ix_list (pv 5) (pe_op op_mod (pe_callTy call_int1 (by rfl) T.n_int (by decide +kernel) (pa_cons (pe_ix ix_list (pv 0) (pe_op op_add (pe_op op_add (pv 1) pe_int) (pe_op op_mul pe_int (pv 8))) (fun _ _ => rfl)) pa_nil)) (pe_callB call_len_seq (by rfl) T.n_len (by decide +kernel) (pa_cons (pv 5) pa_nil))) (fun _ _ => rfl)) (pa_cons (pv 9) (pa_cons (pv 10) pa_nil)))))) pa_nil)))))))))
    (pss_one (ps_ret (pe_lst (pa_cons (pv 5) (pa_cons (pe_callB (cr_sort5 hr.units) (by rfl) T.n_sorted (by decide +kernel) (pa_cons (pv 6) pa_nil)) pa_nil)))))))), ?_⟩)
  · obtain ⟨_, _, rfl, _⟩ := h
    rfl
  · obtain ⟨nv, N, rfl, ⟨na, nxs, rfl, hna, hnx⟩, hNl, hNs, k⟩ := h
    have en := ints_eq hnx
    subst en
    have sz := sizeLine_eq
    rw [show L2.start N__law_plant [V.ref na, V.int 0, V.int 3, V.int 3, V.int 2] = [some (V.ref na), some (V.int 0), some (V.int 3), some (V.int 3), some (V.int 2), none, none, none, none, none, none] from rfl]
    obtain ⟨x0, a0, b0, c0⟩ := num_ix hNl hNs (i := 0) (by decide) (by decide)
    obtain ⟨x1, a1, b1, c1⟩ := num_ix hNl hNs (i := 0 + 1) (by decide) (by decide)
    obtain ⟨m1, hm1⟩ : ∃ m : Nat, 1 + x1 % 3 = (m : Int) := ⟨(1 + x1 % 3).toNat, by omega⟩
    refine ⟨_, rfl, _, rfl, na, _, _, _, rfl, rfl, SqL.of hna, a0, _, rfl, _, rfl, _, _, rfl, rfl, na, _, _, _, rfl, rfl, SqL.of hna, a1, .inl ⟨_, rfl, _, rfl, _, _, rfl, rfl, (by show (0 : Int) < 3; decide), _, _, rfl, rfl, x0, m1, (by rw [← hm1] <;> rfl), b0, c0, by omega, fun kl hkl hknd hkok ka H1 kxs hka s1 hka1 hkx => ?_⟩⟩
    have ek := strs_eq hkx
    subst ek
    refine ⟨ka, kl, rfl, SqL.of hka1, by omega, fun ks p1 hperm _ hp1 => ?_⟩
    have s2 := s1.trans (Same.new (o := .lst (ks.map V.str)) hp1)
    dsimp only [gName, List.set_cons_zero, List.set_cons_succ]
    have ksl : ks.length = m1 := by rw [hperm.length_eq, hkl]
    refine ⟨(by show 0 ≤ sizeLine; omega), fun D hD => ?_⟩
    dsimp only [gName, List.set_cons_zero, List.set_cons_succ]
    have s3 := s2.trans (Same.new (o := .lst []) hD)
    have hDH : H D = none := by
      cases z : H D with
      | none => rfl
      | some u => rw [s2 D u z] at hD; cases hD
    have npD : p1 ≠ D := ne_of_none (H := upd H1 p1 (.lst (ks.map V.str))) upd_same hD
    obtain ⟨x2, a2, b2, c2⟩ := num_ix hNl hNs (i := 0 + 2) (by decide) (by decide)
    obtain ⟨x3, a3, b3, c3⟩ := num_ix hNl hNs (i := 0 + 3) (by decide) (by decide)
    obtain ⟨m2, hm2⟩ : ∃ m : Nat, x3 % (3 + 1) = (m : Int) := ⟨(x3 % (3 + 1)).toNat, by omega⟩
    have hna3 := s3 na _ hna
    refine ⟨_, rfl, _, rfl, _, _, rfl, rfl, na, _, _, _, rfl, rfl, SqL.of hna3, a2, _, rfl, _, rfl, _, _, rfl, rfl, na, _, _, _, rfl, rfl, SqL.of hna3, a3, .inl ⟨_, rfl, _, rfl, _, _, rfl, rfl, _, _, rfl, rfl, (by show (0 : Int) < 3 + 1; decide), x2, m2, (by rw [← hm2] <;> rfl), b2, c2, by omega, fun nl hnl hnnd hnok la H2 lxs hla s4 hla2 hlx => ?_⟩⟩
    have el := strs_eq hlx
    subst el
    have hp13 : upd (upd H1 p1 (.lst (ks.map V.str))) D (.lst []) p1 = some (.lst (ks.map V.str)) := by rw [upd_ne npD, upd_same]
    have nlD : la ≠ D := fun z => by rw [z, upd_same] at hla; cases hla
    refine ⟨la, rfl, ⟨_, SqL.of hla2⟩, for_it (walk_list (K := K)) (fun i σ G => ∃ sl, (Sg H D ks nl i sl G ∧ G la = some (.lst (nl.map V.str)) ∧ G p1 = some (.lst (ks.map V.str))) ∧ ∃ a b c d, σ = [some (.ref na), some (.int 0), some (.int 3), some (.int 3), some (.int 2), some (.ref p1), some (.ref D), a, b, c, d])
      ⟨[], ⟨⟨s3.trans s4, ⟨[], s4 D _ upd_same, .nil⟩, rfl, fun _ h => nomatch h⟩, hla2, s4 p1 _ hp13⟩, _, _, _, _, rfl⟩ (fun i σ G _ ⟨_, h, _⟩ => SqL.of h.2.1) ?_ ?_⟩
    · rintro i x σ G G' hi ⟨sl, ⟨sg, hlaG, hp1G⟩, _, _, _, _, rfl⟩ ⟨rfl, hxi⟩
      rw [List.getElem?_map] at hxi
      cases hy : nl[i]? with
      | none => rw [hy] at hxi; cases hxi
      | some nm =>
        rw [hy] at hxi
        cases hxi
        have hi3 : i < 3 := by have := (List.getElem?_eq_some_iff.mp hy).1; omega
        obtain ⟨xs, hDG, hpG⟩ := sg.d
        have hnaG := sg.same na _ hna
        have hxl : xs.length = i := by
          rw [paired_len hpG]
          have := congrArg List.length sg.nm
          rw [List.length_map, List.length_take] at this
          have := (List.getElem?_eq_some_iff.mp hy).1
          omega
        dsimp only [gName, List.set_cons_zero, List.set_cons_succ]
        refine ⟨_, rfl, D, _, rfl, .inl (SqL.of hDG), ?_⟩
        dsimp only [gName, List.set_cons_zero, List.set_cons_succ]
        rw [hxl]
        obtain ⟨y6, a6, b6, c6⟩ := num_ix hNl hNs (i := 0 + 6 + 3 * ((i : Nat) : Int)) (by omega) (by omega)
        obtain ⟨y4, a4, b4, c4⟩ := num_ix hNl hNs (i := 0 + 4 + 3 * ((i : Nat) : Int)) (by omega) (by omega)
        obtain ⟨y5, a5, b5, c5⟩ := num_ix hNl hNs (i := 0 + 5 + 3 * ((i : Nat) : Int)) (by omega) (by omega)
        refine ⟨_, rfl, _, rfl, _, _, rfl, rfl, _, rfl, _, _, rfl, rfl, .inl ⟨by decide, by decide⟩, _, _, rfl, rfl, na, _, _, _, rfl, rfl, SqL.of hnaG, a6, .inl ⟨_, rfl, _, rfl, _, _, rfl, rfl, _, _, rfl, rfl, (by show (0 : Int) < 2 + 1; decide), ?_⟩⟩
        dsimp only [gName, List.set_cons_zero, List.set_cons_succ]
        have hlow : 0 ≤ y6 % (2 + 1) ∧ y6 % (2 + 1) ≤ 2 := by omega
        generalize y6 % (2 + 1) = low at hlow
        refine ⟨_, rfl, _, rfl, _, rfl, _, _, rfl, rfl, _, rfl, _, _, rfl, rfl, .inl ⟨by decide, by decide⟩, _, _, rfl, rfl, na, _, _, _, rfl, rfl, SqL.of hnaG, a6, .inl ⟨_, rfl, _, _, rfl, rfl, ⟨by decide, by decide⟩, _, rfl, _, _, rfl, rfl, _, rfl, _, _, rfl, rfl, _, _, rfl, rfl, (by show (0 : Int) < 2 + 1 - low; omega), _, _, rfl, rfl, ?_⟩⟩
        dsimp only [gName, List.set_cons_zero, List.set_cons_succ]
        have hhigh : low ≤ low + y6 / 31 % (2 + 1 - low) ∧ low + y6 / 31 % (2 + 1 - low) ≤ 2 := by
          have h1 := Int.emod_nonneg (y6 / 31) (show 2 + 1 - low ≠ 0 by omega)
          have h2 := Int.emod_lt_of_pos (y6 / 31) (show 0 < 2 + 1 - low by omega)
          omega
        generalize low + y6 / 31 % (2 + 1 - low) = high at hhigh
        refine ⟨_, rfl, _, rfl, _, _, rfl, rfl, _, rfl, _, _, rfl, rfl, .inl ⟨by decide, by decide⟩, _, _, rfl, rfl, na, _, _, _, rfl, rfl, SqL.of hnaG, a6, .inl ⟨_, rfl, _, _, rfl, rfl, (by show (0 : Int) < 3; decide), _, _, rfl, rfl, _, rfl, ?_⟩⟩
        have fin : ∀ (lo hi : Int), 0 ≤ lo → lo ≤ hi → hi ≤ 2 → ∀ t : Addr, G' t = none → ∀ tl ∈ ks, ∀ hd ∈ ks, Sg H D ks nl (i + 1) (sl ++ [⟨nm, tl, hd, lo, hi⟩]) (upd (upd G' t (.tup [.str nm, .str tl, .str hd, .int lo, .int hi])) D (.lst (xs ++ [.ref t]))) ∧
            upd (upd G' t (.tup [.str nm, .str tl, .str hd, .int lo, .int hi])) D (.lst (xs ++ [.ref t])) la = some (.lst (nl.map V.str)) ∧ upd (upd G' t (.tup [.str nm, .str tl, .str hd, .int lo, .int hi])) D (.lst (xs ++ [.ref t])) p1 = some (.lst (ks.map V.str)) := by
          intro lo hi q1 q2 q3 t ht tl htl hd hhd
          have st := Same.new (o := .tup [.str nm, .str tl, .str hd, .int lo, .int hi]) ht
          have hDt := st D _ hDG
          have ntD : t ≠ D := fun z => by rw [z, hDG] at ht; cases ht
          have tu : TupS G' (upd (upd G' t (.tup [.str nm, .str tl, .str hd, .int lo, .int hi])) D (.lst (xs ++ [.ref t]))) := (TupS.of st).trans (TupS.upd hDt fun _ z => nomatch z)
          refine ⟨⟨Same.mut (sg.same.trans st) hDH, ⟨_, upd_same, paired_snoc (paired_tu tu hpG) ⟨t, rfl, by rw [upd_ne ntD, upd_same]⟩⟩, ?_, fun s hs => ?_⟩, by rw [upd_ne nlD]; exact st la _ hlaG, by rw [upd_ne npD]; exact st p1 _ hp1G⟩
          · rw [List.map_append, sg.nm, List.take_add_one, hy]
            rfl
          · rcases List.mem_append.mp hs with hs | hs
            · exact sg.sok s hs
            · rw [List.mem_singleton.mp hs]
              exact ⟨htl, hhd, q1, q2, q3⟩
        have ksp : (0 : Int) < ((ks.length : Nat) : Int) := by omega
        have klp : (((ks.map V.str).length : Nat) : Int) = ((ks.length : Nat) : Int) := by rw [List.length_map]
        obtain ⟨tl, htl, atl⟩ := str_ix (l := ks) (i := y4 % (((ks.map V.str).length : Nat) : Int)) (Int.emod_nonneg _ (by omega)) (by rw [klp]; exact Int.emod_lt_of_pos _ ksp)
        obtain ⟨hd, hhd, ahd⟩ := str_ix (l := ks) (i := y5 % (((ks.map V.str).length : Nat) : Int)) (Int.emod_nonneg _ (by omega)) (by rw [klp]; exact Int.emod_lt_of_pos _ ksp)
        refine ite2 (fun h => ⟨_, rfl, _, rfl, _, _, rfl, _, _, rfl, ?_⟩) (fun h => ?_)
        all_goals
          dsimp only [gName, List.set_cons_zero, List.set_cons_succ]
          refine ⟨_, rfl, .inl ⟨rfl, _, SqL.of hDG⟩, _, rfl, _, rfl, _, rfl, _, rfl, _, _, rfl, rfl, _, rfl, _, _, rfl, rfl, .inl ⟨by decide, by decide⟩, _, _, rfl, rfl, na, _, _, _, rfl, rfl, SqL.of hnaG, a4, .inl ⟨_, rfl, _, rfl, p1, _, rfl, .inl (SqL.of hp1G), _, _, rfl, rfl, (by rw [klp]; exact ksp), p1, _, _, _, rfl, rfl, SqL.of hp1G, atl,
            _, rfl, _, rfl, _, rfl, _, _, rfl, rfl, _, rfl, _, _, rfl, rfl, .inl ⟨by decide, by decide⟩, _, _, rfl, rfl, na, _, _, _, rfl, rfl, SqL.of hnaG, a5, .inl ⟨_, rfl, _, rfl, p1, _, rfl, .inl (SqL.of hp1G), _, _, rfl, rfl, (by rw [klp]; exact ksp), p1, _, _, _, rfl, rfl, SqL.of hp1G, ahd, _, rfl, _, rfl, (by show 5 ≤ sizeLine; omega), fun t ht => ?_⟩⟩⟩
          have ntD : D ≠ t := ne_of_none hDG ht
          refine ⟨D, xs, _, rfl, rfl, by rw [upd_ne ntD]; exact hDG, by omega, ?_⟩
        · exact ⟨_, fin 0 (if high > low then high else low) (Int.le_refl _) (by split <;> omega) (by split <;> omega) t ht tl htl hd hhd, _, _, _, _, rfl⟩
        · exact ⟨_, fin low high (by omega) (by omega) (by omega) t ht tl htl hd hhd, _, _, _, _, rfl⟩
    · rintro σ G ⟨sl, ⟨sg, hlaG, hp1G⟩, _, _, _, _, rfl⟩
      obtain ⟨xs, hDG, hpG⟩ := sg.d
      have hnm : sl.map (·.nm) = nl := by
        have := sg.nm
        rw [List.length_map, List.take_length] at this
        exact this
      have sll : sl.length ≤ 3 := by
        have := congrArg List.length hnm
        rw [List.length_map] at this
        omega
      obtain ⟨bs, e1, e2, e3⟩ := sm_bs (K := K) hpG
      refine ⟨_, rfl, _, rfl, D, bs, rfl, SqL.of (by rw [e1]; exact hDG), e3, by omega, fun ys p2 hperm2 hp2 => ?_⟩
      obtain ⟨st, hst, hys⟩ := paired_perm (xs := xs) (ys := ys.map (·.1)) (by rw [← e1]; exact hperm2.map _) hpG
      have s5 := Same.new (o := .lst (ys.map (·.1))) hp2
      refine ⟨(by show 2 ≤ sizeLine; omega), fun r hr2 => ?_⟩
      have s6 := Same.new (o := .lst [V.ref p1, V.ref p2]) hr2
      have s56 := s5.trans s6
      refine k (.ref r) _ ks st (sg.same.trans s56) ⟨r, p1, p2, rfl, upd_same, ⟨p1, _, rfl, s56 p1 _ hp1G, strs_of' _⟩, ⟨p2, _, rfl, s6 p2 _ upd_same, paired_tu (TupS.of s56) hys⟩⟩ ⟨hperm.nodup_iff.mpr hknd, fun k hk => hkok k (hperm.mem_iff.mp hk), by omega, by omega, by rw [hst.length_eq]; exact sll, ?_, fun s hs => ?_⟩
      · exact (hst.map (·.nm)).nodup_iff.mpr (by rw [hnm]; exact hnnd)
      · have hs' := hst.mem_iff.mp hs
        exact ⟨hnok _ (by rw [← hnm]; exact List.mem_map.mpr ⟨s, hs', rfl⟩), sg.sok s hs'⟩
def sp_law_made (C : Addr) : Sp := fun vs H Q _ => ∃ lv kl sl, vs = [lv] ∧ rLp H lv (kl, sl) ∧ Lpk kl sl ∧ ∀ v H' P, Same H H' → rPl C H' v P → P.kn.Perm kl → P.st.Perm sl → Q v H'
theorem ok__law_made (T : Tx K mg) : FnOk P w K mg base CX0 5 T.a__law_made T.d__law_made P__law_made (sp_law_made T.C_Plant) := by
  refine T.F__law_made.ok sc__law_made (fun vs H Q E h => ?_) (fun cdv A outer s H vs Q E hr h => ⟨_, PSs.nox (pss_one (ps_ret (pe_make T.k_Plant (ok_Plant_init T) (hr.mono (by decide)) rfl T.m_Plant (b_Plant_init T) .nil pass0 (pa_cons (pe_callTy call_list_of (by rfl) T.n_list (by decide +kernel) (pa_cons (pe_ix ix_list (pv 0) pe_int (fun _ _ => rfl)) pa_nil)) (pa_cons (pe_callTy call_list_of (by rfl) T.n_list (by decide +kernel) (pa_cons (pe_ix ix_list (pv 0) pe_int (fun _ _ => rfl)) pa_nil)) pa_nil))))), ?_⟩)
  · obtain ⟨_, _, _, rfl, _⟩ := h
    rfl
  · obtain ⟨lv, kl, sl, rfl, ⟨a, ka, sa, rfl, ha, ⟨_, kxs, ek, hka, hkx⟩, ⟨_, sxs, es, hsa, hsx⟩⟩, lp, k⟩ := h
    cases ek
    cases es
    refine ⟨_, rfl, a, _, _, _, rfl, rfl, SqL.of ha, atI_nat (j := 0) rfl, ka, _, rfl, .inl (SqL.of hka), fun p1 hp1 => ?_⟩
    have s1 := Same.new (o := .lst kxs) hp1
    refine ⟨_, rfl, a, _, _, _, rfl, rfl, SqL.of (s1 a _ ha), atI_nat (j := 1) rfl, sa, _, rfl, .inl (SqL.of (s1 sa _ hsa)), fun p2 hp2 => ?_⟩
    have s2 := Same.new (o := .lst sxs) hp2
    refine fun x dxx hx hdx hne => ?_
    have sx := (Same.new (o := .own x) hdx).trans (Same.new (o := .ins T.C_Plant dxx []) (by rw [upd_ne hne.symm]; exact hx))
    have s12 := s1.trans s2
    have sall := s12.trans sx
    refine ⟨x, dxx, .ref p1, .ref p2, kl, sl, rfl, upd_same, ⟨p1, kxs, rfl, sx p1 _ (s2 p1 _ upd_same), paired_mono (Ext.of sall) hkx⟩, ⟨p2, sxs, rfl, sx p2 _ upd_same, paired_mono (Ext.of sall) hsx⟩, lp.l1, by have := lp.l3; omega, lp.ok, lp.nd, by have := lp.s3; omega, fun s hs => ?_, lp.snd, fun kn st H' pk ps hpl hold => ⟨rfl, ?_⟩⟩
    · obtain ⟨q1, q2, q3, q4, q5, q6⟩ := lp.sok s hs
      exact ⟨q1, q2, q3, q4, q5, by omega⟩
    · refine k _ H' ⟨kn, st⟩ (fun b o e => ?_) hpl pk ps
      have e1 := s12 b o e
      refine hold b o (sx b o e1) ?_
      intro z
      subst z
      rw [hx] at e1
      cases e1
end
end Mx

set_option Elab.async false
set_option linter.all false
set_option maxRecDepth 100000
set_option maxHeartbeats 2000000
/-! The law's stores and readings. -/
namespace Mx
open PySem PySem.Spec PyProof.Rows L2
/-- a dict that grows by keys of a list -/
structure Dg {α : Type} (A : Rep α) (H : Hp) (D : Addr) (ks : List Str) (Ok : α → Prop) (i : Nat) (S : List (Str × α)) (G : Hp) : Prop where
  same : Same H G
  d : ∃ kvs, G D = some (.dK kvs) ∧ DPr A G kvs S
  sub : (S.map (·.1)).Sublist (ks.take i)
  ok : ∀ r ∈ S, Ok r.2
theorem Dg.skip {α : Type} {A : Rep α} {H : Hp} {D : Addr} {ks : List Str} {Ok : α → Prop} {i : Nat} {S : List (Str × α)} {G : Hp} (h : Dg A H D ks Ok i S G) {k : Str} (hk : ks[i]? = some k) : Dg A H D ks Ok (i + 1) S G :=
  ⟨h.same, h.d, by
    rw [List.take_add_one, hk]
    exact h.sub.trans (List.sublist_append_left _ _), h.ok⟩
theorem Dg.put {α : Type} {A : Rep α} [Tu A] {H : Hp} {D : Addr} {ks : List Str} {Ok : α → Prop} {i : Nat} {S : List (Str × α)} {G : Hp} (h : Dg A H D ks Ok i S G) (hD : H D = none) (nd : ks.Nodup) {k : Str} (hk : ks[i]? = some k) {kvs : List (Key × V)} (hd : G D = some (.dK kvs)) {v : V} {x : α} (hv : A G v x) (hx : Ok x) :
    Dg A H D ks Ok (i + 1) (S ++ [(k, x)]) (upd G D (.dK (putK kvs (Sum.inr k) v))) := by
  obtain ⟨kvs', h1, h2⟩ := h.d
  rw [hd] at h1
  cases h1
  have et : ks.take (i + 1) = ks.take i ++ [k] := by
    rw [List.take_add_one, hk]
    rfl
  have tu : TupS G (upd G D (.dK (putK kvs (Sum.inr k) v))) := TupS.upd hd fun _ z => nomatch z
  refine ⟨Same.mut h.same hD, ⟨_, upd_same, dp_tu tu (dp_snoc h2 hv fun hm => ?_)⟩, ?_, fun r hr => ?_⟩
  · have hm' := h.sub.subset hm
    have hnd : (ks.take (i + 1)).Nodup := nd.sublist (List.take_sublist _ _)
    rw [et] at hnd
    exact (List.nodup_append.mp hnd).2.2 _ hm' _ List.mem_cons_self rfl
  · rw [et, List.map_append]
    exact h.sub.append (List.Sublist.refl _)
  · rcases List.mem_append.mp hr with hr | hr
    · exact h.ok r hr
    · rw [List.mem_singleton.mp hr]
      exact hx
theorem Dg.grow {α : Type} {A : Rep α} [Mono A] {H : Hp} {D : Addr} {ks : List Str} {Ok : α → Prop} {i : Nat} {S : List (Str × α)} {G G' : Hp} (h : Dg A H D ks Ok i S G) (s : Same G G') : Dg A H D ks Ok i S G' :=
  ⟨h.same.trans s, let ⟨kvs, h1, h2⟩ := h.d; ⟨kvs, s D _ h1, dpair_mono (Ext.of s) h2⟩, h.sub, h.ok⟩
def SOk (x : Int × Int × Int) : Prop := 0 ≤ x.1 ∧ x.1 ≤ 4 ∧ 0 ≤ x.2.1 ∧ x.2.1 ≤ x.2.2 ∧ x.2.2 ≤ 4
def ROk (x : Int × Int) : Prop := 0 ≤ x.1 ∧ x.1 ≤ 4 ∧ 0 ≤ x.2 ∧ x.2 ≤ 4
section
variable {P : Program} {w : World} {K : PySem.W.Frag} {mg : Str → Option Value} {base : Heap}
def sp_law_stores : Sp := fun vs H Q _ => ∃ kv nv kl N, vs = [kv, nv, .int 30, .int 4] ∧ rL rStr H kv kl ∧ kl.Nodup ∧ kl.length ≤ 3 ∧ rL rInt H nv N ∧ N.length = 110 ∧ Small N ∧ ∀ S : SL, (S.map (·.1)).Sublist kl → (∀ r ∈ S, SOk r.2) → retD rSt H Q S
theorem ok__law_stores (T : Tx K mg) : FnOk P w K mg base CX0 1 T.a__law_stores T.d__law_stores P__law_stores sp_law_stores := by
  refine T.F__law_stores.ok sc__law_stores (fun vs H Q E h => ?_) (fun cdv A outer s H vs Q E hr h => ?_)
  · obtain ⟨_, _, _, _, rfl, _⟩ := h
    rfl
  · have hu := hu_of hr
    refine ⟨_, PSs.nox (pss_cons (ps_set (i := 4) sc__law_stores.nd rfl (Or.inl rfl) pe_dnewK)
    (pss_cons (ps_for PassesOwn.never rfl (pi_range1 rfl T.n_range (pa_cons (pe_callB call_len_seq (by rfl) T.n_len (by decide +kernel) (pa_cons (pv 0) pa_nil)) pa_nil)) (pg_name (i := 5) sc__law_stores.nd rfl (Or.inl rfl))
    (pss_one (ps_if (pt_cmpR op_lt (pe_op op_mod (pe_callTy call_int1 (by rfl) T.n_int (by decide +kernel) (pa_cons (pe_ix ix_list (pv 1) (pe_op op_add (pv 2) (pe_op op_mul pe_int (pv 5))) (fun _ _ => rfl)) pa_nil)) pe_int) pe_int (nomark _)) (pss_cons (ps_set (i := 6) sc__law_stores.nd rfl (Or.inl rfl) (pe_op op_fdiv (pe_op op_mod (pe_callTy call_int1 (by rfl) T.n_int (by decide +kernel) (pa_cons (pe_ix ix_list (pv 1) (pe_op op_add (pe_op op_add (pv 2) (pe_op op_mul pe_int (pv 5))) pe_int) (fun _ _ => rfl)) pa_nil)) pe_int) pe_int))
    (pss_one (ps_dput hu (pv 4) (pe_ix ix_list (pv 0) (pv 5) (fun _ _ => rfl)) (pe_tup (pa_cons (pe_op op_mod (pe_op op_fdiv (pe_callTy call_int1 (by rfl) T.n_int (by decide +kernel) (pa_cons (pe_ix ix_list (pv 1) (pe_op op_add (pv 2) (pe_op op_mul pe_int (pv 5))) (fun _ _ => rfl)) pa_nil)) pe_int) (pe_op op_add (pv 3) pe_int)) (pa_cons (pv 6) (pa_cons (pe_callB (call_max2 rfl) (by rfl) T.n_max (by decide +kernel) (pa_cons (pv 6) (pa_cons (pe_op op_mod (pe_op op_fdiv (pe_callTy call_int1 (by rfl) T.n_int (by decide +kernel) (pa_cons (pe_ix ix_list (pv 1) (pe_op op_add (pe_op op_add (pv 2) (pe_op op_mul pe_int (pv 5))) pe_int) (fun _ _ => rfl)) pa_nil)) pe_int) (pe_op op_add (pv 3) pe_int)) pa_nil))) pa_nil)))) rfl))) pss_nil)))
    (pss_one (ps_ret (pv 4))))), ?_⟩
    obtain ⟨kv, nv, kl, N, rfl, ⟨ka, kxs, rfl, hka, hkx⟩, hnd, hl3, ⟨na, nxs, rfl, hna, hnx⟩, hNl, hNs, k⟩ := h
    have en := ints_eq hnx
    have ek := strs_eq hkx
    subst en ek
    have sz := sizeLine_eq
    rw [show L2.start N__law_stores [V.ref ka, V.ref na, V.int 30, V.int 4] = [some (V.ref ka), some (V.ref na), some (V.int 30), some (V.int 4), none, none, none] from rfl]
    intro D hD
    dsimp only [gName, List.set_cons_zero, List.set_cons_succ]
    have sD : Same H (upd H D (.dK [])) := Same.new hD
    refine ⟨_, rfl, ka, _, rfl, .inl (SqL.of (sD ka _ hka)), _, rfl, (by rw [List.length_map]; omega), (by rw [List.length_map]; omega), ?_⟩
    rw [List.length_map, show ((kl.length : Nat) : Int).toNat = kl.length from by omega]
    refine for_it walk_range (fun i σ G => ∃ S, Dg rSt H D kl SOk i S G ∧ ∃ a b, σ = [some (.ref ka), some (.ref na), some (.int 30), some (.int 4), some (.ref D), a, b])
      ⟨[], ⟨sD, ⟨[], upd_same, .nil⟩, by rw [List.take_zero]; exact List.Sublist.refl _, fun _ h => nomatch h⟩, _, _, rfl⟩ (fun _ _ _ _ _ => trivial) ?_ ?_
    · rintro i x σ G G' hi ⟨S, dg, _, _, rfl⟩ ⟨rfl, rfl⟩
      have ei : (0 : Int) + ((i : Nat) : Int) = ((i : Nat) : Int) := by omega
      dsimp only [gName, List.set_cons_zero, List.set_cons_succ]
      rw [ei]
      have hnaG := dg.same na _ hna
      have hkaG := dg.same ka _ hka
      obtain ⟨kn, hkn⟩ : ∃ kn, kl[i]? = some kn := ⟨_, List.getElem?_eq_getElem hi⟩
      obtain ⟨y0, a0, b0, c0⟩ := num_ix hNl hNs (i := 30 + 2 * ((i : Nat) : Int)) (by omega) (by omega)
      obtain ⟨y1, a1, b1, c1⟩ := num_ix hNl hNs (i := 30 + 2 * ((i : Nat) : Int) + 1) (by omega) (by omega)
      refine ⟨_, rfl, _, rfl, _, rfl, _, _, rfl, rfl, .inl ⟨by decide, by decide⟩, _, _, rfl, rfl, na, _, _, _, rfl, rfl, SqL.of hnaG, a0, .inl ⟨_, rfl, _, _, rfl, rfl, (by show (0 : Int) < 3; decide), _, _, rfl, rfl, _, rfl, ?_⟩⟩
      refine ite2 (fun h => ?_) (fun h => ?_)
      · refine ⟨_, rfl, _, rfl, _, rfl, _, _, rfl, rfl, .inl ⟨by decide, by decide⟩, _, _, rfl, rfl, _, _, rfl, rfl, na, _, _, _, rfl, rfl, SqL.of hnaG, a1, .inl ⟨_, rfl, _, _, rfl, rfl, (by show (0 : Int) < 3; decide), _, _, rfl, rfl, ⟨by decide, by decide⟩, ?_⟩⟩
        dsimp only [gName, List.set_cons_zero, List.set_cons_succ]
        have hlow : 0 ≤ y1 % 3 / 2 ∧ y1 % 3 / 2 ≤ 1 := by omega
        generalize y1 % 3 / 2 = low at hlow
        refine ⟨_, rfl, _, rfl, _, rfl, _, _, rfl, rfl, .inl ⟨by decide, by decide⟩, _, _, rfl, rfl, na, _, _, _, rfl, rfl, SqL.of hnaG, a0, .inl ⟨_, rfl, _, _, rfl, rfl, ⟨by decide, by decide⟩, _, rfl, _, _, rfl, rfl, _, _, rfl, rfl, (by show (0 : Int) < 4 + 1; decide), _, rfl, _, rfl, _, rfl, _, rfl, _, rfl, _, _, rfl, rfl, .inl ⟨by decide, by decide⟩, _, _, rfl, rfl, _, _, rfl, rfl, na, _, _, _, rfl, rfl, SqL.of hnaG, a1, .inl ⟨_, rfl, _, _, rfl, rfl, ⟨by decide, by decide⟩, _, rfl, _, _, rfl, rfl, _, _, rfl, rfl, (by show (0 : Int) < 4 + 1; decide), _, _, rfl, (by show 3 ≤ sizeLine; omega), fun t ht => ?_⟩⟩⟩
        have hb : 0 ≤ y0 / 3 % (4 + 1) ∧ y0 / 3 % (4 + 1) ≤ 4 := by omega
        have hh : 0 ≤ y1 / 3 % (4 + 1) ∧ y1 / 3 % (4 + 1) ≤ 4 := by omega
        have st := Same.new (o := .tup [V.int (y0 / 3 % (4 + 1)), .int low, .int (if (y1 / 3 % (4 + 1)) > low then (y1 / 3 % (4 + 1)) else low)]) ht
        have dg' := dg.grow st
        obtain ⟨kvs, hd, hp⟩ := dg'.d
        have lk : kvs.length < sizeLine := by
          rw [paired_len hp]
          have := dg'.sub.length_le
          rw [List.length_map, List.length_take] at this
          omega
        refine ⟨_, rfl, _, rfl, _, rfl, ka, _, _, _, rfl, rfl, SqL.of (st ka _ hkaG), atI_nat (j := i) (by rw [List.getElem?_map, hkn] <;> rfl), D, _, rfl, DPut.k (k := Sum.inr kn) hd lk, ?_⟩
        refine ⟨_, dg'.put hD hnd hkn hd (x := ((y0 / 3 % (4 + 1)), low, if (y1 / 3 % (4 + 1)) > low then (y1 / 3 % (4 + 1)) else low)) ⟨t, _, _, _, rfl, upd_same, rfl, rfl, rfl⟩ ⟨hb.1, hb.2, hlow.1, ?_, ?_⟩, _, _, rfl⟩
        · show low ≤ (if (y1 / 3 % (4 + 1)) > low then (y1 / 3 % (4 + 1)) else low)
          split <;> omega
        · show (if (y1 / 3 % (4 + 1)) > low then (y1 / 3 % (4 + 1)) else low) ≤ 4
          split <;> omega
      · exact ⟨S, dg.skip hkn, _, _, rfl⟩
    · rintro σ G ⟨S, dg, _, _, rfl⟩
      obtain ⟨kvs, hd, hp⟩ := dg.d
      have hsub := dg.sub
      rw [List.take_length] at hsub
      exact ⟨_, rfl, k S hsub dg.ok D G kvs hD dg.same hd hp⟩
def sp_law_readings : Sp := fun vs H Q _ => ∃ (sv nv : V) (sl : List Sm) (N : List Int) (a0 : Int), vs = [sv, nv, .int a0, .int 2] ∧ 0 ≤ a0 ∧ a0 ≤ 100 ∧ rL rSm H sv sl ∧ (sl.map (·.nm)).Nodup ∧ sl.length ≤ 3 ∧ rL rInt H nv N ∧ N.length = 110 ∧ Small N ∧ ∀ R : RL, (R.map (·.1)).Sublist (sl.map (·.nm)) → (∀ r ∈ R, ROk r.2) → retD rLim H Q R
theorem ok__law_readings (T : Tx K mg) : FnOk P w K mg base CX0 1 T.a__law_readings T.d__law_readings P__law_readings sp_law_readings := by
  refine T.F__law_readings.ok sc__law_readings (fun vs H Q E h => ?_) (fun cdv A outer s H vs Q E hr h => ?_)
  · obtain ⟨_, _, _, _, _, rfl, _⟩ := h
    rfl
  · have hu := hu_of hr
    refine ⟨_, PSs.nox (pss_cons (ps_set (i := 4) sc__law_readings.nd rfl (Or.inl rfl) pe_dnewK)
    (pss_cons (ps_for PassesOwn.never rfl (pi_range1 rfl T.n_range (pa_cons (pe_callB call_len_seq (by rfl) T.n_len (by decide +kernel) (pa_cons (pv 0) pa_nil)) pa_nil)) (pg_name (i := 5) sc__law_readings.nd rfl (Or.inl rfl))
    (pss_one (ps_if (pt_cmpR op_lt (pe_op op_mod (pe_callTy call_int1 (by rfl) T.n_int (by decide +kernel) (pa_cons (pe_ix ix_list (pv 1) (pe_op op_add (pv 2) (pe_op op_mul pe_int (pv 5))) (fun _ _ => rfl)) pa_nil)) pe_int) pe_int (nomark _)) (pss_one (ps_dput hu (pv 4) (pe_ix ix_tup (pe_ix ix_list (pv 0) (pv 5) (fun _ _ => rfl)) pe_int (fun _ _ => rfl)) (pe_tup (pa_cons (pe_op op_mod (pe_callTy call_int1 (by rfl) T.n_int (by decide +kernel) (pa_cons (pe_ix ix_list (pv 1) (pe_op op_add (pe_op op_add (pv 2) (pe_op op_mul pe_int (pv 5))) pe_int) (fun _ _ => rfl)) pa_nil)) (pe_op op_add (pv 3) pe_int)) (pa_cons (pe_op op_mod (pe_op op_fdiv (pe_callTy call_int1 (by rfl) T.n_int (by decide +kernel) (pa_cons (pe_ix ix_list (pv 1) (pe_op op_add (pv 2) (pe_op op_mul pe_int (pv 5))) (fun _ _ => rfl)) pa_nil)) pe_int) pe_int) pa_nil))) rfl)) pss_nil)))
    (pss_one (ps_ret (pv 4))))), ?_⟩
    obtain ⟨sv, nv, sl, N, a0, rfl, hb0, hb1, ⟨sa, sxs, rfl, hsa, hsx⟩, hnd, hl3, ⟨na, nxs, rfl, hna, hnx⟩, hNl, hNs, k⟩ := h
    have en := ints_eq hnx
    subst en
    have sz := sizeLine_eq
    have sxl := paired_len hsx
    rw [show L2.start N__law_readings [V.ref sa, V.ref na, V.int a0, V.int 2] = [some (V.ref sa), some (V.ref na), some (V.int a0), some (V.int 2), none, none] from rfl]
    intro D hD
    dsimp only [gName, List.set_cons_zero, List.set_cons_succ]
    have sD : Same H (upd H D (.dK [])) := Same.new hD
    refine ⟨_, rfl, sa, _, rfl, .inl (SqL.of (sD sa _ hsa)), _, rfl, (by omega), (by omega), ?_⟩
    rw [sxl, show ((sl.length : Nat) : Int).toNat = sl.length from by omega]
    refine for_it walk_range (fun i σ G => ∃ R, Dg rLim H D (sl.map (·.nm)) ROk i R G ∧ ∃ a, σ = [some (.ref sa), some (.ref na), some (.int a0), some (.int 2), some (.ref D), a])
      ⟨[], ⟨sD, ⟨[], upd_same, .nil⟩, by rw [List.take_zero]; exact List.Sublist.refl _, fun _ h => nomatch h⟩, _, rfl⟩ (fun _ _ _ _ _ => trivial) ?_ ?_
    · rintro i x σ G G' hi ⟨R, dg, _, rfl⟩ ⟨rfl, rfl⟩
      have ei : (0 : Int) + ((i : Nat) : Int) = ((i : Nat) : Int) := by omega
      dsimp only [gName, List.set_cons_zero, List.set_cons_succ]
      rw [ei]
      have hnaG := dg.same na _ hna
      have hsaG := dg.same sa _ hsa
      obtain ⟨sm, hsm⟩ : ∃ sm, sl[i]? = some sm := ⟨_, List.getElem?_eq_getElem hi⟩
      have hkn : (sl.map (·.nm))[i]? = some sm.nm := by rw [List.getElem?_map, hsm] <;> rfl
      obtain ⟨y0, a1, b1, c1⟩ := num_ix hNl hNs (i := a0 + 2 * ((i : Nat) : Int)) (by omega) (by omega)
      obtain ⟨y1, a2, b2, c2⟩ := num_ix hNl hNs (i := a0 + 2 * ((i : Nat) : Int) + 1) (by omega) (by omega)
      refine ⟨_, rfl, _, rfl, _, rfl, _, _, rfl, rfl, .inl ⟨by decide, by decide⟩, _, _, rfl, rfl, na, _, _, _, rfl, rfl, SqL.of hnaG, a1, .inl ⟨_, rfl, _, _, rfl, rfl, (by show (0 : Int) < 5; decide), _, _, rfl, rfl, _, rfl, ?_⟩⟩
      refine ite2 (fun h => ?_) (fun h => ?_)
      · refine ⟨_, rfl, _, rfl, _, rfl, _, _, rfl, rfl, .inl ⟨by decide, by decide⟩, _, _, rfl, rfl, _, _, rfl, rfl, na, _, _, _, rfl, rfl, SqL.of hnaG, a2, .inl ⟨_, rfl, _, rfl, _, _, rfl, rfl, _, _, rfl, rfl, (by show (0 : Int) < 2 + 1; decide), _, rfl, _, rfl, _, rfl, _, _, rfl, rfl, .inl ⟨by decide, by decide⟩, _, _, rfl, rfl, na, _, _, _, rfl, rfl, SqL.of hnaG, a1, .inl ⟨_, rfl, _, _, rfl, rfl, ⟨by decide, by decide⟩, _, _, rfl, rfl, (by show (0 : Int) < 3; decide), (by show 2 ≤ sizeLine; omega), fun t ht => ?_⟩⟩⟩
        have hb : 0 ≤ y1 % (2 + 1) ∧ y1 % (2 + 1) ≤ 4 := by omega
        have hh : 0 ≤ y0 / 5 % 3 ∧ y0 / 5 % 3 ≤ 4 := by omega
        have st := Same.new (o := .tup [V.int (y1 % (2 + 1)), .int (y0 / 5 % 3)]) ht
        have dg' := dg.grow st
        obtain ⟨kvs, hd, hp⟩ := dg'.d
        have lk : kvs.length < sizeLine := by
          rw [paired_len hp]
          have := dg'.sub.length_le
          rw [List.length_map, List.length_take, List.length_map] at this
          omega
        obtain ⟨xv, hxv, q, rfl, hq⟩ := paired_got hsx hsm
        refine ⟨_, rfl, _, rfl, _, rfl, sa, _, _, _, rfl, rfl, SqL.of (st sa _ hsaG), atI_nat (j := i) hxv, q, _, _, _, rfl, rfl, SqT.of (st q _ (dg.same q _ hq)), atI_nat (j := 0) rfl, D, _, rfl, DPut.k (k := Sum.inr sm.nm) hd lk, ?_⟩
        exact ⟨_, dg'.put hD hnd hkn hd (x := ((y1 % (2 + 1)), (y0 / 5 % 3))) ⟨t, _, _, rfl, upd_same, rfl, rfl⟩ ⟨hb.1, hb.2, hh.1, hh.2⟩, _, rfl⟩
      · exact ⟨R, dg.skip hkn, _, rfl⟩
    · rintro σ G ⟨R, dg, _, rfl⟩
      obtain ⟨kvs, hd, hp⟩ := dg.d
      have hsub := dg.sub
      rw [List.take_of_length_le (by rw [List.length_map]; exact Nat.le_refl _)] at hsub
      exact ⟨_, rfl, k R hsub dg.ok D G kvs hD dg.same hd hp⟩
end
end Mx

set_option Elab.async false
set_option linter.all false
set_option maxRecDepth 100000
set_option maxHeartbeats 2000000
/-! The law's small thing. -/
namespace Mx
open PySem PySem.Spec PyProof.Rows L2
/-- two lists that grow by things that hold while lists change -/
structure C2 {α β : Type} (A : Rep α) (B : Rep β) (H : Hp) (D1 D2 : Addr) (l1 : List α) (l2 : List β) (G : Hp) : Prop where
  same : Same H G
  d1 : ∃ xs, G D1 = some (.lst xs) ∧ Paired (A G) xs l1
  d2 : ∃ xs, G D2 = some (.lst xs) ∧ Paired (B G) xs l2
section
variable {α β : Type} {A : Rep α} {B : Rep β} [Mono A] [Mono B] [NoL A] [NoL B] {H : Hp} {D1 D2 : Addr} {l1 : List α} {l2 : List β} {G : Hp}
theorem C2.grow (c : C2 A B H D1 D2 l1 l2 G) {G' : Hp} (s : Same G G') : C2 A B H D1 D2 l1 l2 G' :=
  ⟨c.same.trans s, let ⟨xs, h1, h2⟩ := c.d1; ⟨xs, s _ _ h1, paired_mono (Ext.of s) h2⟩, let ⟨xs, h1, h2⟩ := c.d2; ⟨xs, s _ _ h1, paired_mono (Ext.of s) h2⟩⟩
theorem C2.app1 (c : C2 A B H D1 D2 l1 l2 G) (n : D1 ≠ D2) (f : H D1 = none) {xs : List V} (h : G D1 = some (.lst xs)) {v : V} {y : α} (hv : A G v y) : C2 A B H D1 D2 (l1 ++ [y]) l2 (upd G D1 (.lst (xs ++ [v]))) := by
  obtain ⟨ys, h1, h2⟩ := c.d1
  rw [h] at h1
  cases h1
  obtain ⟨zs, h3, h4⟩ := c.d2
  have x := ExtN.upd (o := .lst (xs ++ [v])) h
  exact ⟨Same.mut c.same f, ⟨_, upd_same, paired_snoc (paired_noL x h2) (NoL.mono x hv)⟩, zs, by rw [upd_ne n.symm]; exact h3, paired_noL x h4⟩
theorem C2.app2 (c : C2 A B H D1 D2 l1 l2 G) (n : D1 ≠ D2) (f : H D2 = none) {xs : List V} (h : G D2 = some (.lst xs)) {v : V} {y : β} (hv : B G v y) : C2 A B H D1 D2 l1 (l2 ++ [y]) (upd G D2 (.lst (xs ++ [v]))) := by
  obtain ⟨ys, h1, h2⟩ := c.d2
  rw [h] at h1
  cases h1
  obtain ⟨zs, h3, h4⟩ := c.d1
  have x := ExtN.upd (o := .lst (xs ++ [v])) h
  exact ⟨Same.mut c.same f, ⟨zs, by rw [upd_ne n]; exact h3, paired_noL x h4⟩, _, upd_same, paired_snoc (paired_noL x h2) (NoL.mono x hv)⟩
end
/-- what the law draws -/
structure Drw (kl : List Str) (sl : List Sm) (S : SL) (R E : List RL) : Prop where
  lp : Lpk kl sl
  ssub : (S.map (·.1)).Sublist kl
  sok : ∀ r ∈ S, SOk r.2
  r : ∀ x ∈ R, (x.map (·.1)).Sublist (sl.map (·.nm)) ∧ ∀ y ∈ x, ROk y.2
  e : ∀ x ∈ E, (x.map (·.1)).Nodup ∧ (∀ k ∈ x.map (·.1), k ∈ S.map (·.1)) ∧ ∀ y ∈ x, ROk y.2
  len : R.length = E.length
  one : 1 ≤ R.length
  two : R.length ≤ 2
def rDr (H : Hp) (v : V) (kl : List Str) (sl : List Sm) (S : SL) (R E : List RL) : Prop := ∃ a lv sd rv ev, v = .ref a ∧ H a = some (.lst [lv, .ref sd, rv, ev]) ∧ rLp H lv (kl, sl) ∧ rD rSt H (.ref sd) S ∧ rL (rD rLim) H rv R ∧ rL (rD rLim) H ev E
section
variable {P : Program} {w : World} {K : PySem.W.Frag} {mg : Str → Option Value} {base : Heap}
def sp_law_small : Sp := fun vs H Q _ => ∃ nv N, vs = [nv] ∧ rL rInt H nv N ∧ N.length = 110 ∧ Small N ∧ ∀ v H' kl sl S R E, Same H H' → rDr H' v kl sl S R E → Drw kl sl S R E → Q v H'
theorem ok__law_small (T : Tx K mg) : FnOk P w K mg base CX0 3 T.a__law_small T.d__law_small P__law_small sp_law_small := by
  refine T.F__law_small.ok sc__law_small (fun vs H Q E h => ?_) (fun cdv A outer s H vs Q E hr h => ?_)
  · obtain ⟨_, _, rfl, _⟩ := h
    rfl
  · have hu := hu_of hr
    refine ⟨_, PSs.nox (pss_cons (ps_set (i := 1) sc__law_small.nd rfl (Or.inl rfl) (pe_call (ok__law_plant T) (hr.mono (by decide)) rfl T.m__law_plant T.F__law_plant.kp (b__law_plant T) .nil pass0 (pa_cons (pv 0) (pa_cons pe_int (pa_cons pe_int (pa_cons pe_int (pa_cons pe_int pa_nil)))))))
    (pss_cons (ps_set (i := 2) sc__law_small.nd rfl (Or.inl rfl) (pe_call (ok__law_stores T) (hr.mono (by decide)) rfl T.m__law_stores T.F__law_stores.kp (b__law_stores T) .nil pass0 (pa_cons (pe_ix ix_list (pv 1) pe_int (fun _ _ => rfl)) (pa_cons (pv 0) (pa_cons pe_int (pa_cons pe_int pa_nil))))))
    (pss_cons (ps_set (i := 3) sc__law_small.nd rfl (Or.inl rfl) (pe_op op_add pe_int (pe_op op_mod (pe_callTy call_int1 (by rfl) T.n_int (by decide +kernel) (pa_cons (pe_ix ix_list (pv 0) pe_int (fun _ _ => rfl)) pa_nil)) pe_int)))
    (pss_cons (ps_set (i := 4) sc__law_small.nd rfl (Or.inl rfl) (pe_lst pa_nil))
    (pss_cons (ps_set (i := 5) sc__law_small.nd rfl (Or.inl rfl) (pe_lst pa_nil))
    (pss_cons (ps_for PassesOwn.never rfl (pi_range1 rfl T.n_range (pa_cons (pv 3) pa_nil)) (pg_name (i := 6) sc__law_small.nd rfl (Or.inl rfl))
    (pss_cons (ps_expr (pe_bm PySem.F.plainAttrs_list PySem.F.slot_list_append PySem.F.type_list_append mt_append (pv 4) (pa_cons (pe_call (ok__law_readings T) (hr.mono (by decide)) rfl T.m__law_readings T.F__law_readings.kp (b__law_readings T) .nil pass0 (pa_cons (pe_ix ix_list (pv 1) pe_int (fun _ _ => rfl)) (pa_cons (pv 0) (pa_cons (pe_op op_add pe_int (pe_op op_mul pe_int (pv 6))) (pa_cons pe_int pa_nil))))) pa_nil)))
    (pss_cons (ps_set (i := 7) sc__law_small.nd rfl (Or.inl rfl) pe_dnewK)
    (pss_cons (ps_for PassesOwn.never rfl (pi_list (pe_callB (call_sortedD rfl) (by rfl) T.n_sorted (by decide +kernel) (pa_cons (pv 2) pa_nil))) (pg_name (i := 8) sc__law_small.nd rfl (Or.inl rfl))
    (pss_one (ps_if (pt_cmpR op_eq (pe_op op_mod (pe_callTy call_int1 (by rfl) T.n_int (by decide +kernel) (pa_cons (pe_ix ix_list (pv 0) (pe_op op_add (pe_op op_add pe_int (pe_op op_mul pe_int (pv 6))) (pe_callB call_lenR (by rfl) T.n_len (by decide +kernel) (pa_cons (pv 7) pa_nil))) (fun _ _ => rfl)) pa_nil)) pe_int) pe_int (nomark _)) (pss_one (ps_dput hu (pv 7) (pv 8) (pe_tup (pa_cons (pe_op op_mod (pe_callTy call_int1 (by rfl) T.n_int (by decide +kernel) (pa_cons (pe_ix ix_list (pv 0) (pe_op op_add (pe_op op_add pe_int (pe_op op_mul pe_int (pv 6))) (pe_callB call_lenR (by rfl) T.n_len (by decide +kernel) (pa_cons (pv 7) pa_nil))) (fun _ _ => rfl)) pa_nil)) pe_int) (pa_cons (pe_op op_mod (pe_op op_fdiv (pe_callTy call_int1 (by rfl) T.n_int (by decide +kernel) (pa_cons (pe_ix ix_list (pv 0) (pe_op op_add (pe_op op_add pe_int (pe_op op_mul pe_int (pv 6))) (pe_callB call_lenR (by rfl) T.n_len (by decide +kernel) (pa_cons (pv 7) pa_nil))) (fun _ _ => rfl)) pa_nil)) pe_int) pe_int) pa_nil))) rfl)) pss_nil)))
    (pss_one (ps_expr (pe_bm PySem.F.plainAttrs_list PySem.F.slot_list_append PySem.F.type_list_append mt_append (pv 5) (pa_cons (pv 7) pa_nil))))))))
    (pss_one (ps_ret (pe_lst (pa_cons (pv 1) (pa_cons (pv 2) (pa_cons (pv 4) (pa_cons (pv 5) pa_nil))))))))))))), ?_⟩
    obtain ⟨nv, N, rfl, hNr, hNl, hNs, k⟩ := h
    obtain ⟨na, nxs, rfl, hna, hnx⟩ := id hNr
    have en := ints_eq hnx
    subst en
    have sz := sizeLine_eq
    rw [show L2.start N__law_small [V.ref na] = [some (V.ref na), none, none, none, none, none, none, none, none] from rfl]
    refine ⟨_, rfl, .ref na, N, rfl, hNr, hNl, hNs, fun lv H1 kl sl s1 hlp lp => ?_⟩
    dsimp only [gName, List.set_cons_zero, List.set_cons_succ]
    obtain ⟨pa, ka, sa, rfl, hpa, hk, hs⟩ := id hlp
    have l3 := lp.l3
    have ls3 := lp.s3
    refine ⟨_, rfl, pa, _, _, _, rfl, rfl, SqL.of hpa, atI_nat (j := 0) rfl, _, rfl, .ref ka, .ref na, kl, N, rfl, hk, lp.nd, lp.l3, Mono.same s1 hNr, hNl, hNs, fun S hSsub hSok sd H2 sks hsd s2 hsd2 hsk => ?_⟩
    dsimp only [gName, List.set_cons_zero, List.set_cons_succ]
    have s12 := s1.trans s2
    have hSnd : (S.map (·.1)).Nodup := lp.nd.sublist hSsub
    have hSl : S.length ≤ 3 := by
      have := hSsub.length_le
      rw [List.length_map] at this
      omega
    obtain ⟨y40, a40, b40, c40⟩ := num_ix hNl hNs (i := 40) (by decide) (by decide)
    obtain ⟨dn, hdn⟩ : ∃ d : Nat, 1 + y40 % 2 = (d : Int) := ⟨(1 + y40 % 2).toNat, by omega⟩
    have hdn1 : 1 ≤ dn := by omega
    have hdn2 : dn ≤ 2 := by omega
    refine ⟨_, rfl, na, _, _, _, rfl, rfl, SqL.of (s12 na _ hna), a40, .inl ⟨_, rfl, _, _, rfl, rfl, (by show (0 : Int) < 2; decide), _, _, rfl, rfl, ?_⟩⟩
    dsimp only [gName, List.set_cons_zero, List.set_cons_succ]
    rw [hdn]
    refine ⟨(by show 0 ≤ sizeLine; omega), fun D1 hD1 => ?_⟩
    dsimp only [gName, List.set_cons_zero, List.set_cons_succ]
    have sD1 := Same.new (o := .lst []) hD1
    refine ⟨(by show 0 ≤ sizeLine; omega), fun D2 hD2 => ?_⟩
    dsimp only [gName, List.set_cons_zero, List.set_cons_succ]
    have sD2 := Same.new (o := .lst []) hD2
    have n12 : D1 ≠ D2 := ne_of_none (H := upd H2 D1 (.lst [])) upd_same hD2
    have f2 : H2 D2 = none := by
      cases z : H2 D2 with
      | none => rfl
      | some u => rw [sD1 D2 u z] at hD2; cases hD2
    have c0 : C2 (rD rLim) (rD rLim) H2 D1 D2 ([] : List RL) ([] : List RL) (upd (upd H2 D1 (.lst [])) D2 (.lst [])) := ⟨sD1.trans sD2, ⟨[], by rw [upd_ne n12, upd_same], .nil⟩, [], upd_same, .nil⟩
    refine ⟨_, rfl, _, rfl, by omega, by omega, ?_⟩
    rw [show ((dn : Nat) : Int).toNat = dn from by omega]
    refine for_it walk_range (fun i σ G => ∃ R E, (C2 (rD rLim) (rD rLim) H2 D1 D2 R E G ∧ R.length = i ∧ E.length = i ∧ (∀ x ∈ R, (x.map (·.1)).Sublist (sl.map (·.nm)) ∧ ∀ y ∈ x, ROk y.2) ∧ ∀ x ∈ E, (x.map (·.1)).Nodup ∧ (∀ k ∈ x.map (·.1), k ∈ S.map (·.1)) ∧ ∀ y ∈ x, ROk y.2) ∧
      ∃ a b c, σ = [some (.ref na), some (.ref pa), some (.ref sd), some (.int (dn : Int)), some (.ref D1), some (.ref D2), a, b, c])
      ⟨[], [], ⟨c0, rfl, rfl, (fun _ h => nomatch h), (fun _ h => nomatch h)⟩, _, _, _, rfl⟩ (fun _ _ _ _ _ => trivial) ?_ ?_
    · rintro i x σ G G' hi ⟨R, E', ⟨cc, hRl, hEl, hR, hE⟩, _, _, _, rfl⟩ ⟨rfl, rfl⟩
      have ei : (0 : Int) + ((i : Nat) : Int) = ((i : Nat) : Int) := by omega
      dsimp only [gName, List.set_cons_zero, List.set_cons_succ]
      rw [ei]
      obtain ⟨xs1, hx1, hpx1⟩ := cc.d1
      have s2G := s2.trans cc.same
      have sG := s1.trans s2G
      refine ⟨_, rfl, .inl ⟨rfl, _, SqL.of hx1⟩, _, rfl, pa, _, _, _, rfl, rfl, SqL.of (s2G pa _ hpa), atI_nat (j := 1) rfl, _, rfl, _, rfl, _, _, rfl, rfl, .inl ⟨by decide, by decide⟩, _, _, rfl, rfl, .ref sa, .ref na, sl, N, 45 + 10 * ((i : Nat) : Int), rfl, by omega, by omega, Mono.same s2G hs, lp.snd, ls3, Mono.same sG hNr, hNl, hNs, fun r hrs hrok rp H3 rks hrp s3 hrp3 hrk => ?_⟩
      have cc3 := cc.grow s3
      refine ⟨D1, xs1, _, rfl, rfl, s3 D1 _ hx1, (by rw [paired_len hpx1]; omega), ?_⟩
      have cc4 := cc3.app1 n12 hD1 (s3 D1 _ hx1) (v := .ref rp) (y := r) ⟨rp, rks, rfl, .inl hrp3, hrk⟩
      generalize upd H3 D1 (.lst (xs1 ++ [.ref rp])) = H4 at cc4
      -- row_here = {}
      intro Dr hDr
      dsimp only [gName, List.set_cons_zero, List.set_cons_succ]
      have sr := Same.new (o := .dK []) hDr
      have s24 := cc4.same
      have hsd4 := s24 sd _ hsd2
      have hsk4 : DPr rSt H4 sks S := dpair_mono (Ext.of s24) hsk
      refine ⟨_, rfl, sd, sks, S.map (·.1), rfl, .inl (sr sd _ hsd4), dp_keys hsk, (by rw [List.length_map]; omega), fun ys p1 hperm _ hp1 => ?_⟩
      have sp1 := Same.new (o := .lst (ys.map V.str)) hp1
      have np1 : p1 ≠ Dr := fun z => by rw [z, upd_same] at hp1; cases hp1
      have ynd : ys.Nodup := hperm.nodup_iff.mpr hSnd
      have yl : ys.length ≤ 3 := by rw [hperm.length_eq, List.length_map]; exact hSl
      have s04 := s12.trans s24
      refine ⟨p1, rfl, ⟨_, SqL.of upd_same⟩, for_it (walk_list (K := K)) (fun j σ G => ∃ e, (Dg rLim H4 Dr ys ROk j e G ∧ G p1 = some (.lst (ys.map V.str))) ∧ ∃ c, σ = [some (.ref na), some (.ref pa), some (.ref sd), some (.int (dn : Int)), some (.ref D1), some (.ref D2), some (.int ((i : Nat) : Int)), some (.ref Dr), c])
        ⟨[], ⟨⟨sr.trans sp1, ⟨[], sp1 Dr _ upd_same, .nil⟩, by rw [List.take_zero]; exact List.Sublist.refl _, fun _ h => nomatch h⟩, upd_same⟩, _, rfl⟩ (fun j σ G _ ⟨_, h, _⟩ => SqL.of h.2) ?_ ?_⟩
      · rintro j x σ G G' hj ⟨e, ⟨dg, hp1G⟩, _, rfl⟩ ⟨rfl, hxj⟩
        rw [List.getElem?_map] at hxj
        cases hy : ys[j]? with
        | none => rw [hy] at hxj; cases hxj
        | some kn =>
          rw [hy] at hxj
          cases hxj
          dsimp only [gName, List.set_cons_zero, List.set_cons_succ]
          have hj3 : j < 3 := by have := (List.getElem?_eq_some_iff.mp hy).1; omega
          obtain ⟨kvs, hd, hp⟩ := dg.d
          have hlen : kvs.length ≤ 3 := by
            rw [paired_len hp]
            have := dg.sub.length_le
            rw [List.length_map, List.length_take] at this
            omega
          have hnaG := dg.same na _ (s04 na _ hna)
          obtain ⟨y0, a0, b0, c0⟩ := num_ix hNl hNs (i := 65 + 5 * ((i : Nat) : Int) + ((kvs.length : Nat) : Int)) (by omega) (by omega)
          obtain ⟨y1, a1, b1, c1⟩ := num_ix hNl hNs (i := 66 + 5 * ((i : Nat) : Int) + ((kvs.length : Nat) : Int)) (by omega) (by omega)
          refine ⟨_, rfl, _, rfl, _, _, rfl, rfl, .inl ⟨by decide, by decide⟩, _, _, rfl, rfl, _, rfl, Dr, kvs, rfl, .inl hd, _, _, rfl, rfl, na, _, _, _, rfl, rfl, SqL.of hnaG, a0, .inl ⟨_, rfl, _, _, rfl, rfl, (by show (0 : Int) < 4; decide), rfl, _, rfl, ?_⟩⟩
          refine ite2 (fun h => ?_) (fun h => ?_)
          · refine ⟨_, rfl, _, rfl, _, _, rfl, rfl, .inl ⟨by decide, by decide⟩, _, _, rfl, rfl, _, rfl, Dr, kvs, rfl, .inl hd, _, _, rfl, rfl, na, _, _, _, rfl, rfl, SqL.of hnaG, a1, .inl ⟨_, rfl, _, _, rfl, rfl, (by show (0 : Int) < 5; decide), _, rfl, _, rfl, _, _, rfl, rfl, .inl ⟨by decide, by decide⟩, _, _, rfl, rfl, _, rfl, Dr, kvs, rfl, .inl hd, _, _, rfl, rfl, na, _, _, _, rfl, rfl, SqL.of hnaG, a0, .inl ⟨_, rfl, _, _, rfl, rfl, ⟨by decide, by decide⟩, _, _, rfl, rfl, (by show (0 : Int) < 3; decide), (by show 2 ≤ sizeLine; omega), fun t ht => ?_⟩⟩⟩
            have hb : 0 ≤ y1 % 5 ∧ y1 % 5 ≤ 4 := by omega
            have hh : 0 ≤ y0 / 4 % 3 ∧ y0 / 4 % 3 ≤ 4 := by omega
            have st := Same.new (o := .tup [V.int (y1 % 5), .int (y0 / 4 % 3)]) ht
            have dg' := dg.grow st
            refine ⟨_, rfl, _, rfl, Dr, _, rfl, DPut.k (k := Sum.inr kn) (st Dr _ hd) (by omega), ?_⟩
            refine ⟨_, ⟨dg'.put hDr ynd hy (st Dr _ hd) (x := (y1 % 5, y0 / 4 % 3)) ⟨t, _, _, rfl, upd_same, rfl, rfl⟩ ⟨hb.1, hb.2, hh.1, hh.2⟩, by rw [upd_ne np1]; exact st p1 _ hp1G⟩, _, rfl⟩
          · exact ⟨e, ⟨dg.skip hy, hp1G⟩, _, rfl⟩
      · rintro σ G ⟨e, ⟨dg, hp1G⟩, _, rfl⟩
        obtain ⟨kvs, hd, hp⟩ := dg.d
        have hsub := dg.sub
        rw [List.take_of_length_le (by rw [List.length_map]; exact Nat.le_refl _)] at hsub
        have cc5 := cc4.grow dg.same
        obtain ⟨xs2, hx2, hpx2⟩ := cc5.d2
        refine ⟨_, rfl, .inl ⟨rfl, _, SqL.of hx2⟩, _, rfl, D2, xs2, _, rfl, rfl, hx2, (by rw [paired_len hpx2]; omega), ?_⟩
        have cc6 := cc5.app2 n12 f2 hx2 (v := .ref Dr) (y := e) ⟨Dr, kvs, rfl, .inl hd, hp⟩
        refine ⟨R ++ [r], E' ++ [e], ⟨cc6, by rw [List.length_append, hRl]; rfl, by rw [List.length_append, hEl]; rfl, fun x hx => ?_, fun x hx => ?_⟩, _, _, _, rfl⟩
        · rcases List.mem_append.mp hx with hx | hx
          · exact hR x hx
          · rw [List.mem_singleton.mp hx]
            exact ⟨hrs, hrok⟩
        · rcases List.mem_append.mp hx with hx | hx
          · exact hE x hx
          · rw [List.mem_singleton.mp hx]
            exact ⟨ynd.sublist hsub, fun k hk => hperm.mem_iff.mp (hsub.subset hk), dg.ok⟩
    · rintro σ G ⟨R, E', ⟨cc, hRl, hEl, hR, hE⟩, _, _, _, rfl⟩
      obtain ⟨xs1, hx1, hpx1⟩ := cc.d1
      obtain ⟨xs2, hx2, hpx2⟩ := cc.d2
      refine ⟨_, rfl, _, rfl, _, rfl, _, rfl, (by show 4 ≤ sizeLine; omega), fun r hr2 => ?_⟩
      have sr := Same.new (o := .lst [V.ref pa, .ref sd, .ref D1, .ref D2]) hr2
      have sGr := cc.same.trans sr
      exact k (.ref r) _ kl sl S R E' (s12.trans sGr) ⟨r, .ref pa, sd, .ref D1, .ref D2, rfl, upd_same, Mono.same (s2.trans sGr) hlp, ⟨sd, sks, rfl, .inl (sGr sd _ hsd2), dpair_mono (Ext.of sGr) hsk⟩, ⟨D1, xs1, rfl, sr D1 _ hx1, paired_mono (Ext.of sr) hpx1⟩, ⟨D2, xs2, rfl, sr D2 _ hx2, paired_mono (Ext.of sr) hpx2⟩⟩
        ⟨lp, hSsub, hSok, hR, hE, by omega, by omega, by omega⟩
end
end Mx

set_option Elab.async false
set_option linter.all false
set_option maxRecDepth 100000
set_option maxHeartbeats 2000000
/-! The law's limits and rows. -/
namespace Mx
open PySem PySem.Spec PyProof.Rows L2
def limT (R : RL) (s : Sm) : Sm := ⟨s.nm, s.tl, s.hd, (limS R s).1, (limS R s).2⟩
/-- all rows of flows within limits -/
def rowsF (ll : List Sm) : List (List (Str × Int)) := ll.foldl (fun rs s => rs.flatMap fun r => (List.range (s.hi + 1 - s.lo).toNat).map fun j : Nat => r ++ [(s.nm, s.lo + (j : Int))]) [[]]
def rowsN (rs : List (List (Str × Int))) (s : Sm) : List (List (Str × Int)) := rs.flatMap fun r => (List.range (s.hi + 1 - s.lo).toNat).map fun j : Nat => r ++ [(s.nm, s.lo + (j : Int))]
theorem rowsF_snoc (ll : List Sm) (s : Sm) : rowsF (ll ++ [s]) = rowsN (rowsF ll) s := by
  unfold rowsF rowsN
  rw [List.foldl_append]
  rfl
theorem rowsN_len {rs : List (List (Str × Int))} {s : Sm} (h : s.hi + 1 - s.lo ≤ 3) : (rowsN rs s).length ≤ rs.length * 3 := by
  unfold rowsN
  induction rs with
  | nil => exact Nat.zero_le _
  | cons r rs ih =>
    rw [List.flatMap_cons, List.length_append, List.length_map, List.length_range, List.length_cons, Nat.succ_mul]
    omega
def Thin (ll : List Sm) : Prop := ∀ s ∈ ll, s.hi + 1 - s.lo ≤ 3
theorem rowsF_len {ll : List Sm} (h : Thin ll) : (rowsF ll).length ≤ 3 ^ ll.length := by
  have key : ∀ (n : Nat) (ll : List Sm), ll.length = n → Thin ll → (rowsF ll).length ≤ 3 ^ n := by
    intro n
    induction n with
    | zero =>
      intro ll hl _
      have : ll = [] := List.length_eq_zero_iff.mp hl
      subst this
      exact Nat.le_refl _
    | succ n ih =>
      intro ll hl ht
      rcases List.eq_nil_or_concat ll with rfl | ⟨l, s, rfl⟩
      · simp at hl
      · rw [List.concat_eq_append] at hl ht ⊢
        rw [List.length_append] at hl
        have hl' : l.length = n := by simpa using hl
        have h1 := ih l hl' fun x hx => ht x (List.mem_append.mpr (.inl hx))
        have h2 := rowsN_len (rs := rowsF l) (s := s) (ht s (List.mem_append.mpr (.inr (List.mem_singleton.mpr rfl))))
        rw [rowsF_snoc, Nat.pow_succ]
        exact Nat.le_trans h2 (Nat.mul_le_mul_right 3 h1)
  exact key _ ll rfl h
theorem rowsF_in {ll : List Sm} {r : List (Str × Int)} (h : r ∈ rowsF ll) : r.map (·.1) = ll.map (·.nm) ∧ ∀ (i : Nat) (s : Sm), ll[i]? = some s → ∃ z, r[i]? = some (s.nm, z) ∧ s.lo ≤ z ∧ z ≤ s.hi := by
  have key : ∀ (n : Nat) (ll : List Sm) (r : List (Str × Int)), ll.length = n → r ∈ rowsF ll → r.map (·.1) = ll.map (·.nm) ∧ ∀ (i : Nat) (s : Sm), ll[i]? = some s → ∃ z, r[i]? = some (s.nm, z) ∧ s.lo ≤ z ∧ z ≤ s.hi := by
    intro n
    induction n with
    | zero =>
      intro ll r hl h
      have : ll = [] := List.length_eq_zero_iff.mp hl
      subst this
      have : r = [] := List.mem_singleton.mp h
      subst this
      exact ⟨rfl, fun i s h => by simp at h⟩
    | succ n ih =>
      intro ll r hl h
      rcases List.eq_nil_or_concat ll with rfl | ⟨l, s, rfl⟩
      · simp at hl
      · rw [List.concat_eq_append] at hl h ⊢
        rw [List.length_append] at hl
        have hl' : l.length = n := by simpa using hl
        rw [rowsF_snoc] at h
        obtain ⟨r0, hr0, h⟩ := List.mem_flatMap.mp h
        obtain ⟨j, hj, rfl⟩ := List.mem_map.mp h
        have hj := List.mem_range.mp hj
        obtain ⟨q1, q2⟩ := ih l r0 hl' hr0
        have hrl : r0.length = l.length := by
          have := congrArg List.length q1
          rw [List.length_map, List.length_map] at this
          exact this
        refine ⟨by rw [List.map_append, List.map_append, q1]; rfl, fun i t ht => ?_⟩
        by_cases hi : i < l.length
        · rw [List.getElem?_append_left hi] at ht
          obtain ⟨z, h1, h2⟩ := q2 i t ht
          exact ⟨z, by rw [List.getElem?_append_left (by omega)]; exact h1, h2⟩
        · have hil := (List.getElem?_eq_some_iff.mp ht).1
          rw [List.length_append] at hil
          have e : i = l.length := by
            have : i < l.length + 1 := hil
            omega
          subst e
          rw [List.getElem?_append_right (Nat.le_refl _), Nat.sub_self] at ht
          have e2 : s = t := by simpa using ht
          subst e2
          refine ⟨s.lo + (j : Int), by rw [List.getElem?_append_right (by omega), hrl, Nat.sub_self]; rfl, by omega, by omega⟩
  exact key _ ll r rfl h
theorem rowsF_has {f : Str → Int} : ∀ {ll : List Sm}, (∀ s ∈ ll, s.lo ≤ f s.nm ∧ f s.nm ≤ s.hi) → kdict (ll.map (·.nm)) f ∈ rowsF ll := by
  have key : ∀ (n : Nat) (ll : List Sm), ll.length = n → (∀ s ∈ ll, s.lo ≤ f s.nm ∧ f s.nm ≤ s.hi) → kdict (ll.map (·.nm)) f ∈ rowsF ll := by
    intro n
    induction n with
    | zero =>
      intro ll hl h
      have : ll = [] := List.length_eq_zero_iff.mp hl
      subst this
      exact List.mem_singleton.mpr rfl
    | succ n ih =>
      intro ll hl h
      rcases List.eq_nil_or_concat ll with rfl | ⟨l, s, rfl⟩
      · simp at hl
      · rw [List.concat_eq_append] at hl h ⊢
        rw [List.length_append] at hl
        have hl' : l.length = n := by simpa using hl
        obtain ⟨h1, h2⟩ := h s (List.mem_append.mpr (.inr (List.mem_singleton.mpr rfl)))
        rw [rowsF_snoc]
        refine List.mem_flatMap.mpr ⟨kdict (l.map (·.nm)) f, ih l hl' fun x hx => h x (List.mem_append.mpr (.inl hx)), List.mem_map.mpr ⟨(f s.nm - s.lo).toNat, List.mem_range.mpr (by omega), ?_⟩⟩
        rw [List.map_append]
        unfold kdict
        rw [List.map_append]
        have : s.lo + (((f s.nm - s.lo).toNat : Nat) : Int) = f s.nm := by omega
        rw [this]
        rfl
  intro ll h
  exact key _ ll rfl h
theorem nback {H H' : Hp} {p : Addr} (s : Same H H') (h : H' p = none) : H p = none := by
  cases q : H p with
  | none => rfl
  | some o =>
    rw [s p o q] at h
    cases h
section
variable {P : Program} {w : World} {K : PySem.W.Frag} {mg : Str → Option Value} {base : Heap}
def sp_law_limits : Sp := fun vs H Q _ => ∃ sv rv sl R, vs = [sv, rv] ∧ rL rSm H sv sl ∧ sl.length ≤ 3 ∧ rD rLim H rv R ∧ (R.map (·.1)).Nodup ∧ retL rSm H Q (sl.map (limT R))
theorem ok__law_limits (T : Tx K mg) : FnOk P w K mg base CX0 1 T.a__law_limits T.d__law_limits P__law_limits sp_law_limits := by
  refine T.F__law_limits.ok sc__law_limits (fun vs H Q E h => ?_) (fun cdv A outer s H vs Q E hr h => ?_)
  · obtain ⟨_, _, _, _, rfl, _⟩ := h
    rfl
  · have hu := hu_of hr
    refine ⟨_, PSs.nox (pss_cons (ps_set (i := 2) sc__law_limits.nd rfl (Or.inl rfl) (pe_lst pa_nil))
    (pss_cons (ps_for PassesOwn.never rfl (pi_list (pv 0)) (pg_tup rfl (pgs_cons (pg_name (i := 3) sc__law_limits.nd rfl (Or.inl rfl)) (pgs_cons (pg_name (i := 4) sc__law_limits.nd rfl (Or.inl rfl)) (pgs_cons (pg_name (i := 5) sc__law_limits.nd rfl (Or.inl rfl)) (pgs_cons (pg_name (i := 6) sc__law_limits.nd rfl (Or.inl rfl)) (pgs_cons (pg_name (i := 7) sc__law_limits.nd rfl (Or.inl rfl)) pgs_nil))))))
    (pss_cons (ps_if (pt_cmp (pc_din hu (pv 3) (pv 1))) (pss_cons (ps_set (i := 6) sc__law_limits.nd rfl (Or.inl rfl) (pe_callB (call_max2 rfl) (by rfl) T.n_max (by decide +kernel) (pa_cons (pv 6) (pa_cons (pe_op op_sub (pe_ix ix_tup (pe_dget hu (pv 1) (pv 3) (fun _ _ => rfl)) pe_int (fun _ _ => rfl)) (pe_ix ix_tup (pe_dget hu (pv 1) (pv 3) (fun _ _ => rfl)) pe_int (fun _ _ => rfl))) pa_nil))))
    (pss_one (ps_set (i := 7) sc__law_limits.nd rfl (Or.inl rfl) (pe_callB (call_min2 rfl) (by rfl) T.n_min (by decide +kernel) (pa_cons (pv 7) (pa_cons (pe_op op_add (pe_ix ix_tup (pe_dget hu (pv 1) (pv 3) (fun _ _ => rfl)) pe_int (fun _ _ => rfl)) (pe_ix ix_tup (pe_dget hu (pv 1) (pv 3) (fun _ _ => rfl)) pe_int (fun _ _ => rfl))) pa_nil)))))) pss_nil)
    (pss_one (ps_expr (pe_bm PySem.F.plainAttrs_list PySem.F.slot_list_append PySem.F.type_list_append mt_append (pv 2) (pa_cons (pe_tup (pa_cons (pv 3) (pa_cons (pv 4) (pa_cons (pv 5) (pa_cons (pv 6) (pa_cons (pv 7) pa_nil)))))) pa_nil))))))
    (pss_one (ps_ret (pv 2))))), ?_⟩
    obtain ⟨sv, rv, sl, R, rfl, ⟨sa, sxs, rfl, hsa, hsx⟩, l3, ⟨rd, rks, rfl, hrd, hrk⟩, hnd, k⟩ := h
    have sz := sizeLine_eq
    rw [show L2.start N__law_limits [V.ref sa, V.ref rd] = [some (V.ref sa), some (V.ref rd), none, none, none, none, none, none] from rfl]
    refine ⟨(by show 0 ≤ sizeLine; omega), fun D hD => ?_⟩
    dsimp only [gName, List.set_cons_zero, List.set_cons_succ]
    have sD : Same H (upd H D (.lst [])) := Same.new hD
    refine ⟨_, rfl, sa, rfl, ⟨_, SqL.of (sD sa _ hsa)⟩, for_it (walk_list (K := K)) (fun i σ G => ∃ acc, (Same H G ∧ G D = some (.lst acc) ∧ Paired (rSm G) acc ((sl.take i).map (limT R))) ∧ ∃ a b c d e, σ = [some (.ref sa), some (.ref rd), some (.ref D), a, b, c, d, e])
      ⟨[], ⟨sD, upd_same, .nil⟩, _, _, _, _, _, rfl⟩ (fun i σ G _ ⟨_, h, _⟩ => SqL.of (h.1 sa _ hsa)) ?_ ?_⟩
    · rintro i x σ G G' hi ⟨acc, ⟨sG, hDG, hpG⟩, _, _, _, _, _, rfl⟩ ⟨rfl, hxi⟩
      obtain ⟨t, ht, q, rfl, hq⟩ := paired_get' (paired_mono (Ext.of sG) hsx) hxi
      have et : sl.take (i + 1) = sl.take i ++ [t] := by
        rw [List.take_add_one, ht]
        rfl
      have hal : acc.length ≤ 3 := by
        rw [paired_len hpG, List.length_map, List.length_take]
        omega
      refine ⟨q, _, rfl, SqT.of hq, rfl, _, _, rfl, _, _, rfl, _, _, rfl, _, _, rfl, _, _, rfl, rfl, ?_⟩
      dsimp only [gName, List.set_cons_zero, List.set_cons_succ]
      have fin : ∀ (lo hi : Int), (lo, hi) = limS R t → ∀ p : Addr, G' p = none → Same H (upd (upd G' p (.tup [.str t.nm, .str t.tl, .str t.hd, .int lo, .int hi])) D (.lst (acc ++ [.ref p]))) ∧ upd (upd G' p (.tup [.str t.nm, .str t.tl, .str t.hd, .int lo, .int hi])) D (.lst (acc ++ [.ref p])) D = some (.lst (acc ++ [.ref p])) ∧
          Paired (rSm (upd (upd G' p (.tup [.str t.nm, .str t.tl, .str t.hd, .int lo, .int hi])) D (.lst (acc ++ [.ref p])))) (acc ++ [.ref p]) ((sl.take (i + 1)).map (limT R)) := by
        intro lo hi e p hp
        have sp := Same.new (o := .tup [.str t.nm, .str t.tl, .str t.hd, .int lo, .int hi]) hp
        have hDp := sp D _ hDG
        have npD : p ≠ D := fun z => by rw [z, hDG] at hp; cases hp
        have tu : TupS G' (upd (upd G' p (.tup [.str t.nm, .str t.tl, .str t.hd, .int lo, .int hi])) D (.lst (acc ++ [.ref p]))) := (TupS.of sp).trans (TupS.upd hDp fun _ z => nomatch z)
        refine ⟨Same.mut (sG.trans sp) hD, upd_same, ?_⟩
        rw [et, List.map_append]
        refine paired_snoc (paired_tu tu hpG) ⟨p, rfl, ?_⟩
        rw [upd_ne npD, upd_same]
        unfold limT
        rw [← e]
      cases hg : rdg R t.nm with
      | none =>
        have g1 := get_out (rd_same sG hrd) (dpair_mono (Ext.of sG) hrk) (rdg_none hg)
        refine ⟨_, rfl, _, rfl, rd, _, rfl, g1, false, rfl, ?_⟩
        refine iteF ?_
        refine ⟨_, rfl, .inl ⟨rfl, _, SqL.of hDG⟩, _, rfl, _, rfl, _, rfl, _, rfl, _, rfl, (by show 5 ≤ sizeLine; omega), fun p hp => ?_⟩
        have npD : D ≠ p := ne_of_none hDG hp
        refine ⟨D, acc, _, rfl, rfl, by rw [upd_ne npD]; exact hDG, by omega, ?_⟩
        exact ⟨_, fin t.lo t.hi (by unfold limS; rw [hg]) p hp, _, _, _, _, _, rfl⟩
      | some y =>
        obtain ⟨a, tol⟩ := y
        obtain ⟨v, g1, q2, _, _, rfl, hq2, rfl, rfl⟩ := get_in (rd_same sG hrd) (dpair_mono (Ext.of sG) hrk) hnd (rdg_some hg)
        refine ⟨_, rfl, _, rfl, rd, _, rfl, g1, true, rfl, ?_⟩
        refine iteT ?_
        refine ⟨_, rfl, _, rfl, _, rfl, rd, _, rfl, g1, q2, _, _, _, rfl, rfl, SqT.of hq2, atI_nat (j := 0) rfl, _, rfl, _, rfl, rd, _, rfl, g1, q2, _, _, _, rfl, rfl, SqT.of hq2, atI_nat (j := 1) rfl, _, _, rfl, rfl, _, _, rfl, ?_⟩
        dsimp only [gName, List.set_cons_zero, List.set_cons_succ]
        refine ⟨_, rfl, _, rfl, _, rfl, rd, _, rfl, g1, q2, _, _, _, rfl, rfl, SqT.of hq2, atI_nat (j := 0) rfl, _, rfl, _, rfl, rd, _, rfl, g1, q2, _, _, _, rfl, rfl, SqT.of hq2, atI_nat (j := 1) rfl, _, _, rfl, rfl, _, _, rfl, ?_⟩
        dsimp only [gName, List.set_cons_zero, List.set_cons_succ]
        refine ⟨_, rfl, .inl ⟨rfl, _, SqL.of hDG⟩, _, rfl, _, rfl, _, rfl, _, rfl, _, rfl, (by show 5 ≤ sizeLine; omega), fun p hp => ?_⟩
        have npD : D ≠ p := ne_of_none hDG hp
        refine ⟨D, acc, _, rfl, rfl, by rw [upd_ne npD]; exact hDG, by omega, ?_⟩
        exact ⟨_, fin _ _ (by unfold limS; rw [hg]) p hp, _, _, _, _, _, rfl⟩
    · rintro σ G ⟨acc, ⟨sG, hDG, hpG⟩, _, _, _, _, _, rfl⟩
      rw [paired_len hsx, List.take_length] at hpG
      exact ⟨_, rfl, k D G acc hD sG hDG hpG⟩
def sp_law_rows_of : Sp := fun vs H Q _ => ∃ lv ll, vs = [lv] ∧ rL rSm H lv ll ∧ (ll.map (·.nm)).Nodup ∧ ll.length ≤ 3 ∧ Thin ll ∧ (∀ s ∈ ll, -1000 ≤ s.lo ∧ s.lo ≤ 1000 ∧ -1000 ≤ s.hi ∧ s.hi ≤ 1000) ∧ retL (rD rInt) H Q (rowsF ll)
theorem ok__law_rows_of (T : Tx K mg) : FnOk P w K mg base CX0 1 T.a__law_rows_of T.d__law_rows_of P__law_rows_of sp_law_rows_of := by
  refine T.F__law_rows_of.ok sc__law_rows_of (fun vs H Q E h => ?_) (fun cdv A outer s H vs Q E hr h => ?_)
  · obtain ⟨_, _, rfl, _⟩ := h
    rfl
  · have hu := hu_of hr
    refine ⟨_, PSs.nox (pss_cons (ps_set (i := 1) sc__law_rows_of.nd rfl (Or.inl rfl) (pe_lst (pa_cons pe_dnewK pa_nil)))
    (pss_cons (ps_for PassesOwn.never rfl (pi_list (pv 0)) (pg_tup rfl (pgs_cons (pg_name (i := 2) sc__law_rows_of.nd rfl (Or.inl rfl)) (pgs_cons (pg_name (i := 3) sc__law_rows_of.nd rfl (Or.inl rfl)) (pgs_cons (pg_name (i := 4) sc__law_rows_of.nd rfl (Or.inl rfl)) (pgs_cons (pg_name (i := 5) sc__law_rows_of.nd rfl (Or.inl rfl)) (pgs_cons (pg_name (i := 6) sc__law_rows_of.nd rfl (Or.inl rfl)) pgs_nil))))))
    (pss_cons (ps_set (i := 7) sc__law_rows_of.nd rfl (Or.inl rfl) (pe_lst pa_nil))
    (pss_cons (ps_for PassesOwn.never rfl (pi_list (pv 1)) (pg_name (i := 8) sc__law_rows_of.nd rfl (Or.inl rfl))
    (pss_one (ps_for PassesOwn.never rfl (pi_range2 rfl T.n_range (pa_cons (pv 5) (pa_cons (pe_op op_add (pv 6) pe_int) pa_nil))) (pg_name (i := 9) sc__law_rows_of.nd rfl (Or.inl rfl))
    (pss_cons (ps_set (i := 10) sc__law_rows_of.nd rfl (Or.inl rfl) (pe_callTy call_dictD (by rfl) T.n_dict (by decide +kernel) (pa_cons (pv 8) pa_nil)))
    (pss_cons (ps_dput hu (pv 10) (pv 2) (pv 9) rfl)
    (pss_one (ps_expr (pe_bm PySem.F.plainAttrs_list PySem.F.slot_list_append PySem.F.type_list_append mt_append (pv 7) (pa_cons (pv 10) pa_nil)))))))))
    (pss_one (ps_set (i := 1) sc__law_rows_of.nd rfl (Or.inl rfl) (pv 7))))))
    (pss_one (ps_ret (pv 1))))), ?_⟩
    obtain ⟨lv, ll, rfl, ⟨la, lxs, rfl, hla, hlx⟩, hnd, l3, thin, hbd, k⟩ := h
    have sz := sizeLine_eq
    rw [show L2.start N__law_rows_of [V.ref la] = [some (V.ref la), none, none, none, none, none, none, none, none, none, none] from rfl]
    intro d0 hd0
    have s0 : Same H (upd H d0 (.dK [])) := Same.new hd0
    refine ⟨(by show 1 ≤ sizeLine; omega), fun r0 hr0 => ?_⟩
    dsimp only [gName, List.set_cons_zero, List.set_cons_succ]
    have s1 := Same.new (o := .lst [V.ref d0]) hr0
    have s01 := s0.trans s1
    refine ⟨_, rfl, la, rfl, ⟨_, SqL.of (s01 la _ hla)⟩, for_it (walk_list (K := K)) (fun i σ G => ∃ rv, ((Same H G ∧ ∀ ra, rv = .ref ra → H ra = none) ∧ rL (rD rInt) G rv (rowsF (ll.take i))) ∧ ∃ a b c d e f g h x, σ = [some (.ref la), some rv, a, b, c, d, e, f, g, h, x])
      ⟨.ref r0, ⟨⟨s01, fun _ e => by cases e; exact nback s0 hr0⟩, r0, _, rfl, upd_same, .cons ⟨d0, [], rfl, .inl (s1 d0 _ upd_same), .nil⟩ .nil⟩, _, _, _, _, _, _, _, _, _, rfl⟩ (fun i σ G _ ⟨_, h, _⟩ => SqL.of (h.1.1 la _ hla)) ?_ ?_⟩
    · rintro i x σ G G' hi ⟨rv, ⟨⟨sG, _⟩, ra, rxs, rfl, hra, hrx⟩, _, _, _, _, _, _, _, _, _, rfl⟩ ⟨rfl, hxi⟩
      obtain ⟨t, ht, q, rfl, hq⟩ := paired_get' (paired_mono (Ext.of sG) hlx) hxi
      have htm := List.mem_of_getElem? ht
      have et : ll.take (i + 1) = ll.take i ++ [t] := by
        rw [List.take_add_one, ht]
        rfl
      have hi3 : i < 3 := by have := (List.getElem?_eq_some_iff.mp ht).1; omega
      obtain ⟨bd1, bd2, bd3, bd4⟩ := hbd t htm
      have htn := thin t htm
      have thi : Thin (ll.take i) := fun s hs => thin s (List.mem_of_mem_take hs)
      have rlen : (rowsF (ll.take i)).length ≤ 27 := by
        have h1 := rowsF_len thi
        rw [List.length_take] at h1
        have h2 : 3 ^ min i ll.length ≤ 3 ^ 3 := Nat.pow_le_pow_right (by decide) (by omega)
        omega
      have hrl := paired_len hrx
      refine ⟨q, _, rfl, SqT.of hq, rfl, _, _, rfl, _, _, rfl, _, _, rfl, _, _, rfl, _, _, rfl, rfl, ?_⟩
      dsimp only [gName, List.set_cons_zero, List.set_cons_succ]
      refine ⟨(by show 0 ≤ sizeLine; omega), fun D hD => ?_⟩
      dsimp only [gName, List.set_cons_zero, List.set_cons_succ]
      have sD := Same.new (o := .lst []) hD
      refine ⟨_, rfl, ra, rfl, ⟨_, SqL.of (sD ra _ hra)⟩, for_it (walk_list (K := K)) (fun j σ G2 => ∃ xs, (Same G' G2 ∧ G2 D = some (.lst xs) ∧ Paired (rD rInt G2) xs (rowsN ((rowsF (ll.take i)).take j) t)) ∧ ∃ f g h, σ = [some (.ref la), some (.ref ra), some (.str t.nm), some (.str t.tl), some (.str t.hd), some (.int t.lo), some (.int t.hi), some (.ref D), f, g, h])
        ⟨[], ⟨sD, upd_same, .nil⟩, _, _, _, rfl⟩ (fun j σ G2 _ ⟨_, h, _⟩ => SqL.of (h.1 ra _ hra)) ?_ ?_⟩
      · rintro j x σ G2 G3 hj ⟨xs, ⟨s2, hD2, hp2⟩, _, _, _, rfl⟩ ⟨rfl, hxj⟩
        obtain ⟨r, hrj, rd, rks, rfl, hrd, hrk⟩ := paired_get' hrx hxj
        have hj27 : j < 27 := by have := (List.getElem?_eq_some_iff.mp hrj).1; omega
        have hrin := rowsF_in (List.mem_of_getElem? hrj)
        have ej : (rowsF (ll.take i)).take (j + 1) = (rowsF (ll.take i)).take j ++ [r] := by
          rw [List.take_add_one, hrj]
          rfl
        have xl0 : xs.length ≤ 81 := by
          rw [paired_len hp2]
          have := rowsN_len (rs := (rowsF (ll.take i)).take j) htn
          rw [List.length_take] at this
          omega
        have hnew : t.nm ∉ r.map (·.1) := by
          rw [hrin.1]
          intro hm
          have h1 : ((ll.take (i + 1)).map (·.nm)).Nodup := hnd.sublist ((List.take_sublist _ _).map _)
          rw [et, List.map_append] at h1
          exact (List.nodup_append.mp h1).2.2 _ hm _ List.mem_cons_self rfl
        dsimp only [gName, List.set_cons_zero, List.set_cons_succ]
        refine ⟨_, rfl, _, rfl, _, _, rfl, rfl, _, _, rfl, ⟨by omega, by omega, by omega, by omega⟩, ?_⟩
        refine for_it walk_range (fun m σ G4 => ∃ xs, (Same G' G4 ∧ G4 D = some (.lst xs) ∧ Paired (rD rInt G4) xs (rowsN ((rowsF (ll.take i)).take j) t ++ (List.range m).map fun z : Nat => r ++ [(t.nm, t.lo + (z : Int))])) ∧ ∃ g h, σ = [some (.ref la), some (.ref ra), some (.str t.nm), some (.str t.tl), some (.str t.hd), some (.int t.lo), some (.int t.hi), some (.ref D), some (.ref rd), g, h])
          ⟨xs, ⟨s2, hD2, by show Paired (rD rInt G3) xs (_ ++ []); rw [List.append_nil]; exact hp2⟩, _, _, rfl⟩ (fun _ _ _ _ _ => trivial) ?_ ?_
        · rintro m x σ G4 G5 hm ⟨xs, ⟨s4, hD4, hp4⟩, _, _, rfl⟩ ⟨rfl, rfl⟩
          dsimp only [gName, List.set_cons_zero, List.set_cons_succ]
          have xl : xs.length ≤ 90 := by
            rw [paired_len hp4, List.length_append, List.length_map, List.length_range]
            have := rowsN_len (rs := (rowsF (ll.take i)).take j) htn
            rw [List.length_take] at this
            omega
          have hrd4 := rd_same s4 hrd
          have hrk4 : DPr rInt G5 rks r := dpair_mono (Ext.of s4) hrk
          have rksl : rks.length ≤ 3 := by
            rw [paired_len hrk]
            have := congrArg List.length hrin.1
            rw [List.length_map, List.length_map, List.length_take] at this
            omega
          refine ⟨_, rfl, rd, rks, rfl, hrd4, fun F hF => ?_⟩
          dsimp only [gName, List.set_cons_zero, List.set_cons_succ]
          have sF := Same.new (o := .dK rks) hF
          have nDF : D ≠ F := ne_of_none hD4 hF
          refine ⟨_, rfl, _, rfl, _, rfl, F, _, rfl, DPut.k (k := Sum.inr t.nm) upd_same (by omega), ?_⟩
          rw [upd_upd]
          have sF2 := Same.new (o := .dK (putK rks (Sum.inr t.nm) (V.int (t.lo + (m : Int))))) hF
          have hD5 := sF2 D _ hD4
          refine ⟨_, rfl, .inl ⟨rfl, _, SqL.of hD5⟩, _, rfl, D, xs, _, rfl, rfl, hD5, by omega, ?_⟩
          have x6 := ExtN.upd (o := .lst (xs ++ [.ref F])) hD5
          refine ⟨xs ++ [.ref F], ⟨Same.mut (s4.trans sF2) hD, upd_same, ?_⟩, _, _, rfl⟩
          rw [List.range_succ, List.map_append, ← List.append_assoc]
          refine paired_snoc (paired_noL x6 (paired_mono (Ext.of sF2) hp4)) (NoL.mono x6 ⟨F, _, rfl, .inl upd_same, ?_⟩)
          exact dp_snoc (dpair_mono (Ext.of sF2) hrk4) rfl hnew
        · rintro σ G4 ⟨xs, ⟨s4, hD4, hp4⟩, _, _, rfl⟩
          refine ⟨xs, ⟨s4, hD4, ?_⟩, _, _, _, rfl⟩
          rw [ej]
          unfold rowsN
          rw [List.flatMap_append]
          simp only [List.flatMap_cons, List.flatMap_nil, List.append_nil]
          exact hp4
      · rintro σ G2 ⟨xs, ⟨s2, hD2, hp2⟩, _, _, _, rfl⟩
        rw [hrl, List.take_length] at hp2
        refine ⟨_, rfl, .ref D, ⟨⟨sG.trans s2, fun _ e => by cases e; exact nback sG hD⟩, D, xs, rfl, hD2, ?_⟩, _, _, _, _, _, _, _, _, _, rfl⟩
        rw [et, rowsF_snoc]
        exact hp2
    · rintro σ G ⟨rv, ⟨⟨sG, hn⟩, ra, rxs, rfl, hra, hrx⟩, _, _, _, _, _, _, _, _, _, rfl⟩
      rw [paired_len hlx, List.take_length] at hrx
      exact ⟨_, rfl, k ra G rxs (hn ra rfl) sG hra hrx⟩
end
end Mx

set_option Elab.async false
set_option linter.all false
set_option maxRecDepth 100000
set_option maxHeartbeats 2000000
/-! The law's evening, and whether it fits. -/
namespace Mx
open PySem PySem.Spec PyProof.Rows L2
def bef (S : SL) (b : Str → Int) (k : Str) : Int := if k ∈ skeys S then b k else 0
def lft (S : SL) (b g : Str → Int) (E : List (Mt.Edge Str)) (k : Str) : Int := bef S b k + Mt.net E g k
theorem lft_step (S : SL) (b g : Str → Int) (E : List (Mt.Edge Str)) (e : Mt.Edge Str) (n : Str) :
    Mt.setF (Mt.setF (lft S b g E) e.tl (lft S b g E e.tl - g e.nm)) e.hd (Mt.setF (lft S b g E) e.tl (lft S b g E e.tl - g e.nm) e.hd + g e.nm) n = lft S b g (E ++ [e]) n := by
  unfold lft
  rw [Mt.net_snoc]
  unfold Mt.con
  by_cases h1 : n = e.hd
  · by_cases h2 : e.hd = e.tl
    · subst h1
      rw [Mt.setF_same, h2, Mt.setF_same, if_pos rfl]
      omega
    · subst h1
      rw [Mt.setF_same, Mt.setF_ne _ _ h2, if_pos rfl, if_neg (fun z => h2 z.symm)]
      omega
  · rw [Mt.setF_ne _ _ h1, if_neg (fun z => h1 z.symm)]
    by_cases h2 : n = e.tl
    · subst h2
      rw [Mt.setF_same, if_pos rfl]
      omega
    · rw [Mt.setF_ne _ _ h2, if_neg (fun z => h2 z.symm)]
      omega
section
variable {P : Program} {w : World} {K : PySem.W.Frag} {mg : Str → Option Value} {base : Heap}
def sp_law_evening : Sp := fun vs H Q _ => ∃ lv sv nv rv bv kl sl S ll ns g b, vs = [lv, sv, nv, rv, bv] ∧ rLp H lv (kl, sl) ∧ kl.Nodup ∧ kl.length ≤ 3 ∧ rD rSt H sv S ∧ (S.map (·.1)).Nodup ∧ (∀ k ∈ S.map (·.1), k ∈ kl) ∧ rL rSm H nv ll ∧ (∀ s ∈ ll, s.tl ∈ kl ∧ s.hd ∈ kl ∧ s.nm ∈ ns) ∧
  rD rInt H rv (kdict ns g) ∧ ns.Nodup ∧ rD rInt H bv (kdict (skeys S) b) ∧
  (∀ H', Same H H' → (∃ k ∈ kl, lft S b g (ll.map edg) k ≠ 0 ∧ k ∉ skeys S) → Q .non H') ∧
  ((∀ k ∈ kl, lft S b g (ll.map edg) k ≠ 0 → k ∈ skeys S) → ∀ a H', Same H H' → rD rInt H' (.ref a) (kdict (skeys S) (lft S b g (ll.map edg))) → Q (.ref a) H')
theorem ok__law_evening (T : Tx K mg) : FnOk P w K mg base CX0 1 T.a__law_evening T.d__law_evening P__law_evening sp_law_evening := by
  refine T.F__law_evening.ok sc__law_evening (fun vs H Q E h => ?_) (fun cdv A outer s H vs Q E hr h => ?_)
  · obtain ⟨_, _, _, _, _, _, _, _, _, _, _, _, rfl, _⟩ := h
    rfl
  · have hu := hu_of hr
    refine ⟨_, PSs.nox (pss_cons (ps_set (i := 5) sc__law_evening.nd rfl (Or.inr rfl) pe_dnewK)
    (pss_cons (ps_for PassesOwn.never rfl (pi_list (pe_ix ix_list (pv 0) pe_int (fun _ _ => rfl))) (pg_name (i := 6) sc__law_evening.nd rfl (Or.inl rfl))
    (pss_one (ps_dput hu (pv 5) (pv 6) (pe_dget2 hu (pv 4) (pv 6) pe_int ⟨rfl, rfl, rfl, rfl⟩) rfl)))
    (pss_cons (ps_for PassesOwn.never rfl (pi_list (pv 2)) (pg_tup rfl (pgs_cons (pg_name (i := 8) sc__law_evening.nd rfl (Or.inl rfl)) (pgs_cons (pg_name (i := 9) sc__law_evening.nd rfl (Or.inl rfl)) (pgs_cons (pg_name (i := 10) sc__law_evening.nd rfl (Or.inl rfl)) (pgs_cons (pg_name (i := 11) sc__law_evening.nd rfl (Or.inl rfl)) (pgs_cons (pg_name (i := 12) sc__law_evening.nd rfl (Or.inl rfl)) pgs_nil))))))
    (pss_cons (ps_dput hu (pv 5) (pv 9) (pe_op op_sub (pe_dget hu (pv 5) (pv 9) (fun _ _ => rfl)) (pe_dget hu (pv 3) (pv 8) (fun _ _ => rfl))) rfl)
    (pss_one (ps_dput hu (pv 5) (pv 10) (pe_op op_add (pe_dget hu (pv 5) (pv 10) (fun _ _ => rfl)) (pe_dget hu (pv 3) (pv 8) (fun _ _ => rfl))) rfl))))
    (pss_cons (ps_if (pt_val (pe_callB (cr_any rfl) (by rfl) T.n_any (by decide +kernel) (pa_cons (pe_lc (own := [("_law_knot", 6)]) rfl sc__law_evening.nd (pi_list (pe_ix ix_list (pv 0) pe_int (fun _ _ => rfl))) (blkOk_by (own := [("_law_knot", 6)]) (N := N__law_evening) (sc := defScope s__law_evening) (by decide +kernel)) (fun _ _ _ _ _ => (pg_name (i := 6) sc__law_evening.nd rfl (Or.inl rfl))) (fun _ _ _ _ _ => pts_nil) (fun _ _ _ _ _ => (pe_and (pe_cmpR op_ne (pe_dget hu (pv 5) (pv 6) (fun _ _ => rfl)) pe_int (nomark _)) (pe_one (pe_cmp (pc_dnotin hu (pv 6) (pv 1)) rfl))))) pa_nil))) (pss_one (ps_ret pe_non)) pss_nil)
    (pss_cons (ps_set (i := 7) sc__law_evening.nd rfl (Or.inl rfl) pe_dnewK)
    (pss_cons (ps_lockR (ps_for PassesOwn.never rfl (pi_keys (pv 1)) (pg_name (i := 6) sc__law_evening.nd rfl (Or.inl rfl))
    (pss_one (ps_dput hu (pv 7) (pv 6) (pe_dget hu (pv 5) (pv 6) (fun _ _ => rfl)) rfl))))
    (pss_one (ps_ret (pv 7))))))))), ?_⟩
    obtain ⟨lv, sv, nv, rv, bv, kl, sl, S, ll, ns, g, b, rfl, ⟨pa, ka, sa, rfl, hpa, ⟨_, kxs, ek, hka, hkx⟩, _⟩, knd, kl3, ⟨sd, sks, rfl, hsd, hsk⟩, snd, ssub, ⟨na, nxs, rfl, hna, hnx⟩, hll, ⟨rd, rks, rfl, hrd, hrk⟩, nnd, ⟨bd, bks, rfl, hbd, hbk⟩, k1, k2⟩ := h
    cases ek
    have ekx := strs_eq hkx
    subst ekx
    change H ka = some (.lst (kl.map V.str)) at hka
    have sz := sizeLine_eq
    have ekl : sks.length = S.length := paired_len hsk
    have hSl : S.length ≤ 3 := by
      have := Mt.nd_le snd ssub
      rw [List.length_map] at this
      omega
    rw [show L2.start N__law_evening [V.ref pa, V.ref sd, V.ref na, V.ref rd, V.ref bd] = [some (V.ref pa), some (V.ref sd), some (V.ref na), some (V.ref rd), some (V.ref bd), none, none, none, none, none, none, none, none] from rfl]
    intro D hD
    dsimp only [gName, List.set_cons_zero, List.set_cons_succ]
    have sD : Same H (upd H D (.dK [])) := Same.new hD
    -- for knot in plant[0]
    refine ⟨_, rfl, pa, _, _, _, rfl, rfl, SqL.of (sD pa _ hpa), atI_nat (j := 0) rfl, ka, rfl, ⟨_, SqL.of (sD ka _ hka)⟩, for_it (walk_list (K := K)) (fun i σ G => ∃ lks, (Same H G ∧ G D = some (.dK lks) ∧ DPr rInt G lks (kdict (kl.take i) (bef S b))) ∧ ∃ a c d e f h x, σ = [some (.ref pa), some (.ref sd), some (.ref na), some (.ref rd), some (.ref bd), some (.ref D), a, c, d, e, f, h, x])
      ⟨[], ⟨sD, upd_same, .nil⟩, _, _, _, _, _, _, _, rfl⟩ (fun i σ G _ ⟨_, h, _⟩ => SqL.of (h.1 ka _ hka)) ?_ ?_⟩
    · rintro i x σ G G' hi ⟨lks, ⟨sG, hDG, hpG⟩, _, _, _, _, _, _, _, rfl⟩ ⟨rfl, hxi⟩
      rw [List.getElem?_map] at hxi
      cases hy : kl[i]? with
      | none => rw [hy] at hxi; cases hxi
      | some kn =>
        rw [hy] at hxi
        cases hxi
        have et : kl.take (i + 1) = kl.take i ++ [kn] := by
          rw [List.take_add_one, hy]
          rfl
        have hnew : kn ∉ (kdict (kl.take i) (bef S b)).map (·.1) := by
          rw [kdict_keys]
          intro hm
          have h1 : (kl.take (i + 1)).Nodup := knd.sublist (List.take_sublist _ _)
          rw [et] at h1
          exact (List.nodup_append.mp h1).2.2 _ hm _ List.mem_cons_self rfl
        have lk : lks.length < sizeLine := by
          rw [paired_len hpG, kdict_len, List.length_take]
          omega
        dsimp only [gName, List.set_cons_zero, List.set_cons_succ]
        have hbd' := rd_same sG hbd
        obtain ⟨o, hgo, hov⟩ : ∃ o : Option V, DGet G' bd (.str kn) o ∧ o.getD (.int 0) = .int (bef S b kn) := by
          by_cases hin : kn ∈ skeys S
          · obtain ⟨v, h1, rfl⟩ := get_in hbd' (dpair_mono (Ext.of sG) hbk) (by rw [kdict_keys]; exact snd) (kdict_mem (f := b) hin)
            refine ⟨_, h1, ?_⟩
            unfold bef
            rw [if_pos hin]
            rfl
          · have h1 := get_out hbd' (dpair_mono (Ext.of sG) hbk) (k := kn) (by rw [kdict_keys]; exact hin)
            refine ⟨_, h1, ?_⟩
            unfold bef
            rw [if_neg hin]
            rfl
        refine ⟨_, rfl, bd, rfl, .inl ⟨_, hbd'⟩, _, rfl, o, hgo, _, rfl, _, rfl, D, _, rfl, DPut.k (k := Sum.inr kn) hDG lk, ?_⟩
        rw [hov]
        refine ⟨_, ⟨Same.mut sG hD, upd_same, ?_⟩, _, _, _, _, _, _, _, rfl⟩
        rw [et, kdict_snoc]
        exact dp_tu (TupS.upd hDG fun _ z => nomatch z) (dp_snoc (A := rInt) hpG rfl hnew)
    · rintro σ G ⟨lks, ⟨sG, hDG, hpG⟩, _, _, _, _, _, _, _, rfl⟩
      rw [List.length_map, List.take_length] at hpG
      -- for .. in lines
      refine ⟨_, rfl, na, rfl, ⟨_, SqL.of (sG na _ hna)⟩, for_it (walk_list (K := K)) (fun i σ G => ∃ lks, (Same H G ∧ G D = some (.dK lks) ∧ DPr rInt G lks (kdict kl (lft S b g ((ll.map edg).take i)))) ∧ ∃ a c d e f h x, σ = [some (.ref pa), some (.ref sd), some (.ref na), some (.ref rd), some (.ref bd), some (.ref D), a, c, d, e, f, h, x])
        ⟨lks, ⟨sG, hDG, ?_⟩, _, _, _, _, _, _, _, rfl⟩ (fun i σ G _ ⟨_, h, _⟩ => SqL.of (h.1 na _ hna)) ?_ ?_⟩
      · have e : kdict kl (lft S b g ((ll.map edg).take 0)) = kdict kl (bef S b) := by
          unfold kdict
          refine List.map_congr_left fun k _ => ?_
          rw [List.take_zero]
          unfold lft
          rw [Mt.net_nil, Int.add_zero]
        rw [e]
        exact hpG
      · rintro i x σ G G' hi ⟨lks, ⟨sG, hDG, hpG⟩, _, _, _, _, _, _, _, rfl⟩ ⟨rfl, hxi⟩
        obtain ⟨t, ht, q, rfl, hq⟩ := paired_get' (paired_mono (Ext.of sG) hnx) hxi
        obtain ⟨t1, t2, t3⟩ := hll t (List.mem_of_getElem? ht)
        have et : (ll.map edg).take (i + 1) = (ll.map edg).take i ++ [edg t] := by
          rw [List.take_add_one, List.getElem?_map, ht]
          rfl
        have hrd' := rd_same sG hrd
        obtain ⟨v, hgr, rfl⟩ := get_in hrd' (dpair_mono (Ext.of sG) hrk) (by rw [kdict_keys]; exact nnd) (kdict_mem (f := g) t3)
        have nlk : ((kdict kl (lft S b g ((ll.map edg).take i))).map (·.1)).Nodup := by rw [kdict_keys]; exact knd
        obtain ⟨v, hgl, rfl⟩ := get_in (.inl hDG) hpG nlk (kdict_mem t1)
        have lk : lks.length < sizeLine := by
          rw [paired_len hpG, kdict_len]
          omega
        have rne : rd ≠ D := fun z => by
          subst z
          rcases hrd with q | ⟨_, q⟩ <;> rw [hD] at q <;> cases q
        refine ⟨q, _, rfl, SqT.of hq, rfl, _, _, rfl, _, _, rfl, _, _, rfl, _, _, rfl, _, _, rfl, rfl, ?_⟩
        dsimp only [gName, List.set_cons_zero, List.set_cons_succ]
        refine ⟨_, rfl, _, rfl, D, _, rfl, hgl, _, rfl, _, rfl, rd, _, rfl, hgr, _, _, rfl, rfl, _, rfl, _, rfl, D, _, rfl, DPut.k (k := Sum.inr t.tl) hDG lk, ?_⟩
        have hp6 := dp_put (k := t.tl) (v := V.int (lft S b g ((ll.map edg).take i) t.tl - g t.nm)) hpG rfl (by rw [kdict_keys]; exact t1) nlk
        rw [kdict_set] at hp6
        have tu6 : TupS G' (upd G' D (.dK (putK lks (Sum.inr t.tl) (V.int (lft S b g ((ll.map edg).take i) t.tl - g t.nm))))) := TupS.upd hDG fun _ z => nomatch z
        have hp6' := dp_tu tu6 hp6
        have nlk6 : ((kdict kl (Mt.setF (lft S b g ((ll.map edg).take i)) t.tl (lft S b g ((ll.map edg).take i) t.tl - g t.nm))).map (·.1)).Nodup := by rw [kdict_keys]; exact knd
        have s6 : Same H (upd G' D (.dK (putK lks (Sum.inr t.tl) (V.int (lft S b g ((ll.map edg).take i) t.tl - g t.nm))))) := Same.mut sG hD
        obtain ⟨v2, hgl2, rfl⟩ := get_in (H := upd G' D (.dK (putK lks (Sum.inr t.tl) (V.int (lft S b g ((ll.map edg).take i) t.tl - g t.nm))))) (.inl upd_same) hp6' nlk6 (kdict_mem t2)
        obtain ⟨v3, hgr2, rfl⟩ := get_in (rd_same s6 hrd) (dpair_mono (Ext.of s6) hrk) (by rw [kdict_keys]; exact nnd) (kdict_mem (f := g) t3)
        have lk6 : (putK lks (Sum.inr t.tl) (V.int (lft S b g ((ll.map edg).take i) t.tl - g t.nm))).length < sizeLine := by
          rw [paired_len hp6, kdict_len]
          omega
        refine ⟨_, rfl, _, rfl, D, _, rfl, hgl2, _, rfl, _, rfl, rd, _, rfl, hgr2, _, _, rfl, rfl, _, rfl, _, rfl, D, _, rfl, DPut.k (k := Sum.inr t.hd) upd_same lk6, ?_⟩
        have hp7 := dp_put (k := t.hd) (v := V.int (Mt.setF (lft S b g ((ll.map edg).take i)) t.tl (lft S b g ((ll.map edg).take i) t.tl - g t.nm) t.hd + g t.nm)) hp6' rfl (by rw [kdict_keys]; exact t2) nlk6
        rw [kdict_set] at hp7
        have e8 : kdict kl (Mt.setF (Mt.setF (lft S b g ((ll.map edg).take i)) t.tl (lft S b g ((ll.map edg).take i) t.tl - g t.nm)) t.hd (Mt.setF (lft S b g ((ll.map edg).take i)) t.tl (lft S b g ((ll.map edg).take i) t.tl - g t.nm) t.hd + g t.nm)) = kdict kl (lft S b g ((ll.map edg).take (i + 1))) := by
          unfold kdict
          refine List.map_congr_left fun n _ => ?_
          rw [et]
          exact congrArg (fun z => (n, z)) (lft_step S b g ((ll.map edg).take i) (edg t) n)
        rw [e8] at hp7
        exact ⟨_, ⟨Same.mut s6 hD, upd_same, dp_tu (TupS.upd (u := .dK (putK lks (Sum.inr t.tl) (V.int (lft S b g ((ll.map edg).take i) t.tl - g t.nm)))) upd_same fun _ z => nomatch z) hp7⟩, _, _, _, _, _, _, _, rfl⟩
      · rintro σ G ⟨lks, ⟨sG, hDG, hpG⟩, _, _, _, _, _, _, _, rfl⟩
        have el : (ll.map edg).take nxs.length = ll.map edg := by
          rw [paired_len hnx]
          exact List.take_of_length_le (by rw [List.length_map]; exact Nat.le_refl _)
        rw [el] at hpG
        have nlk : ((kdict kl (lft S b g (ll.map edg))).map (·.1)).Nodup := by rw [kdict_keys]; exact knd
        -- if any(..)
        refine ⟨_, rfl, pa, _, _, _, rfl, rfl, SqL.of (sG pa _ hpa), atI_nat (j := 0) rfl, ka, rfl, ⟨_, SqL.of (sG ka _ hka)⟩, fun B hB => lc_gen (A := rBl) (B := rStr) (walk_list (K := K)) kl (by rw [List.length_map]) (by rw [List.length_map]; omega) hB (src_k (sG ka _ hka)) (src_y (strs_of' kl)) (fun _ => true) (fun k => decide (lft S b g (ll.map edg) k ≠ 0 ∧ k ∉ skeys S)) ?_ ?_⟩
        · rintro j kn x H' hb s5 rfl Ks Kc kt _
          have hkm := List.mem_of_getElem? hb
          obtain ⟨v, hg5, rfl⟩ := get_in (H := H') (d := D) (.inl (s5 D _ hDG)) (dpair_mono (Ext.of s5) hpG) nlk (kdict_mem (f := lft S b g (ll.map edg)) hkm)
          refine ⟨rfl, yesT (iteT ?_)⟩
          by_cases hz : lft S b g (ll.map edg) kn = 0
          · refine ⟨_, rfl, _, rfl, D, _, rfl, hg5, rfl, false, ?_, iteF ?_⟩
            · show V.bl (!decide (V.int (lft S b g (ll.map edg) kn) = V.int 0)) = V.bl false
              rw [decide_eq_true (by rw [hz])]
              rfl
            · exact kt _ _ (Same.refl _) (by show V.bl false = V.bl (decide (lft S b g (ll.map edg) kn ≠ 0 ∧ ¬kn ∈ skeys S)); rw [decide_eq_false (fun z => z.1 hz)]) rfl
          · refine ⟨_, rfl, _, rfl, D, _, rfl, hg5, rfl, true, ?_, iteT ?_⟩
            · show V.bl (!decide (V.int (lft S b g (ll.map edg) kn) = V.int 0)) = V.bl true
              rw [decide_eq_false (fun z => hz (V.int.inj z))]
              rfl
            · by_cases hin : kn ∈ skeys S
              · obtain ⟨v, _, _, hg6, _⟩ := get_some (rd_same (sG.trans s5) hsd) (dpair_mono (Ext.of (sG.trans s5)) hsk) snd hin
                exact ⟨_, rfl, _, rfl, sd, _, rfl, hg6, kt _ _ (Same.refl _) (by show V.bl false = V.bl (decide (lft S b g (ll.map edg) kn ≠ 0 ∧ ¬kn ∈ skeys S)); rw [decide_eq_false (fun z => z.2 hin)]) rfl⟩
              · have hg6 := get_out (rd_same (sG.trans s5) hsd) (dpair_mono (Ext.of (sG.trans s5)) hsk) (k := kn) hin
                exact ⟨_, rfl, _, rfl, sd, _, rfl, hg6, kt _ _ (Same.refl _) (by show V.bl true = V.bl (decide (lft S b g (ll.map edg) kn ≠ 0 ∧ ¬kn ∈ skeys S)); rw [decide_eq_true ⟨hz, hin⟩]) rfl⟩
        · intro G5 ys s5 hB5 hp5
          rw [filt_true] at hp5
          refine ⟨B, _, rfl, SqL.of (by rw [hB5, bls_eq hp5]), ?_⟩
          have sG5 := sG.trans s5
          by_cases hany : ∃ k ∈ kl, lft S b g (ll.map edg) k ≠ 0 ∧ k ∉ skeys S
          · have e : ((kl.map fun k => decide (lft S b g (ll.map edg) k ≠ 0 ∧ k ∉ skeys S)).any id) = true := by
              rw [List.any_map]
              obtain ⟨k, h1, h2⟩ := hany
              exact List.any_eq_true.mpr ⟨k, h1, decide_eq_true h2⟩
            rw [e]
            refine ⟨true, rfl, iteT ?_⟩
            exact k1 G5 sG5 hany
          · have e : ((kl.map fun k => decide (lft S b g (ll.map edg) k ≠ 0 ∧ k ∉ skeys S)).any id) = false := by
              rw [List.any_map]
              refine List.any_eq_false.mpr fun k hk => ?_
              intro z
              exact hany ⟨k, hk, of_decide_eq_true z⟩
            rw [e]
            refine ⟨false, rfl, iteF ?_⟩
            intro F hF
            dsimp only [gName, List.set_cons_zero, List.set_cons_succ]
            have sF := Same.new (o := .dK []) hF
            have hFH : H F = none := by
              cases z : H F with
              | none => rfl
              | some u => rw [sG5 F u z] at hF; cases hF
            have sG6 := sG5.trans sF
            have hD6 := sF D _ (s5 D _ hDG)
            have hpD6 : DPr rInt (upd G5 F (.dK [])) lks (kdict kl (lft S b g (ll.map edg))) := dpair_mono (Ext.of (s5.trans sF)) hpG
            have nDF : D ≠ F := ne_of_none (s5 D _ hDG) hF
            have nsF : sd ≠ F := fun z => by
              subst z
              rcases hsd with q | ⟨_, q⟩ <;> rw [hFH] at q <;> cases q
            have nsD : sd ≠ D := fun z => by
              subst z
              rcases hsd with q | ⟨_, q⟩ <;> rw [hD] at q <;> cases q
            refine ⟨sd, sks, rd_same sG6 hsd, fun od G7 h7 hb7 => ?_⟩
            have lk0 : Lk H sd od sks G7 := Lk.start sG6 h7 hb7
            have x67 : Ext (upd G5 F (.dK [])) G7 := Ext.lock (rd_same sG6 hsd) h7 hb7
            refine ⟨_, rfl, sd, od, rfl, .inl ⟨sks, h7, for_it walk_keys (fun j σ G => ∃ fks, (Lk H sd od sks G ∧ G D = some (.dK lks) ∧ DPr rInt G lks (kdict kl (lft S b g (ll.map edg))) ∧ G F = some (.dK fks) ∧ DPr rInt G fks (kdict ((skeys S).take j) (lft S b g (ll.map edg)))) ∧ ∃ a d e f h x, σ = [some (.ref pa), some (.ref sd), some (.ref na), some (.ref rd), some (.ref bd), some (.ref D), a, some (.ref F), d, e, f, h, x])
              ⟨[], ⟨lk0, by rw [hb7 D nsD.symm]; exact hD6, dp_tu (fun a xs q => x67.tup a xs q) hpD6, by rw [hb7 F nsF.symm]; exact upd_same, .nil⟩, _, _, _, _, _, _, rfl⟩ (fun j σ G _ ⟨_, h, _⟩ => h.1.frz) ?_ ?_⟩⟩
            · rintro j x σ G8 G9 hj ⟨fks, ⟨lk8, hD8, hpD8, hF8, hpF8⟩, _, _, _, _, _, _, rfl⟩ ⟨rfl, kk, vv, hkv, rfl⟩
              have xt := lk8.ext hsd
              obtain ⟨⟨n, sx⟩, hnj, rfl, _⟩ := kv_key (dpair_mono xt hsk) hkv
              have hn : (skeys S)[j]? = some n := by unfold skeys; rw [List.getElem?_map, hnj] <;> rfl
              have hnm : n ∈ kl := ssub n (List.mem_of_getElem? hn)
              obtain ⟨v, hg8, rfl⟩ := get_in (.inl hD8) hpD8 nlk (kdict_mem (f := lft S b g (ll.map edg)) hnm)
              have et : (skeys S).take (j + 1) = (skeys S).take j ++ [n] := by
                rw [List.take_add_one, hn]
                rfl
              have hnew : n ∉ (kdict ((skeys S).take j) (lft S b g (ll.map edg))).map (·.1) := by
                rw [kdict_keys]
                intro hm
                have h1 : ((skeys S).take (j + 1)).Nodup := List.Nodup.sublist (List.take_sublist _ _) snd
                rw [et] at h1
                exact (List.nodup_append.mp h1).2.2 _ hm _ List.mem_cons_self rfl
              have lkf : fks.length < sizeLine := by
                rw [paired_len hpF8, kdict_len, List.length_take]
                unfold skeys
                rw [List.length_map]
                omega
              dsimp only [gName, List.set_cons_zero, List.set_cons_succ]
              refine ⟨_, rfl, _, rfl, D, _, rfl, hg8, _, rfl, _, rfl, F, _, rfl, DPut.k (k := Sum.inr n) hF8 lkf, ?_⟩
              have tu : TupS G9 (upd G9 F (.dK (putK fks (Sum.inr n) (V.int (lft S b g (ll.map edg) n))))) := TupS.upd hF8 fun _ z => nomatch z
              refine ⟨_, ⟨lk8.mut hFH nsF, by rw [upd_ne nDF]; exact hD8, dp_tu tu hpD8, upd_same, ?_⟩, _, _, _, _, _, _, rfl⟩
              rw [et, kdict_snoc]
              exact dp_tu tu (dp_snoc (A := rInt) hpF8 rfl hnew)
            · rintro σ G8 ⟨fks, ⟨lk8, hD8, hpD8, hF8, hpF8⟩, _, _, _, _, _, _, rfl⟩
              refine ⟨lk8.frz, fun G9 h9 hb9 => ?_⟩
              have s9 : Same H G9 := lk8.done sG6 h9 hb9
              have e9 : (skeys S).take sks.length = skeys S := List.take_of_length_le (by unfold skeys; rw [List.length_map, ekl]; exact Nat.le_refl _)
              rw [e9] at hpF8
              refine ⟨_, rfl, k2 (fun k hk hz => ?_) F G9 s9 ⟨F, fks, rfl, .inl (by rw [hb9 F nsF.symm]; exact hF8), dp_tu (fun a xs q => by rw [hb9 a (fun z => by subst z; rw [lk8.frz] at q; cases q)]; exact q) hpF8⟩⟩
              by_cases q : k ∈ skeys S
              · exact q
              · exact absurd ⟨k, hk, hz, q⟩ hany
end
end Mx

set_option Elab.async false
set_option linter.all false
set_option maxRecDepth 100000
set_option maxHeartbeats 2000000
/-! Whether an evening fits. -/
namespace Mx
open PySem PySem.Spec PyProof.Rows L2
def FitK (e : RL) (y : Str → Int) (r : Str × (Int × Int × Int)) : Prop := (limB (rdg e r.1) r.2.2.1 r.2.2.2).1 ≤ y r.1 ∧ y r.1 ≤ (limB (rdg e r.1) r.2.2.1 r.2.2.2).2
instance (e : RL) (y : Str → Int) (r : Str × (Int × Int × Int)) : Decidable (FitK e y r) := by unfold FitK; infer_instance
def FitA (S : SL) (e : RL) (y : Str → Int) : Prop := ∀ r ∈ S, FitK e y r
instance (S : SL) (e : RL) (y : Str → Int) : Decidable (FitA S e y) := by unfold FitA; infer_instance
section
variable {P : Program} {w : World} {K : PySem.W.Frag} {mg : Str → Option Value} {base : Heap}
def sp_law_fits : Sp := fun vs H Q _ => ∃ sv rv ev S e y, vs = [sv, rv, ev] ∧ rD rSt H sv S ∧ (S.map (·.1)).Nodup ∧ rD rLim H rv e ∧ (e.map (·.1)).Nodup ∧ rD rInt H ev (kdict (skeys S) y) ∧ ret rBl H Q (decide (FitA S e y))
theorem ok__law_fits (T : Tx K mg) : FnOk P w K mg base CX0 1 T.a__law_fits T.d__law_fits P__law_fits sp_law_fits := by
  refine T.F__law_fits.ok sc__law_fits (fun vs H Q E h => ?_) (fun cdv A outer s H vs Q E hr h => ?_)
  · obtain ⟨_, _, _, _, _, _, rfl, _⟩ := h
    rfl
  · have hu := hu_of hr
    refine ⟨_, PSs.nox (pss_cons (ps_lockR (ps_for PassesOwn.never rfl (pi_keys (pv 0)) (pg_name (i := 3) sc__law_fits.nd rfl (Or.inl rfl))
    (pss_cons (ps_if (pt_not (pt_chain op_le op_le (pe_ix ix_tup (pe_dget hu (pv 0) (pv 3) (fun _ _ => rfl)) pe_int (fun _ _ => rfl)) (pe_dget hu (pv 2) (pv 3) (fun _ _ => rfl)) (pe_ix ix_tup (pe_dget hu (pv 0) (pv 3) (fun _ _ => rfl)) pe_int (fun _ _ => rfl)))) (pss_one (ps_ret pe_bl)) pss_nil)
    (pss_one (ps_if (PW.pt (pw_and (pt_cmp (pc_din hu (pv 3) (pv 1))) (pw_and1 (pt_cmpR op_gt (pe_callB call_abs (by rfl) T.n_abs (by decide +kernel) (pa_cons (pe_op op_sub (pe_dget hu (pv 2) (pv 3) (fun _ _ => rfl)) (pe_ix ix_tup (pe_dget hu (pv 1) (pv 3) (fun _ _ => rfl)) pe_int (fun _ _ => rfl))) pa_nil)) (pe_ix ix_tup (pe_dget hu (pv 1) (pv 3) (fun _ _ => rfl)) pe_int (fun _ _ => rfl)) (nomark _))))) (pss_one (ps_ret pe_bl)) pss_nil)))))
    (pss_one (ps_ret pe_bl))), ?_⟩
    obtain ⟨sv, rv, ev, S, e, y, rfl, ⟨sd, sks, rfl, hsd, hsk⟩, snd, ⟨rd, rks, rfl, hrd, hrk⟩, rnd, ⟨ed, eks, rfl, hed, hek⟩, k⟩ := h
    refine ⟨sd, sks, hsd, fun od H1 h1 hb1 => ?_⟩
    have x1 : Ext H H1 := Ext.lock hsd h1 hb1
    have lk0 : Lk H sd od sks H1 := Lk.start (Same.refl H) h1 hb1
    refine ⟨_, rfl, sd, od, rfl, .inl ⟨sks, h1, for_it walk_keys (fun j σ G => (G = H1 ∧ ∀ r ∈ S.take j, FitK e y r) ∧ ∃ a, σ = [some (.ref sd), some (.ref rd), some (.ref ed), a])
      ⟨⟨rfl, fun _ h => by simp at h⟩, _, rfl⟩ (fun j σ G _ h => by rw [h.1.1]; exact h1) ?_ ?_⟩⟩
    · rintro j x σ G G' hj ⟨⟨rfl, hall⟩, _, rfl⟩ ⟨rfl, kk, vv, hkv, rfl⟩
      obtain ⟨⟨n, bg, lo, hi⟩, hnj, rfl, _⟩ := kv_key (dpair_mono x1 hsk) hkv
      have hmem := List.mem_of_getElem? hnj
      have hn : n ∈ skeys S := List.mem_map.mpr ⟨_, hmem, rfl⟩
      obtain ⟨v, hg, t, _, _, _, rfl, ht, rfl, rfl, rfl⟩ := get_in (d := sd) (.inr ⟨od, h1⟩) (dpair_mono x1 hsk) snd hmem
      obtain ⟨v, hgy, rfl⟩ := get_in (x1.dk ed _ hed) (dpair_mono x1 hek) (by rw [kdict_keys]; exact snd) (kdict_mem (f := y) hn)
      dsimp only [gName, List.set_cons_zero, List.set_cons_succ]
      have et : S.take (j + 1) = S.take j ++ [(n, bg, lo, hi)] := by
        rw [List.take_add_one, hnj]
        rfl
      have out : ¬ FitK e y (n, bg, lo, hi) → ∀ H2, H2 sd = H sd → (∀ b, b ≠ sd → H2 b = G' b) → Q (.bl false) H2 := fun hno H2 h2 hb2 => by
        have s2 : Same H H2 := lk0.done (Same.refl H) h2 hb2
        have : decide (FitA S e y) = false := decide_eq_false fun z => hno (z _ hmem)
        rw [this] at k
        exact k _ H2 s2 rfl
      have go : FitK e y (n, bg, lo, hi) → ∀ r ∈ S.take (j + 1), FitK e y r := fun h r hr => by
        rw [et] at hr
        rcases List.mem_append.mp hr with hr | hr
        · exact hall r hr
        · rw [List.mem_singleton.mp hr]
          exact h
      -- not low <= evening <= high
      refine ⟨_, rfl, _, rfl, sd, _, rfl, hg, t, _, _, _, rfl, rfl, SqT.of ht, atI_nat (j := 1) rfl, _, rfl, _, rfl, ed, _, rfl, hgy, _, _, rfl, rfl, ?_⟩
      by_cases h1' : lo ≤ y n
      · refine ⟨true, ct h1', iteT ⟨_, rfl, _, rfl, sd, _, rfl, hg, t, _, _, _, rfl, rfl, SqT.of ht, atI_nat (j := 2) rfl, _, _, rfl, rfl, ?_⟩⟩
        by_cases h2' : y n ≤ hi
        · refine ⟨true, ct h2', ?_⟩
          refine iteF ?_
          -- knot in readings and abs(..) > ..
          cases hg2 : rdg e n with
          | none =>
            have g3 := get_out (x1.dk rd _ hrd) (dpair_mono x1 hrk) (rdg_none hg2)
            refine ⟨_, rfl, _, rfl, rd, _, rfl, g3, false, rfl, ?_⟩
            refine iteF ?_
            refine iteF ?_
            refine ⟨⟨rfl, go ?_⟩, _, rfl⟩
            unfold FitK
            rw [hg2]
            exact ⟨h1', h2'⟩
          | some z =>
            obtain ⟨a, tol⟩ := z
            obtain ⟨v, g3, t3, _, _, rfl, ht3, rfl, rfl⟩ := get_in (x1.dk rd _ hrd) (dpair_mono x1 hrk) rnd (rdg_some hg2)
            refine ⟨_, rfl, _, rfl, rd, _, rfl, g3, true, rfl, ?_⟩
            refine iteT ?_
            refine ⟨_, rfl, _, rfl, ed, _, rfl, hgy, _, rfl, _, rfl, rd, _, rfl, g3, t3, _, _, _, rfl, rfl, SqT.of ht3, atI_nat (j := 0) rfl, _, _, rfl, rfl, _, rfl, _, rfl, _, rfl, rd, _, rfl, g3, t3, _, _, _, rfl, rfl, SqT.of ht3, atI_nat (j := 1) rfl, _, _, rfl, rfl, _, rfl, ?_⟩
            have efit : FitK e y (n, bg, lo, hi) ↔ ¬ (if y n - a < 0 then -(y n - a) else y n - a) > tol := by
              unfold FitK
              rw [hg2]
              show ((if a - tol > lo then a - tol else lo) ≤ y n ∧ y n ≤ (if a + tol < hi then a + tol else hi)) ↔ _
              constructor
              · rintro ⟨q1, q2⟩
                split at q1 <;> split at q2 <;> split <;> omega
              · intro q
                split at q
                · exact ⟨by split <;> omega, by split <;> omega⟩
                · exact ⟨by split <;> omega, by split <;> omega⟩
            refine ite2 (fun h => ?_) (fun h => ?_)
            · exact ⟨h1, out fun q => efit.mp q (of_decide_eq_true h)⟩
            · exact ⟨⟨rfl, go (efit.mpr fun q => h (decide_eq_true q))⟩, _, rfl⟩
        · refine ⟨false, cf h2', ?_⟩
          refine iteT ?_
          refine ⟨h1, out fun q => ?_⟩
          unfold FitK limB at q
          split at q
          · exact h2' q.2
          · have q2 := q.2
            simp only [] at q2
            split at q2 <;> omega
      · refine ⟨false, cf h1', iteF ⟨false, rfl, ?_⟩⟩
        refine iteT ?_
        refine ⟨h1, out fun q => ?_⟩
        unfold FitK limB at q
        split at q
        · exact h1' q.1
        · have q2 := q.1
          simp only [] at q2
          split at q2 <;> omega
    · rintro σ G ⟨⟨rfl, hall⟩, _, rfl⟩
      refine ⟨h1, fun H2 h2 hb2 => ?_⟩
      have s2 : Same H H2 := lk0.done (Same.refl H) h2 hb2
      rw [paired_len hsk, List.take_length] at hall
      have : decide (FitA S e y) = true := decide_eq_true hall
      rw [this] at k
      exact k _ H2 s2 rfl
end
end Mx

set_option Elab.async false
set_option linter.all false
set_option maxRecDepth 100000
set_option maxHeartbeats 2000000
/-! The law's courses, in plain lists. -/
namespace Mx
open PySem PySem.Spec PyProof.Rows L2
abbrev Row := List (Str × Int)
abbrev RwT := List Row × List Row × Row
def vof (r : Row) (k : Str) : Int := (rdg r k).getD 0
theorem vof_kdict {f : Str → Int} : ∀ {ks : List Str} {k : Str}, k ∈ ks → vof (kdict ks f) k = f k
  | a :: ks, k, h => by
    unfold vof rdg kdict
    by_cases e : a = k
    · subst e
      rw [List.map_cons, List.find?_cons_of_pos (by simp)]
      rfl
    · rw [List.map_cons, List.find?_cons_of_neg (by simp [e])]
      exact vof_kdict ((List.mem_cons.mp h).resolve_left fun z => e z.symm)
theorem kdict_vof {r : Row} (h : (r.map (·.1)).Nodup) : r = kdict (r.map (·.1)) (vof r) := by
  unfold kdict
  rw [List.map_map]
  conv => lhs; rw [← List.map_id' r]
  refine List.map_congr_left fun x hx => ?_
  obtain ⟨z, hz⟩ := rdg_in (R := r) (List.mem_map.mpr ⟨x, hx, rfl⟩ : x.1 ∈ r.map (·.1))
  have h1 := rdg_some hz
  obtain ⟨i, hi⟩ := List.getElem?_of_mem h1
  obtain ⟨j, hj⟩ := List.getElem?_of_mem hx
  have := nd_ix h (x := x.1) (i := i) (j := j) (by rw [List.getElem?_map, hi] <;> rfl) (by rw [List.getElem?_map, hj] <;> rfl)
  subst this
  rw [hi] at hj
  have e := Option.some.inj hj
  show x = (x.1, vof r x.1)
  unfold vof
  rw [hz]
  exact e.symm
theorem kdict_congr {ks : List Str} {f g : Str → Int} (h : ∀ k ∈ ks, f k = g k) : kdict ks f = kdict ks g := by
  unfold kdict
  exact List.map_congr_left fun k hk => by rw [h k hk]
def lf (S : SL) (sl : List Sm) (b r : Row) (k : Str) : Int := lft S (vof b) (vof r) (sl.map edg) k
def OkE (S : SL) (kl : List Str) (sl : List Sm) (e : RL) (b r : Row) : Prop := (∀ k ∈ kl, lf S sl b r k ≠ 0 → k ∈ skeys S) ∧ FitA S e (lf S sl b r)
instance (S : SL) (kl : List Str) (sl : List Sm) (e : RL) (b r : Row) : Decidable (OkE S kl sl e b r) := by unfold OkE; infer_instance
def evD (S : SL) (sl : List Sm) (b r : Row) : Row := kdict (skeys S) (lf S sl b r)
def stepR (S : SL) (kl : List Str) (sl : List Sm) (z : RL × RL) (x : RwT) : List RwT := ((rowsF (sl.map (limT z.1))).filter fun r => decide (OkE S kl sl z.2 x.2.2 r)).map fun r => (x.1 ++ [r], x.2.1 ++ [evD S sl x.2.2 r], evD S sl x.2.2 r)
def stepC (S : SL) (kl : List Str) (sl : List Sm) (z : RL × RL) (rows : List RwT) : List RwT := rows.flatMap (stepR S kl sl z)
def beg0 (S : SL) (k : Str) : Int := ((rdg S k).getD (0, 0, 0)).1
def crsF (S : SL) (kl : List Str) (sl : List Sm) (Z : List (RL × RL)) : List RwT := Z.foldl (fun rows z => stepC S kl sl z rows) [([], [], kdict (skeys S) (beg0 S))]
theorem crsF_snoc (S : SL) (kl : List Str) (sl : List Sm) (Z : List (RL × RL)) (z : RL × RL) : crsF S kl sl (Z ++ [z]) = stepC S kl sl z (crsF S kl sl Z) := by
  unfold crsF
  rw [List.foldl_append]
  rfl
def stY (S : SL) (y : Str → Int) (k : Str) : Int := if k ∈ skeys S then y k else 0
/-- a course by days -/
structure Cxy (S : SL) (kl : List Str) (sl : List Sm) (Z : List (RL × RL)) (i : Nat) (X Y : Nat → Str → Int) : Prop where
  beg : ∀ k ∈ skeys S, Y 0 k = beg0 S k
  day : ∀ d z, d < i → Z[d]? = some z → ∀ s ∈ sl, (limS z.1 s).1 ≤ X d s.nm ∧ X d s.nm ≤ (limS z.1 s).2
  eve : ∀ d z, d < i → Z[d]? = some z → FitA S z.2 (Y (d + 1))
  bal : ∀ d, d < i → ∀ k ∈ kl, Mt.net (sl.map edg) (X d) k + stY S (Y d) k - stY S (Y (d + 1)) k = 0
def rowXY (S : SL) (sl : List Sm) (i : Nat) (X Y : Nat → Str → Int) : RwT := ((List.range i).map fun d => kdict (sl.map (·.nm)) (X d), (List.range i).map fun d => kdict (skeys S) (Y (d + 1)), kdict (skeys S) (Y i))
theorem FitA_congr {S : SL} {e : RL} {y y' : Str → Int} (h : ∀ k ∈ skeys S, y k = y' k) (f : FitA S e y) : FitA S e y' := fun r hr => by
  have := f r hr
  unfold FitK at this ⊢
  rw [h r.1 (List.mem_map.mpr ⟨r, hr, rfl⟩)] at this
  exact this
theorem stY_congr {S : SL} {y y' : Str → Int} (h : ∀ k ∈ skeys S, y k = y' k) (k : Str) : stY S y k = stY S y' k := by
  unfold stY
  by_cases q : k ∈ skeys S
  · rw [if_pos q, if_pos q, h k q]
  · rw [if_neg q, if_neg q]
theorem net_congr' {sl : List Sm} {f g : Str → Int} (h : ∀ s ∈ sl, f s.nm = g s.nm) (k : Str) : Mt.net (sl.map edg) f k = Mt.net (sl.map edg) g k := Mt.net_congr (fun e he => by
  obtain ⟨s, hs, rfl⟩ := List.mem_map.mp he
  exact h s hs) k
theorem lf_eq {S : SL} {sl : List Sm} {b r : Row} {y x : Str → Int} (hb : ∀ k ∈ skeys S, vof b k = y k) (hr : ∀ s ∈ sl, vof r s.nm = x s.nm) (k : Str) : lf S sl b r k = stY S y k + Mt.net (sl.map edg) x k := by
  unfold lf lft
  rw [net_congr' hr k]
  congr 1
  unfold bef stY
  by_cases q : k ∈ skeys S
  · rw [if_pos q, if_pos q, hb k q]
  · rw [if_neg q, if_neg q]
theorem mem_crsF {S : SL} {kl : List Str} {sl : List Sm} (hnd : (sl.map (·.nm)).Nodup) (hsub : ∀ k ∈ skeys S, k ∈ kl) (Z : List (RL × RL)) : ∀ i, i ≤ Z.length → ∀ x : RwT, x ∈ crsF S kl sl (Z.take i) ↔ ∃ X Y, Cxy S kl sl Z i X Y ∧ x = rowXY S sl i X Y
  | 0, _, x => by
    rw [List.take_zero]
    constructor
    · intro h
      have : x = ([], [], kdict (skeys S) (beg0 S)) := List.mem_singleton.mp h
      exact ⟨fun _ _ => 0, fun _ => beg0 S, ⟨fun _ _ => rfl, fun _ _ h => absurd h (Nat.not_lt_zero _), fun _ _ h => absurd h (Nat.not_lt_zero _), fun _ h => absurd h (Nat.not_lt_zero _)⟩, this⟩
    · rintro ⟨X, Y, c, rfl⟩
      refine List.mem_singleton.mpr ?_
      unfold rowXY
      rw [kdict_congr c.beg]
      rfl
  | i + 1, hi, x => by
    obtain ⟨z, hz⟩ : ∃ z, Z[i]? = some z := ⟨_, List.getElem?_eq_getElem (by omega)⟩
    have et : Z.take (i + 1) = Z.take i ++ [z] := by
      rw [List.take_add_one, hz]
      rfl
    have ih := mem_crsF hnd hsub Z i (by omega)
    rw [et, crsF_snoc]
    have nmE : (sl.map (limT z.1)).map (·.nm) = sl.map (·.nm) := by
      rw [List.map_map]
      rfl
    constructor
    · intro h
      obtain ⟨x0, hx0, h⟩ := List.mem_flatMap.mp h
      obtain ⟨r, hr, rfl⟩ := List.mem_map.mp h
      obtain ⟨hrF, hok⟩ := List.mem_filter.mp hr
      have hok' : OkE S kl sl z.2 x0.2.2 r := of_decide_eq_true hok
      obtain ⟨X, Y, c, rfl⟩ := (ih x0).mp hx0
      obtain ⟨q1, q2⟩ := rowsF_in hrF
      rw [nmE] at q1
      have hrk : r = kdict (sl.map (·.nm)) (vof r) := by
        have := kdict_vof (r := r) (by rw [q1]; exact hnd)
        rw [q1] at this
        exact this
      have hb : ∀ k ∈ skeys S, vof (rowXY S sl i X Y).2.2 k = Y i k := fun k hk => vof_kdict hk
      have hlf := lf_eq (S := S) (sl := sl) (b := (rowXY S sl i X Y).2.2) (r := r) (y := Y i) (x := vof r) hb (fun _ _ => rfl)
      have hx : ∀ d, d < i → (if d = i then vof r else X d) = X d := fun d h => if_neg (by omega)
      have hy : ∀ d, d < i + 1 → (if d = i + 1 then lf S sl (rowXY S sl i X Y).2.2 r else Y d) = Y d := fun d h => if_neg (by omega)
      refine ⟨fun d => if d = i then vof r else X d, fun d => if d = i + 1 then lf S sl (rowXY S sl i X Y).2.2 r else Y d, ⟨fun k hk => ?_, fun d z' hd hz' s hs => ?_, fun d z' hd hz' => ?_, fun d hd k hk => ?_⟩, ?_⟩
      · show (if 0 = i + 1 then lf S sl (rowXY S sl i X Y).2.2 r else Y 0) k = _
        rw [hy 0 (by omega)]
        exact c.beg k hk
      · show _ ≤ (if d = i then vof r else X d) s.nm ∧ (if d = i then vof r else X d) s.nm ≤ _
        by_cases e : d = i
        · subst e
          rw [hz] at hz'
          cases hz'
          rw [if_pos rfl]
          obtain ⟨j, hj⟩ := List.getElem?_of_mem hs
          obtain ⟨v, h1, h2, h3⟩ := q2 j (limT z.1 s) (by rw [List.getElem?_map, hj] <;> rfl)
          have hv : vof r s.nm = v := by
            have hm : s.nm ∈ r.map (·.1) := List.mem_map.mpr ⟨_, List.mem_of_getElem? h1, rfl⟩
            obtain ⟨u, hu⟩ := rdg_in hm
            have h5 := rdg_some hu
            obtain ⟨m, hm'⟩ := List.getElem?_of_mem h5
            have hrn : (r.map (·.1)).Nodup := by rw [q1]; exact hnd
            have := nd_ix hrn (x := s.nm) (i := m) (j := j) (by rw [List.getElem?_map, hm'] <;> rfl) (by rw [List.getElem?_map, h1] <;> rfl)
            subst this
            rw [hm'] at h1
            have e := Option.some.inj h1
            unfold vof
            rw [hu]
            exact congrArg Prod.snd e
          rw [hv]
          exact ⟨h2, h3⟩
        · rw [hx d (by omega)]
          exact c.day d z' (by omega) hz' s hs
      · show FitA S z'.2 (if d + 1 = i + 1 then lf S sl (rowXY S sl i X Y).2.2 r else Y (d + 1))
        by_cases e : d = i
        · subst e
          rw [hz] at hz'
          cases hz'
          rw [if_pos rfl]
          exact hok'.2
        · rw [hy (d + 1) (by omega)]
          exact c.eve d z' (by omega) hz'
      · show Mt.net (sl.map edg) (if d = i then vof r else X d) k + stY S (if d = i + 1 then lf S sl (rowXY S sl i X Y).2.2 r else Y d) k - stY S (if d + 1 = i + 1 then lf S sl (rowXY S sl i X Y).2.2 r else Y (d + 1)) k = 0
        by_cases e : d = i
        · subst e
          rw [if_pos rfl, hy d (by omega), if_pos rfl]
          have h1 := hlf k
          by_cases q : k ∈ skeys S
          · have : stY S (lf S sl (rowXY S sl d X Y).2.2 r) k = lf S sl (rowXY S sl d X Y).2.2 r k := if_pos q
            omega
          · have h2 : stY S (lf S sl (rowXY S sl d X Y).2.2 r) k = 0 := if_neg q
            have h3 : lf S sl (rowXY S sl d X Y).2.2 r k = 0 := by
              by_cases w : lf S sl (rowXY S sl d X Y).2.2 r k = 0
              · exact w
              · exact absurd (hok'.1 k hk w) q
            omega
        · rw [hx d (by omega), hy d (by omega), hy (d + 1) (by omega)]
          exact c.bal d (by omega) k hk
      · unfold rowXY
        rw [List.range_succ, List.map_append, List.map_append]
        have e1 : (List.range i).map (fun d => kdict (sl.map (·.nm)) (if d = i then vof r else X d)) = (List.range i).map fun d => kdict (sl.map (·.nm)) (X d) := List.map_congr_left fun d hd => by rw [hx d (List.mem_range.mp hd)]
        have e2 : (List.range i).map (fun d => kdict (skeys S) (if d + 1 = i + 1 then lf S sl (rowXY S sl i X Y).2.2 r else Y (d + 1))) = (List.range i).map fun d => kdict (skeys S) (Y (d + 1)) := List.map_congr_left fun d hd => by rw [hy (d + 1) (by have := List.mem_range.mp hd; omega)]
        have e3 : [i].map (fun d => kdict (sl.map (·.nm)) (if d = i then vof r else X d)) = [r] := by
          show [kdict (sl.map (·.nm)) (if i = i then vof r else X i)] = [r]
          rw [if_pos rfl, ← hrk]
        have e4 : [i].map (fun d => kdict (skeys S) (if d + 1 = i + 1 then lf S sl (rowXY S sl i X Y).2.2 r else Y (d + 1))) = [evD S sl (rowXY S sl i X Y).2.2 r] := by
          show [kdict (skeys S) (if i + 1 = i + 1 then lf S sl (rowXY S sl i X Y).2.2 r else Y (i + 1))] = _
          rw [if_pos rfl]
          rfl
        have e5 : kdict (skeys S) (if i + 1 = i + 1 then lf S sl (rowXY S sl i X Y).2.2 r else Y (i + 1)) = evD S sl (rowXY S sl i X Y).2.2 r := by
          rw [if_pos rfl]
          rfl
        rw [e1, e3]
        refine Prod.ext rfl (Prod.ext ?_ ?_)
        · have e6 : ∀ (a b c d : List Row), a = b → c = d → b ++ d = a ++ c := fun a b c d p q => by rw [p, q]
          exact e6 _ _ _ _ e2 e4
        · exact e5.symm
    · rintro ⟨X, Y, c, rfl⟩
      have c0 : Cxy S kl sl Z i X Y := ⟨c.beg, fun d z hd => c.day d z (by omega), fun d z hd => c.eve d z (by omega), fun d hd => c.bal d (by omega)⟩
      have hr : kdict (sl.map (·.nm)) (X i) ∈ rowsF (sl.map (limT z.1)) := by
        rw [← nmE]
        refine rowsF_has fun s hs => ?_
        obtain ⟨t, ht, rfl⟩ := List.mem_map.mp hs
        exact c.day i z (by omega) hz t ht
      have hb : ∀ k ∈ skeys S, vof (rowXY S sl i X Y).2.2 k = Y i k := fun k hk => vof_kdict hk
      have hv : ∀ s ∈ sl, vof (kdict (sl.map (·.nm)) (X i)) s.nm = X i s.nm := fun s hs => vof_kdict (List.mem_map.mpr ⟨s, hs, rfl⟩)
      have hlf := lf_eq (S := S) (sl := sl) hb hv
      have hy : ∀ k ∈ kl, lf S sl (rowXY S sl i X Y).2.2 (kdict (sl.map (·.nm)) (X i)) k = stY S (Y (i + 1)) k := fun k hk => by
        have := c.bal i (by omega) k hk
        rw [hlf k]
        omega
      have hyS : ∀ k ∈ skeys S, lf S sl (rowXY S sl i X Y).2.2 (kdict (sl.map (·.nm)) (X i)) k = Y (i + 1) k := fun k hk => by
        rw [hy k (hsub k hk)]
        exact if_pos hk
      refine List.mem_flatMap.mpr ⟨rowXY S sl i X Y, (ih _).mpr ⟨X, Y, c0, rfl⟩, List.mem_map.mpr ⟨kdict (sl.map (·.nm)) (X i), List.mem_filter.mpr ⟨hr, decide_eq_true ⟨fun k hk hne => ?_, ?_⟩⟩, ?_⟩⟩
      · by_cases q : k ∈ skeys S
        · exact q
        · refine absurd ?_ hne
          rw [hy k hk]
          exact if_neg q
      · exact FitA_congr (fun k hk => (hyS k hk).symm) (c.eve i z (by omega) hz)
      · have e5 : evD S sl (rowXY S sl i X Y).2.2 (kdict (sl.map (·.nm)) (X i)) = kdict (skeys S) (Y (i + 1)) := kdict_congr hyS
        rw [e5]
        unfold rowXY
        rw [List.range_succ, List.map_append, List.map_append]
        rfl
end Mx

set_option Elab.async false
set_option linter.all false
set_option maxRecDepth 100000
set_option maxHeartbeats 4000000
/-! All courses. -/
namespace Mx
open PySem PySem.Spec PyProof.Rows L2
theorem mergeK_nd {kvs : List (Key × V)} (h : (kvs.map (·.1)).Nodup) : mergeK [] kvs = kvs := by
  have key : ∀ (more acc : List (Key × V)), (acc.map (·.1) ++ more.map (·.1)).Nodup → mergeK acc more = acc ++ more := by
    intro more
    induction more with
    | nil => intro acc _; exact (List.append_nil acc).symm
    | cons p r ih =>
      intro acc h
      show mergeK (putK acc p.1 p.2) r = _
      have hn : putK acc p.1 p.2 = acc ++ [p] := by
        unfold putK
        have : (acc.any fun kv => decide (kv.1 = p.1)) = false := by
          rw [List.any_eq_false]
          intro q hq hd
          have := (List.nodup_append.mp h).2.2 q.1 (List.mem_map.mpr ⟨q, hq, rfl⟩) p.1 (by simp)
          exact this (of_decide_eq_true hd)
        rw [this]
        rfl
      rw [hn, ih (acc ++ [p]) (by rw [List.map_append]; simpa using h)]
      simp
  have := key kvs [] (by simpa using h)
  simpa using this
/-- a row -/
def rw3 : Rep RwT := fun H v x => ∃ a f s b, v = .ref a ∧ H a = some (.lst [f, s, b]) ∧ rL (rD rInt) H f x.1 ∧ rL (rD rInt) H s x.2.1 ∧ rD rInt H b x.2.2
instance : Mono rw3 := ⟨fun e ⟨a, f, s, b, h1, h2, h3, h4, h5⟩ => ⟨a, f, s, b, h1, e.lst a _ h2, Mono.mono e h3, Mono.mono e h4, Mono.mono e h5⟩⟩
/-- a list that is not the one at D -/
def rLN (D : Addr) : Rep (List Row) := fun H v l => ∃ p xs, v = .ref p ∧ p ≠ D ∧ H p = some (.lst xs) ∧ Paired (rD rInt H) xs l
instance (D : Addr) : Mono (rLN D) := ⟨fun e ⟨p, xs, h1, n, h2, h3⟩ => ⟨p, xs, h1, n, e.lst p _ h2, paired_mono e h3⟩⟩
def rwN (D : Addr) : Rep RwT := fun H v x => ∃ a f s b, v = .ref a ∧ a ≠ D ∧ H a = some (.lst [f, s, b]) ∧ rLN D H f x.1 ∧ rLN D H s x.2.1 ∧ rD rInt H b x.2.2
instance (D : Addr) : Mono (rwN D) := ⟨fun e ⟨a, f, s, b, h1, n, h2, h3, h4, h5⟩ => ⟨a, f, s, b, h1, n, e.lst a _ h2, Mono.mono e h3, Mono.mono e h4, Mono.mono e h5⟩⟩
theorem rLN.upd {D : Addr} {H : Hp} {ys zs : List V} {v : V} {x : List Row} (h : H D = some (.lst ys)) : rLN D H v x → rLN D (upd H D (.lst zs)) v x := fun ⟨p, xs, h1, n, h2, h3⟩ =>
  ⟨p, xs, h1, n, by rw [upd_ne n]; exact h2, paired_noL (ExtN.upd h) h3⟩
theorem rwN.upd {D : Addr} {H : Hp} {ys zs : List V} {v : V} {x : RwT} (h : H D = some (.lst ys)) : rwN D H v x → rwN D (upd H D (.lst zs)) v x := fun ⟨a, f, s, b, h1, n, h2, h3, h4, h5⟩ =>
  ⟨a, f, s, b, h1, n, by rw [upd_ne n]; exact h2, h3.upd h, h4.upd h, NoL.mono (ExtN.upd h) h5⟩
theorem rLN.rl {D : Addr} {H : Hp} {v : V} {x : List Row} : rLN D H v x → rL (rD rInt) H v x := fun ⟨p, xs, h1, _, h2, h3⟩ => ⟨p, xs, h1, h2, h3⟩
theorem rwN.rw {D : Addr} {H : Hp} {v : V} {x : RwT} : rwN D H v x → rw3 H v x := fun ⟨a, f, s, b, h1, _, h2, h3, h4, h5⟩ => ⟨a, f, s, b, h1, h2, h3.rl, h4.rl, h5⟩
theorem pr_map {α β : Type} {F G : α → β → Prop} (h : ∀ a b, F a b → G a b) : ∀ {xs : List α} {l : List β}, Paired F xs l → Paired G xs l
  | _, _, .nil => .nil
  | _, _, .cons q t => .cons (h _ _ q) (pr_map h t)
theorem pairs_kv {K : PySem.W.Frag} {H : Hp} : ∀ {ys : List V} {l : List (Str × Int)}, Paired (rP rStr rInt H) ys l → ∃ (ps : List Addr) (kvs : List (Key × V)), ys = ps.map V.ref ∧ Paired (fun p kv => SqT K H p [kV kv.1, kv.2]) ps kvs ∧ DPr rInt H kvs l
  | _, _, .nil => ⟨[], [], rfl, .nil, .nil⟩
  | _, _, .cons (b := y) h t => by
    obtain ⟨ps, kvs, rfl, h1, h2⟩ := pairs_kv (K := K) t
    obtain ⟨p, a, b, rfl, hp, ha, hb⟩ := h
    cases ha
    cases hb
    exact ⟨p :: ps, (Sum.inr y.1, .int y.2) :: kvs, rfl, .cons (SqT.of hp) h1, .cons ⟨rfl, rfl⟩ h2⟩
theorem Kept.extN {D : Addr} {H H' : Hp} {ys : List V} (k : Kept D H H') (h : H D = some (.lst ys)) : ExtN H H' :=
  ⟨fun a xs e => k a _ (ne_of e h (by intro z; cases z)) e, fun a C dx fs e => k a _ (ne_of e h (by intro z; cases z)) e, fun a kvs e => e.elim (fun q => .inl (k a _ (ne_of q h (by intro z; cases z)) q)) fun ⟨o, q⟩ => .inr ⟨o, k a _ (ne_of q h (by intro z; cases z)) q⟩⟩
theorem fm_len {α β : Type} {f : α → List β} {c : Nat} : ∀ {l : List α}, (∀ x ∈ l, (f x).length ≤ c) → (l.flatMap f).length ≤ c * l.length
  | [], _ => by simp
  | a :: l, h => by
    rw [List.flatMap_cons, List.length_append, List.length_cons, Nat.mul_succ]
    have h1 := h a List.mem_cons_self
    have h2 := fm_len (l := l) fun x hx => h x (List.mem_cons_of_mem _ hx)
    omega
theorem rows27 {ll : List Sm} (h : Thin ll) (l3 : ll.length ≤ 3) : (rowsF ll).length ≤ 27 := by
  have h1 := rowsF_len h
  have h2 : 3 ^ ll.length ≤ 3 ^ 3 := Nat.pow_le_pow_right (by decide) l3
  omega
theorem stepR_len {S : SL} {kl : List Str} {sl : List Sm} {z : RL × RL} {x : RwT} (h : Thin (sl.map (limT z.1))) (l3 : sl.length ≤ 3) : (stepR S kl sl z x).length ≤ 27 := by
  unfold stepR
  rw [List.length_map]
  exact Nat.le_trans (List.length_filter_le _ _) (rows27 h (by rw [List.length_map]; exact l3))
theorem crsF_len {S : SL} {kl : List Str} {sl : List Sm} (l3 : sl.length ≤ 3) {Z : List (RL × RL)} (h : ∀ z ∈ Z, Thin (sl.map (limT z.1))) : ∀ i, (crsF S kl sl (Z.take i)).length ≤ 27 ^ i
  | 0 => by
    rw [List.take_zero]
    exact Nat.le_refl _
  | i + 1 => by
    have ih := crsF_len (S := S) (kl := kl) l3 h i
    cases hz : Z[i]? with
    | none =>
      rw [List.take_add_one, hz]
      show (crsF S kl sl (Z.take i ++ [])).length ≤ _
      rw [List.append_nil, Nat.pow_succ]
      omega
    | some z =>
      rw [List.take_add_one, hz]
      show (crsF S kl sl (Z.take i ++ [z])).length ≤ _
      rw [crsF_snoc]
      have h1 : (stepC S kl sl z (crsF S kl sl (Z.take i))).length ≤ 27 * (crsF S kl sl (Z.take i)).length := fm_len fun x _ => stepR_len (h z (List.mem_of_getElem? hz)) l3
      rw [Nat.pow_succ]
      omega
section
variable {α β : Type} {J : It} {n : Nat} {G : Hp → Prop} {Y : Nat → Hp → V → Hp → Prop} {g : TG} {tt : TT} {te tk tv : TE} {vs : List Nat} {σ : L2.St} {H1 : Hp} {D : Addr}
/-- a list comprehension whose items hold lists, none of them the one that grows -/
theorem lc_genN {A : Rep α} [Mono A] (up : ∀ {H ys zs v x}, H D = some (.lst ys) → A H v x → A (upd H D (.lst zs)) v x) {B : Rep β} (w : Walk J n G Y) (l : List β) (hl : l.length = n) (hn : n < sizeLine) (hD : H1 D = none) (hG : ∀ H, Same H1 H → G H)
    (hY : ∀ (i : Nat) (H : Hp) (x : V) (H' : Hp) (b : β), l[i]? = some b → Same H1 H → Y i H x H' → Same H H' ∧ B H' x b) (f : β → α)
    (step : ∀ (i : Nat) (b : β) (x : V) (H : Hp), l[i]? = some b → Same H1 H → (∃ zs, H D = some (.lst zs)) → B H x b → ∀ (Ks : VK) (Kc : Hp → Prop), (∀ y H4, Same H H4 → A H4 y (f b) → Ks y H4) →
      g x (wipe σ vs) H fun σ2 H2 => wipe σ2 vs = wipe σ vs ∧ tt σ2 H2 fun c H3 => if c = true then te σ2 H3 Ks else Kc H3)
    {Qd : Hp → Prop} (done : ∀ H' ys, Same H1 H' → H' D = some (.lst ys) → Paired (A H') ys (l.map f) → Qd H') :
    ∃ W : Nat → Nat → Hp → Prop, (∃ m, W 0 m (upd H1 D (.lst []))) ∧ ∀ i m H, W i m H →
      (J.stop i H ∧ Qd H) ∨ (J.go i H ∧ ∃ Nx : Hp → Prop, (∀ H', Nx H' → ∃ m', m' < m ∧ W (i + 1) m' H') ∧ ∀ x H', J.yld i H x H' → g x (wipe σ vs) H' fun σ2 H2 => wipe σ2 vs = wipe σ vs ∧ tt σ2 H2 fun b H3 =>
        if b = true then te σ2 H3 fun y H4 => ∃ acc, H4 D = some (.lst acc) ∧ acc.length < sizeLine ∧ Nx (upd H4 D (.lst (acc ++ [y]))) else Nx H3) := by
  refine lc_it w (fun i H => Same H1 H ∧ ∃ acc, H D = some (.lst acc) ∧ acc.length ≤ i ∧ Paired (A H) acc ((l.take i).map f)) ⟨Same.mut (Same.refl _) hD, [], upd_same, Nat.le_refl _, .nil⟩ (fun i H _ h => hG H h.1) ?_ ?_
  · rintro i x H H' hi ⟨s, acc, hacc, hlen, hp⟩ y
    obtain ⟨b, hb⟩ : ∃ b, l[i]? = some b := ⟨l[i]'(by omega), List.getElem?_eq_getElem _⟩
    obtain ⟨sy, hB⟩ := hY i H x H' b hb s y
    have et : l.take (i + 1) = l.take i ++ [b] := by
      rw [List.take_add_one, hb]
      rfl
    refine step i b x H' hb (s.trans sy) ⟨acc, sy D _ hacc⟩ hB _ _ (fun z H4 s4 hA => ?_)
    have h4 : H4 D = some (.lst acc) := s4 D _ (sy D _ hacc)
    refine ⟨acc, h4, by omega, Same.mut ((s.trans sy).trans s4) hD, acc ++ [z], upd_same, by rw [List.length_append]; show acc.length + 1 ≤ i + 1; omega, ?_⟩
    rw [et, List.map_append]
    exact paired_snoc (pr_map (fun _ _ => up h4) (paired_mono (Ext.of (sy.trans s4)) hp)) (up h4 hA)
  · rintro H ⟨s, acc, hacc, _, hp⟩
    rw [← hl, List.take_length] at hp
    exact done H acc s hacc hp
end
section
variable {P : Program} {w : World} {K : PySem.W.Frag} {mg : Str → Option Value} {base : Heap}
/-- a course without the last evening -/
def r2N (D : Addr) : Rep RwT := fun H v x => ∃ a f s, v = .ref a ∧ a ≠ D ∧ H a = some (.lst [f, s]) ∧ rLN D H f x.1 ∧ rLN D H s x.2.1
instance (D : Addr) : Mono (r2N D) := ⟨fun e ⟨a, f, s, h1, n, h2, h3, h4⟩ => ⟨a, f, s, h1, n, e.lst a _ h2, Mono.mono e h3, Mono.mono e h4⟩⟩
theorem r2N.upd {D : Addr} {H : Hp} {ys zs : List V} {v : V} {x : RwT} (h : H D = some (.lst ys)) : r2N D H v x → r2N D (upd H D (.lst zs)) v x := fun ⟨a, f, s, h1, n, h2, h3, h4⟩ =>
  ⟨a, f, s, h1, n, by rw [upd_ne n]; exact h2, h3.upd h, h4.upd h⟩
def r2L : Rep RwT := fun H v x => ∃ a f s, v = .ref a ∧ H a = some (.lst [f, s]) ∧ rL (rD rInt) H f x.1 ∧ rL (rD rInt) H s x.2.1
def sp_law_courses : Sp := fun vs H Q _ => ∃ lv sv rv ev kl sl S R E, vs = [lv, sv, rv, ev] ∧ rLp H lv (kl, sl) ∧ kl.Nodup ∧ kl.length ≤ 3 ∧ sl.length ≤ 3 ∧ (sl.map (·.nm)).Nodup ∧ (∀ s ∈ sl, s.tl ∈ kl ∧ s.hd ∈ kl) ∧ rD rSt H sv S ∧ (skeys S).Nodup ∧ (∀ k ∈ skeys S, k ∈ kl) ∧
  rL (rD rLim) H rv R ∧ rL (rD rLim) H ev E ∧ R.length ≤ 2 ∧ E.length = R.length ∧ (∀ r ∈ R, (r.map (·.1)).Nodup ∧ Thin (sl.map (limT r)) ∧ ∀ s ∈ sl.map (limT r), -1000 ≤ s.lo ∧ s.lo ≤ 1000 ∧ -1000 ≤ s.hi ∧ s.hi ≤ 1000) ∧ (∀ e ∈ E, (e.map (·.1)).Nodup) ∧
  ret (rL r2L) H Q (crsF S kl sl (R.zip E))
theorem ok__law_courses (T : Tx K mg) : FnOk P w K mg base CX0 2 T.a__law_courses T.d__law_courses P__law_courses sp_law_courses := by
  refine T.F__law_courses.ok sc__law_courses (fun vs H Q E h => ?_) (fun cdv A outer s H vs Q E hr h => ?_)
  · obtain ⟨_, _, _, _, _, _, _, _, _, rfl, _⟩ := h
    rfl
  · have hu := hu_of hr
    refine ⟨_, PSs.nox (pss_cons (ps_set (i := 4) sc__law_courses.nd rfl (Or.inl rfl) (pe_lst (pa_cons (pe_lst (pa_cons (pe_lst pa_nil) (pa_cons (pe_lst pa_nil) (pa_cons (pe_callTy (call_dictP rfl) (by rfl) T.n_dict (by decide +kernel) (pa_cons (pe_lockR (pe_lc (own := [("_law_knot", 13)]) rfl sc__law_courses.nd (pi_keys (pv 1)) (blkOk_by (own := [("_law_knot", 13)]) (N := N__law_courses) (sc := defScope s__law_courses) (by decide +kernel)) (fun _ _ _ _ _ => (pg_name (i := 13) sc__law_courses.nd rfl (Or.inl rfl))) (fun _ _ _ _ _ => pts_nil) (fun _ _ _ _ _ => (pe_tup (pa_cons (pv 13) (pa_cons (pe_ix (ix_tupK (K := K) rfl) (pe_dget hu (pv 1) (pv 13) (fun _ _ => rfl)) pe_int (fun _ _ => rfl)) pa_nil)))))) pa_nil)) pa_nil)))) pa_nil)))
    (pss_cons (ps_for PassesOwn.never rfl (pi_range1 rfl T.n_range (pa_cons (pe_callB call_len_seq (by rfl) T.n_len (by decide +kernel) (pa_cons (pv 2) pa_nil)) pa_nil)) (pg_name (i := 5) sc__law_courses.nd rfl (Or.inl rfl))
    (pss_cons (ps_set (i := 6) sc__law_courses.nd rfl (Or.inl rfl) (pe_call (ok__law_limits T) (hr.mono (by decide)) rfl T.m__law_limits T.F__law_limits.kp (b__law_limits T) .nil pass0 (pa_cons (pe_ix ix_list (pv 0) pe_int (fun _ _ => rfl)) (pa_cons (pe_ix ix_list (pv 2) (pv 5) (fun _ _ => rfl)) pa_nil))))
    (pss_cons (ps_set (i := 7) sc__law_courses.nd rfl (Or.inl rfl) (pe_lst pa_nil))
    (pss_cons (ps_for PassesOwn.never rfl (pi_list (pv 4)) (pg_unl rfl (pgs_cons (pg_name (i := 8) sc__law_courses.nd rfl (Or.inl rfl)) (pgs_cons (pg_name (i := 9) sc__law_courses.nd rfl (Or.inl rfl)) (pgs_cons (pg_name (i := 10) sc__law_courses.nd rfl (Or.inl rfl)) pgs_nil))))
    (pss_one (ps_for PassesOwn.never rfl (pi_list (pe_call (ok__law_rows_of T) (hr.mono (by decide)) rfl T.m__law_rows_of T.F__law_rows_of.kp (b__law_rows_of T) .nil pass0 (pa_cons (pv 6) pa_nil))) (pg_name (i := 11) sc__law_courses.nd rfl (Or.inl rfl))
    (pss_cons (ps_set (i := 12) sc__law_courses.nd rfl (Or.inl rfl) (pe_call (ok__law_evening T) (hr.mono (by decide)) rfl T.m__law_evening T.F__law_evening.kp (b__law_evening T) .nil pass0 (pa_cons (pv 0) (pa_cons (pv 1) (pa_cons (pv 6) (pa_cons (pv 11) (pa_cons (pv 10) pa_nil)))))))
    (pss_one (ps_if (PW.pt (pw_and (pt_cmp (pc_notN (pv 12))) (pw_and1 (pt_val (pe_call (ok__law_fits T) (hr.mono (by decide)) rfl T.m__law_fits T.F__law_fits.kp (b__law_fits T) .nil pass0 (pa_cons (pv 1) (pa_cons (pe_ix ix_list (pv 3) (pv 5) (fun _ _ => rfl)) (pa_cons (pv 12) pa_nil)))))))) (pss_one (ps_expr (pe_bm PySem.F.plainAttrs_list PySem.F.slot_list_append PySem.F.type_list_append mt_append (pv 7) (pa_cons (pe_lst (pa_cons (pe_op op_cat (pv 8) (pe_lst (pa_cons (pv 11) pa_nil))) (pa_cons (pe_op op_cat (pv 9) (pe_lst (pa_cons (pv 12) pa_nil))) (pa_cons (pv 12) pa_nil)))) pa_nil)))) pss_nil))))))
    (pss_one (ps_set (i := 4) sc__law_courses.nd rfl (Or.inl rfl) (pv 7)))))))
    (pss_one (ps_ret (pe_lc (own := [("_law_flows", 8), ("_law_stocks", 9), ("_law_before", 10)]) rfl sc__law_courses.nd (pi_list (pv 4)) (blkOk_by (own := [("_law_flows", 8), ("_law_stocks", 9), ("_law_before", 10)]) (N := N__law_courses) (sc := defScope s__law_courses) (by decide +kernel)) (fun _ _ _ _ _ => (pg_unlK (K := K) (n := 3) rfl (pg_unl rfl (pgs_cons (pg_name (i := 8) sc__law_courses.nd rfl (Or.inl rfl)) (pgs_cons (pg_name (i := 9) sc__law_courses.nd rfl (Or.inl rfl)) (pgs_cons (pg_name (i := 10) sc__law_courses.nd rfl (Or.inl rfl)) pgs_nil)))))) (fun _ _ _ _ _ => pts_nil) (fun _ _ _ _ _ => (pe_lst (pa_cons (pv 8) (pa_cons (pv 9) pa_nil))))))))), ?_⟩
    obtain ⟨lv, sv, rv, ev, kl, sl, S, R, E, rfl, ⟨pa, ka, sa, rfl, hpa, hka, ⟨_, sxs, ek, hsa, hsx⟩⟩, knd, kl3, sl3, nnd, hth, ⟨sd, sks, rfl, hsd, hsk⟩, snd, ssub, ⟨ra, rxs, rfl, hra, hrx⟩, ⟨ea, exs, rfl, hea, hex⟩, rl2, elen, hR, hE, k⟩ := h
    cases ek
    have sz := sizeLine_eq
    have ekl : sks.length = S.length := paired_len hsk
    rw [show L2.start N__law_courses [V.ref pa, V.ref sd, V.ref ra, V.ref ea] = [some (V.ref pa), some (V.ref sd), some (V.ref ra), some (V.ref ea), none, none, none, none, none, none, none, none, none, none] from rfl]
    refine ⟨(by show 0 ≤ sizeLine; omega), fun f0 hf0 => ?_⟩
    have sf0 := Same.new (o := .lst []) hf0
    refine ⟨(by show 0 ≤ sizeLine; omega), fun s0 hs0 => ?_⟩
    have ss0 := sf0.trans (Same.new (o := .lst []) hs0)
    refine ⟨sd, sks, rd_same ss0 hsd, fun od H1 h1 hb1 => ?_⟩
    have x1 : Ext _ H1 := Ext.lock (rd_same ss0 hsd) h1 hb1
    have x01 := (Ext.of ss0).trans x1
    refine ⟨_, rfl, sd, od, rfl, .inl ⟨sks, h1, fun D hD => ?_⟩⟩
    refine lc_gen (A := rP rStr rInt) (B := rStr) walk_keys (skeys S) (by unfold skeys; rw [List.length_map, ekl]) (by have h4 := Mt.nd_le snd ssub; unfold skeys at h4; rw [List.length_map] at h4; omega) hD (fun H8 s8 => s8 sd _ h1) (keys_y hsk) (fun _ => true) (fun b => (b, beg0 S b)) ?_ ?_
    · rintro j b x H' hb s8 rfl Ks Kc kt _
      have hbm : b ∈ S.map (·.1) := List.mem_of_getElem? hb
      obtain ⟨y, hy⟩ := rdg_in hbm
      refine ⟨rfl, yesT (iteT ?_)⟩
      have xx := x01.trans (Ext.of s8)
      obtain ⟨v, hg, t, _, _, _, rfl, ht, rfl, rfl, rfl⟩ := get_in (H := H') (d := sd) (.inr ⟨od, s8 sd _ h1⟩) (dpair_mono xx hsk) snd (rdg_some hy)
      refine ⟨_, rfl, _, rfl, _, rfl, sd, _, rfl, hg, t, _, _, _, rfl, rfl, SqT.of ht, atI_nat (j := 0) rfl, (by show 2 ≤ sizeLine; omega), fun q hq => ?_⟩
      refine kt _ _ (Same.new hq) ⟨q, _, _, rfl, upd_same, rfl, ?_⟩ rfl
      show V.int y.1 = V.int (beg0 S b)
      unfold beg0
      rw [hy]
      rfl
    · intro H4 ys s4 hD4 hp4
      rw [filt_true] at hp4
      refine ⟨s4 sd _ h1, fun H5 h5 hb5 => ?_⟩
      have s25 : Same _ H5 := Same.unlock hb1 s4 h5 hb5
      have s05 := ss0.trans s25
      have nDd : D ≠ sd := fun z => by rw [z, h1] at hD; cases hD
      have hD5 : H5 D = some (.lst ys) := by rw [hb5 D nDd]; exact hD4
      have hp5 : Paired (rP rStr rInt H5) ys ((skeys S).map fun b => (b, beg0 S b)) := paired_tu (fun a xs q => by rw [hb5 a (fun z => by subst z; rw [s4 a _ h1] at q; cases q)]; exact q) hp4
      obtain ⟨ps, kvs, rfl, hps, hkv⟩ := pairs_kv (K := K) hp5
      have ekm : mergeK [] kvs = kvs := mergeK_nd (by
        rw [dp_keys hkv]
        refine nd_map (fun _ _ z => Sum.inr.inj z) ?_
        rw [List.map_map]
        show ((skeys S).map fun b => b).Nodup
        rw [List.map_id']
        exact snd)
      refine ⟨D, ps, kvs, rfl, SqL.of hD5, hps, fun d0 hd0 => ?_⟩
      rw [ekm]
      have sd0 := Same.new (o := .dK kvs) hd0
      refine ⟨(by show 3 ≤ sizeLine; omega), fun a0 ha0 => ?_⟩
      have sa0 := Same.new (o := .lst [.ref f0, .ref s0, .ref d0]) ha0
      refine ⟨(by show 1 ≤ sizeLine; omega), fun L0 hL0 => ?_⟩
      have sL0 := Same.new (o := .lst [.ref a0]) hL0
      dsimp only [gName, List.set_cons_zero, List.set_cons_succ]
      have s59 := (sd0.trans sa0).trans sL0
      have s09 := s05.trans s59
      have w0 : rL rw3 (upd (upd (upd H5 d0 (.dK kvs)) a0 (.lst [.ref f0, .ref s0, .ref d0])) L0 (.lst [.ref a0])) (.ref L0) (crsF S kl sl ((R.zip E).take 0)) := by
        refine ⟨L0, _, rfl, upd_same, .cons ⟨a0, .ref f0, .ref s0, .ref d0, rfl, sL0 a0 _ upd_same, ⟨f0, [], rfl, ?_, .nil⟩, ⟨s0, [], rfl, ?_, .nil⟩, ⟨d0, kvs, rfl, .inl (sL0 d0 _ (sa0 d0 _ upd_same)), ?_⟩⟩ .nil⟩
        · exact s59 f0 _ (s25 f0 _ (Same.new (o := .lst []) hs0 f0 _ upd_same))
        · exact s59 s0 _ (s25 s0 _ upd_same)
        · exact dpair_mono (Ext.of s59) hkv
      refine ⟨_, rfl, ra, _, rfl, .inl (SqL.of (s09 ra _ hra)), _, rfl, (by rw [paired_len hrx]; omega), (by rw [paired_len hrx]; omega), ?_⟩
      rw [paired_len hrx, show ((R.length : Nat) : Int).toNat = R.length from by omega]
      refine for_it walk_range (fun i σ G => ∃ rv, (Same H G ∧ rL rw3 G rv (crsF S kl sl ((R.zip E).take i))) ∧ ∃ a b c d e f g h x, σ = [some (.ref pa), some (.ref sd), some (.ref ra), some (.ref ea), some rv, a, b, c, d, e, f, g, h, x])
        ⟨_, ⟨s09, w0⟩, _, _, _, _, _, _, _, _, _, rfl⟩ (fun _ _ _ _ _ => trivial) ?_ ?_
      · rintro i x σ G G' hi ⟨rv, ⟨sG, ca, cxs, rfl, hca, hcx⟩, _, _, _, _, _, _, _, _, _, rfl⟩ ⟨rfl, rfl⟩
        dsimp only [gName, List.set_cons_zero, List.set_cons_succ]
        rw [show (0 : Int) + ((i : Nat) : Int) = ((i : Nat) : Int) from by omega]
        obtain ⟨r, hri⟩ : ∃ r, R[i]? = some r := ⟨_, List.getElem?_eq_getElem hi⟩
        obtain ⟨e, hei⟩ : ∃ e, E[i]? = some e := ⟨_, List.getElem?_eq_getElem (by omega)⟩
        have hzi : (R.zip E)[i]? = some (r, e) := List.getElem?_zip_eq_some.mpr ⟨hri, hei⟩
        have et : (R.zip E).take (i + 1) = (R.zip E).take i ++ [(r, e)] := by
          rw [List.take_add_one, hzi]
          rfl
        obtain ⟨rv, hrv, hrr⟩ := paired_got hrx hri
        obtain ⟨ev, hev, hee⟩ := paired_got hex hei
        obtain ⟨rnd, thin, rbd⟩ := hR r (List.mem_of_getElem? hri)
        have hend := hE e (List.mem_of_getElem? hei)
        refine ⟨_, rfl, pa, _, _, _, rfl, rfl, SqL.of (sG pa _ hpa), atI_nat (j := 1) rfl, _, rfl, _, rfl, ra, _, _, _, rfl, rfl, SqL.of (sG ra _ hra), atI_nat hrv, .ref sa, rv, sl, r, rfl, ⟨sa, sxs, rfl, sG sa _ hsa, paired_mono (Ext.of sG) hsx⟩, sl3, Mono.same sG hrr, rnd, fun lp G1 lxs hlp s1 hlp1 hlx => ?_⟩
        dsimp only [gName, List.set_cons_zero, List.set_cons_succ]
        refine ⟨(by show 0 ≤ sizeLine; omega), fun D hD => ?_⟩
        have sD := Same.new (o := .lst []) hD
        dsimp only [gName, List.set_cons_zero, List.set_cons_succ]
        have sG1 := sG.trans s1
        have hca1 := s1 ca _ hca
        have hcx1 : Paired (rw3 G1) cxs _ := paired_mono (Ext.of s1) hcx
        refine ⟨_, rfl, ca, rfl, ⟨_, SqL.of (sD ca _ hca1)⟩, for_it (walk_list (K := K)) (fun j σ G2 => ∃ xs, (Same G1 G2 ∧ G2 D = some (.lst xs) ∧ Paired (rwN D G2) xs (((crsF S kl sl ((R.zip E).take i)).take j).flatMap (stepR S kl sl (r, e)))) ∧ ∃ f g h x y z, σ = [some (.ref pa), some (.ref sd), some (.ref ra), some (.ref ea), some (.ref ca), some (.int ((i : Nat) : Int)), some (.ref lp), some (.ref D), f, g, h, x, y, z])
          ⟨[], ⟨sD, upd_same, .nil⟩, _, _, _, _, _, _, rfl⟩ (fun j σ G2 _ ⟨_, h, _⟩ => SqL.of (h.1 ca _ hca1)) ?_ ?_⟩
        · rintro j x σ G2 G3 hj ⟨xs, ⟨s2, hD2, hp2⟩, _, _, _, _, _, _, rfl⟩ ⟨rfl, hxj⟩
          obtain ⟨row, hrj, a, fv, sv, bv, rfl, ha, hfv, hsv, hbv⟩ := paired_get' hcx1 hxj
          have ej : (crsF S kl sl ((R.zip E).take i)).take (j + 1) = (crsF S kl sl ((R.zip E).take i)).take j ++ [row] := by
            rw [List.take_add_one, hrj]
            rfl
          refine ⟨a, _, rfl, SqL.of (s2 a _ ha), rfl, _, _, rfl, _, _, rfl, _, _, rfl, rfl, ?_⟩
          dsimp only [gName, List.set_cons_zero, List.set_cons_succ]
          refine ⟨_, rfl, .ref lp, sl.map (limT r), rfl, ⟨lp, lxs, rfl, s2 lp _ hlp1, paired_mono (Ext.of s2) hlx⟩, ?_, by rw [List.length_map]; exact sl3, thin, rbd, fun qa G4 qxs hqa s4 hqa4 hqx => ?_⟩
          · rw [List.map_map]
            exact nnd
          have hD4 := s4 D _ hD2
          have nqD : qa ≠ D := fun z => by rw [z, hD2] at hqa; cases hqa
          have s24 := s2.trans s4
          have hndS : lp ≠ D := ne_of_none hlp1 hD
          have base0 : Paired (rwN D G4) xs (((crsF S kl sl ((R.zip E).take i)).take j).flatMap (stepR S kl sl (r, e))) := paired_mono (Ext.of s4) hp2
          refine ⟨qa, rfl, ⟨_, SqL.of hqa4⟩, for_it (walk_list (K := K)) (fun m σ G5 => ∃ xs, (Kept D G4 G5 ∧ G5 D = some (.lst xs) ∧ Paired (rwN D G5) xs (((crsF S kl sl ((R.zip E).take i)).take j).flatMap (stepR S kl sl (r, e)) ++ ((((rowsF (sl.map (limT r))).take m).filter fun q => decide (OkE S kl sl e row.2.2 q)).map fun q => (row.1 ++ [q], row.2.1 ++ [evD S sl row.2.2 q], evD S sl row.2.2 q)))) ∧ ∃ y z b, σ = [some (.ref pa), some (.ref sd), some (.ref ra), some (.ref ea), some (.ref ca), some (.int ((i : Nat) : Int)), some (.ref lp), some (.ref D), some fv, some sv, some bv, y, z, b])
            ⟨xs, ⟨Kept.of (Same.refl _), hD4, by simpa using base0⟩, _, _, _, rfl⟩ (fun m σ G5 _ ⟨_, h, _⟩ => SqL.of (h.1 qa _ nqD hqa4)) ?_ ?_⟩
          · rintro m x σ G5 G6 hm ⟨ys, ⟨kp5, hD5, hp5⟩, _, _, _, rfl⟩ ⟨rfl, hxm⟩
            obtain ⟨q, hqm, hq⟩ := paired_get' hqx hxm
            have hq5 := NoL.mono (kp5.extN hD4) hq
            have em : (rowsF (sl.map (limT r))).take (m + 1) = (rowsF (sl.map (limT r))).take m ++ [q] := by
              rw [List.take_add_one, hqm]
              rfl
            dsimp only [gName, List.set_cons_zero, List.set_cons_succ]
            have s15 : Same G1 G6 := Kept.after s24 hD kp5
            have s05 := sG1.trans s15
            have hqin := rowsF_in (List.mem_of_getElem? hqm)
            have nmE : (sl.map (limT r)).map (·.nm) = sl.map (·.nm) := by rw [List.map_map]; rfl
            have edE : (sl.map (limT r)).map edg = sl.map edg := by rw [List.map_map]; rfl
            have eq0 : q = kdict (sl.map (·.nm)) (vof q) := by
              have h1 := kdict_vof (r := q) (by rw [hqin.1, nmE]; exact nnd)
              rw [hqin.1, nmE] at h1
              exact h1
            have erow : row.2.2.map (·.1) = skeys S := by
              obtain ⟨X, Y, c, e0⟩ := (mem_crsF nnd ssub (R.zip E) i (by rw [List.length_zip]; omega) row).mp (List.mem_of_getElem? hrj)
              rw [e0]
              exact kdict_keys _ _
            have eb0 : row.2.2 = kdict (skeys S) (vof row.2.2) := by
              have h1 := kdict_vof (r := row.2.2) (by rw [erow]; exact snd)
              rw [erow] at h1
              exact h1
            have step : ∀ (c : Bool), decide (OkE S kl sl e row.2.2 q) = c → (((rowsF (sl.map (limT r))).take (m + 1)).filter fun q => decide (OkE S kl sl e row.2.2 q)).map (fun q => (row.1 ++ [q], row.2.1 ++ [evD S sl row.2.2 q], evD S sl row.2.2 q)) = (((rowsF (sl.map (limT r))).take m).filter fun q => decide (OkE S kl sl e row.2.2 q)).map (fun q => (row.1 ++ [q], row.2.1 ++ [evD S sl row.2.2 q], evD S sl row.2.2 q)) ++ (if c = true then [(row.1 ++ [q], row.2.1 ++ [evD S sl row.2.2 q], evD S sl row.2.2 q)] else []) := by
              intro c hc
              rw [em, List.filter_append, List.map_append]
              congr 1
              cases c with
              | true => simp [of_decide_eq_true hc]
              | false => simp [of_decide_eq_false hc]
            have skip : ∀ G7, Same G6 G7 → decide (OkE S kl sl e row.2.2 q) = false → ∃ xs, (Kept D G4 G7 ∧ G7 D = some (.lst xs) ∧ Paired (rwN D G7) xs (((crsF S kl sl ((R.zip E).take i)).take j).flatMap (stepR S kl sl (r, e)) ++ ((((rowsF (sl.map (limT r))).take (m + 1)).filter fun q => decide (OkE S kl sl e row.2.2 q)).map fun q => (row.1 ++ [q], row.2.1 ++ [evD S sl row.2.2 q], evD S sl row.2.2 q)))) := by
              intro G7 s7 hc
              refine ⟨ys, kp5.trans (Kept.of s7), s7 D _ hD5, ?_⟩
              rw [step _ hc]
              show Paired _ _ (_ ++ (_ ++ []))
              rw [List.append_nil]
              exact paired_mono (Ext.of s7) hp5
            refine ⟨_, rfl, _, rfl, _, rfl, _, rfl, _, rfl, .ref pa, .ref sd, .ref lp, _, bv, kl, sl, S, sl.map (limT r), sl.map (·.nm), vof q, vof row.2.2, rfl, ⟨pa, ka, sa, rfl, s05 pa _ hpa, Mono.same s05 hka, ⟨sa, sxs, rfl, s05 sa _ hsa, paired_mono (Ext.of s05) hsx⟩⟩, knd, kl3, ⟨sd, sks, rfl, rd_same s05 hsd, dpair_mono (Ext.of s05) hsk⟩, snd, ssub, ⟨lp, lxs, rfl, s15 lp _ hlp1, paired_mono (Ext.of s15) hlx⟩, ?_, eq0 ▸ hq5, nnd, eb0 ▸ Mono.same s15 hbv, fun G7 s7 hno => ?_, fun hyes ev0 G7 s7 hev0 => ?_⟩
            · intro t ht
              obtain ⟨t0, ht0, rfl⟩ := List.mem_map.mp ht
              exact ⟨(hth t0 ht0).1, (hth t0 ht0).2, List.mem_map.mpr ⟨t0, ht0, rfl⟩⟩
            · dsimp only [gName, List.set_cons_zero, List.set_cons_succ]
              refine ⟨_, rfl, false, rfl, ?_⟩
              refine iteF ?_
              refine iteF ?_
              obtain ⟨k0, hk0, h0, h00⟩ := hno
              rw [edE] at h0
              obtain ⟨zs, h⟩ := skip G7 s7 (decide_eq_false fun ok => h00 (ok.1 k0 hk0 h0))
              exact ⟨zs, h, _, _, _, rfl⟩
            · dsimp only [gName, List.set_cons_zero, List.set_cons_succ]
              rw [edE] at hev0 hyes
              have s17 := s15.trans s7
              have s07 := sG1.trans s17
              refine ⟨_, rfl, true, rfl, ?_⟩
              refine iteT ?_
              refine ⟨_, rfl, _, rfl, _, rfl, ea, _, _, _, rfl, rfl, SqL.of (s07 ea _ hea), atI_nat hev, _, rfl, .ref sd, ev, .ref ev0, S, e, lft S (vof row.2.2) (vof q) (sl.map edg), rfl, ⟨sd, sks, rfl, rd_same s07 hsd, dpair_mono (Ext.of s07) hsk⟩, snd, Mono.same s07 hee, hend, hev0, fun v G8 s8 hv => ?_⟩
              cases hv
              refine ⟨_, rfl, ?_⟩
              have okE : decide (OkE S kl sl e row.2.2 q) = decide (FitA S e (lft S (vof row.2.2) (vof q) (sl.map edg))) := by
                by_cases hf : FitA S e (lft S (vof row.2.2) (vof q) (sl.map edg))
                · rw [decide_eq_true hf]
                  exact decide_eq_true ⟨hyes, hf⟩
                · rw [decide_eq_false hf]
                  exact decide_eq_false fun z => hf z.2
              refine ite2 (fun h => ?_) (fun h => ?_)
              · have s18 := s17.trans s8
                have s68 := s7.trans s8
                have hD8 := s68 D _ hD5
                obtain ⟨fa, fxs, rfl, hfa, hfx⟩ := hfv
                obtain ⟨ga, gxs, rfl, hga, hgx⟩ := hsv
                have hl12 : row.1.length = i ∧ row.2.1.length = i := by
                  obtain ⟨X, Y, c, e0⟩ := (mem_crsF nnd ssub (R.zip E) i (by rw [List.length_zip]; omega) row).mp (List.mem_of_getElem? hrj)
                  rw [e0]
                  exact ⟨by show (List.map _ _).length = i; rw [List.length_map, List.length_range], by show (List.map _ _).length = i; rw [List.length_map, List.length_range]⟩
                refine ⟨_, rfl, .inl ⟨rfl, _, SqL.of hD8⟩, _, rfl, _, rfl, (by show 1 ≤ sizeLine; omega), fun b1 hb1 => ?_⟩
                have sb1 := Same.new (o := .lst [x]) hb1
                have t1 := s18.trans sb1
                refine ⟨fa, b1, fxs, [x], rfl, rfl, t1 fa _ hfa, upd_same, (by rw [paired_len hfx, hl12.1]; show i + 1 ≤ sizeLine; omega), fun c1 hc1 => ?_⟩
                have sc1 := Same.new (o := .lst (fxs ++ [x])) hc1
                have t2 := t1.trans sc1
                refine ⟨_, rfl, _, rfl, (by show 1 ≤ sizeLine; omega), fun b2 hb2 => ?_⟩
                have sb2 := Same.new (o := .lst [V.ref ev0]) hb2
                have t3 := t2.trans sb2
                refine ⟨ga, b2, gxs, [.ref ev0], rfl, rfl, t3 ga _ hga, upd_same, (by rw [paired_len hgx, hl12.2]; show i + 1 ≤ sizeLine; omega), fun c2 hc2 => ?_⟩
                have sc2 := Same.new (o := .lst (gxs ++ [V.ref ev0])) hc2
                refine ⟨_, rfl, (by show 3 ≤ sizeLine; omega), fun n1 hn1 => ?_⟩
                have sn1 := Same.new (o := .lst [V.ref c1, V.ref c2, V.ref ev0]) hn1
                have u1 := (((sb1.trans sc1).trans sb2).trans sc2).trans sn1
                have hDn := u1 D _ hD8
                refine ⟨D, ys, _, rfl, rfl, hDn, ?_, ?_⟩
                · have b1 := paired_len hp5
                  rw [List.length_append, List.length_map] at b1
                  have b2 : (((crsF S kl sl ((R.zip E).take i)).take j).flatMap (stepR S kl sl (r, e))).length ≤ 27 * ((crsF S kl sl ((R.zip E).take i)).take j).length := fm_len fun x _ => stepR_len thin sl3
                  have b3 := crsF_len (S := S) (kl := kl) (sl := sl) sl3 (Z := R.zip E) (fun z hz => (hR z.1 (List.of_mem_zip hz).1).2.1) i
                  have b4 : 27 ^ i ≤ 27 ^ 1 := Nat.pow_le_pow_right (by decide) (by omega)
                  have b5 := List.length_filter_le (fun q => decide (OkE S kl sl e row.2.2 q)) ((rowsF (sl.map (limT r))).take m)
                  have b6 := rows27 thin (by rw [List.length_map]; exact sl3)
                  rw [List.length_take] at b2 b5
                  omega
                · refine ⟨ys ++ [.ref n1], ⟨(kp5.trans (Kept.of (s68.trans u1))).trans Kept.upd, upd_same, ?_⟩, _, _, _, rfl⟩
                  rw [step true (by rw [okE]; exact h), if_pos rfl, ← List.append_assoc]
                  have nc1 : c1 ≠ D := fun z => by rw [z, sb1 D _ hD8] at hc1; cases hc1
                  have nc2 : c2 ≠ D := fun z => by rw [z, sb2 D _ (sc1 D _ (sb1 D _ hD8))] at hc2; cases hc2
                  have nn1 : n1 ≠ D := fun z => by rw [z, sc2 D _ (sb2 D _ (sc1 D _ (sb1 D _ hD8)))] at hn1; cases hn1
                  refine paired_snoc (pr_map (fun _ _ => rwN.upd hDn) (paired_mono (Ext.of (s68.trans u1)) hp5)) (rwN.upd hDn ?_)
                  have v2 := s18.trans u1
                  refine ⟨n1, _, _, _, rfl, nn1, upd_same, ⟨c1, _, rfl, nc1, ((sb2.trans sc2).trans sn1) c1 _ upd_same, ?_⟩, ⟨c2, _, rfl, nc2, sn1 c2 _ upd_same, ?_⟩, Mono.same (s8.trans u1) hev0⟩
                  · exact paired_snoc (paired_mono (Ext.of v2) hfx) (Mono.same (s68.trans u1) hq5)
                  · exact paired_snoc (paired_mono (Ext.of v2) hgx) (Mono.same (s8.trans u1) hev0)
              · obtain ⟨zs, h⟩ := skip G8 (s7.trans s8) (by rw [okE]; exact Bool.eq_false_iff.mpr h)
                exact ⟨zs, h, _, _, _, rfl⟩
          · rintro σ G5 ⟨ys, ⟨kp5, hD5, hp5⟩, _, _, _, rfl⟩
            refine ⟨ys, ⟨Kept.after s24 hD kp5, hD5, ?_⟩, _, _, _, _, _, _, rfl⟩
            rw [paired_len hqx, List.take_length] at hp5
            rw [ej, List.flatMap_append]
            simp only [List.flatMap_cons, List.flatMap_nil, List.append_nil]
            exact hp5
        · rintro σ G2 ⟨xs, ⟨s2, hD2, hp2⟩, _, _, _, _, _, _, rfl⟩
          rw [paired_len hcx, List.take_length] at hp2
          dsimp only [gName, List.set_cons_zero, List.set_cons_succ]
          refine ⟨_, rfl, .ref D, ⟨sG1.trans s2, D, xs, rfl, hD2, ?_⟩, _, _, _, _, _, _, _, _, _, rfl⟩
          rw [et, crsF_snoc]
          exact pr_map (fun _ _ => rwN.rw) hp2
      · rintro σ G ⟨rv, ⟨sG, ca, cxs, rfl, hca, hcx⟩, _, _, _, _, _, _, _, _, _, rfl⟩
        have ez : (R.zip E).take R.length = R.zip E := List.take_of_length_le (by rw [List.length_zip]; omega)
        rw [ez] at hcx
        have clen : cxs.length ≤ 729 := by
          have h1 := crsF_len (S := S) (kl := kl) (sl := sl) sl3 (Z := R.zip E) (fun z hz => (hR z.1 (List.of_mem_zip hz).1).2.1) R.length
          have h2 : 27 ^ R.length ≤ 27 ^ 2 := Nat.pow_le_pow_right (by decide) rl2
          rw [ez] at h1
          rw [paired_len hcx]
          omega
        refine ⟨_, rfl, ca, rfl, ⟨_, SqL.of hca⟩, fun D hD => ?_⟩
        refine lc_genN (A := r2N D) (B := fun H v x => rw3 G v x ∧ Same G H) r2N.upd (walk_list (K := K)) (crsF S kl sl (R.zip E)) (paired_len hcx).symm (by omega) hD (src_k hca) (fun j H x H' b hb s y => ?_) (fun b => b) ?_ ?_
        · obtain ⟨rfl, hx⟩ := y
          obtain ⟨x', h1, h2⟩ := paired_got hcx hb
          rw [hx] at h1
          cases h1
          exact ⟨Same.refl _, h2, s⟩
        · rintro j b x H' hb s8 ⟨zs, hDz⟩ ⟨⟨a, fv, sv, bv, rfl, ha, ⟨fa, fxs, rfl, hfa, hfx⟩, ⟨ga, gxs, rfl, hga, hgx⟩, hbv⟩, _⟩ Ks Kc kt
          refine ⟨a, _, rfl, SqL.of (s8 a _ ha), rfl, _, _, rfl, _, _, rfl, _, _, rfl, rfl, ?_⟩
          refine ⟨rfl, yesT (iteT ?_)⟩
          refine ⟨_, rfl, _, rfl, (by show 2 ≤ sizeLine; omega), fun q hq => ?_⟩
          have sq := Same.new (o := .lst [V.ref fa, V.ref ga]) hq
          have s9 := s8.trans sq
          refine kt _ _ sq ⟨q, _, _, rfl, (fun z => by rw [z, hDz] at hq; cases hq), upd_same, ⟨fa, fxs, rfl, ne_of_none hfa hD, s9 fa _ hfa, paired_mono (Ext.of s9) hfx⟩, ⟨ga, gxs, rfl, ne_of_none hga hD, s9 ga _ hga, paired_mono (Ext.of s9) hgx⟩⟩
        · intro H' ys s' hD' hp'
          rw [List.map_id'] at hp'
          exact k _ H' (sG.trans s') ⟨D, ys, rfl, hD', pr_map (fun _ _ ⟨a, f, s, h1, _, h2, h3, h4⟩ => ⟨a, f, s, h1, h2, h3.rl, h4.rl⟩) hp'⟩
end
end Mx

set_option Elab.async false
set_option linter.all false
set_option maxRecDepth 100000
set_option maxHeartbeats 4000000
/-! The law's rows are the courses. -/
namespace Mx
open PySem PySem.Spec PyProof.Rows L2
theorem rdg_nd {α : Type} {S : List (Str × α)} (nd : (S.map (·.1)).Nodup) {r : Str × α} (h : r ∈ S) : rdg S r.1 = some r.2 := by
  obtain ⟨b, hb⟩ := rdg_in (List.mem_map.mpr ⟨r, h, rfl⟩ : r.1 ∈ S.map (·.1))
  have h1 := rdg_some hb
  obtain ⟨i, hi⟩ := List.getElem?_of_mem h1
  obtain ⟨j, hj⟩ := List.getElem?_of_mem h
  have := nd_ix nd (x := r.1) (i := i) (j := j) (by rw [List.getElem?_map, hi] <;> rfl) (by rw [List.getElem?_map, hj] <;> rfl)
  subst this
  rw [hi] at hj
  rw [hb, ← Option.some.inj hj]
theorem net_perm {E E' : List (Mt.Edge Str)} (p : E.Perm E') (x : Str → Int) (k : Str) : Mt.net E x k = Mt.net E' x k := by
  induction p with
  | nil => rfl
  | cons a _ ih => unfold Mt.net at *; simp [ih]
  | swap a b l => unfold Mt.net at *; simp; omega
  | trans _ _ h1 h2 => exact h1.trans h2
def xOf (P : Pl) (f : Str → Int) (d : Nat) : Str → Int := dayF P f (d + 1)
def yOf (P : Pl) (f : Str → Int) (d : Nat) (k : Str) : Int := f (enm d (ixs P.kn k))
theorem crs_cxy {P : Pl} {S : SL} {kl : List Str} {sl : List Sm} {R E : List RL} {f : Str → Int} (snd : (skeys S).Nodup) (pk : P.kn.Perm kl) (ps : P.st.Perm sl) (h : Crs P S R E f) : Cxy S kl sl (R.zip E) R.length (xOf P f) (yOf P f) := by
  refine ⟨fun k hk => ?_, fun d z hd hz s hs => ?_, fun d z hd hz => ?_, fun d hd k hk => ?_⟩
  · obtain ⟨b, hb⟩ := rdg_in hk
    unfold yOf beg0
    rw [h.beg k b hb, hb]
    rfl
  · have hz' := List.getElem?_zip_eq_some.mp hz
    exact h.day d z.1 hz'.1 s (ps.mem_iff.mpr hs)
  · have hz' := List.getElem?_zip_eq_some.mp hz
    intro r hr
    exact h.eve d z.2 hz'.2 r.1 r.2 (rdg_nd snd hr)
  · have := h.bal d hd k (pk.mem_iff.mpr hk)
    rw [net_perm (ps.map edg).symm]
    exact this
theorem cxy_crs {P : Pl} {S : SL} {kl : List Str} {sl : List Sm} {R E : List RL} {X Y : Nat → Str → Int} (snd : (skeys S).Nodup) (pk : P.kn.Perm kl) (ps : P.st.Perm sl) (hl : R.length = E.length) (h : Cxy S kl sl (R.zip E) R.length X Y)
    {f : Str → Int} (hx : ∀ d < R.length, ∀ s ∈ P.names, f (dnm (d + 1) "s" (ixs P.names s)) = X d s) (hy : ∀ d ≤ R.length, ∀ k ∈ P.kn, f (enm d (ixs P.kn k)) = Y d k) (sub : ∀ k ∈ skeys S, k ∈ P.kn) (ends : ∀ s ∈ P.st, s.nm ∈ P.names) : Crs P S R E f := by
  refine ⟨fun d r hr s hs => ?_, fun k b hb => ?_, fun d e he k b hb => ?_, fun d hd k hk => ?_⟩
  · have hd : d < R.length := (List.getElem?_eq_some_iff.mp hr).1
    have he : E[d]? = some (E[d]'(by omega)) := List.getElem?_eq_getElem _
    have := h.day d (r, _) hd (List.getElem?_zip_eq_some.mpr ⟨hr, he⟩) s (ps.mem_iff.mp hs)
    unfold dayF
    rw [hx d hd s.nm (ends s hs)]
    exact this
  · have hk : k ∈ skeys S := rdg_mem hb
    rw [hy 0 (Nat.zero_le _) k (sub k hk), h.beg k hk]
    unfold beg0
    rw [hb]
    rfl
  · have hd : d < E.length := (List.getElem?_eq_some_iff.mp he).1
    have hr : R[d]? = some (R[d]'(by omega)) := List.getElem?_eq_getElem _
    have h1 := h.eve d (_, e) (by omega) (List.getElem?_zip_eq_some.mpr ⟨hr, he⟩) (k, b) (rdg_some hb)
    rw [hy (d + 1) (by omega) k (sub k (rdg_mem hb))]
    exact h1
  · have h1 := h.bal d hd k (pk.mem_iff.mp hk)
    rw [net_perm (ps.map edg).symm] at h1
    have e1 : Mt.net P.E (dayF P f (d + 1)) k = Mt.net (P.st.map edg) (X d) k := by
      refine sum_congr fun e he => ?_
      obtain ⟨s, hs, rfl⟩ := List.mem_map.mp he
      have h2 : dayF P f (d + 1) s.nm = X d s.nm := hx d hd s.nm (ends s hs)
      unfold Mt.con
      show _ = _
      simp only [h2]
    have e2 : ∀ m ≤ R.length, stk P S f m k = stY S (Y m) k := fun m hm => by
      show (if k ∈ skeys S then f (enm m (ixs P.kn k)) else 0) = stY S (Y m) k
      unfold stY
      by_cases q : k ∈ skeys S
      · rw [if_pos q, if_pos q, hy m hm k hk]
      · rw [if_neg q, if_neg q]
    rw [e1, e2 d (by omega), e2 (d + 1) hd]
    exact h1
theorem f_of (X Y : Nat → Str → Int) {P : Pl} {D : Nat} (sm : P.kn.length ≤ 3) (ss : P.names.length ≤ 3) (hD : D ≤ 2) : ∃ f : Str → Int, (∀ d < D, ∀ s ∈ P.names, f (dnm (d + 1) "s" (ixs P.names s)) = X d s) ∧ (∀ d ≤ D, ∀ k ∈ P.kn, f (enm d (ixs P.kn k)) = Y d k) := by
  classical
  have key : ∀ n : Str, ∃ v : Int, (∀ d < D, ∀ s ∈ P.names, n = dnm (d + 1) "s" (ixs P.names s) → v = X d s) ∧ (∀ d ≤ D, ∀ k ∈ P.kn, n = enm d (ixs P.kn k) → v = Y d k) := by
    intro n
    by_cases h1 : ∃ d s, d < D ∧ s ∈ P.names ∧ n = dnm (d + 1) "s" (ixs P.names s)
    · obtain ⟨d, s, hd, hs, e⟩ := h1
      refine ⟨X d s, fun d' hd' s' hs' e' => ?_, fun d' hd' k hk e' => ?_⟩
      · have i1 := ixs_lt hs
        have i2 := ixs_lt hs'
        obtain ⟨a, b⟩ := dnm_inj (d + 1) (by omega) _ (by omega) (d' + 1) (by omega) _ (by omega) "s" List.mem_cons_self (e.symm.trans e')
        have : d = d' := by omega
        subst this
        rw [ixs_inj hs hs' b]
      · have i1 := ixs_lt hs
        have i2 := ixs_lt hk
        exact absurd (e.symm.trans e') (dnm_enm (d + 1) (by omega) _ (by omega) d' (by omega) _ (by omega))
    · by_cases h2 : ∃ d k, d ≤ D ∧ k ∈ P.kn ∧ n = enm d (ixs P.kn k)
      · obtain ⟨d, k, hd, hk, e⟩ := h2
        refine ⟨Y d k, fun d' hd' s' hs' e' => absurd ⟨d', s', hd', hs', e'⟩ h1, fun d' hd' k' hk' e' => ?_⟩
        have i1 := ixs_lt hk
        have i2 := ixs_lt hk'
        obtain ⟨a, b⟩ := enm_inj d (by omega) _ (by omega) d' (by omega) _ (by omega) (e.symm.trans e')
        subst a
        rw [ixs_inj hk hk' b]
      · exact ⟨0, fun d' hd' s' hs' e' => absurd ⟨d', s', hd', hs', e'⟩ h1, fun d' hd' k' hk' e' => absurd ⟨d', k', hd', hk', e'⟩ h2⟩
  refine ⟨fun n => (key n).choose, fun d hd s hs => (key _).choose_spec.1 d hd s hs rfl, fun d hd k hk => (key _).choose_spec.2 d hd k hk rfl⟩
theorem rowXY_congr {S : SL} {sl : List Sm} {D : Nat} {X Y X' Y' : Nat → Str → Int} (hx : ∀ d < D, ∀ s ∈ sl.map (·.nm), X d s = X' d s) (hy : ∀ d ≤ D, ∀ k ∈ skeys S, Y d k = Y' d k) : rowXY S sl D X Y = rowXY S sl D X' Y' := by
  unfold rowXY
  refine Prod.ext ?_ (Prod.ext ?_ ?_)
  · exact List.map_congr_left fun d hd => kdict_congr (hx d (List.mem_range.mp hd))
  · exact List.map_congr_left fun d hd => kdict_congr (hy (d + 1) (by have := List.mem_range.mp hd; omega))
  · exact kdict_congr (hy D (Nat.le_refl _))
theorem row_iff {P : Pl} {S : SL} {kl : List Str} {sl : List Sm} {R E : List RL} (sm : Sml P S) (pk : P.kn.Perm kl) (ps : P.st.Perm sl) (hl : R.length = E.length) (two : R.length ≤ 2) (x : RwT) :
    x ∈ crsF S kl sl (R.zip E) ↔ ∃ f, Crs P S R E f ∧ x = rowXY S sl R.length (xOf P f) (yOf P f) := by
  have hnd : (sl.map (·.nm)).Nodup := (ps.map Sm.nm).nodup_iff.mp (show (P.st.map Sm.nm).Nodup from sm.ok.nd)
  have hsub : ∀ k ∈ skeys S, k ∈ kl := fun k hk => pk.mem_iff.mp (sm.sub k hk)
  have zl : (R.zip E).length = R.length := by rw [List.length_zip]; omega
  have m := mem_crsF hnd hsub (R.zip E) R.length (by omega) x
  rw [← zl, List.take_length, zl] at m
  rw [m]
  constructor
  · rintro ⟨X, Y, c, rfl⟩
    obtain ⟨f, hx, hy⟩ := f_of X Y (P := P) (D := R.length) sm.k3 (by rw [names_len]; exact sm.s3) two
    have nmem : ∀ s ∈ P.st, s.nm ∈ P.names := fun s hs => List.mem_map.mpr ⟨s, hs, rfl⟩
    refine ⟨f, cxy_crs sm.snd pk ps hl c hx hy sm.sub nmem, rowXY_congr (fun d hd s hs => ?_) (fun d hd k hk => ?_)⟩
    · obtain ⟨t, ht, rfl⟩ := List.mem_map.mp hs
      exact (hx d hd t.nm (nmem t (ps.mem_iff.mpr ht))).symm
    · exact (hy d hd k (sm.sub k hk)).symm
  · rintro ⟨f, c, rfl⟩
    exact ⟨_, _, crs_cxy sm.snd pk ps c, rfl⟩
end Mx

set_option Elab.async false
set_option linter.all false
set_option maxRecDepth 100000
set_option maxHeartbeats 4000000
/-! The values that the courses take, plain. -/
namespace Mx
open PySem PySem.Spec PyProof.Rows L2
theorem asc_eq : ∀ {xs ys : List Int}, xs.Pairwise (· < ·) → ys.Pairwise (· < ·) → (∀ z, z ∈ xs ↔ z ∈ ys) → xs = ys
  | [], [], _, _, _ => rfl
  | [], y :: ys, _, _, h => absurd ((h y).mpr List.mem_cons_self) (fun z => nomatch z)
  | x :: xs, [], _, _, h => absurd ((h x).mp List.mem_cons_self) (fun z => nomatch z)
  | x :: xs, y :: ys, hx, hy, h => by
    rw [List.pairwise_cons] at hx hy
    have e : x = y := by
      rcases List.mem_cons.mp ((h x).mp List.mem_cons_self) with e | e
      · exact e
      · rcases List.mem_cons.mp ((h y).mpr List.mem_cons_self) with e' | e'
        · exact e'.symm
        · have h1 := hx.1 _ e'
          have h2 := hy.1 _ e
          omega
    subst e
    rw [asc_eq hx.2 hy.2 fun z => ⟨fun hz => (List.mem_cons.mp ((h z).mp (List.mem_cons_of_mem _ hz))).resolve_left fun e => by have := hx.1 _ hz; omega,
      fun hz => (List.mem_cons.mp ((h z).mpr (List.mem_cons_of_mem _ hz))).resolve_left fun e => by have := hy.1 _ hz; omega⟩]
/-- a, .., b -/
def runI (a b : Int) : List Int := (List.range (b + 1 - a).toNat).map fun i => a + ((i : Nat) : Int)
theorem runI_mem {a b z : Int} : z ∈ runI a b ↔ a ≤ z ∧ z ≤ b := by
  unfold runI
  rw [List.mem_map]
  constructor
  · rintro ⟨i, hi, rfl⟩
    have := List.mem_range.mp hi
    omega
  · rintro ⟨h1, h2⟩
    exact ⟨(z - a).toNat, List.mem_range.mpr (by omega), by omega⟩
theorem runI_asc (a b : Int) : (runI a b).Pairwise (· < ·) := by
  unfold runI
  rw [List.pairwise_map]
  exact List.pairwise_lt_range.imp fun h => by omega
theorem runI_rgV (a b : Int) : (runI a b).map V.int = rgV a (b + 1) := by
  unfold runI rgV
  rw [List.map_map]
  rfl
theorem runI_first {a b : Int} (h : a ≤ b) : (runI a b)[0]? = some a := by
  unfold runI
  rw [List.getElem?_map, List.getElem?_range (by omega)]
  show some (a + ((0 : Nat) : Int)) = some a
  congr 1
  omega
theorem runI_snoc {a b : Int} (h : a ≤ b) : ∃ l, runI a b = l ++ [b] := by
  refine ⟨(List.range (b - a).toNat).map fun i => a + ((i : Nat) : Int), ?_⟩
  unfold runI
  rw [show (b + 1 - a).toNat = (b - a).toNat + 1 from by omega, List.range_succ, List.map_append]
  congr 1
  show [a + (((b - a).toNat : Nat) : Int)] = [b]
  congr 1
  omega
theorem least_of : ∀ {ys : List Int}, ys ≠ [] → ∃ a ∈ ys, ∀ z ∈ ys, a ≤ z
  | [], h => absurd rfl h
  | [x], _ => ⟨x, List.mem_cons_self, fun z hz => by rw [List.mem_singleton.mp hz]; omega⟩
  | x :: y :: ys, _ => by
    obtain ⟨a, ha, h⟩ := least_of (ys := y :: ys) (fun z => nomatch z)
    by_cases q : x ≤ a
    · refine ⟨x, List.mem_cons_self, fun z hz => ?_⟩
      rcases List.mem_cons.mp hz with e | e
      · omega
      · have := h z e
        omega
    · refine ⟨a, List.mem_cons_of_mem _ ha, fun z hz => ?_⟩
      rcases List.mem_cons.mp hz with e | e
      · omega
      · exact h z e
theorem most_of : ∀ {ys : List Int}, ys ≠ [] → ∃ a ∈ ys, ∀ z ∈ ys, z ≤ a
  | [], h => absurd rfl h
  | [x], _ => ⟨x, List.mem_cons_self, fun z hz => by rw [List.mem_singleton.mp hz]; omega⟩
  | x :: y :: ys, _ => by
    obtain ⟨a, ha, h⟩ := most_of (ys := y :: ys) (fun z => nomatch z)
    by_cases q : a ≤ x
    · refine ⟨x, List.mem_cons_self, fun z hz => ?_⟩
      rcases List.mem_cons.mp hz with e | e
      · omega
      · have := h z e
        omega
    · refine ⟨a, List.mem_cons_of_mem _ ha, fun z hz => ?_⟩
      rcases List.mem_cons.mp hz with e | e
      · omega
      · exact h z e
theorem run_of {ys : List Int} (asc : ys.Pairwise (· < ·)) (ne : ys ≠ []) (bt : ∀ a b z, a ∈ ys → b ∈ ys → a ≤ z → z ≤ b → z ∈ ys) : ∃ lo hi, lo ≤ hi ∧ ys = runI lo hi := by
  obtain ⟨lo, hlo, h1⟩ := least_of ne
  obtain ⟨hi, hhi, h2⟩ := most_of ne
  exact ⟨lo, hi, h1 _ hhi, asc_eq asc (runI_asc lo hi) fun z => ⟨fun hz => runI_mem.mpr ⟨h1 z hz, h2 z hz⟩, fun hz => bt lo hi z hlo hhi (runI_mem.mp hz).1 (runI_mem.mp hz).2⟩⟩
theorem rng_uniq {P : Pl} {S : SL} {R E : List RL} {n : Str} {a b a' b' : Int} (h : Rng P S R E n a b) (h' : Rng P S R E n a' b') : a = a' ∧ b = b' := by
  obtain ⟨⟨f1, c1, e1⟩, ⟨f2, c2, e2⟩, m⟩ := h
  obtain ⟨⟨g1, d1, q1⟩, ⟨g2, d2, q2⟩, m'⟩ := h'
  have h1 := m g1 d1
  have h2 := m g2 d2
  have h3 := m' f1 c1
  have h4 := m' f2 c2
  omega
theorem laid_one (P : Pl) (S : SL) (D : Nat) : Laid P S D ⟨lKn P.kn.length D, lSt P S D (S.map (·.1))⟩ := ⟨List.Perm.refl _, _, List.Perm.refl _, List.Perm.refl _⟩
/-- each number between two that courses take is taken -/
theorem crs_between {P : Pl} {S : SL} {R E : List RL} (sm : Sml P S) (rd : Rds P S R E) {n : Str} (hn : ∀ P', Laid P S R.length P' → ∃ t ∈ P'.st, t.nm = n) {f g : Str → Int} (hf : Crs P S R E f) (hg : Crs P S R E g) {z : Int} (h1 : f n ≤ z) (h2 : z ≤ g n) :
    ∃ f', Crs P S R E f' ∧ f' n = z := by
  have hl := laid_one P S R.length
  obtain ⟨t, ht, rfl⟩ := hn _ hl
  obtain ⟨f', h, e⟩ := Mt.between (net_of _ (hl.ok sm rd.two)) (E_in ht) ((feas_crs sm rd hl f).mpr hf) ((feas_crs sm rd hl g).mpr hg) h1 h2
  exact ⟨f', (feas_crs sm rd hl f').mp h, e⟩
/-- the list of what is found -/
theorem found_run {P : Pl} {S : SL} {R E : List RL} (sm : Sml P S) (rd : Rds P S R E) {n : Str} (hn : ∀ P', Laid P S R.length P' → ∃ t ∈ P'.st, t.nm = n) {ys : List Int} (asc : ys.Pairwise (· < ·)) (hm : ∀ y, y ∈ ys ↔ ∃ f, Crs P S R E f ∧ f n = y) (ne : ys ≠ []) :
    ∃ lo hi, lo ≤ hi ∧ ys = runI lo hi ∧ Rng P S R E n lo hi := by
  obtain ⟨lo, hi, h, rfl⟩ := run_of asc ne fun a b z ha hb h1 h2 => by
    obtain ⟨f, c1, e1⟩ := (hm a).mp ha
    obtain ⟨g, c2, e2⟩ := (hm b).mp hb
    exact (hm z).mpr (crs_between sm rd hn c1 c2 (by omega) (by omega))
  refine ⟨lo, hi, h, rfl, (hm lo).mp (runI_mem.mpr ⟨by omega, h⟩), (hm hi).mp (runI_mem.mpr ⟨h, by omega⟩), fun f c => ?_⟩
  exact runI_mem.mp ((hm _).mpr ⟨f, c, rfl⟩)
theorem found_nil {P : Pl} {S : SL} {R E : List RL} {n : Str} (hm : ∀ y, y ∈ ([] : List Int) ↔ ∃ f, Crs P S R E f ∧ f n = y) : ¬ ∃ f, Crs P S R E f := fun ⟨f, c⟩ => nomatch (hm (f n)).mpr ⟨f, c, rfl⟩
/-! what is drawn is sound -/
theorem drw_sml {P : Pl} {kl : List Str} {sl : List Sm} {S : SL} {R E : List RL} (d : Drw kl sl S R E) (pk : P.kn.Perm kl) (ps : P.st.Perm sl) : Sml P S := by
  have lp := d.lp
  have hl1 := pk.length_eq
  have hl2 := ps.length_eq
  have k1 := lp.l1
  have k3 := lp.l3
  have s3 := lp.s3
  refine ⟨⟨pk.nodup_iff.mpr lp.nd, (show (P.st.map Sm.nm).Nodup from (ps.map Sm.nm).nodup_iff.mpr lp.snd), fun s hs => ?_, by omega, by omega⟩, by omega, by omega, by omega, fun s hs => ?_, d.ssub.nodup lp.nd, fun k hk => pk.mem_iff.mpr (d.ssub.subset hk), fun r hr => ?_⟩
  · obtain ⟨_, h1, h2, _⟩ := lp.sok s (ps.mem_iff.mp hs)
    exact ⟨pk.mem_iff.mpr h1, pk.mem_iff.mpr h2⟩
  · obtain ⟨_, _, _, h1, h2, h3⟩ := lp.sok s (ps.mem_iff.mp hs)
    exact ⟨h1, h2, by omega⟩
  · obtain ⟨h1, h2, h3, h4, h5⟩ := d.sok r hr
    exact ⟨h1, by omega, h3, h4, by omega⟩
theorem drw_rds {P : Pl} {kl : List Str} {sl : List Sm} {S : SL} {R E : List RL} (d : Drw kl sl S R E) (ps : P.st.Perm sl) : Rds P S R E := by
  refine ⟨fun x hx => ?_, fun x hx => ?_, d.len, d.two⟩
  · obtain ⟨h1, h2⟩ := d.r x hx
    refine ⟨h1.nodup d.lp.snd, fun k hk => (ps.map Sm.nm).mem_iff.mpr (h1.subset hk), fun r hr => ?_⟩
    obtain ⟨q1, q2, q3, q4⟩ := h2 r hr
    exact ⟨q1, by omega, q3, by omega⟩
  · obtain ⟨h1, h2, h3⟩ := d.e x hx
    refine ⟨h1, h2, fun r hr => ?_⟩
    obtain ⟨q1, q2, q3, q4⟩ := h3 r hr
    exact ⟨q1, by omega, q3, by omega⟩
theorem limB_in (o : Option (Int × Int)) (lo hi : Int) : lo ≤ (limB o lo hi).1 ∧ (limB o lo hi).2 ≤ hi := by
  unfold limB
  cases o with
  | none => exact ⟨Int.le_refl _, Int.le_refl _⟩
  | some x =>
    dsimp only
    constructor <;> split <;> omega
theorem limB_bd {o : Option (Int × Int)} (h : ∀ x, o = some x → ROk x) {lo hi : Int} (h1 : 0 ≤ lo) (h2 : lo ≤ hi) (h3 : hi ≤ 4) : -1000 ≤ (limB o lo hi).1 ∧ (limB o lo hi).1 ≤ 1000 ∧ -1000 ≤ (limB o lo hi).2 ∧ (limB o lo hi).2 ≤ 1000 := by
  unfold limB
  cases o with
  | none =>
    dsimp only
    exact ⟨by omega, by omega, by omega, by omega⟩
  | some x =>
    obtain ⟨q1, q2, q3, q4⟩ := h x rfl
    dsimp only
    refine ⟨?_, ?_, ?_, ?_⟩ <;> split <;> omega
theorem drw_lim {kl : List Str} {sl : List Sm} {S : SL} {R E : List RL} (d : Drw kl sl S R E) : ∀ r ∈ R, (r.map (·.1)).Nodup ∧ Thin (sl.map (limT r)) ∧ ∀ s ∈ sl.map (limT r), -1000 ≤ s.lo ∧ s.lo ≤ 1000 ∧ -1000 ≤ s.hi ∧ s.hi ≤ 1000 := fun r hr => by
  obtain ⟨h1, h2⟩ := d.r r hr
  refine ⟨h1.nodup d.lp.snd, fun t ht => ?_, fun t ht => ?_⟩
  · obtain ⟨s, hs, rfl⟩ := List.mem_map.mp ht
    obtain ⟨_, _, _, q1, q2, q3⟩ := d.lp.sok s hs
    have q4 : s.lo ≤ (limS r s).1 ∧ (limS r s).2 ≤ s.hi := limB_in _ _ _
    show (limS r s).2 + 1 - (limS r s).1 ≤ 3
    omega
  · obtain ⟨s, hs, rfl⟩ := List.mem_map.mp ht
    obtain ⟨_, _, _, q1, q2, q3⟩ := d.lp.sok s hs
    exact limB_bd (o := rdg r s.nm) (fun x hx => h2 _ (rdg_some hx)) q1 q2 (by omega)
/-! the values in the rows -/
def gF (d : Nat) (n : Str) (x : RwT) : Int := vof ((x.1[d]?).getD []) n
def gS (d : Nat) (k : Str) (x : RwT) : Int := vof ((x.2.1[d]?).getD []) k
section
variable {P : Pl} {S : SL} {kl : List Str} {sl : List Sm} {R E : List RL} {rows : List RwT}
theorem row_flow {d : Nat} (hd : d < R.length) (f : Str → Int) : (rowXY S sl R.length (xOf P f) (yOf P f)).1[d]? = some (kdict (sl.map (·.nm)) (xOf P f d)) := by
  show ((List.range R.length).map fun d => kdict (sl.map (·.nm)) (xOf P f d))[d]? = _
  rw [List.getElem?_map, List.getElem?_range hd]
  rfl
theorem row_stock {d : Nat} (hd : d < R.length) (f : Str → Int) : (rowXY S sl R.length (xOf P f) (yOf P f)).2.1[d]? = some (kdict (skeys S) (yOf P f (d + 1))) := by
  show ((List.range R.length).map fun d => kdict (skeys S) (yOf P f (d + 1)))[d]? = _
  rw [List.getElem?_map, List.getElem?_range hd]
  rfl
theorem gF_row {d : Nat} (hd : d < R.length) {n : Str} (hn : n ∈ sl.map (·.nm)) (f : Str → Int) : gF d n (rowXY S sl R.length (xOf P f) (yOf P f)) = f (dnm (d + 1) "s" (ixs P.names n)) := by
  unfold gF
  rw [row_flow hd]
  exact vof_kdict hn
theorem gS_row {d : Nat} (hd : d < R.length) {k : Str} (hk : k ∈ skeys S) (f : Str → Int) : gS d k (rowXY S sl R.length (xOf P f) (yOf P f)) = f (enm (d + 1) (ixs P.kn k)) := by
  unfold gS
  rw [row_stock hd]
  exact vof_kdict hk
theorem flow_vals (ri : ∀ x, x ∈ rows ↔ ∃ f, Crs P S R E f ∧ x = rowXY S sl R.length (xOf P f) (yOf P f)) {d : Nat} (hd : d < R.length) {n : Str} (hn : n ∈ sl.map (·.nm)) (y : Int) :
    y ∈ rows.map (gF d n) ↔ ∃ f, Crs P S R E f ∧ f (dnm (d + 1) "s" (ixs P.names n)) = y := by
  rw [List.mem_map]
  constructor
  · rintro ⟨x, hx, rfl⟩
    obtain ⟨f, c, rfl⟩ := (ri x).mp hx
    exact ⟨f, c, (gF_row hd hn f).symm⟩
  · rintro ⟨f, c, rfl⟩
    exact ⟨_, (ri _).mpr ⟨f, c, rfl⟩, gF_row hd hn f⟩
theorem stock_vals (ri : ∀ x, x ∈ rows ↔ ∃ f, Crs P S R E f ∧ x = rowXY S sl R.length (xOf P f) (yOf P f)) {d : Nat} (hd : d < R.length) {k : Str} (hk : k ∈ skeys S) (y : Int) :
    y ∈ rows.map (gS d k) ↔ ∃ f, Crs P S R E f ∧ f (enm (d + 1) (ixs P.kn k)) = y := by
  rw [List.mem_map]
  constructor
  · rintro ⟨x, hx, rfl⟩
    obtain ⟨f, c, rfl⟩ := (ri x).mp hx
    exact ⟨f, c, (gS_row hd hk f).symm⟩
  · rintro ⟨f, c, rfl⟩
    exact ⟨_, (ri _).mpr ⟨f, c, rfl⟩, gS_row hd hk f⟩
theorem flow_bd (dr : Drw kl sl S R E) (ps : P.st.Perm sl) {f : Str → Int} (c : Crs P S R E f) {d : Nat} (hd : d < R.length) {n : Str} (hn : n ∈ sl.map (·.nm)) : 0 ≤ f (dnm (d + 1) "s" (ixs P.names n)) ∧ f (dnm (d + 1) "s" (ixs P.names n)) ≤ 4 := by
  obtain ⟨s, hs, rfl⟩ := List.mem_map.mp hn
  have h := c.day d _ (List.getElem?_eq_getElem hd) s (ps.mem_iff.mpr hs)
  obtain ⟨_, _, _, q1, q2, q3⟩ := dr.lp.sok s hs
  have q4 : s.lo ≤ (limS R[d] s).1 ∧ (limS R[d] s).2 ≤ s.hi := limB_in _ _ _
  have h1 : (limS R[d] s).1 ≤ f (dnm (d + 1) "s" (ixs P.names s.nm)) ∧ f (dnm (d + 1) "s" (ixs P.names s.nm)) ≤ (limS R[d] s).2 := h
  omega
theorem stock_bd (dr : Drw kl sl S R E) {f : Str → Int} (c : Crs P S R E f) {d : Nat} (hd : d < R.length) {k : Str} (hk : k ∈ skeys S) : 0 ≤ f (enm (d + 1) (ixs P.kn k)) ∧ f (enm (d + 1) (ixs P.kn k)) ≤ 4 := by
  obtain ⟨b, hb⟩ := rdg_in hk
  have hd' : d < E.length := by rw [← dr.len]; exact hd
  have h := c.eve d _ (List.getElem?_eq_getElem hd') k b hb
  obtain ⟨q1, q2, q3, q4, q5⟩ := dr.sok _ (rdg_some hb)
  have q6 := limB_in (rdg E[d] k) b.2.1 b.2.2
  have q3' : 0 ≤ b.2.1 := q3
  have q5' : b.2.2 ≤ 4 := q5
  omega
end
/-- few keys -/
theorem keys_few {l : List Key} (nd : l.Nodup) (h : ∀ k ∈ l, ∃ x : Int, k = Sum.inl x ∧ 0 ≤ x ∧ x ≤ 4) : l.length < 64 := by
  have := Mt.nd_le (m := (List.range 5).map fun i => (Sum.inl ((i : Nat) : Int) : Key)) nd fun k hk => by
    obtain ⟨x, rfl, h1, h2⟩ := h k hk
    exact List.mem_map.mpr ⟨x.toNat, List.mem_range.mpr (by omega), by congr 1; omega⟩
  rw [List.length_map, List.length_range] at this
  omega
/-! data of numbers -/
theorem dpAll_ints {K : PySem.W.Frag} {H : Hp} : ∀ ns : List Int, DpAll K H (ns.map V.int) (ns.map PyData.int)
  | [] => .nil
  | n :: ns => .cons (.int n) (dpAll_ints ns)
theorem dp_ints {K : PySem.W.Frag} {H : Hp} {a : Addr} {ns : List Int} (h : SqL K H a (ns.map V.int)) : Dp K H (.ref a) (.list (ns.map PyData.int)) := .lst h (dpAll_ints ns)
theorem dp_pair {K : PySem.W.Frag} {H : Hp} {a : Addr} {i j : Int} (h : SqT K H a [V.int i, V.int j]) : Dp K H (.ref a) (.tuple [.int i, .int j]) := .tup h (.cons (.int i) (.cons (.int j) .nil))
theorem can_ints : ∀ ns : List Int, PyData.canLayAll0 (ns.map PyData.int) = true
  | [] => rfl
  | n :: ns => by
    rw [List.map_cons]
    simp only [PyData.canLayAll0, PyData.canLay0, can_ints ns, Bool.and_self]
theorem dep_ints : ∀ ns : List Int, PyData.depthAll (ns.map PyData.int) ≤ 1
  | [] => by simp [PyData.depthAll]
  | n :: ns => by
    have h := dep_ints ns
    rw [List.map_cons]
    simp only [PyData.depthAll, PyData.depth]
    omega
theorem shp_ints (ns : List Int) : SeqAt.shaped (.list (ns.map PyData.int)) = true := by
  unfold SeqAt.shaped
  have h := dep_ints ns
  rw [Bool.and_eq_true]
  refine ⟨by simp only [PyData.canLay0]; exact can_ints ns, decide_eq_true ?_⟩
  simp only [PyData.depth]
  omega
theorem shp_pair (i j : Int) : SeqAt.shaped (.tuple [.int i, .int j]) = true := by
  unfold SeqAt.shaped
  rw [Bool.and_eq_true]
  refine ⟨by simp only [PyData.canLay0, PyData.canLayAll0, Bool.and_self], decide_eq_true ?_⟩
  simp only [PyData.depth, PyData.depthAll]
  omega
theorem shp_non : SeqAt.shaped .none = true := by decide +kernel
theorem eqv_same {d : PyData} (h : SeqAt.shaped d = true) : (!PyData.eqv d d) = false := by
  rw [SeqAt.eqv_refl d (SeqAt.canLay_of_shaped h)]
  rfl
end Mx

set_option Elab.async false
set_option linter.all false
set_option maxRecDepth 100000
set_option maxHeartbeats 4000000
/-! The law walked. -/
namespace Mx
open PySem PySem.Spec PyProof.Rows L2
instance : Mono r2L := ⟨fun e ⟨a, f, s, h1, h2, h3, h4⟩ => ⟨a, f, s, h1, e.lst a _ h2, Mono.mono e h3, Mono.mono e h4⟩⟩
theorem paired_cut {β : Type} {F : V → β → Prop} {xs : List V} {l : List β} (h : Paired F xs l) : Paired F (cutV xs none (some 1)) (l.take 1) := by
  rw [show cutV xs none (some 1) = xs.take 1 from cutV_to xs 1]
  exact paired_take 1 h
theorem first_of {P : Pl} {S : SL} {f : Str → Int} : ∀ {R E : List RL}, R.length = E.length → 1 ≤ R.length → Crs P S R E f → Crs P S (R.take 1) (E.take 1) f
  | r :: R, e :: E, _, _, h => crs_first h
  | [], _, _, h, _ => absurd h (by decide)
  | r :: R, [], h, _, _ => absurd h (fun z => nomatch z)
section
variable {P : Program} {w : World} {K : PySem.W.Frag} {mg : Str → Option Value} {base : Heap}
def sp_law (K : PySem.W.Frag) : Sp := fun vs H Q _ => ∃ (a : Addr) (ns : List Int), vs = [.ref a] ∧ SqL K H a (ns.map V.int) ∧ ns.length ≤ 63 ∧ ∀ H', Q (.bl true) H'
theorem ok_law (T : Tx K mg) : FnOk P w K mg base CX0 12 T.a_law T.d_law P_law (sp_law K) := by
  refine T.F_law.ok sc_law (fun vs H Q E h => ?_) (fun cdv A outer s H vs Q E hr h => ?_)
  · obtain ⟨_, _, rfl, _⟩ := h
    rfl
  · have hu := hu_of hr
    refine ⟨_, PSs.nox (pss_cons (ps_set (i := 1) sc_law.nd rfl (Or.inl rfl) (pe_call (ok__law_numbers T) (hr.mono (by decide)) rfl T.m__law_numbers T.F__law_numbers.kp (b__law_numbers T) .nil pass0 (pa_cons (pv 0) (pa_cons pe_int pa_nil))))
    (pss_cons (ps_asg (pe_call (ok__law_small T) (hr.mono (by decide)) rfl T.m__law_small T.F__law_small.kp (b__law_small T) .nil pass0 (pa_cons (pv 1) pa_nil)) (pg_unl rfl (pgs_cons (pg_name (i := 9) sc_law.nd rfl (Or.inl rfl)) (pgs_cons (pg_name (i := 10) sc_law.nd rfl (Or.inr rfl)) (pgs_cons (pg_name (i := 11) sc_law.nd rfl (Or.inl rfl)) (pgs_cons (pg_name (i := 12) sc_law.nd rfl (Or.inl rfl)) pgs_nil))))))
    (pss_cons (ps_set (i := 2) sc_law.nd rfl (Or.inl rfl) (pe_call (ok__law_made T) (hr.mono (by decide)) rfl T.m__law_made T.F__law_made.kp (b__law_made T) .nil pass0 (pa_cons (pv 9) pa_nil)))
    (pss_cons (ps_set (i := 3) sc_law.nd rfl (Or.inl rfl) (pe_call (ok__law_courses T) (hr.mono (by decide)) rfl T.m__law_courses T.F__law_courses.kp (b__law_courses T) .nil pass0 (pa_cons (pv 9) (pa_cons (pv 10) (pa_cons (pv 11) (pa_cons (pv 12) pa_nil))))))
    (pss_cons (ps_for PassesOwn.never rfl (pi_range1 rfl T.n_range (pa_cons (pe_callB call_len_seq (by rfl) T.n_len (by decide +kernel) (pa_cons (pv 11) pa_nil)) pa_nil)) (pg_name (i := 4) sc_law.nd rfl (Or.inr rfl))
    (pss_cons (ps_for PassesOwn.never rfl (pi_list (pe_ix ix_list (pv 9) pe_int (fun _ _ => rfl))) (pg_name (i := 13) sc_law.nd rfl (Or.inr rfl))
    (pss_cons (ps_set (i := 15) sc_law.nd rfl (Or.inl rfl) (pe_callB (cr_sortedMI rfl) (by rfl) T.n_sorted (by decide +kernel) (pa_cons (pe_callTy (cr_setL rfl) (by rfl) T.n_set (by decide +kernel) (pa_cons (pe_lc (own := [("_law_flows", 17), ("_law_stocks", 18)]) rfl sc_law.nd (pi_list (pv 3)) (blkOk_by (own := [("_law_flows", 17), ("_law_stocks", 18)]) (N := N_law) (sc := defScope s_law) (by decide +kernel)) (fun _ _ _ _ _ => (pg_unlK (K := K) (n := 2) rfl (pg_unl rfl (pgs_cons (pg_name (i := 17) sc_law.nd rfl (Or.inl rfl)) (pgs_cons (pg_name (i := 18) sc_law.nd rfl (Or.inl rfl)) pgs_nil))))) (fun _ _ _ _ _ => pts_nil) (fun _ _ _ _ _ => (pe_dget hu (pe_ix (ix_listK (K := K) rfl) (pv 17) (pv 4) (fun _ _ => rfl)) (pe_ix (ix_tupK (K := K) rfl) (pv 13) pe_int (fun _ _ => rfl)) (fun _ _ => rfl)))) pa_nil)) pa_nil)))
    (pss_cons (ps_set (i := 16) sc_law.nd rfl (Or.inl rfl) pe_non)
    (pss_cons (ps_if (pt_cmpR op_gt (pe_callB call_len_seq (by rfl) T.n_len (by decide +kernel) (pa_cons (pv 15) pa_nil)) pe_int (nomark _)) (pss_cons (ps_set (i := 16) sc_law.nd rfl (Or.inl rfl) (pe_tup (pa_cons (pe_ix ix_list (pv 15) pe_int (fun _ _ => rfl)) (pa_cons (pe_ix ix_list (pv 15) (pe_un un_neg pe_int) (fun _ _ => rfl)) pa_nil))))
    (pss_one (ps_if (pt_cmpR (op_neD hr.units) (pv 15) (pe_listRg rfl rfl T.n_list (prg_2 rfl T.n_range (pe_ix ix_list (pv 15) pe_int (fun _ _ => rfl)) (pe_op op_add (pe_ix ix_list (pv 15) (pe_un un_neg pe_int) (fun _ _ => rfl)) pe_int))) (nomark _)) (pss_one (ps_ret pe_bl)) pss_nil))) pss_nil)
    (pss_one (ps_if (pt_cmpR (op_neD hr.units) (pe_call (ok_day_range T) (hr.mono (by decide)) rfl T.m_day_range T.F_day_range.kp (b_day_range T) .nil pass0 (pa_cons (pv 2) (pa_cons (pv 10) (pa_cons (pv 11) (pa_cons (pv 12) (pa_cons (pe_ix ix_tup (pv 13) pe_int (fun _ _ => rfl)) (pa_cons (pe_op op_add (pv 4) pe_int) pa_nil))))))) (pv 16) (nomark _)) (pss_one (ps_ret pe_bl)) pss_nil))))))
    (pss_one (ps_lockR (ps_for PassesOwn.never rfl (pi_keys (pv 10)) (pg_name (i := 14) sc_law.nd rfl (Or.inr rfl))
    (pss_cons (ps_set (i := 15) sc_law.nd rfl (Or.inl rfl) (pe_callB (cr_sortedMI rfl) (by rfl) T.n_sorted (by decide +kernel) (pa_cons (pe_callTy (cr_setL rfl) (by rfl) T.n_set (by decide +kernel) (pa_cons (pe_lc (own := [("_law_flows", 17), ("_law_stocks", 18)]) rfl sc_law.nd (pi_list (pv 3)) (blkOk_by (own := [("_law_flows", 17), ("_law_stocks", 18)]) (N := N_law) (sc := defScope s_law) (by decide +kernel)) (fun _ _ _ _ _ => (pg_unlK (K := K) (n := 2) rfl (pg_unl rfl (pgs_cons (pg_name (i := 17) sc_law.nd rfl (Or.inl rfl)) (pgs_cons (pg_name (i := 18) sc_law.nd rfl (Or.inl rfl)) pgs_nil))))) (fun _ _ _ _ _ => pts_nil) (fun _ _ _ _ _ => (pe_dget hu (pe_ix (ix_listK (K := K) rfl) (pv 18) (pv 4) (fun _ _ => rfl)) (pv 14) (fun _ _ => rfl)))) pa_nil)) pa_nil)))
    (pss_cons (ps_set (i := 16) sc_law.nd rfl (Or.inl rfl) pe_non)
    (pss_cons (ps_if (pt_cmpR op_gt (pe_callB call_len_seq (by rfl) T.n_len (by decide +kernel) (pa_cons (pv 15) pa_nil)) pe_int (nomark _)) (pss_cons (ps_set (i := 16) sc_law.nd rfl (Or.inl rfl) (pe_tup (pa_cons (pe_ix ix_list (pv 15) pe_int (fun _ _ => rfl)) (pa_cons (pe_ix ix_list (pv 15) (pe_un un_neg pe_int) (fun _ _ => rfl)) pa_nil))))
    (pss_one (ps_if (pt_cmpR (op_neD hr.units) (pv 15) (pe_listRg rfl rfl T.n_list (prg_2 rfl T.n_range (pe_ix ix_list (pv 15) pe_int (fun _ _ => rfl)) (pe_op op_add (pe_ix ix_list (pv 15) (pe_un un_neg pe_int) (fun _ _ => rfl)) pe_int))) (nomark _)) (pss_one (ps_ret pe_bl)) pss_nil))) pss_nil)
    (pss_one (ps_if (pt_cmpR (op_neD hr.units) (pe_call (ok_stock_range T) (hr.mono (by decide)) rfl T.m_stock_range T.F_stock_range.kp (b_stock_range T) .nil pass0 (pa_cons (pv 2) (pa_cons (pv 10) (pa_cons (pv 11) (pa_cons (pv 12) (pa_cons (pv 14) (pa_cons (pe_op op_add (pv 4) pe_int) pa_nil))))))) (pv 16) (nomark _)) (pss_one (ps_ret pe_bl)) pss_nil))))))))))
    (pss_cons (ps_set (i := 5) sc_law.nd rfl (Or.inl rfl) (pe_call (ok_course T) (hr.mono (by decide)) rfl T.m_course T.F_course.kp (b_course T) .nil pass0 (pa_cons (pv 2) (pa_cons (pv 10) (pa_cons (pv 11) (pa_cons (pv 12) pa_nil))))))
    (pss_cons (ps_if (pt_cmp (pc_isN (pv 5))) (pss_one (ps_ret (pe_cmpR op_eq (pe_callB call_len_seq (by rfl) T.n_len (by decide +kernel) (pa_cons (pv 3) pa_nil)) pe_int (nomark _)))) pss_nil)
    (pss_cons (ps_set (i := 6) sc_law.nd rfl (Or.inl rfl) (pe_callB (cr_sum rfl) (by rfl) T.n_sum (by decide +kernel) (pa_cons (pe_lockR (pe_lc (own := [("_law_knot", 14)]) rfl sc_law.nd (pi_keys (pv 10)) (blkOk_by (own := [("_law_knot", 14)]) (N := N_law) (sc := defScope s_law) (by decide +kernel)) (fun _ _ _ _ _ => (pg_name (i := 14) sc_law.nd rfl (Or.inl rfl))) (fun _ _ _ _ _ => pts_nil) (fun _ _ _ _ _ => (pe_ix (ix_tupK (K := K) rfl) (pe_dget hu (pv 10) (pv 14) (fun _ _ => rfl)) pe_int (fun _ _ => rfl))))) pa_nil)))
    (pss_cons (ps_for PassesOwn.never rfl (pi_list (pe_fld (pv 5) rfl)) (pg_name (i := 7) sc_law.nd rfl (Or.inr rfl))
    (pss_one (ps_if (pt_cmpR op_ne (pe_callB (cr_sum rfl) (by rfl) T.n_sum (by decide +kernel) (pa_cons (pe_lockR (pe_lc (own := [("_law_knot", 14)]) rfl sc_law.nd (pi_keys (pv 7)) (blkOk_by (own := [("_law_knot", 14)]) (N := N_law) (sc := defScope s_law) (by decide +kernel)) (fun _ _ _ _ _ => (pg_name (i := 14) sc_law.nd rfl (Or.inl rfl))) (fun _ _ _ _ _ => pts_nil) (fun _ _ _ _ _ => (pe_dget hu (pv 7) (pv 14) (fun _ _ => rfl))))) pa_nil)) (pv 6) (nomark _)) (pss_one (ps_ret pe_bl)) pss_nil)))
    (pss_cons (ps_set (i := 8) sc_law.nd rfl (Or.inl rfl) (pe_make T.k_Course (ok_Course_init T) (hr.mono (by decide)) rfl T.m_Course (b_Course_init T) .nil pass0 (pa_cons (pe_slice sl_list (pe_fld (pv 5) rfl) po_none (po_some pe_int)) (pa_cons (pe_slice sl_list (pe_fld (pv 5) rfl) po_none (po_some pe_int)) pa_nil))))
    (pss_one (ps_ret (pe_cmpR op_isBl (pe_call (ok_is_course T) (hr.mono (by decide)) rfl T.m_is_course T.F_is_course.kp (b_is_course T) .nil pass0 (pa_cons (pv 2) (pa_cons (pv 10) (pa_cons (pe_slice sl_list (pv 11) po_none (po_some pe_int)) (pa_cons (pe_slice sl_list (pv 12) po_none (po_some pe_int)) (pa_cons (pv 8) pa_nil)))))) pe_bl (nomark _)))))))))))))), ?_⟩
    obtain ⟨a, ns, rfl, hSc, h63, k⟩ := h
    have sz := sizeLine_eq
    rw [show L2.start N_law [V.ref a] = [some (V.ref a), none, none, none, none, none, none, none, none, none, none, none, none, none, none, none, none, none, none] from rfl]
    refine ⟨_, rfl, a, ns, rfl, hSc, h63, fun N hNl hNs p H1 xs hp s1 hp1 hx => ?_⟩
    dsimp only [gName, List.set_cons_zero, List.set_cons_succ]
    refine ⟨_, rfl, .ref p, N, rfl, ⟨p, xs, rfl, hp1, hx⟩, hNl, hNs, fun v H2 kl sl S R E s2 hdr drw => ?_⟩
    obtain ⟨q, lv, sd, rv, ev, rfl, hq, hlp, hS, hR, hE⟩ := hdr
    refine ⟨q, _, rfl, SqL.of hq, rfl, _, _, rfl, _, _, rfl, _, _, rfl, _, _, rfl, rfl, ?_⟩
    dsimp only [gName, List.set_cons_zero, List.set_cons_succ]
    refine ⟨_, rfl, lv, kl, sl, rfl, hlp, drw.lp, fun mv H3 P s3 hP pk ps => ?_⟩
    dsimp only [gName, List.set_cons_zero, List.set_cons_succ]
    have lp := drw.lp
    have sm := drw_sml drw pk ps
    have rd := drw_rds drw ps
    have ri := row_iff sm pk ps drw.len drw.two
    have rl : (crsF S kl sl (R.zip E)).length ≤ 729 := by
      have h1 := crsF_len (S := S) (kl := kl) lp.s3 (Z := R.zip E) (fun z hz => (drw_lim drw z.1 (List.of_mem_zip hz).1).2.1) R.length
      rw [List.take_of_length_le (by rw [List.length_zip]; omega)] at h1
      have h2 : 27 ^ R.length ≤ 27 ^ 2 := Nat.pow_le_pow_right (by decide) drw.two
      omega
    refine ⟨_, rfl, _, rfl, _, rfl, _, rfl, lv, .ref sd, rv, ev, kl, sl, S, R, E, rfl, Mono.same s3 hlp, lp.nd, lp.l3, lp.s3, lp.snd, fun s hs => ⟨(lp.sok s hs).2.1, (lp.sok s hs).2.2.1⟩, Mono.same s3 hS, drw.ssub.nodup lp.nd, fun k hk => drw.ssub.subset hk, Mono.same s3 hR, Mono.same s3 hE, drw.two, drw.len.symm, drw_lim drw, fun e he => (drw.e e he).1, fun rw H4 s4 hrw => ?_⟩
    dsimp only [gName, List.set_cons_zero, List.set_cons_succ]
    generalize crsF S kl sl (R.zip E) = rows at ri rl hrw
    replace hP := Mono.same s4 hP
    replace hlp := Mono.same (s3.trans s4) hlp
    replace hS := Mono.same (s3.trans s4) hS
    replace hR := Mono.same (s3.trans s4) hR
    replace hE := Mono.same (s3.trans s4) hE
    obtain ⟨ra, rxs, rfl, hra, hrx⟩ := hrw
    obtain ⟨la, ka, sa, rfl, hla, hka, hsl⟩ := hlp
    obtain ⟨_, sxs, e0, hsa, hsx⟩ := id hsl
    cases e0
    obtain ⟨da, dxs, rfl, hda, hdx⟩ := id hR
    obtain ⟨ea, exs, rfl, hea, hex⟩ := id hE
    obtain ⟨_, sks, e0, hsd, hsk⟩ := id hS
    cases e0
    refine ⟨_, rfl, da, _, rfl, .inl (SqL.of hda), _, rfl, (by rw [paired_len hdx]; have := drw.two; omega), (by rw [paired_len hdx]; have := drw.two; omega), ?_⟩
    rw [paired_len hdx, show ((R.length : Nat) : Int).toNat = R.length from by omega]
    refine for_it walk_range (fun i σ G => Same H4 G ∧ ∃ v b c d e, σ = [some (.ref a), some (.ref p), some mv, some (.ref ra), v, none, none, none, none, some (.ref la), some (.ref sd), some (.ref da), some (.ref ea), b, c, d, e, none, none])
      ⟨Same.refl _, _, _, _, _, _, rfl⟩ (fun _ _ _ _ _ => trivial) ?_ ?_
    · rintro i x σ G G' hi ⟨sG, _, _, _, _, _, rfl⟩ ⟨rfl, rfl⟩
      dsimp only [gName, List.set_cons_zero, List.set_cons_succ]
      rw [show (0 : Int) + ((i : Nat) : Int) = ((i : Nat) : Int) from by omega]
      refine ⟨_, rfl, la, _, _, _, rfl, rfl, SqL.of (sG la _ hla), atI_nat (j := 1) rfl, sa, rfl, ⟨_, SqL.of (sG sa _ hsa)⟩, for_it (walk_list (K := K)) (fun j σ G2 => Same H4 G2 ∧ ∃ b c d e, σ = [some (.ref a), some (.ref p), some mv, some (.ref ra), some (.int ((i : Nat) : Int)), none, none, none, none, some (.ref la), some (.ref sd), some (.ref da), some (.ref ea), b, c, d, e, none, none])
        ⟨sG, _, _, _, _, rfl⟩ (fun j σ G2 _ h => SqL.of (h.1 sa _ hsa)) ?_ ?_⟩
      · rintro j x σ G2 G3 hj ⟨s2, _, _, _, _, rfl⟩ ⟨rfl, hxj⟩
        obtain ⟨t, htj, q, rfl, hq⟩ := paired_get' hsx hxj
        have htm := List.mem_of_getElem? htj
        have hnm : t.nm ∈ sl.map (·.nm) := List.mem_map.mpr ⟨t, htm, rfl⟩
        have hnP : t.nm ∈ P.names := List.mem_map.mpr ⟨t, ps.mem_iff.mpr htm, rfl⟩
        dsimp only [gName, List.set_cons_zero, List.set_cons_succ]
        refine ⟨_, rfl, ra, rfl, ⟨_, SqL.of (s2 ra _ hra)⟩, fun D hD => ?_⟩
        refine lc_gen (A := rInt) (B := r2L) (walk_list (K := K)) rows (paired_len hrx).symm (by rw [paired_len hrx]; omega) hD (src_k (s2 ra _ hra)) (src_y (paired_mono (Ext.of s2) hrx)) (fun _ => true) (gF i t.nm) ?_ ?_
        · rintro m row x H' hm s8 ⟨b, fv, sv, rfl, hb, ⟨fa, fxs, rfl, hfa, hfx⟩, _⟩ Ks Kc kt _
          obtain ⟨f, crs, rfl⟩ := (ri row).mp (List.mem_of_getElem? hm)
          obtain ⟨dv, hdv, dd, dks, rfl, hdd, hdk⟩ := paired_got hfx (row_flow hi f)
          obtain ⟨v, hg, rfl⟩ := get_in hdd hdk (by rw [kdict_keys]; exact lp.snd) (kdict_mem (f := xOf P f i) hnm)
          refine ⟨b, _, rfl, SqL.of hb, rfl, _, _, rfl, _, _, rfl, rfl, ?_⟩
          refine ⟨rfl, yesT (iteT ?_)⟩
          refine ⟨_, rfl, _, rfl, fa, _, _, _, rfl, rfl, SqL.of hfa, atI_nat hdv, _, rfl, q, _, _, _, rfl, rfl, SqT.of (s8 q _ (s2 q _ hq)), atI_nat (j := 0) rfl, dd, _, rfl, hg, ?_⟩
          exact kt _ _ (Same.refl _) (by rw [gF_row hi hnm]; rfl) rfl
        · intro H5 ys s5 hD5 hp5
          rw [filt_true] at hp5
          have ey := ints_eq hp5
          subst ey
          have s25 := s2.trans s5
          have mk := metK_all ((rows.map (gF i t.nm)).map (Sum.inl : Int → Key))
          refine ⟨D, (rows.map (gF i t.nm)).map Sum.inl, rfl, ?_, ?_, fun p0 hp0 => ?_⟩
          · rw [List.map_map]
            exact SqL.of hD5
          · rw [List.length_map, List.length_map]
            omega
          refine ⟨p0, _, rfl, upd_same, fun kk hk => ?_, keys_few mk.1 fun kk hk => ?_, fun zs f0 hzs asc hf0 => ?_⟩
          · obtain ⟨x, _, rfl⟩ := List.mem_map.mp ((mk.2.1 kk).mp hk)
            exact ⟨x, rfl⟩
          · obtain ⟨x, hx, rfl⟩ := List.mem_map.mp ((mk.2.1 kk).mp hk)
            obtain ⟨f, crs, rfl⟩ := (flow_vals ri hi hnm x).mp hx
            exact ⟨_, rfl, flow_bd drw ps crs hi hnm⟩
          have hm : ∀ y, y ∈ zs ↔ ∃ f, Crs P S R E f ∧ f (dnm (i + 1) "s" (ixs P.names t.nm)) = y := fun y => by
            rw [hzs, mk.2.1, ← flow_vals ri hi hnm y]
            constructor
            · intro h
              obtain ⟨x, hx, e⟩ := List.mem_map.mp h
              cases e
              exact hx
            · exact fun h => List.mem_map.mpr ⟨y, h, rfl⟩
          have hin := fun P' (hl : Laid P S R.length P') => day_in sm rd hl hi hnP
          have s5f : Same H5 (upd (upd H5 p0 _) f0 (.lst (zs.map V.int))) := (Same.new hp0).trans (Same.new hf0)
          have s4f := s25.trans s5f
          dsimp only [gName, List.set_cons_zero, List.set_cons_succ]
          by_cases ne : zs = []
          · subst ne
            have no := found_nil hm
            refine ⟨_, rfl, f0, _, rfl, .inl (SqL.of upd_same), _, _, rfl, rfl, false, cf (by show ¬ ((0 : Int) > 0); decide), iteF ?_⟩
            refine ⟨_, rfl, _, rfl, _, rfl, _, rfl, _, rfl, q, _, _, _, rfl, rfl, SqT.of (s4f q _ hq), atI_nat (j := 0) rfl, _, rfl, _, _, rfl, rfl, mv, .ref sd, .ref da, .ref ea, t.nm, i, P, S, R, E, rfl, Mono.same s4f hP, Mono.same s4f hS, sm, Mono.same s4f hR, Mono.same s4f hE, rd, hi, hnP, fun H' s' _ => ?_, fun c H' lo hi' s' hc hrg => absurd ⟨hrg.1.choose, hrg.1.choose_spec.1⟩ no⟩
            refine ⟨_, rfl, .none, .none, .non, .non, shp_non, shp_non, false, ci (eqv_same shp_non), iteF ?_⟩
            exact ⟨s4f.trans s', _, _, _, _, rfl⟩
          · obtain ⟨lo, hi', hlh, rfl, hrng⟩ := found_run sm rd hin asc hm ne
            obtain ⟨zl, hzl⟩ := runI_snoc hlh
            have h0 : atI ((runI lo hi').map V.int) 0 = some (V.int lo) := by
              have := atI_nat (xs := (runI lo hi').map V.int) (j := 0) (by rw [List.getElem?_map, runI_first hlh] <;> rfl)
              exact this
            have h1 : atI ((runI lo hi').map V.int) (-1) = some (V.int hi') := by
              rw [hzl, List.map_append]
              exact atI_last _ _
            have hbd : 0 ≤ lo ∧ hi' ≤ 4 := by
              obtain ⟨⟨f, c1, e1⟩, ⟨g, c2, e2⟩, _⟩ := hrng
              have b1 := flow_bd drw ps c1 hi hnm
              have b2 := flow_bd drw ps c2 hi hnm
              omega
            have hgt : ((((runI lo hi').map V.int).length : Nat) : Int) > 0 := by
              rw [hzl, List.map_append, List.length_append]
              show ((((zl.map V.int).length + 1 : Nat)) : Int) > 0
              omega
            refine ⟨_, rfl, f0, _, rfl, .inl (SqL.of upd_same), _, _, rfl, rfl, true, ct hgt, iteT ?_⟩
            refine ⟨_, rfl, f0, _, _, _, rfl, rfl, SqL.of upd_same, h0, _, rfl, _, rfl, f0, _, _, _, rfl, rfl, SqL.of upd_same, h1, (by show 2 ≤ sizeLine; omega), fun tp htp => ?_⟩
            dsimp only [gName, List.set_cons_zero, List.set_cons_succ]
            have st := Same.new (o := .tup [V.int lo, V.int hi']) htp
            refine ⟨_, rfl, _, rfl, f0, _, _, _, rfl, rfl, SqL.of (st f0 _ upd_same), h0, _, rfl, _, rfl, f0, _, _, _, rfl, rfl, SqL.of (st f0 _ upd_same), h1, _, _, rfl, rfl, _, _, rfl, rfl, RgOk.of_le hbd.1 (by omega) (by omega) (by omega), fun lq hlq => ?_⟩
            have slq := Same.new (o := .lst (rgV lo (hi' + 1))) hlq
            refine ⟨_, _, dp_ints (ns := runI lo hi') (SqL.of (slq f0 _ (st f0 _ upd_same))), dp_ints (ns := runI lo hi') (by rw [runI_rgV]; exact SqL.of upd_same), shp_ints _, shp_ints _, false, ci (eqv_same (shp_ints _)), iteF ?_⟩
            have s4q := (s4f.trans st).trans slq
            refine ⟨_, rfl, _, rfl, _, rfl, _, rfl, _, rfl, q, _, _, _, rfl, rfl, SqT.of (s4q q _ hq), atI_nat (j := 0) rfl, _, rfl, _, _, rfl, rfl, mv, .ref sd, .ref da, .ref ea, t.nm, i, P, S, R, E, rfl, Mono.same s4q hP, Mono.same s4q hS, sm, Mono.same s4q hR, Mono.same s4q hE, rd, hi, hnP, fun H' s' no => absurd ⟨hrng.1.choose, hrng.1.choose_spec.1⟩ no, fun c H' lo2 hi2 s' hc hrg => ?_⟩
            obtain ⟨rfl, rfl⟩ := rng_uniq hrng hrg
            refine ⟨_, rfl, _, _, dp_pair (SqT.of hc), dp_pair (SqT.of (s' tp _ (slq tp _ upd_same))), shp_pair _ _, shp_pair _ _, false, ci (eqv_same (shp_pair _ _)), iteF ?_⟩
            exact ⟨s4q.trans s', _, _, _, _, rfl⟩
      · rintro σ G2 ⟨s2, _, _, _, _, rfl⟩
        dsimp only [gName, List.set_cons_zero, List.set_cons_succ]
        refine ⟨sd, sks, rd_same s2 hsd, fun od G3 h3 hb3 => ?_⟩
        have x3 : Ext _ G3 := Ext.lock (rd_same s2 hsd) h3 hb3
        have lk0 : Lk H4 sd od sks G3 := Lk.start s2 h3 hb3
        refine ⟨_, rfl, sd, od, rfl, .inl ⟨sks, h3, for_it walk_keys (fun j σ G4 => Lk H4 sd od sks G4 ∧ ∃ b c d e, σ = [some (.ref a), some (.ref p), some mv, some (.ref ra), some (.int ((i : Nat) : Int)), none, none, none, none, some (.ref la), some (.ref sd), some (.ref da), some (.ref ea), b, c, d, e, none, none])
          ⟨lk0, _, _, _, _, rfl⟩ (fun j σ G4 _ h => h.1.frz) ?_ ?_⟩⟩
        · rintro j x σ G4 G5 hj ⟨lk, _, _, _, _, rfl⟩ ⟨rfl, kk, vv, hkv, rfl⟩
          dsimp only [gName, List.set_cons_zero, List.set_cons_succ]
          have x4 := lk.ext hsd
          obtain ⟨⟨n, sx⟩, hnj, rfl, hvv⟩ := kv_key (dpair_mono x4 hsk) hkv
          have hn : n ∈ skeys S := List.mem_map.mpr ⟨_, List.mem_of_getElem? hnj, rfl⟩
          refine ⟨_, rfl, ra, rfl, ⟨_, SqL.of (x4.lst ra _ hra)⟩, fun D hD => ?_⟩
          refine lc_gen (A := rInt) (B := r2L) (walk_list (K := K)) rows (paired_len hrx).symm (by rw [paired_len hrx]; omega) hD (src_k (x4.lst ra _ hra)) (src_y (paired_mono x4 hrx)) (fun _ => true) (gS i n) ?_ ?_
          · rintro m row x H' hm s8 ⟨b, fv, sv, rfl, hb, _, ⟨ga, gxs, rfl, hga, hgx⟩⟩ Ks Kc kt _
            obtain ⟨f, crs, rfl⟩ := (ri row).mp (List.mem_of_getElem? hm)
            obtain ⟨dv, hdv, dd, dks, rfl, hdd, hdk⟩ := paired_got hgx (row_stock hi f)
            obtain ⟨v, hg, rfl⟩ := get_in hdd hdk (by rw [kdict_keys]; exact sm.snd) (kdict_mem (f := yOf P f (i + 1)) hn)
            refine ⟨b, _, rfl, SqL.of hb, rfl, _, _, rfl, _, _, rfl, rfl, ?_⟩
            refine ⟨rfl, yesT (iteT ?_)⟩
            refine ⟨_, rfl, _, rfl, ga, _, _, _, rfl, rfl, SqL.of hga, atI_nat hdv, _, rfl, dd, _, rfl, hg, ?_⟩
            exact kt _ _ (Same.refl _) (by rw [gS_row hi hn]; rfl) rfl
          · intro H5 ys s5 hD5 hp5
            rw [filt_true] at hp5
            have ey := ints_eq hp5
            subst ey
            have mk := metK_all ((rows.map (gS i n)).map (Sum.inl : Int → Key))
            refine ⟨D, (rows.map (gS i n)).map Sum.inl, rfl, ?_, ?_, fun p0 hp0 => ?_⟩
            · rw [List.map_map]
              exact SqL.of hD5
            · rw [List.length_map, List.length_map]
              omega
            refine ⟨p0, _, rfl, upd_same, fun kk hk => ?_, keys_few mk.1 fun kk hk => ?_, fun zs f0 hzs asc hf0 => ?_⟩
            · obtain ⟨x, _, rfl⟩ := List.mem_map.mp ((mk.2.1 kk).mp hk)
              exact ⟨x, rfl⟩
            · obtain ⟨x, hx, rfl⟩ := List.mem_map.mp ((mk.2.1 kk).mp hk)
              obtain ⟨f, crs, rfl⟩ := (stock_vals ri hi hn x).mp hx
              exact ⟨_, rfl, stock_bd drw crs hi hn⟩
            have hm : ∀ y, y ∈ zs ↔ ∃ f, Crs P S R E f ∧ f (enm (i + 1) (ixs P.kn n)) = y := fun y => by
              rw [hzs, mk.2.1, ← stock_vals ri hi hn y]
              constructor
              · intro h
                obtain ⟨x, hx, e⟩ := List.mem_map.mp h
                cases e
                exact hx
              · exact fun h => List.mem_map.mpr ⟨y, h, rfl⟩
            have hin := fun P' (hl : Laid P S R.length P') => eve_in sm rd hl hi hn
            have s5f : Same H5 (upd (upd H5 p0 _) f0 (.lst (zs.map V.int))) := (Same.new hp0).trans (Same.new hf0)
            have lkf := lk.grow (s5.trans s5f)
            have x4f := lkf.ext hsd
            dsimp only [gName, List.set_cons_zero, List.set_cons_succ]
            by_cases ne : zs = []
            · subst ne
              have no := found_nil hm
              refine ⟨_, rfl, f0, _, rfl, .inl (SqL.of upd_same), _, _, rfl, rfl, false, cf (by show ¬ ((0 : Int) > 0); decide), iteF ?_⟩
              refine ⟨_, rfl, _, rfl, _, rfl, _, rfl, _, rfl, _, rfl, _, _, rfl, rfl, mv, .ref sd, .ref da, .ref ea, n, i, P, S, R, E, rfl, Mono.mono x4f hP, Mono.mono x4f hS, sm, Mono.mono x4f hR, Mono.mono x4f hE, rd, hi, hn, fun H' s' _ => ?_, fun c H' lo hi' s' hc hrg => absurd ⟨hrg.1.choose, hrg.1.choose_spec.1⟩ no⟩
              refine ⟨_, rfl, .none, .none, .non, .non, shp_non, shp_non, false, ci (eqv_same shp_non), iteF ?_⟩
              exact ⟨lkf.grow s', _, _, _, _, rfl⟩
            · obtain ⟨lo, hi', hlh, rfl, hrng⟩ := found_run sm rd hin asc hm ne
              obtain ⟨zl, hzl⟩ := runI_snoc hlh
              have h0 : atI ((runI lo hi').map V.int) 0 = some (V.int lo) := by
                have := atI_nat (xs := (runI lo hi').map V.int) (j := 0) (by rw [List.getElem?_map, runI_first hlh] <;> rfl)
                exact this
              have h1 : atI ((runI lo hi').map V.int) (-1) = some (V.int hi') := by
                rw [hzl, List.map_append]
                exact atI_last _ _
              have hbd : 0 ≤ lo ∧ hi' ≤ 4 := by
                obtain ⟨⟨f, c1, e1⟩, ⟨g, c2, e2⟩, _⟩ := hrng
                have b1 := stock_bd drw c1 hi hn
                have b2 := stock_bd drw c2 hi hn
                omega
              have hgt : ((((runI lo hi').map V.int).length : Nat) : Int) > 0 := by
                rw [hzl, List.map_append, List.length_append]
                show ((((zl.map V.int).length + 1 : Nat)) : Int) > 0
                omega
              refine ⟨_, rfl, f0, _, rfl, .inl (SqL.of upd_same), _, _, rfl, rfl, true, ct hgt, iteT ?_⟩
              refine ⟨_, rfl, f0, _, _, _, rfl, rfl, SqL.of upd_same, h0, _, rfl, _, rfl, f0, _, _, _, rfl, rfl, SqL.of upd_same, h1, (by show 2 ≤ sizeLine; omega), fun tp htp => ?_⟩
              dsimp only [gName, List.set_cons_zero, List.set_cons_succ]
              have st := Same.new (o := .tup [V.int lo, V.int hi']) htp
              refine ⟨_, rfl, _, rfl, f0, _, _, _, rfl, rfl, SqL.of (st f0 _ upd_same), h0, _, rfl, _, rfl, f0, _, _, _, rfl, rfl, SqL.of (st f0 _ upd_same), h1, _, _, rfl, rfl, _, _, rfl, rfl, RgOk.of_le hbd.1 (by omega) (by omega) (by omega), fun lq hlq => ?_⟩
              have slq := Same.new (o := .lst (rgV lo (hi' + 1))) hlq
              refine ⟨_, _, dp_ints (ns := runI lo hi') (SqL.of (slq f0 _ (st f0 _ upd_same))), dp_ints (ns := runI lo hi') (by rw [runI_rgV]; exact SqL.of upd_same), shp_ints _, shp_ints _, false, ci (eqv_same (shp_ints _)), iteF ?_⟩
              have lkq := (lkf.grow st).grow slq
              have x4q := lkq.ext hsd
              refine ⟨_, rfl, _, rfl, _, rfl, _, rfl, _, rfl, _, rfl, _, _, rfl, rfl, mv, .ref sd, .ref da, .ref ea, n, i, P, S, R, E, rfl, Mono.mono x4q hP, Mono.mono x4q hS, sm, Mono.mono x4q hR, Mono.mono x4q hE, rd, hi, hn, fun H' s' no => absurd ⟨hrng.1.choose, hrng.1.choose_spec.1⟩ no, fun c H' lo2 hi2 s' hc hrg => ?_⟩
              obtain ⟨rfl, rfl⟩ := rng_uniq hrng hrg
              refine ⟨_, rfl, _, _, dp_pair (SqT.of hc), dp_pair (SqT.of (s' tp _ (slq tp _ upd_same))), shp_pair _ _, shp_pair _ _, false, ci (eqv_same (shp_pair _ _)), iteF ?_⟩
              exact ⟨lkq.grow s', _, _, _, _, rfl⟩
        · rintro σ G4 ⟨lk, _, _, _, _, rfl⟩
          refine ⟨lk.frz, fun G6 h6 hb6 => ?_⟩
          exact ⟨lk.done s2 h6 hb6, _, _, _, _, _, rfl⟩
    · rintro σ G ⟨sG, v4, b13, c14, d15, e16, rfl⟩
      dsimp only [gName, List.set_cons_zero, List.set_cons_succ]
      refine ⟨_, rfl, _, rfl, _, rfl, _, rfl, mv, .ref sd, .ref da, .ref ea, P, S, R, E, rfl, Mono.same sG hP, Mono.same sG hS, sm, Mono.same sG hR, Mono.same sG hE, rd, fun H' s' no => ?_, fun c H' f s' hco crs => ?_⟩
      · dsimp only [gName, List.set_cons_zero, List.set_cons_succ]
        have e : rows = [] := by
          cases rows with
          | nil => rfl
          | cons x r =>
            obtain ⟨f, c, _⟩ := (ri x).mp List.mem_cons_self
            exact absurd ⟨f, c⟩ no
        subst e
        have s4' := sG.trans s'
        refine ⟨_, rfl, true, rfl, ?_⟩
        refine iteT ?_
        refine ⟨_, rfl, ra, rxs, rfl, .inl (SqL.of (s4' ra _ hra)), rfl, ?_⟩
        rw [paired_len hrx]
        exact k _
      · dsimp only [gName, List.set_cons_zero, List.set_cons_succ]
        have s4' := sG.trans s'
        refine ⟨_, rfl, false, rfl, ?_⟩
        refine iteF ?_
        refine ⟨sd, sks, rd_same s4' hsd, fun od H1 h1 hb1 => ?_⟩
        have x1 : Ext _ H1 := Ext.lock (rd_same s4' hsd) h1 hb1
        have x4 := (Ext.of s4').trans x1
        have l3 := sm.len
        refine ⟨_, rfl, sd, od, rfl, .inl ⟨sks, h1, fun D hD => ?_⟩⟩
        refine lc_gen (A := rInt) (B := rStr) walk_keys (skeys S) (by unfold skeys; rw [List.length_map, paired_len hsk]) (by rw [paired_len hsk]; omega) hD (fun H8 s8 => s8 sd _ h1) (keys_y hsk) (fun _ => true) (beg0 S) ?_ ?_
        · rintro j b x H5 hb s8 rfl Ks Kc kt _
          obtain ⟨y, hy⟩ := rdg_in (List.mem_of_getElem? hb : b ∈ S.map (·.1))
          refine ⟨rfl, yesT (iteT ?_)⟩
          obtain ⟨v, hg, t, _, _, _, rfl, ht, rfl, rfl, rfl⟩ := get_in (H := H5) (d := sd) (.inr ⟨od, s8 sd _ h1⟩) (dpair_mono (x4.trans (Ext.of s8)) hsk) sm.snd (rdg_some hy)
          refine ⟨_, rfl, _, rfl, sd, _, rfl, hg, t, _, _, _, rfl, rfl, SqT.of ht, atI_nat (j := 0) rfl, ?_⟩
          refine kt _ _ (Same.refl _) ?_ rfl
          show V.int y.1 = V.int (beg0 S b)
          unfold beg0
          rw [hy]
          rfl
        · intro H5 ys s5 hD5 hp5
          rw [filt_true] at hp5
          have ey := ints_eq hp5
          subst ey
          refine ⟨s5 sd _ h1, fun H6 h6 hb6 => ?_⟩
          have s16 : Same _ H6 := Same.unlock hb1 s5 h6 hb6
          have s46 := s4'.trans s16
          have nDd : D ≠ sd := fun z => by rw [z, h1] at hD; cases hD
          have w0 : ((skeys S).map (beg0 S)).sum = (S.map fun r => r.2.1).sum := by
            rw [← whole sm crs 0 (Nat.zero_le _)]
            refine sum_congr fun k hk => ?_
            obtain ⟨y, hy⟩ := rdg_in hk
            rw [crs.beg k y hy]
            unfold beg0
            rw [hy]
            rfl
          refine ⟨D, (skeys S).map (beg0 S), rfl, SqL.of (by rw [hb6 D nDd]; exact hD5), ?_⟩
          rw [w0]
          dsimp only [gName, List.set_cons_zero, List.set_cons_succ]
          obtain ⟨_, dx, fs, fv, sv, e0, hc, hfv, hsv, ⟨fa, fxs, rfl, hfa, hfx⟩, ⟨ga, gxs, rfl, hga, hgx⟩⟩ := hco
          cases e0
          have hc6 := s16 c _ hc
          refine ⟨_, rfl, c, _, dx, fs, _, rfl, hc6, T.c_Course, T.f_Course_stocks, hsv, ga, rfl, ⟨_, SqL.of (s16 ga _ hga)⟩, for_it (walk_list (K := K)) (fun j σ G2 => Same H6 G2 ∧ ∃ e y, σ = [some (.ref a), some (.ref p), some mv, some (.ref ra), v4, some (.ref c), some (.int (S.map fun r => r.2.1).sum), e, none, some (.ref la), some (.ref sd), some (.ref da), some (.ref ea), b13, y, d15, e16, none, none])
            ⟨Same.refl _, _, _, rfl⟩ (fun j σ G2 _ h => SqL.of (h.1 ga _ (s16 ga _ hga))) ?_ ?_⟩
          · rintro j x σ G2 G3 hj ⟨s2, _, _, rfl⟩ ⟨rfl, hxj⟩
            obtain ⟨y, hyj, hy⟩ := paired_get' hgx hxj
            rw [List.getElem?_map] at hyj
            have hj' : j < R.length := by
              have h1 := paired_len hgx
              rw [List.length_map, List.length_range] at h1
              omega
            rw [List.getElem?_range hj'] at hyj
            cases hyj
            obtain ⟨ed, eks, rfl, hed, hek⟩ := Mono.same (s16.trans s2) hy
            replace hek : DPr rInt _ eks (eveD P S f (j + 1)) := hek
            dsimp only [gName, List.set_cons_zero, List.set_cons_succ]
            have s42 := s46.trans s2
            refine ⟨ed, eks, hed, fun od2 G4 h4 hb4 => ?_⟩
            have x4' : Ext _ G4 := Ext.lock hed h4 hb4
            refine ⟨_, rfl, ed, od2, rfl, .inl ⟨eks, h4, fun D2 hD2 => ?_⟩⟩
            have ekl : (eveD P S f (j + 1)).length = S.length := by
              unfold eveD kdict skeys
              rw [List.length_map, List.length_map]
            refine lc_gen (A := rInt) (B := rStr) walk_keys ((eveD P S f (j + 1)).map (·.1)) (by rw [List.length_map, paired_len hek]) (by rw [paired_len hek]; omega) hD2 (fun H8 s8 => s8 ed _ h4) (keys_y hek) (fun _ => true) (fun k => f (enm (j + 1) (ixs P.kn k))) ?_ ?_
            · rintro m b x H7 hb s8 rfl Ks Kc kt _
              have hbm : b ∈ skeys S := by
                have := List.mem_of_getElem? hb
                unfold eveD at this
                rw [kdict_keys] at this
                exact this
              refine ⟨rfl, yesT (iteT ?_)⟩
              obtain ⟨v, hg, rfl⟩ := get_in (H := H7) (d := ed) (.inr ⟨od2, s8 ed _ h4⟩) (dpair_mono (x4'.trans (Ext.of s8)) hek) (by unfold eveD; rw [kdict_keys]; exact sm.snd) (kdict_mem (f := fun k => f (enm (j + 1) (ixs P.kn k))) hbm)
              refine ⟨_, rfl, _, rfl, ed, _, rfl, hg, ?_⟩
              exact kt _ _ (Same.refl _) rfl rfl
            · intro H7 ys s7 hD7 hp7
              rw [filt_true] at hp7
              have ey := ints_eq hp7
              subst ey
              refine ⟨s7 ed _ h4, fun H8 h8 hb8 => ?_⟩
              have s28 : Same _ H8 := Same.unlock hb4 s7 h8 hb8
              have nD : D2 ≠ ed := fun z => by rw [z, h4] at hD2; cases hD2
              have wj : (((eveD P S f (j + 1)).map (·.1)).map fun k => f (enm (j + 1) (ixs P.kn k))).sum = (S.map fun r => r.2.1).sum := by
                rw [← whole sm crs (j + 1) (by omega)]
                unfold eveD
                rw [kdict_keys]
                rfl
              refine ⟨D2, ((eveD P S f (j + 1)).map (·.1)).map (fun k => f (enm (j + 1) (ixs P.kn k))), rfl, SqL.of (by rw [hb8 D2 nD]; exact hD7), ?_⟩
              rw [wj]
              refine ⟨_, rfl, rfl, false, ci (by simp), iteF ?_⟩
              exact ⟨s2.trans s28, _, _, rfl⟩
          · rintro σ G2 ⟨s2, e7, y14, rfl⟩
            dsimp only [gName, List.set_cons_zero, List.set_cons_succ]
            have s62 := s16.trans s2
            have s42 := s4'.trans s62
            refine ⟨_, rfl, c, _, dx, fs, _, rfl, s62 c _ hc, T.c_Course, T.f_Course_flows, hfv, _, rfl, fa, _, rfl, SqL.of (s62 fa _ hfa), fun p1 hp1 => ?_⟩
            have t1 := Same.new (o := .lst (cutV fxs none (some 1))) hp1
            refine ⟨_, rfl, c, _, dx, fs, _, rfl, t1 c _ (s62 c _ hc), T.c_Course, T.f_Course_stocks, hsv, _, rfl, ga, _, rfl, SqL.of (t1 ga _ (s62 ga _ hga)), fun p2 hp2 => ?_⟩
            have t2 := Same.new (o := .lst (cutV gxs none (some 1))) hp2
            refine fun x dxx hx hdn hne => ?_
            have sx := (Same.new (o := .own x) hdn).trans (Same.new (o := .ins T.C_Course dxx []) (by rw [upd_ne hne.symm]; exact hx))
            have t12 := t1.trans t2
            have one := drw.one
            have hle := drw.len
            have fl1 : rL (rD rInt) _ (.ref p1) (((List.range R.length).map fun d => dayD P f (d + 1)).take 1) := ⟨p1, _, rfl, sx p1 _ (t2 p1 _ upd_same), paired_cut (paired_mono (Ext.of ((s62.trans t12).trans sx)) hfx)⟩
            have sl1 : rL (rD rInt) _ (.ref p2) (((List.range R.length).map fun d => eveD P S f (d + 1)).take 1) := ⟨p2, _, rfl, sx p2 _ upd_same, paired_cut (paired_mono (Ext.of ((s62.trans t12).trans sx)) hgx)⟩
            refine ⟨x, dxx, .ref p1, .ref p2, _, _, rfl, upd_same, fl1, sl1, (by rw [List.length_take]; omega), (by rw [List.length_take]; omega), fun H9 hco hold => ⟨rfl, ?_⟩⟩
            have s29 : Same _ H9 := fun b o e1 => by
              refine hold b o ?_ (sx b o e1)
              intro z
              subst z
              rw [hx] at e1
              cases e1
            have s49 := (s46.trans s2).trans (t12.trans s29)
            dsimp only [gName, List.set_cons_zero, List.set_cons_succ]
            refine ⟨_, rfl, _, rfl, _, rfl, _, rfl, da, _, rfl, SqL.of (s49 da _ hda), fun p3 hp3 => ?_⟩
            have t3 := Same.new (o := .lst (cutV dxs none (some 1))) hp3
            refine ⟨_, rfl, _, rfl, ea, _, rfl, SqL.of (t3 ea _ (s49 ea _ hea)), fun p4 hp4 => ?_⟩
            have t4 := Same.new (o := .lst (cutV exs none (some 1))) hp4
            have t34 := t3.trans t4
            have s4e := s49.trans t34
            have hd1 : ∀ d, d < (R.take 1).length → d = 0 := fun d h => by
              rw [List.length_take] at h
              omega
            refine ⟨_, rfl, mv, .ref sd, .ref p3, .ref p4, .ref x, P, S, R.take 1, E.take 1, f, _, _, rfl, Mono.same s4e hP, Mono.same s4e hS, sm,
              ⟨p3, _, rfl, t4 p3 _ upd_same, paired_cut (paired_mono (Ext.of s4e) hdx)⟩, ⟨p4, _, rfl, upd_same, paired_cut (paired_mono (Ext.of s4e) hex)⟩,
              ⟨fun y hy => rd.r y (List.mem_of_mem_take hy), fun y hy => rd.e y (List.mem_of_mem_take hy), by rw [List.length_take, List.length_take]; omega, by rw [List.length_take]; omega⟩, Mono.same t34 hco, fun d hd => ?_, first_of hle one crs, fun v H' s' hv => ?_⟩
            · rw [hd1 d hd, List.getElem?_take_of_lt (by decide), List.getElem?_take_of_lt (by decide), List.getElem?_map, List.getElem?_map, List.getElem?_range (by omega)]
              exact ⟨rfl, rfl⟩
            · cases hv
              exact ⟨true, true, rfl, rfl, k _⟩
end
end Mx

set_option Elab.async false
set_option linter.all false
set_option maxRecDepth 100000
set_option maxHeartbeats 0
/-! The end. Printed by head.py. -/
namespace Mx
open PySem PySem.Spec PyProof.Rows L2 Hd
theorem tx_of {K : PySem.W.Frag} {h : Heap} {mg : Str → Option Value} (X : K.In h) (G : h.Ns mainGlobals mg) (c0 : obG fas fns gts K = vlG fns gts) : Nonempty (Tx K mg) := by
  have c : He.SaysD fas fns K := congrArg (fun z : AlG => z.1) c0
  obtain ⟨d_is_name, F_is_name⟩ := c.def_ 0 (d := dd_is_name) rfl
  obtain ⟨d_are_names, F_are_names⟩ := c.def_ 1 (d := dd_are_names) rfl
  obtain ⟨d_is_stream, F_is_stream⟩ := c.def_ 2 (d := dd_is_stream) rfl
  obtain ⟨d_Plant_init, F_Plant_init⟩ := c.def_ 3 (d := dd_Plant_init) rfl
  obtain ⟨⟨d_Plant_knots, F_Plant_knots⟩, p_Plant_knots⟩ := gt_all c0 0 (g := gg_Plant_knots) rfl
  obtain ⟨⟨d_Plant_streams, F_Plant_streams⟩, p_Plant_streams⟩ := gt_all c0 1 (g := gg_Plant_streams) rfl
  obtain ⟨d_Plant_stream_names, F_Plant_stream_names⟩ := c.def_ 4 (d := dd_Plant_stream_names) rfl
  obtain ⟨d_Plant_stream_named, F_Plant_stream_named⟩ := c.def_ 5 (d := dd_Plant_stream_named) rfl
  obtain ⟨d_Plant_check_knot, F_Plant_check_knot⟩ := c.def_ 6 (d := dd_Plant_check_knot) rfl
  obtain ⟨d_check_flows, F_check_flows⟩ := c.def_ 7 (d := dd_check_flows) rfl
  obtain ⟨d_lacks, F_lacks⟩ := c.def_ 8 (d := dd_lacks) rfl
  obtain ⟨d_is_balanced, F_is_balanced⟩ := c.def_ 9 (d := dd_is_balanced) rfl
  obtain ⟨d_lines_of, F_lines_of⟩ := c.def_ 10 (d := dd_lines_of) rfl
  obtain ⟨d_arcs_of, F_arcs_of⟩ := c.def_ 11 (d := dd_arcs_of) rfl
  obtain ⟨d_way_between, F_way_between⟩ := c.def_ 12 (d := dd_way_between) rfl
  obtain ⟨d_way_back, F_way_back⟩ := c.def_ 13 (d := dd_way_back) rfl
  obtain ⟨d_push, F_push⟩ := c.def_ 14 (d := dd_push) rfl
  obtain ⟨d_push_all, F_push_all⟩ := c.def_ 15 (d := dd_push_all) rfl
  obtain ⟨d_leading_to, F_leading_to⟩ := c.def_ 16 (d := dd_leading_to) rfl
  obtain ⟨d_led_from, F_led_from⟩ := c.def_ 17 (d := dd_led_from) rfl
  obtain ⟨d_come_to, F_come_to⟩ := c.def_ 18 (d := dd_come_to) rfl
  obtain ⟨d_Missing_init, F_Missing_init⟩ := c.def_ 19 (d := dd_Missing_init) rfl
  obtain ⟨d_check_limits, F_check_limits⟩ := c.def_ 20 (d := dd_check_limits) rfl
  obtain ⟨d_crossed, F_crossed⟩ := c.def_ 21 (d := dd_crossed) rfl
  obtain ⟨d_missing_of, F_missing_of⟩ := c.def_ 22 (d := dd_missing_of) rfl
  obtain ⟨d_least_missing, F_least_missing⟩ := c.def_ 23 (d := dd_least_missing) rfl
  obtain ⟨d_check_readings, F_check_readings⟩ := c.def_ 24 (d := dd_check_readings) rfl
  obtain ⟨d_limits_of, F_limits_of⟩ := c.def_ 25 (d := dd_limits_of) rfl
  obtain ⟨d_do_agree, F_do_agree⟩ := c.def_ 26 (d := dd_do_agree) rfl
  obtain ⟨d_flows_within, F_flows_within⟩ := c.def_ 27 (d := dd_flows_within) rfl
  obtain ⟨d_flows_of, F_flows_of⟩ := c.def_ 28 (d := dd_flows_of) rfl
  obtain ⟨d_Range_init, F_Range_init⟩ := c.def_ 29 (d := dd_Range_init) rfl
  obtain ⟨d_pushed_to, F_pushed_to⟩ := c.def_ 30 (d := dd_pushed_to) rfl
  obtain ⟨d_range_within, F_range_within⟩ := c.def_ 31 (d := dd_range_within) rfl
  obtain ⟨d_range_of, F_range_of⟩ := c.def_ 32 (d := dd_range_of) rfl
  obtain ⟨d_Course_init, F_Course_init⟩ := c.def_ 33 (d := dd_Course_init) rfl
  obtain ⟨d_check_days, F_check_days⟩ := c.def_ 34 (d := dd_check_days) rfl
  obtain ⟨d_check_all, F_check_all⟩ := c.def_ 35 (d := dd_check_all) rfl
  obtain ⟨d_day_name, F_day_name⟩ := c.def_ 36 (d := dd_day_name) rfl
  obtain ⟨d_evening_name, F_evening_name⟩ := c.def_ 37 (d := dd_evening_name) rfl
  obtain ⟨d_knot_name, F_knot_name⟩ := c.def_ 38 (d := dd_knot_name) rfl
  obtain ⟨d_laid_out, F_laid_out⟩ := c.def_ 39 (d := dd_laid_out) rfl
  obtain ⟨d_laid_readings, F_laid_readings⟩ := c.def_ 40 (d := dd_laid_readings) rfl
  obtain ⟨d_course, F_course⟩ := c.def_ 41 (d := dd_course) rfl
  obtain ⟨d_is_course, F_is_course⟩ := c.def_ 42 (d := dd_is_course) rfl
  obtain ⟨d_range_named, F_range_named⟩ := c.def_ 43 (d := dd_range_named) rfl
  obtain ⟨d_day_range, F_day_range⟩ := c.def_ 44 (d := dd_day_range) rfl
  obtain ⟨d_stock_range, F_stock_range⟩ := c.def_ 45 (d := dd_stock_range) rfl
  obtain ⟨d__law_row, F__law_row⟩ := c.def_ 46 (d := dd__law_row) rfl
  obtain ⟨d__law_numbers, F__law_numbers⟩ := c.def_ 47 (d := dd__law_numbers) rfl
  obtain ⟨d__law_names, F__law_names⟩ := c.def_ 48 (d := dd__law_names) rfl
  obtain ⟨d__law_plant, F__law_plant⟩ := c.def_ 49 (d := dd__law_plant) rfl
  obtain ⟨d__law_made, F__law_made⟩ := c.def_ 50 (d := dd__law_made) rfl
  obtain ⟨d__law_limits, F__law_limits⟩ := c.def_ 51 (d := dd__law_limits) rfl
  obtain ⟨d__law_readings, F__law_readings⟩ := c.def_ 52 (d := dd__law_readings) rfl
  obtain ⟨d__law_stores, F__law_stores⟩ := c.def_ 53 (d := dd__law_stores) rfl
  obtain ⟨d__law_courses, F__law_courses⟩ := c.def_ 54 (d := dd__law_courses) rfl
  obtain ⟨d__law_rows_of, F__law_rows_of⟩ := c.def_ 55 (d := dd__law_rows_of) rfl
  obtain ⟨d__law_evening, F__law_evening⟩ := c.def_ 56 (d := dd__law_evening) rfl
  obtain ⟨d__law_fits, F__law_fits⟩ := c.def_ 57 (d := dd__law_fits) rfl
  obtain ⟨d__law_small, F__law_small⟩ := c.def_ 58 (d := dd__law_small) rfl
  obtain ⟨d_law, F_law⟩ := c.def_ 59 (d := dd_law) rfl
  exact ⟨{
    a_is_name := _
    d_is_name := d_is_name
    F_is_name := F_is_name
    m_is_name := He.glo_ok X G (c.fact 0 (f := .glo "is_name") rfl)
    a_are_names := _
    d_are_names := d_are_names
    F_are_names := F_are_names
    m_are_names := He.glo_ok X G (c.fact 1 (f := .glo "are_names") rfl)
    a_is_stream := _
    d_is_stream := d_is_stream
    F_is_stream := F_is_stream
    m_is_stream := He.glo_ok X G (c.fact 2 (f := .glo "is_stream") rfl)
    a_Plant_init := _
    d_Plant_init := d_Plant_init
    F_Plant_init := F_Plant_init
    a_Plant_knots := _
    d_Plant_knots := d_Plant_knots
    F_Plant_knots := F_Plant_knots
    q_Plant_knots := _
    p_Plant_knots := p_Plant_knots
    a_Plant_streams := _
    d_Plant_streams := d_Plant_streams
    F_Plant_streams := F_Plant_streams
    q_Plant_streams := _
    p_Plant_streams := p_Plant_streams
    a_Plant_stream_names := _
    d_Plant_stream_names := d_Plant_stream_names
    F_Plant_stream_names := F_Plant_stream_names
    a_Plant_stream_named := _
    d_Plant_stream_named := d_Plant_stream_named
    F_Plant_stream_named := F_Plant_stream_named
    a_Plant_check_knot := _
    d_Plant_check_knot := d_Plant_check_knot
    F_Plant_check_knot := F_Plant_check_knot
    a_check_flows := _
    d_check_flows := d_check_flows
    F_check_flows := F_check_flows
    m_check_flows := He.glo_ok X G (c.fact 3 (f := .glo "check_flows") rfl)
    a_lacks := _
    d_lacks := d_lacks
    F_lacks := F_lacks
    m_lacks := He.glo_ok X G (c.fact 4 (f := .glo "lacks") rfl)
    a_is_balanced := _
    d_is_balanced := d_is_balanced
    F_is_balanced := F_is_balanced
    m_is_balanced := He.glo_ok X G (c.fact 5 (f := .glo "is_balanced") rfl)
    a_lines_of := _
    d_lines_of := d_lines_of
    F_lines_of := F_lines_of
    m_lines_of := He.glo_ok X G (c.fact 6 (f := .glo "lines_of") rfl)
    a_arcs_of := _
    d_arcs_of := d_arcs_of
    F_arcs_of := F_arcs_of
    m_arcs_of := He.glo_ok X G (c.fact 7 (f := .glo "arcs_of") rfl)
    a_way_between := _
    d_way_between := d_way_between
    F_way_between := F_way_between
    m_way_between := He.glo_ok X G (c.fact 8 (f := .glo "way_between") rfl)
    a_way_back := _
    d_way_back := d_way_back
    F_way_back := F_way_back
    m_way_back := He.glo_ok X G (c.fact 9 (f := .glo "way_back") rfl)
    a_push := _
    d_push := d_push
    F_push := F_push
    m_push := He.glo_ok X G (c.fact 10 (f := .glo "push") rfl)
    a_push_all := _
    d_push_all := d_push_all
    F_push_all := F_push_all
    m_push_all := He.glo_ok X G (c.fact 11 (f := .glo "push_all") rfl)
    a_leading_to := _
    d_leading_to := d_leading_to
    F_leading_to := F_leading_to
    m_leading_to := He.glo_ok X G (c.fact 12 (f := .glo "leading_to") rfl)
    a_led_from := _
    d_led_from := d_led_from
    F_led_from := F_led_from
    m_led_from := He.glo_ok X G (c.fact 13 (f := .glo "led_from") rfl)
    a_come_to := _
    d_come_to := d_come_to
    F_come_to := F_come_to
    m_come_to := He.glo_ok X G (c.fact 14 (f := .glo "come_to") rfl)
    a_Missing_init := _
    d_Missing_init := d_Missing_init
    F_Missing_init := F_Missing_init
    a_check_limits := _
    d_check_limits := d_check_limits
    F_check_limits := F_check_limits
    m_check_limits := He.glo_ok X G (c.fact 15 (f := .glo "check_limits") rfl)
    a_crossed := _
    d_crossed := d_crossed
    F_crossed := F_crossed
    m_crossed := He.glo_ok X G (c.fact 16 (f := .glo "crossed") rfl)
    a_missing_of := _
    d_missing_of := d_missing_of
    F_missing_of := F_missing_of
    m_missing_of := He.glo_ok X G (c.fact 17 (f := .glo "missing_of") rfl)
    a_least_missing := _
    d_least_missing := d_least_missing
    F_least_missing := F_least_missing
    m_least_missing := He.glo_ok X G (c.fact 18 (f := .glo "least_missing") rfl)
    a_check_readings := _
    d_check_readings := d_check_readings
    F_check_readings := F_check_readings
    m_check_readings := He.glo_ok X G (c.fact 19 (f := .glo "check_readings") rfl)
    a_limits_of := _
    d_limits_of := d_limits_of
    F_limits_of := F_limits_of
    m_limits_of := He.glo_ok X G (c.fact 20 (f := .glo "limits_of") rfl)
    a_do_agree := _
    d_do_agree := d_do_agree
    F_do_agree := F_do_agree
    m_do_agree := He.glo_ok X G (c.fact 21 (f := .glo "do_agree") rfl)
    a_flows_within := _
    d_flows_within := d_flows_within
    F_flows_within := F_flows_within
    m_flows_within := He.glo_ok X G (c.fact 22 (f := .glo "flows_within") rfl)
    a_flows_of := _
    d_flows_of := d_flows_of
    F_flows_of := F_flows_of
    m_flows_of := He.glo_ok X G (c.fact 23 (f := .glo "flows_of") rfl)
    a_Range_init := _
    d_Range_init := d_Range_init
    F_Range_init := F_Range_init
    a_pushed_to := _
    d_pushed_to := d_pushed_to
    F_pushed_to := F_pushed_to
    m_pushed_to := He.glo_ok X G (c.fact 24 (f := .glo "pushed_to") rfl)
    a_range_within := _
    d_range_within := d_range_within
    F_range_within := F_range_within
    m_range_within := He.glo_ok X G (c.fact 25 (f := .glo "range_within") rfl)
    a_range_of := _
    d_range_of := d_range_of
    F_range_of := F_range_of
    m_range_of := He.glo_ok X G (c.fact 26 (f := .glo "range_of") rfl)
    a_Course_init := _
    d_Course_init := d_Course_init
    F_Course_init := F_Course_init
    a_check_days := _
    d_check_days := d_check_days
    F_check_days := F_check_days
    m_check_days := He.glo_ok X G (c.fact 27 (f := .glo "check_days") rfl)
    a_check_all := _
    d_check_all := d_check_all
    F_check_all := F_check_all
    m_check_all := He.glo_ok X G (c.fact 28 (f := .glo "check_all") rfl)
    a_day_name := _
    d_day_name := d_day_name
    F_day_name := F_day_name
    m_day_name := He.glo_ok X G (c.fact 29 (f := .glo "day_name") rfl)
    a_evening_name := _
    d_evening_name := d_evening_name
    F_evening_name := F_evening_name
    m_evening_name := He.glo_ok X G (c.fact 30 (f := .glo "evening_name") rfl)
    a_knot_name := _
    d_knot_name := d_knot_name
    F_knot_name := F_knot_name
    m_knot_name := He.glo_ok X G (c.fact 31 (f := .glo "knot_name") rfl)
    a_laid_out := _
    d_laid_out := d_laid_out
    F_laid_out := F_laid_out
    m_laid_out := He.glo_ok X G (c.fact 32 (f := .glo "laid_out") rfl)
    a_laid_readings := _
    d_laid_readings := d_laid_readings
    F_laid_readings := F_laid_readings
    m_laid_readings := He.glo_ok X G (c.fact 33 (f := .glo "laid_readings") rfl)
    a_course := _
    d_course := d_course
    F_course := F_course
    m_course := He.glo_ok X G (c.fact 34 (f := .glo "course") rfl)
    a_is_course := _
    d_is_course := d_is_course
    F_is_course := F_is_course
    m_is_course := He.glo_ok X G (c.fact 35 (f := .glo "is_course") rfl)
    a_range_named := _
    d_range_named := d_range_named
    F_range_named := F_range_named
    m_range_named := He.glo_ok X G (c.fact 36 (f := .glo "range_named") rfl)
    a_day_range := _
    d_day_range := d_day_range
    F_day_range := F_day_range
    m_day_range := He.glo_ok X G (c.fact 37 (f := .glo "day_range") rfl)
    a_stock_range := _
    d_stock_range := d_stock_range
    F_stock_range := F_stock_range
    m_stock_range := He.glo_ok X G (c.fact 38 (f := .glo "stock_range") rfl)
    a__law_row := _
    d__law_row := d__law_row
    F__law_row := F__law_row
    m__law_row := He.glo_ok X G (c.fact 39 (f := .glo "_law_row") rfl)
    a__law_numbers := _
    d__law_numbers := d__law_numbers
    F__law_numbers := F__law_numbers
    m__law_numbers := He.glo_ok X G (c.fact 40 (f := .glo "_law_numbers") rfl)
    a__law_names := _
    d__law_names := d__law_names
    F__law_names := F__law_names
    m__law_names := He.glo_ok X G (c.fact 41 (f := .glo "_law_names") rfl)
    a__law_plant := _
    d__law_plant := d__law_plant
    F__law_plant := F__law_plant
    m__law_plant := He.glo_ok X G (c.fact 42 (f := .glo "_law_plant") rfl)
    a__law_made := _
    d__law_made := d__law_made
    F__law_made := F__law_made
    m__law_made := He.glo_ok X G (c.fact 43 (f := .glo "_law_made") rfl)
    a__law_limits := _
    d__law_limits := d__law_limits
    F__law_limits := F__law_limits
    m__law_limits := He.glo_ok X G (c.fact 44 (f := .glo "_law_limits") rfl)
    a__law_readings := _
    d__law_readings := d__law_readings
    F__law_readings := F__law_readings
    m__law_readings := He.glo_ok X G (c.fact 45 (f := .glo "_law_readings") rfl)
    a__law_stores := _
    d__law_stores := d__law_stores
    F__law_stores := F__law_stores
    m__law_stores := He.glo_ok X G (c.fact 46 (f := .glo "_law_stores") rfl)
    a__law_courses := _
    d__law_courses := d__law_courses
    F__law_courses := F__law_courses
    m__law_courses := He.glo_ok X G (c.fact 47 (f := .glo "_law_courses") rfl)
    a__law_rows_of := _
    d__law_rows_of := d__law_rows_of
    F__law_rows_of := F__law_rows_of
    m__law_rows_of := He.glo_ok X G (c.fact 48 (f := .glo "_law_rows_of") rfl)
    a__law_evening := _
    d__law_evening := d__law_evening
    F__law_evening := F__law_evening
    m__law_evening := He.glo_ok X G (c.fact 49 (f := .glo "_law_evening") rfl)
    a__law_fits := _
    d__law_fits := d__law_fits
    F__law_fits := F__law_fits
    m__law_fits := He.glo_ok X G (c.fact 50 (f := .glo "_law_fits") rfl)
    a__law_small := _
    d__law_small := d__law_small
    F__law_small := F__law_small
    m__law_small := He.glo_ok X G (c.fact 51 (f := .glo "_law_small") rfl)
    a_law := _
    d_law := d_law
    F_law := F_law
    m_law := He.glo_ok X G (c.fact 52 (f := .glo "law") rfl)
    C_Plant := _
    m_Plant := He.glo_ok X G (c.fact 53 (f := .glo "Plant") rfl)
    c_Plant := He.cls_ok (c.fact 54 (f := .cls "Plant") rfl)
    k_Plant := He.mkr_ok (c.fact 55 (f := .mkr "Plant") rfl)
    f_Plant__knots := He.noat_ok (c.fact 56 (f := .noat "Plant" "_knots") rfl)
    f_Plant__streams := He.noat_ok (c.fact 57 (f := .noat "Plant" "_streams") rfl)
    C_Missing := _
    m_Missing := He.glo_ok X G (c.fact 58 (f := .glo "Missing") rfl)
    c_Missing := He.cls_ok (c.fact 59 (f := .cls "Missing") rfl)
    k_Missing := He.mkr_ok (c.fact 60 (f := .mkr "Missing") rfl)
    f_Missing_number := He.noat_ok (c.fact 61 (f := .noat "Missing" "number") rfl)
    f_Missing_flows := He.noat_ok (c.fact 62 (f := .noat "Missing" "flows") rfl)
    f_Missing_least := He.noat_ok (c.fact 63 (f := .noat "Missing" "least") rfl)
    f_Missing_greatest := He.noat_ok (c.fact 64 (f := .noat "Missing" "greatest") rfl)
    C_Range := _
    m_Range := He.glo_ok X G (c.fact 65 (f := .glo "Range") rfl)
    c_Range := He.cls_ok (c.fact 66 (f := .cls "Range") rfl)
    k_Range := He.mkr_ok (c.fact 67 (f := .mkr "Range") rfl)
    f_Range_low := He.noat_ok (c.fact 68 (f := .noat "Range" "low") rfl)
    f_Range_high := He.noat_ok (c.fact 69 (f := .noat "Range" "high") rfl)
    f_Range_low_flows := He.noat_ok (c.fact 70 (f := .noat "Range" "low_flows") rfl)
    f_Range_high_flows := He.noat_ok (c.fact 71 (f := .noat "Range" "high_flows") rfl)
    f_Range_low_lot := He.noat_ok (c.fact 72 (f := .noat "Range" "low_lot") rfl)
    f_Range_high_lot := He.noat_ok (c.fact 73 (f := .noat "Range" "high_lot") rfl)
    C_Course := _
    m_Course := He.glo_ok X G (c.fact 74 (f := .glo "Course") rfl)
    c_Course := He.cls_ok (c.fact 75 (f := .cls "Course") rfl)
    k_Course := He.mkr_ok (c.fact 76 (f := .mkr "Course") rfl)
    f_Course_flows := He.noat_ok (c.fact 77 (f := .noat "Course" "flows") rfl)
    f_Course_stocks := He.noat_ok (c.fact 78 (f := .noat "Course" "stocks") rfl)
    h_Plant_stream_names := He.meth_ok (c.fact 79 (f := .meth "Plant" "stream_names") rfl)
    h_Plant_stream_named := He.meth_ok (c.fact 80 (f := .meth "Plant" "stream_named") rfl)
    h_Plant_check_knot := He.meth_ok (c.fact 81 (f := .meth "Plant" "check_knot") rfl)
    g_LETTERS := He.str_ok X G (c.fact 82 (f := .str "LETTERS" letters) rfl)
    g_MOST_FLOW := He.int_ok X G (c.fact 83 (f := .int "MOST_FLOW" 1000000) rfl)
    g_MOST_KNOTS := He.int_ok X G (c.fact 84 (f := .int "MOST_KNOTS" 24) rfl)
    g_MOST_STREAMS := He.int_ok X G (c.fact 85 (f := .int "MOST_STREAMS" 60) rfl)
    g_ENDS := He.str_ok X G (c.fact 86 (f := .str "ENDS" "ends") rfl)
    n_len := He.free_ok X G (c.fact 87 (f := .free "len") rfl)
    n_all := He.free_ok X G (c.fact 88 (f := .free "all") rfl)
    n_any := He.free_ok X G (c.fact 89 (f := .free "any") rfl)
    n_sum := He.free_ok X G (c.fact 90 (f := .free "sum") rfl)
    n_abs := He.free_ok X G (c.fact 91 (f := .free "abs") rfl)
    n_min := He.free_ok X G (c.fact 92 (f := .free "min") rfl)
    n_max := He.free_ok X G (c.fact 93 (f := .free "max") rfl)
    n_int := He.free_ok X G (c.fact 94 (f := .free "int") rfl)
    n_sorted := He.free_ok X G (c.fact 95 (f := .free "sorted") rfl)
    n_set := He.free_ok X G (c.fact 96 (f := .free "set") rfl)
    n_list := He.free_ok X G (c.fact 97 (f := .free "list") rfl)
    n_dict := He.free_ok X G (c.fact 98 (f := .free "dict") rfl)
    n_range := He.free_ok X G (c.fact 99 (f := .free "range") rfl)
    n_enumerate := He.free_ok X G (c.fact 100 (f := .free "enumerate") rfl)
    n_zip := He.free_ok X G (c.fact 101 (f := .free "zip") rfl) }⟩
end Mx
open PySem PySem.W PySem.Calls PyProof.Rows
theorem PySem.Challenge.cw_metersure_k84_whole_ranges_over_days_holds : PySem.Challenge.rw_metersure_k84_whole_ranges_over_days.Holds := by
  refine Hd.head0 (L2.walk_ofE (l := PySem.Challenge.rw_metersure_k84_whole_ranges_over_days) (n := 63) (k := 12) (x := "_law_script") (CX := L2.CX0) rfl (by decide) Hd.law_df ⟨rfl, by decide, by decide⟩ ?F (fun _ _ _ _ z => z))
  intro w mg fa h Y G top0
  obtain ⟨K, KX, c⟩ := Y
  rw [Hd.law_nm] at top0
  obtain ⟨T⟩ := Mx.tx_of KX G c
  have e := top0.symm.trans T.m_law
  cases e
  have b := L2.FunD.bindsA (ps := ["_law_script"]) T.F_law fun _ _ _ _ _ _ us hl => match us, hl with | [_], _ => rfl
  exact ⟨K, T.d_law, Mx.sp_law K, KX, fun s v => b s [v] rfl, fun H a ns hl _ hS => ⟨a, ns, rfl, hS, hl, fun _ => rfl⟩, fun base _ _ => Mx.ok_law T⟩

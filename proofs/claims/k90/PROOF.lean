import PyProof.Rows.All
import Wide.All
import OpenK.AllK
import Wide.FinOn
import HandS.ForMost
import HandS.Wide
import HandS.WideBits
import HandS.Defaults
import HandS.IsInst
import HandS.TupMul
import HandS.Style
import HandS.Codes
import HandS.Walk
import HandS.Zip
import KE.GoesZip
import HandS.ClsMeth
import KE.GoesEnum
import HandS.HeadHook4
import PySem.Challenge.RW_noughtcut_k90_whole_one_in_gone_through
import KE.KBits
import KE.OsArith
import KE.KStateDown
import HandS.Head0
import HandS.Head1
import HandS.Head2
import HandS.HeadEnd
import HandS.HeadHook1
import HandS.HeadHook2
set_option Elab.async false
set_option linter.all false
set_option autoImplicit false
set_option maxRecDepth 100000
set_option maxHeartbeats 4000000
/-! printed by genO.py: the defs, what the head must tell. -/
namespace NC
open PySem PySem.Spec PyProof.Rows L2
def top (i : Nat) : Stmt := PySem.Challenge.pw_noughtcut_k90_whole_one_in_gone_through.main.body.getD i (.Pass ⟨0, 0, 0, 0⟩)
abbrev dd_is_whole : He.DefD := ⟨("is_whole", none), "is_whole", "is_whole", defArgs (top 16), defBody (top 16), defScope (top 16), [], []⟩
abbrev dd_common_part : He.DefD := ⟨("common_part", none), "common_part", "common_part", defArgs (top 17), defBody (top 17), defScope (top 17), [], []⟩
abbrev dd_is_fraction : He.DefD := ⟨("is_fraction", none), "is_fraction", "is_fraction", defArgs (top 18), defBody (top 18), defScope (top 18), [], []⟩
abbrev dd_is_row : He.DefD := ⟨("is_row", none), "is_row", "is_row", defArgs (top 19), defBody (top 19), defScope (top 19), [], []⟩
abbrev dd_fraction_of : He.DefD := ⟨("fraction_of", none), "fraction_of", "fraction_of", defArgs (top 20), defBody (top 20), defScope (top 20), [], []⟩
abbrev dd_plus : He.DefD := ⟨("plus", none), "plus", "plus", defArgs (top 21), defBody (top 21), defScope (top 21), [], []⟩
abbrev dd_minus : He.DefD := ⟨("minus", none), "minus", "minus", defArgs (top 22), defBody (top 22), defScope (top 22), [], []⟩
abbrev dd_times : He.DefD := ⟨("times", none), "times", "times", defArgs (top 23), defBody (top 23), defScope (top 23), [], []⟩
abbrev dd_is_less : He.DefD := ⟨("is_less", none), "is_less", "is_less", defArgs (top 24), defBody (top 24), defScope (top 24), [], []⟩
abbrev dd_weigh : He.DefD := ⟨("weigh", none), "weigh", "weigh", defArgs (top 25), defBody (top 25), defScope (top 25), [], []⟩
abbrev dd_is_stretch : He.DefD := ⟨("is_stretch", none), "is_stretch", "is_stretch", defArgs (top 28), defBody (top 28), defScope (top 28), [], []⟩
abbrev dd_is_box : He.DefD := ⟨("is_box", none), "is_box", "is_box", defArgs (top 29), defBody (top 29), defScope (top 29), [], []⟩
abbrev dd_need_box_boxes : He.DefD := ⟨("need_box_boxes", none), "need_box", "need_box", defArgs (top 30), defBody (top 30), defScope (top 30), [], []⟩
abbrev dd_is_over : He.DefD := ⟨("is_over", none), "is_over", "is_over", defArgs (top 32), defBody (top 32), defScope (top 32), [], []⟩
abbrev dd_lies_in : He.DefD := ⟨("lies_in", none), "lies_in", "lies_in", defArgs (top 33), defBody (top 33), defScope (top 33), [], []⟩
abbrev dd_is_in : He.DefD := ⟨("is_in", none), "is_in", "is_in", defArgs (top 34), defBody (top 34), defScope (top 34), [], []⟩
abbrev dd_single_row : He.DefD := ⟨("single_row", none), "single_row", "single_row", defArgs (top 35), defBody (top 35), defScope (top 35), [], []⟩
abbrev dd_box_wishes : He.DefD := ⟨("box_wishes", none), "box_wishes", "box_wishes", defArgs (top 36), defBody (top 36), defScope (top 36), [], []⟩
abbrev dd_need_box_handing : He.DefD := ⟨("need_box_handing", none), "need_box", "need_box", defArgs (top 39), defBody (top 39), defScope (top 39), [], []⟩
abbrev dd_sum_at : He.DefD := ⟨("sum_at", none), "sum_at", "sum_at", defArgs (top 44), defBody (top 44), defScope (top 44), [], []⟩
abbrev dd_sum_plus : He.DefD := ⟨("sum_plus", none), "sum_plus", "sum_plus", defArgs (top 45), defBody (top 45), defScope (top 45), [], []⟩
abbrev dd_sum_times : He.DefD := ⟨("sum_times", none), "sum_times", "sum_times", defArgs (top 46), defBody (top 46), defScope (top 46), [], []⟩
abbrev dd_flat_sum : He.DefD := ⟨("flat_sum", none), "flat_sum", "flat_sum", defArgs (top 47), defBody (top 47), defScope (top 47), [], []⟩
abbrev dd_place_sum : He.DefD := ⟨("place_sum", none), "place_sum", "place_sum", defArgs (top 48), defBody (top 48), defScope (top 48), [], []⟩
abbrev dd_Layer_init : He.DefD := ⟨("Layer", some "__init__"), "__init__", "Layer.__init__", defArgs (inClass (top 50) 0), defBody (inClass (top 50) 0), defScope (inClass (top 50) 0), [], []⟩
abbrev dd_Layer_told : He.DefD := ⟨("Layer", some "told"), "told", "Layer.told", defArgs (inClass (top 50) 1), defBody (inClass (top 50) 1), defScope (inClass (top 50) 1), [], []⟩
abbrev dd_Layer_sums : He.DefD := ⟨("Layer", some "sums"), "sums", "Layer.sums", defArgs (inClass (top 50) 2), defBody (inClass (top 50) 2), defScope (inClass (top 50) 2), [], []⟩
abbrev dd_Layer_passed : He.DefD := ⟨("Layer", some "passed"), "passed", "Layer.passed", defArgs (inClass (top 50) 3), defBody (inClass (top 50) 3), defScope (inClass (top 50) 3), [], []⟩
abbrev dd_CutLayer_passed : He.DefD := ⟨("CutLayer", some "passed"), "passed", "CutLayer.passed", defArgs (inClass (top 51) 0), defBody (inClass (top 51) 0), defScope (inClass (top 51) 0), [], []⟩
abbrev dd_is_between : He.DefD := ⟨("is_between", none), "is_between", "is_between", defArgs (top 56), defBody (top 56), defScope (top 56), [], []⟩
abbrev dd_is_sum : He.DefD := ⟨("is_sum", none), "is_sum", "is_sum", defArgs (top 57), defBody (top 57), defScope (top 57), [], []⟩
abbrev dd_is_some : He.DefD := ⟨("is_some", none), "is_some", "is_some", defArgs (top 58), defBody (top 58), defScope (top 58), [], []⟩
abbrev dd_are_layers : He.DefD := ⟨("are_layers", none), "are_layers", "are_layers", defArgs (top 59), defBody (top 59), defScope (top 59), [], []⟩
abbrev dd_Net_init : He.DefD := ⟨("Net", some "__init__"), "__init__", "Net.__init__", defArgs (inClass (top 60) 0), defBody (inClass (top 60) 0), defScope (inClass (top 60) 0), [], []⟩
abbrev dd_Net_ins : He.DefD := ⟨("Net", some "ins"), "ins", "Net.ins", defArgs (inClass (top 60) 1), defBody (inClass (top 60) 1), defScope (inClass (top 60) 1), [], []⟩
abbrev dd_Net_outs : He.DefD := ⟨("Net", some "outs"), "outs", "Net.outs", defArgs (inClass (top 60) 2), defBody (inClass (top 60) 2), defScope (inClass (top 60) 2), [], []⟩
abbrev dd_Net_hidden : He.DefD := ⟨("Net", some "hidden"), "hidden", "Net.hidden", defArgs (inClass (top 60) 3), defBody (inClass (top 60) 3), defScope (inClass (top 60) 3), [], []⟩
abbrev dd_Net_layers_told : He.DefD := ⟨("Net", some "layers_told"), "layers_told", "Net.layers_told", defArgs (inClass (top 60) 4), defBody (inClass (top 60) 4), defScope (inClass (top 60) 4), [], []⟩
abbrev dd_Net_places : He.DefD := ⟨("Net", some "places"), "places", "Net.places", defArgs (inClass (top 60) 5), defBody (inClass (top 60) 5), defScope (inClass (top 60) 5), [], []⟩
abbrev dd_Net_need_spot : He.DefD := ⟨("Net", some "need_spot"), "need_spot", "Net.need_spot", defArgs (inClass (top 60) 7), defBody (inClass (top 60) 7), defScope (inClass (top 60) 7), [], []⟩
abbrev dd_Net_outs_at : He.DefD := ⟨("Net", some "outs_at"), "outs_at", "Net.outs_at", defArgs (inClass (top 60) 8), defBody (inClass (top 60) 8), defScope (inClass (top 60) 8), [], []⟩
abbrev dd_need_pattern : He.DefD := ⟨("need_pattern", none), "need_pattern", "need_pattern", defArgs (top 63), defBody (top 63), defScope (top 63), [], []⟩
abbrev dd_need_nets : He.DefD := ⟨("need_nets", none), "need_nets", "need_nets", defArgs (top 64), defBody (top 64), defScope (top 64), [], []⟩
abbrev dd_all_hidden : He.DefD := ⟨("all_hidden", none), "all_hidden", "all_hidden", defArgs (top 65), defBody (top 65), defScope (top 65), [], []⟩
abbrev dd_sum_over : He.DefD := ⟨("sum_over", none), "sum_over", "sum_over", defArgs (top 66), defBody (top 66), defScope (top 66), [], []⟩
abbrev dd_sums_by : He.DefD := ⟨("sums_by", none), "sums_by", "sums_by", defArgs (top 67), defBody (top 67), defScope (top 67), [], []⟩
abbrev dd_sums_together : He.DefD := ⟨("sums_together", none), "sums_together", "sums_together", defArgs (top 68), defBody (top 68), defScope (top 68), [], []⟩
abbrev dd_cut_wish : He.DefD := ⟨("cut_wish", none), "cut_wish", "cut_wish", defArgs (top 69), defBody (top 69), defScope (top 69), [], []⟩
abbrev dd_kept_wish : He.DefD := ⟨("kept_wish", none), "kept_wish", "kept_wish", defArgs (top 70), defBody (top 70), defScope (top 70), [], []⟩
abbrev dd_case_wishes : He.DefD := ⟨("case_wishes", none), "case_wishes", "case_wishes", defArgs (top 71), defBody (top 71), defScope (top 71), [], []⟩
abbrev dd_wishes_by : He.DefD := ⟨("wishes_by", none), "wishes_by", "wishes_by", defArgs (top 72), defBody (top 72), defScope (top 72), [], []⟩
abbrev dd_aimed_sum : He.DefD := ⟨("aimed_sum", none), "aimed_sum", "aimed_sum", defArgs (top 73), defBody (top 73), defScope (top 73), [], []⟩
abbrev dd_need_list : He.DefD := ⟨("need_list", none), "need_list", "need_list", defArgs (top 76), defBody (top 76), defScope (top 76), [], []⟩
abbrev dd_need_each : He.DefD := ⟨("need_each", none), "need_each", "need_each", defArgs (top 77), defBody (top 77), defScope (top 77), [], []⟩
abbrev dd_need_wishes : He.DefD := ⟨("need_wishes", none), "need_wishes", "need_wishes", defArgs (top 78), defBody (top 78), defScope (top 78), [], []⟩
abbrev dd_need_aim_settling : He.DefD := ⟨("need_aim_settling", none), "need_aim", "need_aim", defArgs (top 79), defBody (top 79), defScope (top 79), [], []⟩
abbrev dd_Most_init : He.DefD := ⟨("Most", some "__init__"), "__init__", "Most.__init__", defArgs (inClass (top 85) 0), defBody (inClass (top 85) 0), defScope (inClass (top 85) 0), [], []⟩
abbrev dd_Empty_init : He.DefD := ⟨("Empty", some "__init__"), "__init__", "Empty.__init__", defArgs (inClass (top 86) 0), defBody (inClass (top 86) 0), defScope (inClass (top 86) 0), [], []⟩
abbrev dd_whole_row : He.DefD := ⟨("whole_row", none), "whole_row", "whole_row", defArgs (top 87), defBody (top 87), defScope (top 87), [], []⟩
abbrev dd_summed : He.DefD := ⟨("summed", none), "summed", "summed", defArgs (top 88), defBody (top 88), defScope (top 88), [], []⟩
abbrev dd_Steps_init : He.DefD := ⟨("Steps", some "__init__"), "__init__", "Steps.__init__", defArgs (inClass (top 89) 0), defBody (inClass (top 89) 0), defScope (inClass (top 89) 0), [], []⟩
abbrev dd_Steps_corner : He.DefD := ⟨("Steps", some "corner"), "corner", "Steps.corner", defArgs (inClass (top 89) 1), defBody (inClass (top 89) 1), defScope (inClass (top 89) 1), [], []⟩
abbrev dd_Steps_broken : He.DefD := ⟨("Steps", some "broken"), "broken", "Steps.broken", defArgs (inClass (top 89) 2), defBody (inClass (top 89) 2), defScope (inClass (top 89) 2), [], []⟩
abbrev dd_Steps_leaving : He.DefD := ⟨("Steps", some "leaving"), "leaving", "Steps.leaving", defArgs (inClass (top 89) 3), defBody (inClass (top 89) 3), defScope (inClass (top 89) 3), [], []⟩
abbrev dd_Steps_step : He.DefD := ⟨("Steps", some "step"), "step", "Steps.step", defArgs (inClass (top 89) 4), defBody (inClass (top 89) 4), defScope (inClass (top 89) 4), [], []⟩
abbrev dd_Steps_multiples_of : He.DefD := ⟨("Steps", some "multiples_of"), "multiples_of", "Steps.multiples_of", defArgs (inClass (top 89) 5), defBody (inClass (top 89) 5), defScope (inClass (top 89) 5), [], []⟩
abbrev dd_Steps_settled : He.DefD := ⟨("Steps", some "settled"), "settled", "Steps.settled", defArgs (inClass (top 89) 6), defBody (inClass (top 89) 6), defScope (inClass (top 89) 6), [], []⟩
abbrev dd_settle : He.DefD := ⟨("settle", none), "settle", "settle", defArgs (top 90), defBody (top 90), defScope (top 90), [], []⟩
abbrev dd_need_small_trees : He.DefD := ⟨("need_small_trees", none), "need_small", "need_small", defArgs (top 94), defBody (top 94), defScope (top 94), [], []⟩
abbrev dd_need_aim_trees : He.DefD := ⟨("need_aim_trees", none), "need_aim", "need_aim", defArgs (top 96), defBody (top 96), defScope (top 96), [], []⟩
abbrev dd_other_way : He.DefD := ⟨("other_way", none), "other_way", "other_way", defArgs (top 98), defBody (top 98), defScope (top 98), [], []⟩
abbrev dd_taken_times : He.DefD := ⟨("taken_times", none), "taken_times", "taken_times", defArgs (top 99), defBody (top 99), defScope (top 99), [], []⟩
abbrev dd_Cases_init : He.DefD := ⟨("Cases", some "__init__"), "__init__", "Cases.__init__", defArgs (inClass (top 100) 0), defBody (inClass (top 100) 0), defScope (inClass (top 100) 0), [], []⟩
abbrev dd_Cases_wishes : He.DefD := ⟨("Cases", some "wishes"), "wishes", "Cases.wishes", defArgs (inClass (top 100) 1), defBody (inClass (top 100) 1), defScope (inClass (top 100) 1), [], []⟩
abbrev dd_Cases_aimed : He.DefD := ⟨("Cases", some "aimed"), "aimed", "Cases.aimed", defArgs (inClass (top 100) 2), defBody (inClass (top 100) 2), defScope (inClass (top 100) 2), [], []⟩
abbrev dd_Closing_init : He.DefD := ⟨("Closing", some "__init__"), "__init__", "Closing.__init__", defArgs (inClass (top 101) 0), defBody (inClass (top 101) 0), defScope (inClass (top 101) 0), [], []⟩
abbrev dd_Closing_is_closed : He.DefD := ⟨("Closing", some "is_closed"), "is_closed", "Closing.is_closed", defArgs (inClass (top 101) 1), defBody (inClass (top 101) 1), defScope (inClass (top 101) 1), [], []⟩
abbrev dd_Closing_is_most : He.DefD := ⟨("Closing", some "is_most"), "is_most", "Closing.is_most", defArgs (inClass (top 101) 2), defBody (inClass (top 101) 2), defScope (inClass (top 101) 2), [], []⟩
abbrev dd_Growing_init : He.DefD := ⟨("Growing", some "__init__"), "__init__", "Growing.__init__", defArgs (inClass (top 102) 0), defBody (inClass (top 102) 0), defScope (inClass (top 102) 0), [], []⟩
abbrev dd_Growing_own_wishes : He.DefD := ⟨("Growing", some "own_wishes"), "own_wishes", "Growing.own_wishes", defArgs (inClass (top 102) 1), defBody (inClass (top 102) 1), defScope (inClass (top 102) 1), [], []⟩
abbrev dd_Growing_grown : He.DefD := ⟨("Growing", some "grown"), "grown", "Growing.grown", defArgs (inClass (top 102) 2), defBody (inClass (top 102) 2), defScope (inClass (top 102) 2), [], []⟩
abbrev dd_Growing_ended : He.DefD := ⟨("Growing", some "ended"), "ended", "Growing.ended", defArgs (inClass (top 102) 3), defBody (inClass (top 102) 3), defScope (inClass (top 102) 3), [], []⟩
abbrev dd_greatest_at : He.DefD := ⟨("greatest_at", none), "greatest_at", "greatest_at", defArgs (top 103), defBody (top 103), defScope (top 103), [], []⟩
abbrev dd_least_at : He.DefD := ⟨("least_at", none), "least_at", "least_at", defArgs (top 104), defBody (top 104), defScope (top 104), [], []⟩
abbrev dd_closes : He.DefD := ⟨("closes", none), "closes", "closes", defArgs (top 105), defBody (top 105), defScope (top 105), [], []⟩
abbrev dd_need_box_wanted : He.DefD := ⟨("need_box_wanted", none), "need_box", "need_box", defArgs (top 110), defBody (top 110), defScope (top 110), [], []⟩
abbrev dd_need_wish : He.DefD := ⟨("need_wish", none), "need_wish", "need_wish", defArgs (top 112), defBody (top 112), defScope (top 112), [], []⟩
abbrev dd_need_small_wanted : He.DefD := ⟨("need_small_wanted", none), "need_small", "need_small", defArgs (top 113), defBody (top 113), defScope (top 113), [], []⟩
abbrev dd_need_all : He.DefD := ⟨("need_all", none), "need_all", "need_all", defArgs (top 115), defBody (top 115), defScope (top 115), [], []⟩
abbrev dd_need_out : He.DefD := ⟨("need_out", none), "need_out", "need_out", defArgs (top 116), defBody (top 116), defScope (top 116), [], []⟩
abbrev dd_keeps : He.DefD := ⟨("keeps", none), "keeps", "keeps", defArgs (top 117), defBody (top 117), defScope (top 117), [], []⟩
abbrev dd_is_said : He.DefD := ⟨("is_said", none), "is_said", "is_said", defArgs (top 118), defBody (top 118), defScope (top 118), [], []⟩
abbrev dd_always_holds : He.DefD := ⟨("always_holds", none), "always_holds", "always_holds", defArgs (top 119), defBody (top 119), defScope (top 119), [], []⟩
abbrev dd_shows_always : He.DefD := ⟨("shows_always", none), "shows_always", "shows_always", defArgs (top 120), defBody (top 120), defScope (top 120), [], []⟩
abbrev dd_rise_of : He.DefD := ⟨("rise_of", none), "rise_of", "rise_of", defArgs (top 121), defBody (top 121), defScope (top 121), [], []⟩
abbrev dd_others_of : He.DefD := ⟨("others_of", none), "others_of", "others_of", defArgs (top 122), defBody (top 122), defScope (top 122), [], []⟩
abbrev dd_above_all : He.DefD := ⟨("above_all", none), "above_all", "above_all", defArgs (top 123), defBody (top 123), defScope (top 123), [], []⟩
abbrev dd_shows_above : He.DefD := ⟨("shows_above", none), "shows_above", "shows_above", defArgs (top 124), defBody (top 124), defScope (top 124), [], []⟩
abbrev dd_Search_init : He.DefD := ⟨("Search", some "__init__"), "__init__", "Search.__init__", defArgs (inClass (top 125) 0), defBody (inClass (top 125) 0), defScope (inClass (top 125) 0), [], []⟩
abbrev dd_Search_led_in : He.DefD := ⟨("Search", some "led_in"), "led_in", "Search.led_in", defArgs (inClass (top 125) 1), defBody (inClass (top 125) 1), defScope (inClass (top 125) 1), [], []⟩
abbrev dd_Search_case : He.DefD := ⟨("Search", some "case"), "case", "Search.case", defArgs (inClass (top 125) 2), defBody (inClass (top 125) 2), defScope (inClass (top 125) 2), [], []⟩
abbrev dd_Search_grown : He.DefD := ⟨("Search", some "grown"), "grown", "Search.grown", defArgs (inClass (top 125) 3), defBody (inClass (top 125) 3), defScope (inClass (top 125) 3), [], []⟩
abbrev dd_Search_come_to_less : He.DefD := ⟨("Search", some "come_to_less"), "come_to_less", "Search.come_to_less", defArgs (inClass (top 125) 4), defBody (inClass (top 125) 4), defScope (inClass (top 125) 4), [], []⟩
abbrev dd_Search_holds : He.DefD := ⟨("Search", some "holds"), "holds", "Search.holds", defArgs (inClass (top 125) 5), defBody (inClass (top 125) 5), defScope (inClass (top 125) 5), [], []⟩
abbrev dd_find_spot : He.DefD := ⟨("find_spot", none), "find_spot", "find_spot", defArgs (top 126), defBody (top 126), defScope (top 126), [], []⟩
abbrev dd_shows_found : He.DefD := ⟨("shows_found", none), "shows_found", "shows_found", defArgs (top 127), defBody (top 127), defScope (top 127), [], []⟩
abbrev dd__law_cell : He.DefD := ⟨("_law_cell", none), "_law_cell", "_law_cell", defArgs (top 129), defBody (top 129), defScope (top 129), [], []⟩
abbrev dd__law_stream : He.DefD := ⟨("_law_stream", none), "_law_stream", "_law_stream", defArgs (top 130), defBody (top 130), defScope (top 130), [], []⟩
abbrev dd__law_take : He.DefD := ⟨("_law_take", none), "_law_take", "_law_take", defArgs (top 131), defBody (top 131), defScope (top 131), [], []⟩
abbrev dd__law_made : He.DefD := ⟨("_law_made", none), "_law_made", "_law_made", defArgs (top 132), defBody (top 132), defScope (top 132), [], []⟩
abbrev dd__law_plus : He.DefD := ⟨("_law_plus", none), "_law_plus", "_law_plus", defArgs (top 133), defBody (top 133), defScope (top 133), [], []⟩
abbrev dd__law_times : He.DefD := ⟨("_law_times", none), "_law_times", "_law_times", defArgs (top 134), defBody (top 134), defScope (top 134), [], []⟩
abbrev dd__law_less : He.DefD := ⟨("_law_less", none), "_law_less", "_law_less", defArgs (top 135), defBody (top 135), defScope (top 135), [], []⟩
abbrev dd__law_weigh : He.DefD := ⟨("_law_weigh", none), "_law_weigh", "_law_weigh", defArgs (top 136), defBody (top 136), defScope (top 136), [], []⟩
abbrev dd__law_cut : He.DefD := ⟨("_law_cut", none), "_law_cut", "_law_cut", defArgs (top 137), defBody (top 137), defScope (top 137), [], []⟩
abbrev dd__law_share : He.DefD := ⟨("_law_share", none), "_law_share", "_law_share", defArgs (top 138), defBody (top 138), defScope (top 138), [], []⟩
abbrev dd__law_node : He.DefD := ⟨("_law_node", none), "_law_node", "_law_node", defArgs (top 139), defBody (top 139), defScope (top 139), [], []⟩
abbrev dd__law_layers : He.DefD := ⟨("_law_layers", none), "_law_layers", "_law_layers", defArgs (top 140), defBody (top 140), defScope (top 140), [], []⟩
abbrev dd__law_box : He.DefD := ⟨("_law_box", none), "_law_box", "_law_box", defArgs (top 141), defBody (top 141), defScope (top 141), [], []⟩
abbrev dd__law_values : He.DefD := ⟨("_law_values", none), "_law_values", "_law_values", defArgs (top 142), defBody (top 142), defScope (top 142), [], []⟩
abbrev dd__law_zeros : He.DefD := ⟨("_law_zeros", none), "_law_zeros", "_law_zeros", defArgs (top 143), defBody (top 143), defScope (top 143), [], []⟩
abbrev dd__law_points : He.DefD := ⟨("_law_points", none), "_law_points", "_law_points", defArgs (top 144), defBody (top 144), defScope (top 144), [], []⟩
abbrev dd__law_outs : He.DefD := ⟨("_law_outs", none), "_law_outs", "_law_outs", defArgs (top 145), defBody (top 145), defScope (top 145), [], []⟩
abbrev dd__law_most : He.DefD := ⟨("_law_most", none), "_law_most", "_law_most", defArgs (top 146), defBody (top 146), defScope (top 146), [], []⟩
abbrev dd__law_shape : He.DefD := ⟨("_law_shape", none), "_law_shape", "_law_shape", defArgs (top 147), defBody (top 147), defScope (top 147), [], []⟩
abbrev dd__law_wish : He.DefD := ⟨("_law_wish", none), "_law_wish", "_law_wish", defArgs (top 148), defBody (top 148), defScope (top 148), [], []⟩
abbrev dd__law_over : He.DefD := ⟨("_law_over", none), "_law_over", "_law_over", defArgs (top 149), defBody (top 149), defScope (top 149), [], []⟩
abbrev dd__law_kept : He.DefD := ⟨("_law_kept", none), "_law_kept", "_law_kept", defArgs (top 150), defBody (top 150), defScope (top 150), [], []⟩
abbrev dd__law_found_due : He.DefD := ⟨("_law_found_due", none), "_law_found_due", "_law_found_due", defArgs (top 151), defBody (top 151), defScope (top 151), [], []⟩
abbrev dd__law_aims_right : He.DefD := ⟨("_law_aims_right", none), "_law_aims_right", "_law_aims_right", defArgs (top 152), defBody (top 152), defScope (top 152), [], []⟩
abbrev dd__law_wanted_right : He.DefD := ⟨("_law_wanted_right", none), "_law_wanted_right", "_law_wanted_right", defArgs (top 153), defBody (top 153), defScope (top 153), [], []⟩
abbrev dd__law_above_right : He.DefD := ⟨("_law_above_right", none), "_law_above_right", "_law_above_right", defArgs (top 154), defBody (top 154), defScope (top 154), [], []⟩
abbrev dd_law : He.DefD := ⟨("law", none), "law", "law", defArgs (top 155), defBody (top 155), defScope (top 155), [], []⟩
def fnL : List He.DefD := ([dd_is_whole, dd_common_part, dd_is_fraction, dd_is_row, dd_fraction_of, dd_plus, dd_minus, dd_times, dd_is_less, dd_weigh, dd_is_stretch, dd_is_box, dd_need_box_boxes, dd_is_over, dd_lies_in, dd_is_in] : List He.DefD) ++ ([dd_single_row, dd_box_wishes, dd_need_box_handing, dd_sum_at, dd_sum_plus, dd_sum_times, dd_flat_sum, dd_place_sum, dd_Layer_init, dd_Layer_told, dd_Layer_sums, dd_Layer_passed, dd_CutLayer_passed, dd_is_between, dd_is_sum, dd_is_some] : List He.DefD) ++ ([dd_are_layers, dd_Net_init, dd_Net_ins, dd_Net_outs, dd_Net_hidden, dd_Net_layers_told, dd_Net_places, dd_Net_need_spot, dd_Net_outs_at, dd_need_pattern, dd_need_nets, dd_all_hidden, dd_sum_over, dd_sums_by, dd_sums_together, dd_cut_wish] : List He.DefD) ++ ([dd_kept_wish, dd_case_wishes, dd_wishes_by, dd_aimed_sum, dd_need_list, dd_need_each, dd_need_wishes, dd_need_aim_settling, dd_Most_init, dd_Empty_init, dd_whole_row, dd_summed, dd_Steps_init, dd_Steps_corner, dd_Steps_broken, dd_Steps_leaving] : List He.DefD) ++ ([dd_Steps_step, dd_Steps_multiples_of, dd_Steps_settled, dd_settle, dd_need_small_trees, dd_need_aim_trees, dd_other_way, dd_taken_times, dd_Cases_init, dd_Cases_wishes, dd_Cases_aimed, dd_Closing_init, dd_Closing_is_closed, dd_Closing_is_most, dd_Growing_init, dd_Growing_own_wishes] : List He.DefD) ++ ([dd_Growing_grown, dd_Growing_ended, dd_greatest_at, dd_least_at, dd_closes, dd_need_box_wanted, dd_need_wish, dd_need_small_wanted, dd_need_all, dd_need_out, dd_keeps, dd_is_said, dd_always_holds, dd_shows_always, dd_rise_of, dd_others_of] : List He.DefD) ++ ([dd_above_all, dd_shows_above, dd_Search_init, dd_Search_led_in, dd_Search_case, dd_Search_grown, dd_Search_come_to_less, dd_Search_holds, dd_find_spot, dd_shows_found, dd__law_cell, dd__law_stream, dd__law_take, dd__law_made, dd__law_plus, dd__law_times] : List He.DefD) ++ ([dd__law_less, dd__law_weigh, dd__law_cut, dd__law_share, dd__law_node, dd__law_layers, dd__law_box, dd__law_values, dd__law_zeros, dd__law_points, dd__law_outs, dd__law_most, dd__law_shape, dd__law_wish, dd__law_over, dd__law_kept] : List He.DefD) ++ ([dd__law_found_due, dd__law_aims_right, dd__law_wanted_right, dd__law_above_right, dd_law] : List He.DefD)
def glos : List Str := (["is_whole", "common_part", "is_fraction", "is_row", "fraction_of", "plus", "minus", "times", "is_less", "weigh", "is_stretch", "is_box", "need_box_boxes", "is_over", "lies_in", "is_in"] : List Str) ++ (["single_row", "box_wishes", "need_box_handing", "sum_at", "sum_plus", "sum_times", "flat_sum", "place_sum", "is_between", "is_sum", "is_some", "are_layers", "need_pattern", "need_nets", "all_hidden", "sum_over"] : List Str) ++ (["sums_by", "sums_together", "cut_wish", "kept_wish", "case_wishes", "wishes_by", "aimed_sum", "need_list", "need_each", "need_wishes", "need_aim_settling", "whole_row", "summed", "settle", "need_small_trees", "need_aim_trees"] : List Str) ++ (["other_way", "taken_times", "greatest_at", "least_at", "closes", "need_box_wanted", "need_wish", "need_small_wanted", "need_all", "need_out", "keeps", "is_said", "always_holds", "shows_always", "rise_of", "others_of"] : List Str) ++ (["above_all", "shows_above", "find_spot", "shows_found", "_law_cell", "_law_stream", "_law_take", "_law_made", "_law_plus", "_law_times", "_law_less", "_law_weigh", "_law_cut", "_law_share", "_law_node", "_law_layers"] : List Str) ++ (["_law_box", "_law_values", "_law_zeros", "_law_points", "_law_outs", "_law_most", "_law_shape", "_law_wish", "_law_over", "_law_kept", "_law_found_due", "_law_aims_right", "_law_wanted_right", "_law_above_right", "law", "Layer"] : List Str) ++ (["CutLayer", "Net", "Settled", "Most", "Empty", "Steps", "Cases", "Closing", "Growing", "Search"] : List Str)
def frees : List Str := (["len", "abs", "max", "min", "isinstance", "all", "any", "sum", "int", "bool", "str", "list", "tuple", "dict", "zip", "enumerate"] : List Str) ++ (["range"] : List Str)
def intL : List (Str × Int) := ([("MOST_PLACES", 3), ("MOST_INS", 3), ("MOST_LAYERS", 4), ("MOST_NODES", 4), ("MOST_WISHES_settling", 16), ("MOST_HIDDEN_trees", 8), ("MOST_HIDDEN_wanted", 8), ("MOST_WISHES_wanted", 8)] : List (Str × Int))
def tupL : List (Str × (Int × Int)) := ([("NOUGHT_numbers", (0, 1)), ("ONE_numbers", (1, 1)), ("NOUGHT_handing", (0, 1)), ("NOUGHT_sums", (0, 1)), ("ONE_sums", (1, 1)), ("LESS_cases", (-1, 1)), ("LESS_trees", (-1, 1)), ("NOUGHT_wanted", (0, 1))] : List (Str × (Int × Int)))
def clsL : List (Str × List Str) := ([("Layer", ["kept_nodes"]), ("CutLayer", ["kept_nodes"]), ("Net", ["taken", "stack"]), ("Most", ["spot", "multiples"]), ("Empty", ["multiples"]), ("Steps", ["many", "rows", "bounds", "factors", "goal", "goal_factor", "tight", "measure", "lines"]), ("Closing", ["nets", "box", "aim", "all_many", "number"]), ("Growing", ["nets", "box", "aim", "all_many", "best", "best_spot"]), ("Search", ["net", "bounds", "desired"])] : List (Str × List Str))
def mkL : List (Str × Str) := ([("Layer", "Layer"), ("CutLayer", "Layer"), ("Net", "Net"), ("Most", "Most"), ("Empty", "Empty"), ("Steps", "Steps"), ("Closing", "Closing"), ("Growing", "Growing"), ("Search", "Search")] : List (Str × Str))
def meL : List (Str × Str × Str) := ([("Layer", "told", "Layer"), ("Layer", "sums", "Layer"), ("Layer", "passed", "Layer"), ("CutLayer", "told", "Layer"), ("CutLayer", "sums", "Layer"), ("CutLayer", "passed", "CutLayer"), ("Net", "ins", "Net"), ("Net", "outs", "Net"), ("Net", "hidden", "Net"), ("Net", "layers_told", "Net"), ("Net", "places", "Net"), ("Net", "need_spot", "Net"), ("Net", "outs_at", "Net"), ("Steps", "corner", "Steps"), ("Steps", "broken", "Steps"), ("Steps", "leaving", "Steps")] : List (Str × Str × Str)) ++ ([("Steps", "step", "Steps"), ("Steps", "multiples_of", "Steps"), ("Steps", "settled", "Steps"), ("Closing", "wishes", "Cases"), ("Closing", "aimed", "Cases"), ("Closing", "is_closed", "Closing"), ("Closing", "is_most", "Closing"), ("Growing", "wishes", "Cases"), ("Growing", "aimed", "Cases"), ("Growing", "own_wishes", "Growing"), ("Growing", "grown", "Growing"), ("Growing", "ended", "Growing"), ("Search", "led_in", "Search"), ("Search", "case", "Search"), ("Search", "grown", "Search"), ("Search", "come_to_less", "Search")] : List (Str × Str × Str)) ++ ([("Search", "holds", "Search")] : List (Str × Str × Str))
def kitL : List (String × String × Bool) := ([("int", "int", true), ("int", "bool", false), ("tuple", "tuple", true), ("str", "str", true)] : List (String × String × Bool))
def insL : List (Str × Str × Bool) := ([("Net", "Net", true), ("Most", "Most", true), ("Empty", "Most", false)] : List (Str × Str × Bool))

end NC
set_option Elab.async false
set_option linter.all false
set_option maxRecDepth 100000
set_option maxHeartbeats 0
/-! printed by genH.py: the head. -/
namespace HX
open PySem PySem.Spec PyProof.Rows L2 NC
abbrev R : PySem.W.OpenRow := PySem.W.OpenLaw.row PySem.Challenge.rw_noughtcut_k90_whole_one_in_gone_through
abbrev qv : Program := PySem.W.view R.prog [155]
def loose : List PySem.Str := (["_wall", "CutError", "NoNumber", "NoNet", "NoSpot", "NoBox", "NoWish", "NoAim", "NoOut", "NoPattern", "NoFit", "Large", "NOUGHT_numbers", "ONE_numbers", "is_whole", "common_part", "is_fraction", "is_row", "fraction_of", "plus"] : List PySem.Str) ++ (["minus", "times", "is_less", "weigh", "MOST_PLACES", "is_stretch", "is_box", "need_box", "need_box_boxes", "is_over", "lies_in", "is_in", "single_row", "box_wishes", "NOUGHT_handing", "need_box_handing", "NOUGHT_sums", "ONE_sums", "sum_at", "sum_plus"] : List PySem.Str) ++ (["sum_times", "flat_sum", "place_sum", "Layer", "CutLayer", "MOST_INS", "MOST_LAYERS", "MOST_NODES", "is_between", "is_sum", "is_some", "are_layers", "Net", "LESS_cases", "need_pattern", "need_nets", "all_hidden", "sum_over", "sums_by", "sums_together"] : List PySem.Str) ++ (["cut_wish", "kept_wish", "case_wishes", "wishes_by", "aimed_sum", "MOST_WISHES_settling", "need_list", "need_each", "need_wishes", "need_aim", "need_aim_settling", "are_multiples", "taken", "keeps_all", "Settled", "Most", "Empty", "whole_row", "summed", "Steps"] : List PySem.Str) ++ (["settle", "LESS_trees", "MOST_HIDDEN_trees", "need_small", "need_small_trees", "need_aim_trees", "other_way", "taken_times", "Cases", "Closing", "Growing", "greatest_at", "least_at", "closes", "NOUGHT_wanted", "MOST_HIDDEN_wanted", "MOST_WISHES_wanted", "need_box_wanted", "need_wish", "need_small_wanted"] : List PySem.Str) ++ (["need_all", "need_out", "keeps", "is_said", "always_holds", "shows_always", "rise_of", "others_of", "above_all", "shows_above", "Search", "find_spot", "shows_found", "_law_cell", "_law_stream", "_law_take", "_law_made", "_law_plus", "_law_times", "_law_less"] : List PySem.Str) ++ (["_law_weigh", "_law_cut", "_law_share", "_law_node", "_law_layers", "_law_box", "_law_values", "_law_zeros", "_law_points", "_law_outs", "_law_most", "_law_shape", "_law_wish", "_law_over", "_law_kept", "_law_found_due", "_law_aims_right", "_law_wanted_right", "_law_above_right"] : List PySem.Str)
def fasL : List He.Fa := glos.map .glo ++ frees.map .free ++ intL.map (fun q => .int q.1 q.2) ++ tupL.map (fun q => .glo q.1) ++ [.glo "law"]
def clB (K : PySem.W.Frag) (q : Str × List Str) : Bool := (He.Fa.cls q.1).ok K && q.2.all fun f => He.eqO (PySem.W.findIn K (.ref (He.ga K q.1)) f) (some none)
def mkB (K : PySem.W.Frag) (q : Str × Str) : Bool := PySem.W.makesIn K (He.ga K q.1) && (He.eqO (PySem.W.findIn K (.ref (He.ga K q.1)) "__init__") (some (some (.ref (He.fAd K (q.2, some "__init__"))))) && (PySem.W.isFn K (.ref (He.fAd K (q.2, some "__init__"))) && PySem.W.keepIn K (.ref (He.ga K q.1))))
def meB (K : PySem.W.Frag) (q : Str × Str × Str) : Bool := He.eqO (PySem.W.findIn K (.ref (He.ga K q.1)) q.2.1) (some (some (.ref (He.fAd K (q.2.2, some q.2.1))))) && (PySem.W.isFn K (.ref (He.fAd K (q.2.2, some q.2.1))) && PySem.W.keepIn K (.ref (He.fAd K (q.2.2, some q.2.1))))
def kiB (K : PySem.W.Frag) (q : String × String × Bool) : Bool := decide (PySem.W.kitOne K (.type q.1) (.type q.2.1) = some q.2.2)
def inB (K : PySem.W.Frag) (q : Str × Str × Bool) : Bool := decide (PySem.W.kitOne K (.ref (He.ga K q.1)) (.ref (He.ga K q.2.1)) = some q.2.2) && (He.eqO (PySem.W.findIn K (.ref (He.ga K q.1)) "__class__") (some (some (.builtin "object.__class__"))) && (He.eqO (PySem.W.specialIn K (.builtin "object.__class__") "__get__") (some (some (.builtin "getset_descriptor.__get__"))) && (decide (PySem.W.takesIn K (.builtin "object.__class__") = some true) && decide (PySem.W.mroIn K (He.ga K q.1) (.type "object") = some true))))
def crB (K : PySem.W.Frag) : Bool := PySem.W.readsIn K (He.ga K "Cases") (.type "type") && (He.eqO (PySem.W.specialIn K (.ref (He.ga K "Cases")) "__getattribute__") (some (some (.builtin "type.__getattribute__"))) && (fcB (PySem.W.findCls K (.ref (He.ga K "Cases")) (.type "type") "__init__") (He.fAd K ("Cases", some "__init__")) && PySem.W.keepIn K (.ref (He.fAd K ("Cases", some "__init__")))))
  where fcB (z : _) (a : Addr) : Bool := match z with
    | some (.val (.ref b)) => decide (b = a)
    | _ => false
def exB (K : PySem.W.Frag) : Bool := (tupL.all fun q => He.tupB K q.1 [.int q.2.1, .int q.2.2]) && ((clsL.all (clB K)) && ((mkL.all (mkB K)) && ((meL.all (meB K)) && ((kitL.all (kiB K)) && (decide (PySem.W.kitAny K (.type "list") [.type "list", .type "tuple"] = some true) && (decide (PySem.W.kitAny K (.type "tuple") [.type "list", .type "tuple"] = some true) && ((insL.all (inB K)) && crB K)))))))
def obsX (K : PySem.W.Frag) : He.AlD := ((fasL.all fun f => f.ok K) && ((fnL.all fun d => d.ok K) && exB K), fnL.map fun d => He.fnW K d.at_)
def valX : He.AlD := (true, fnL.map He.DefD.val)
def refsNs : Option Obj → List Addr
  | some ⟨_, _, .dict es _, _⟩ => es.toList.flatMap fun e => He.refV e.val
  | _ => []
def refsC : Option Obj → List Addr
  | some ⟨_, _, .func fd, _⟩ => He.refV fd.code
  | some ⟨_, _, .cls cd, _⟩ => [cd.ns]
  | _ => []
def asX2 (g : Addr → Option Obj) (l1 : List Addr) : List Addr := l1.flatMap fun a => refsC (g a)
def asX3 (g : Addr → Option Obj) (l2 : List Addr) : List Addr := l2.flatMap fun a => refsNs (g a)
def asX (g : Addr → Option Obj) : List Addr :=
  let l1 := refsNs (g mainGlobals)
  let l2 := asX2 g l1
  let l3 := asX3 g l2
  mainGlobals :: cStatics :: (l1 ++ (l2 ++ (l3 ++ asX2 g l3)))
def obsG (g : Addr → Option Obj) : He.AlD := obsX (He.frG g (asX g))
def hk : PySem.W.Hook where
  α := He.AlD
  obs := fun s => obsG s.heap.get?
  val := fun _ => valX
  says := fun _ h => ∃ K : PySem.W.Frag, K.In h ∧ obsX K = valX
  of := fun _ _ e => ⟨_, He.frG_in, e⟩
  keeps := fun _ _ _ ⟨K, hK, c⟩ k => ⟨K, PySem.W.Frag.In.keeps hK k, c⟩
def ob (s : PySem.W.SharedT) : He.AlD := obsG (HandSHeadRun.getT s)
theorem ob_eq (s : PySem.W.SharedT) : ob s = hk.obs s.abs := by
  have e : HandSHeadRun.getT s = s.abs.heap.get? := funext fun a => HandSHeadRun.getT_eq s a
  unfold ob
  rw [e]
  rfl
abbrev fr (s : PySem.W.SharedT) : PySem.W.Frag := He.frG (HandSHeadRun.getT s) (asX (HandSHeadRun.getT s))
noncomputable abbrev topE (w : World) (os : OsState) : Option PySem.W.SharedT := HandSHeadRun.endF (HandSHeadRun.stepQ (HandSHeadRun.denQ HandSHeadRun.tabQ) R.prog w) 30000 R.prog w os
/-! the run of the top, five times: each looks at another part of what is left (the kernel's memory) -/
theorem run0 (w : World) : HandSHeadRun.RunEq R qv PySem.W.Hook.none (fun _ => ()) 30000 loose w := by
  intro os
  kernel_rfl
theorem run1 (w : World) (os : OsState) : (topE w os).map (fun s => (fasL.all fun f => f.ok (fr s)) && ((fnL.take 50).all fun d => d.ok (fr s))) = some true := by
  kernel_rfl
theorem run2 (w : World) (os : OsState) : (topE w os).map (fun s => (fnL.drop 50).all fun d => d.ok (fr s)) = some true := by
  kernel_rfl
theorem run3 (w : World) (os : OsState) : (topE w os).map (fun s => fnL.map fun d => He.fnW (fr s) d.at_) = some (fnL.map He.DefD.val) := by
  kernel_rfl
theorem run4 (w : World) (os : OsState) : (topE w os).map (fun s => exB (fr s)) = some true := by
  kernel_rfl
theorem ba {a b : Bool} (h : (a && b) = true) : a = true ∧ b = true := Bool.and_eq_true_iff.mp h
theorem map_at {α β : Type} {o : Option α} {f : α → β} {s : α} {v : β} (h : o.map f = some v) (e : o = some s) : f s = v := by
  rw [e] at h
  exact Option.some.inj h
theorem all_split {α : Type} {l : List α} {p : α → Bool} {n : Nat} (h : (l.take n).all p = true) (h' : (l.drop n).all p = true) : l.all p = true := by
  rw [← List.take_append_drop n l, List.all_append, h, h']; rfl
theorem obs_mk (K : PySem.W.Frag) (h1 : (fasL.all fun f => f.ok K) = true) (h2 : (fnL.all fun d => d.ok K) = true) (h3 : exB K = true) (h4 : (fnL.map fun d => He.fnW K d.at_) = fnL.map He.DefD.val) : obsX K = valX := by
  unfold obsX valX
  rw [h1, h2, h3, h4]; rfl
theorem glue {α β γ δ : Type} {o : Option α} {f : α → β} {g : α → γ} {h : α → δ} {a : β} {b : γ} {c : δ} {u : Unit} (h0 : o.map (fun s => (f s, g s, ())) = some (a, b, u)) (hh : ∀ s, o = some s → h s = c) : o.map (fun s => (f s, g s, h s)) = some (a, b, c) := by
  obtain ⟨s, e, h1⟩ := Option.map_eq_some_iff.mp h0
  obtain ⟨g1, g2⟩ := Prod.mk.inj h1
  obtain ⟨g2, _⟩ := Prod.mk.inj g2
  rw [e]
  show some (f s, g s, h s) = _
  rw [g1, g2, hh s e]
theorem obs_run (w : World) (os : OsState) (s : PySem.W.SharedT) (e : topE w os = some s) : ob s = valX := by
  have k1 := map_at (run1 w os) e
  have k2 := map_at (run2 w os) e
  have k3 := map_at (run3 w os) e
  have k4 := map_at (run4 w os) e
  have h1 : ((fasL.all fun f => f.ok (fr s)) && ((fnL.take 50).all fun d => d.ok (fr s))) = true := k1
  have h2 : ((fnL.drop 50).all fun d => d.ok (fr s)) = true := k2
  have h3 : (fnL.map fun d => He.fnW (fr s) d.at_) = fnL.map He.DefD.val := k3
  have h4 : exB (fr s) = true := k4
  have h5 := ba h1
  exact obs_mk (fr s) h5.1 (all_split h5.2 h2) h4 h3
theorem run (w : World) : HandSHeadRun.RunEq R qv hk ob 30000 loose w := fun os => glue (c := valX) (run0 w os) (obs_run w os)

end HX
set_option maxHeartbeats 2000000
set_option Elab.async false
set_option linter.all false
set_option autoImplicit false
set_option maxRecDepth 100000
set_option maxHeartbeats 2000000
/-! A data layer over HandS: data D (tuples, lists, instances, nested), what stands in slots and owned cells (Sat), expressions that evaluate to data (DE), blocks (DB). -/
namespace NC
open PySem PySem.Spec PyProof.Rows L2

/-! ### data -/
inductive D where
  | v (x : V)
  | tup (xs : List D)
  | lst (xs : List D)
  | ins (C : Addr) (ns : List Str) (ds : List D)
abbrev D.int (i : Int) : D := .v (.int i)
abbrev D.bl (b : Bool) : D := .v (.bl b)
abbrev D.str (x : Str) : D := .v (.str x)
abbrev D.non : D := .v .non
abbrev D.ref (a : Addr) : D := .v (.ref a)

/-- an extension of the heap -/
def Ex (H H' : Hp) : Prop := ∀ a o, H a = some o → H' a = some o
theorem Ex.refl (H : Hp) : Ex H H := fun _ _ h => h
theorem Ex.trans {H H1 H2 : Hp} (a : Ex H H1) (b : Ex H1 H2) : Ex H H2 := fun x o h => b x o (a x o h)
theorem Ex.new {H : Hp} {p : Addr} {o : HO} (h : H p = none) : Ex H (upd H p o) := fun a u e => by
  rw [upd_ne (ne_of_none e h)]; exact e
theorem Ex.rd {H H' : Hp} {a : Addr} {u : HO} (e : Ex H H') (h : Rd H a u) : Rd H' a u := by
  rcases h with h | ⟨o, h⟩
  · exact .inl (e a _ h)
  · exact .inr ⟨o, e a _ h⟩
theorem Ex.t {K : PySem.W.Frag} {H H' : Hp} {a : Addr} {xs : List V} (e : Ex H H') (h : SqT K H a xs) : SqT K H' a xs := by
  rcases h with h | h
  · exact .inl (e.rd h)
  · exact .inr h
theorem Ex.l {K : PySem.W.Frag} {H H' : Hp} {a : Addr} {xs : List V} (e : Ex H H') (h : SqL K H a xs) : SqL K H' a xs := by
  rcases h with h | h
  · exact .inl (e.rd h)
  · exact .inr h
theorem Ex.free {H H' : Hp} {p : Addr} (e : Ex H H') (h : H' p = none) : H p = none := by
  cases h1 : H p with
  | none => rfl
  | some o => rw [e p o h1] at h; cases h

mutual
/-- v stands for d in G -/
def Rep (K : PySem.W.Frag) (G : Hp) : D → V → Prop
  | .v x, v => v = x
  | .tup ds, v => ∃ a vs, v = .ref a ∧ SqT K G a vs ∧ Reps K G ds vs
  | .lst ds, v => ∃ a vs, v = .ref a ∧ G a = some (.lst vs) ∧ Reps K G ds vs
  | .ins C ns ds, v => ∃ a dx vs, v = .ref a ∧ G a = some (.ins C dx (ns.zip vs)) ∧ ns.length = vs.length ∧ Reps K G ds vs
def Reps (K : PySem.W.Frag) (G : Hp) : List D → List V → Prop
  | [], vs => vs = []
  | d :: ds, vs => ∃ v r, vs = v :: r ∧ Rep K G d v ∧ Reps K G ds r
end
section
variable {K : PySem.W.Frag} {G G' : Hp}
mutual
theorem Rep.mono (e : Ex G G') : ∀ {d : D} {v : V}, Rep K G d v → Rep K G' d v
  | .v x, v, h => by unfold Rep at h ⊢; exact h
  | .tup ds, v, h => by
    unfold Rep at h ⊢
    obtain ⟨a, vs, h1, h2, h3⟩ := h
    exact ⟨a, vs, h1, e.t h2, Reps.mono e h3⟩
  | .lst ds, v, h => by
    unfold Rep at h ⊢
    obtain ⟨a, vs, h1, h2, h3⟩ := h
    exact ⟨a, vs, h1, e _ _ h2, Reps.mono e h3⟩
  | .ins C ns ds, v, h => by
    unfold Rep at h ⊢
    obtain ⟨a, dx, vs, h1, h2, h0, h3⟩ := h
    exact ⟨a, dx, vs, h1, e _ _ h2, h0, Reps.mono e h3⟩
theorem Reps.mono (e : Ex G G') : ∀ {ds : List D} {vs : List V}, Reps K G ds vs → Reps K G' ds vs
  | [], vs, h => by unfold Reps at h ⊢; exact h
  | d :: ds, vs, h => by
    unfold Reps at h ⊢
    obtain ⟨v, r, h1, h2, h3⟩ := h
    exact ⟨v, r, h1, Rep.mono e h2, Reps.mono e h3⟩
end
theorem rep_v {x v : V} : Rep K G (.v x) v ↔ v = x := by unfold Rep; exact Iff.rfl
theorem rep_tup {ds : List D} {v : V} : Rep K G (.tup ds) v ↔ ∃ a vs, v = .ref a ∧ SqT K G a vs ∧ Reps K G ds vs := by unfold Rep; exact Iff.rfl
theorem rep_lst {ds : List D} {v : V} : Rep K G (.lst ds) v ↔ ∃ a vs, v = .ref a ∧ G a = some (.lst vs) ∧ Reps K G ds vs := by unfold Rep; exact Iff.rfl
theorem rep_ins {C : Addr} {ns : List Str} {ds : List D} {v : V} : Rep K G (.ins C ns ds) v ↔ ∃ a dx vs, v = .ref a ∧ G a = some (.ins C dx (ns.zip vs)) ∧ ns.length = vs.length ∧ Reps K G ds vs := by unfold Rep; exact Iff.rfl
theorem reps_nil {vs : List V} : Reps K G [] vs ↔ vs = [] := by unfold Reps; exact Iff.rfl
theorem reps_cons {d : D} {ds : List D} {vs : List V} : Reps K G (d :: ds) vs ↔ ∃ v r, vs = v :: r ∧ Rep K G d v ∧ Reps K G ds r := by
  constructor
  · intro h; unfold Reps at h; exact h
  · intro h; unfold Reps; exact h
theorem Reps.nil : Reps K G [] [] := reps_nil.mpr rfl
theorem Reps.cons {d : D} {ds : List D} {v : V} {vs : List V} (h : Rep K G d v) (r : Reps K G ds vs) : Reps K G (d :: ds) (v :: vs) := reps_cons.mpr ⟨v, vs, rfl, h, r⟩
theorem Reps.length : ∀ {ds : List D} {vs : List V}, Reps K G ds vs → ds.length = vs.length
  | [], vs, h => by simp [reps_nil.mp h]
  | d :: ds, vs, h => by
    obtain ⟨v, r, rfl, _, h3⟩ := reps_cons.mp h
    simp [Reps.length h3]
theorem Reps.get : ∀ {ds : List D} {vs : List V} {i : Nat} {d : D}, Reps K G ds vs → ds[i]? = some d → ∃ v, vs[i]? = some v ∧ Rep K G d v
  | [], vs, i, d, h, e => by simp at e
  | c :: ds, vs, 0, d, h, e => by
    obtain ⟨v, r, rfl, h2, h3⟩ := reps_cons.mp h
    simp at e; subst e
    exact ⟨v, rfl, h2⟩
  | c :: ds, vs, i + 1, d, h, e => by
    obtain ⟨v, r, rfl, h2, h3⟩ := reps_cons.mp h
    obtain ⟨u, h4, h5⟩ := Reps.get (i := i) h3 (by simpa using e)
    exact ⟨u, by simpa using h4, h5⟩
theorem Reps.getV : ∀ {ds : List D} {vs : List V} {i : Nat} {v : V}, Reps K G ds vs → vs[i]? = some v → ∃ d, ds[i]? = some d ∧ Rep K G d v
  | [], vs, i, d, h, e => by rw [reps_nil.mp h] at e; simp at e
  | c :: ds, vs, 0, d, h, e => by
    obtain ⟨v, r, rfl, h2, h3⟩ := reps_cons.mp h
    simp at e; subst e
    exact ⟨c, rfl, h2⟩
  | c :: ds, vs, i + 1, d, h, e => by
    obtain ⟨v, r, rfl, h2, h3⟩ := reps_cons.mp h
    obtain ⟨u, h4, h5⟩ := Reps.getV (i := i) h3 (by simpa using e)
    exact ⟨u, by simpa using h4, h5⟩
theorem Reps.app : ∀ {ds es : List D} {vs us : List V}, Reps K G ds vs → Reps K G es us → Reps K G (ds ++ es) (vs ++ us)
  | [], es, vs, us, h, h' => by rw [reps_nil.mp h]; exact h'
  | d :: ds, es, vs, us, h, h' => by
    obtain ⟨v, r, rfl, h2, h3⟩ := reps_cons.mp h
    exact Reps.cons h2 (Reps.app h3 h')
theorem Reps.set : ∀ {ds : List D} {vs : List V} (i : Nat) {d : D} {v : V}, Reps K G ds vs → Rep K G d v → Reps K G (ds.set i d) (vs.set i v)
  | [], vs, i, d, v, h, h' => by rw [reps_nil.mp h]; simpa using Reps.nil
  | c :: ds, vs, 0, d, v, h, h' => by
    obtain ⟨u, r, rfl, h2, h3⟩ := reps_cons.mp h
    exact Reps.cons h' h3
  | c :: ds, vs, i + 1, d, v, h, h' => by
    obtain ⟨u, r, rfl, h2, h3⟩ := reps_cons.mp h
    exact Reps.cons h2 (Reps.set i h3 h')
theorem Reps.take : ∀ {ds : List D} {vs : List V} (n : Nat), Reps K G ds vs → Reps K G (ds.take n) (vs.take n)
  | _, _, 0, _ => by simpa using Reps.nil
  | [], vs, n + 1, h => by rw [reps_nil.mp h]; simpa using Reps.nil
  | d :: ds, vs, n + 1, h => by
    obtain ⟨v, r, rfl, h2, h3⟩ := reps_cons.mp h
    exact Reps.cons h2 (Reps.take n h3)
theorem Reps.drop : ∀ {ds : List D} {vs : List V} (n : Nat), Reps K G ds vs → Reps K G (ds.drop n) (vs.drop n)
  | _, _, 0, h => h
  | [], vs, n + 1, h => by rw [reps_nil.mp h]; simpa using Reps.nil
  | d :: ds, vs, n + 1, h => by
    obtain ⟨v, r, rfl, h2, h3⟩ := reps_cons.mp h
    exact Reps.drop n h3
theorem Reps.rep {d : D} {v : V} (h : Rep K G d v) : ∀ n : Nat, Reps K G (List.replicate n d) (List.replicate n v)
  | 0 => Reps.nil
  | n + 1 => Reps.cons h (Reps.rep h n)
theorem Reps.ints : ∀ {ns : List Int} {vs : List V}, Reps K G (ns.map D.int) vs → vs = ns.map V.int
  | [], vs, h => reps_nil.mp h
  | n :: ns, vs, h => by
    obtain ⟨v, r, rfl, h2, h3⟩ := reps_cons.mp h
    rw [rep_v.mp h2, Reps.ints h3]; rfl
theorem Reps.bls : ∀ {ns : List Bool} {vs : List V}, Reps K G (ns.map D.bl) vs → vs = ns.map V.bl
  | [], vs, h => reps_nil.mp h
  | n :: ns, vs, h => by
    obtain ⟨v, r, rfl, h2, h3⟩ := reps_cons.mp h
    rw [rep_v.mp h2, Reps.bls h3]; rfl
end

/-! ### owned cells, the state -/
inductive Cell where
  | lst (xs : List D)
  | ins (C : Addr) (ns : List Str) (ds : List D)
  | dic (ks : List Int) (ds : List D)
abbrev Mu := List (Addr × Cell)
abbrev Rho := List (Option D)
def CellAt (K : PySem.W.Frag) (G H : Hp) (p : Addr) : Cell → Prop
  | .lst xs => ∃ vs, H p = some (.lst vs) ∧ Reps K G xs vs
  | .ins C ns ds => ∃ dx vs, H p = some (.ins C dx (ns.zip vs)) ∧ ns.length = vs.length ∧ Reps K G ds vs
  | .dic ks ds => ∃ vs, H p = some (.dK ((ks.map Sum.inl).zip vs)) ∧ ks.length = vs.length ∧ Reps K G ds vs
/-- the entry: what was known, what stood, the cells that were handed in -/
structure Zed where
  G : Hp
  H : Hp
  xs : List Addr
/-- Sat: G: the part of the heap that stands still -/
structure Sat (K : PySem.W.Frag) (Z : Zed) (ρ : Rho) (μ : Mu) (σ : L2.St) (G H : Hp) : Prop where
  gh : Ex G H
  ln : ρ.length = σ.length
  sl : ∀ (i : Nat) (d : D), ρ[i]? = some (some d) → ∃ v, σ[i]? = some (some v) ∧ Rep K G d v
  ce : ∀ p c, (p, c) ∈ μ → CellAt K G H p c ∧ G p = none ∧ (Z.H p = none ∨ p ∈ Z.xs)
  nd : (μ.map (·.1)).Nodup
  zg : Ex Z.G G
  zh : ∀ a o, Z.H a = some o → a ∉ Z.xs → H a = some o
  zn : ∀ a, Z.H a ≠ none → Z.G a = none → G a = none
  zx : ∀ a, a ∈ Z.xs → H a ≠ none

/-- what stood stands; what was owned stays owned -/
structure Ext (G H G' H' : Hp) : Prop where
  gg : Ex G G'
  hh : Ex H H'
  gh : Ex G' H'
  nw : ∀ a, H a ≠ none → G a = none → G' a = none
section
variable {K : PySem.W.Frag} {Z : Zed} {ρ : Rho} {μ ν : Mu} {σ : L2.St} {G H G' H' G2 H2 : Hp}
theorem Ext.refl (e : Ex G H) : Ext G H G H := ⟨.refl _, .refl _, e, fun _ _ h => h⟩
theorem Ext.trans (a : Ext G H G' H') (b : Ext G' H' G2 H2) : Ext G H G2 H2 := ⟨a.gg.trans b.gg, a.hh.trans b.hh, b.gh, fun x h1 h2 => b.nw x (by
  cases e : H x with
  | none => exact absurd e h1
  | some o => rw [a.hh x o e]; simp) (a.nw x h1 h2)⟩
theorem CellAt.ne {p : Addr} {c : Cell} (h : CellAt K G H p c) : H p ≠ none := by
  cases c with
  | lst xs => obtain ⟨vs, e, _⟩ := h; rw [e]; simp
  | ins C ns ds => obtain ⟨dx, vs, e, _⟩ := h; rw [e]; simp
  | dic ks ds => obtain ⟨vs, e, _⟩ := h; rw [e]; simp
theorem CellAt.keep {p : Addr} {c : Cell} (h : CellAt K G H p c) (g : Ex G G') (e : ∀ o, H p = some o → H' p = some o) : CellAt K G' H' p c := by
  cases c with
  | lst xs => obtain ⟨vs, q, r⟩ := h; exact ⟨vs, e _ q, r.mono g⟩
  | ins C ns ds => obtain ⟨dx, vs, q, l, r⟩ := h; exact ⟨dx, vs, e _ q, l, r.mono g⟩
  | dic ks ds => obtain ⟨vs, q, l, r⟩ := h; exact ⟨vs, e _ q, l, r.mono g⟩
theorem Sat.ext (S : Sat K Z ρ μ σ G H) (e : Ext G H G' H') : Sat K Z ρ μ σ G' H' where
  gh := e.gh
  ln := S.ln
  sl := fun i d h => by
    obtain ⟨v, h1, h2⟩ := S.sl i d h
    exact ⟨v, h1, h2.mono e.gg⟩
  ce := fun p c h => by
    obtain ⟨h1, h2, h3⟩ := S.ce p c h
    exact ⟨h1.keep e.gg fun o => e.hh p o, e.nw p h1.ne h2, h3⟩
  nd := S.nd
  zg := S.zg.trans e.gg
  zh := fun a o h1 h2 => e.hh a o (S.zh a o h1 h2)
  zn := fun a h1 h2 => by
    refine e.nw a ?_ (S.zn a h1 h2)
    by_cases hx : a ∈ Z.xs
    · exact S.zx a hx
    · cases q : Z.H a with
      | none => exact absurd q h1
      | some o => rw [S.zh a o q hx]; simp
  zx := fun a h => by
    cases q : H a with
    | none => exact absurd q (S.zx a h)
    | some o => rw [e.hh a o q]; simp
/-- a new object that stands still -/
theorem Ext.fr {p : Addr} {o : HO} (e : Ex G H) (h : H p = none) : Ext G H (upd G p o) (upd H p o) := by
  have hg : G p = none := e.free h
  refine ⟨Ex.new hg, Ex.new h, fun a u q => ?_, fun a h1 h2 => ?_⟩
  · by_cases ha : a = p
    · subst ha; rw [upd_same] at q ⊢; exact q
    · rw [upd_ne ha] at q ⊢; exact e a u q
  · have ha : a ≠ p := fun z => h1 (by rw [z]; exact h)
    rw [upd_ne ha]; exact h2
/-- a new object of which nothing is kept in mind -/
theorem Ext.hid {p : Addr} {o : HO} (e : Ex G H) (h : H p = none) : Ext G H G (upd H p o) := ⟨.refl _, Ex.new h, e.trans (Ex.new h), fun _ _ h => h⟩
theorem Sat.zfresh {p : Addr} (S : Sat K Z ρ μ σ G H) (h : H p = none) : Z.H p = none ∧ p ∉ Z.xs := by
  have hx : p ∉ Z.xs := fun q => S.zx p q h
  refine ⟨?_, hx⟩
  cases q : Z.H p with
  | none => rfl
  | some o => rw [S.zh p o q hx] at h; cases h
theorem Sat.mono {ν : Mu} (S : Sat K Z ρ μ σ G H) (h : ∀ q, q ∈ ν → q ∈ μ) (hn : (ν.map (·.1)).Nodup) : Sat K Z ρ ν σ G H :=
  ⟨S.gh, S.ln, S.sl, fun p c q => S.ce p c (h _ q), hn, S.zg, S.zh, S.zn, S.zx⟩
/-- a new object that is owned -/
theorem Sat.own {p : Addr} {o : HO} {c : Cell} (S : Sat K Z ρ μ σ G H) (h : H p = none) (hc : CellAt K G (upd H p o) p c) : Sat K Z ρ (μ ++ [(p, c)]) σ G (upd H p o) := by
  have S' := S.ext (Ext.hid (o := o) S.gh h)
  have hz := S.zfresh h
  refine ⟨S'.gh, S'.ln, S'.sl, fun q d hq => ?_, ?_, S'.zg, S'.zh, S'.zn, S'.zx⟩
  · rcases List.mem_append.mp hq with hq | hq
    · exact S'.ce q d hq
    · rw [List.mem_singleton] at hq
      cases hq
      exact ⟨hc, S.gh.free h, .inl hz.1⟩
  · rw [List.map_append, List.nodup_append]
    refine ⟨S.nd, by simp, fun a ha b hb => ?_⟩
    rw [List.map_singleton, List.mem_singleton] at hb
    subst hb
    rintro rfl
    obtain ⟨⟨q, d⟩, hq, rfl⟩ := List.mem_map.mp ha
    exact (S.ce q d hq).1.ne h
/-- an owned object is written -/
theorem Sat.write {p : Addr} {o : HO} {c c' : Cell} {j : Nat} (S : Sat K Z ρ μ σ G H) (hj : μ[j]? = some (p, c)) (hc : CellAt K G (upd H p o) p c') : Sat K Z ρ (μ.set j (p, c')) σ G (upd H p o) := by
  obtain ⟨hjl, ej⟩ := List.getElem?_eq_some_iff.mp hj
  have hm : (p, c) ∈ μ := List.mem_of_getElem? hj
  obtain ⟨h1, h2, h3⟩ := S.ce p c hm
  have ms : (μ.set j (p, c')).map (·.1) = μ.map (·.1) := by
    rw [List.map_set]
    apply List.ext_getElem?
    intro i
    rw [List.getElem?_set]
    split
    · rename_i e; subst e
      simp [hjl, ej]
    · rfl
  refine ⟨fun a u q => ?_, S.ln, S.sl, fun q d hq => ?_, by rw [ms]; exact S.nd, S.zg, fun a u q hx => ?_, S.zn, fun a ha => ?_⟩
  · rw [upd_ne (fun z => by rw [z, h2] at q; cases q)]; exact S.gh a u q
  · rcases List.mem_or_eq_of_mem_set hq with hq' | hq'
    · obtain ⟨g1, g2, g3⟩ := S.ce q d hq'
      by_cases e : q = p
      · subst e
        -- the same address: then it is the new one
        have : (q, d) = (q, c') := by
          obtain ⟨i, hi, ei⟩ := List.getElem_of_mem hq
          rw [List.getElem_set] at ei
          split at ei
          · exact ei.symm
          · rename_i ne
            have hi' : i < μ.length := by simpa using hi
            have e1 : (μ.map (·.1))[i]? = some q := by simp [hi', ei]
            have e2 : (μ.map (·.1))[j]? = some q := by simp [hjl, ej]
            exact absurd (nd_ix S.nd e1 e2) (fun z => ne z.symm)
        cases this
        exact ⟨hc, g2, g3⟩
      · exact ⟨g1.keep (.refl _) fun u z => by rw [upd_ne e]; exact z, g2, g3⟩
    · cases hq'
      exact ⟨hc, h2, h3⟩
  · have ha : a ≠ p := fun z => by
      subst z
      rcases h3 with h3 | h3
      · rw [h3] at q; cases q
      · exact hx h3
    rw [upd_ne ha]; exact S.zh a u q hx
  · by_cases e : a = p
    · subst e; rw [upd_same]; simp
    · rw [upd_ne e]; exact S.zx a ha
/-- an owned object stands still from now on: its content in G -/
theorem Sat.freeze {p : Addr} {o : HO} {c : Cell} {j : Nat} (S : Sat K Z ρ μ σ G H) (hj : μ[j]? = some (p, c)) (hp : p ∉ Z.xs) (ho : H p = some o) : Sat K Z ρ (μ.eraseIdx j) σ (upd G p o) H ∧ Ex G (upd G p o) := by
  have hm : (p, c) ∈ μ := List.mem_of_getElem? hj
  obtain ⟨h0, h2, h3⟩ := S.ce p c hm
  have hz : Z.H p = none := h3.resolve_right hp
  have g : Ex G (upd G p o) := Ex.new h2
  refine ⟨⟨fun a u q => ?_, S.ln, fun i d h => ?_, fun q d hq => ?_, ?_, S.zg.trans g, S.zh, fun a h1 h2 => ?_, S.zx⟩, g⟩
  · by_cases e : a = p
    · subst e; rw [upd_same] at q; cases q; exact ho
    · rw [upd_ne e] at q; exact S.gh a u q
  · obtain ⟨v, e1, e2⟩ := S.sl i d h
    exact ⟨v, e1, e2.mono g⟩
  · have hq' := List.mem_of_mem_eraseIdx hq
    obtain ⟨g1, g2, g3⟩ := S.ce q d hq'
    have e : q ≠ p := fun z => by
      subst z
      obtain ⟨i, hne, ei⟩ := List.mem_eraseIdx_iff_getElem?.mp hq
      have e1 : (μ.map (·.1))[i]? = some q := by simp [ei]
      have e2 : (μ.map (·.1))[j]? = some q := by simp [hj]
      exact hne (nd_ix S.nd e1 e2)
    exact ⟨g1.keep g fun u z => z, by rw [upd_ne e]; exact g2, g3⟩
  · exact List.Nodup.sublist ((List.eraseIdx_sublist _ _).map _) S.nd
  · have e : a ≠ p := fun z => by subst z; exact h1 hz
    rw [upd_ne e]; exact S.zn a h1 h2
/-- a slot is stored -/
theorem Sat.set {i : Nat} {d : D} {v : V} (S : Sat K Z ρ μ σ G H) (h : Rep K G d v) : Sat K Z (ρ.set i (some d)) μ (σ.set i (some v)) G H := by
  refine ⟨S.gh, by simp [S.ln], fun j e q => ?_, S.ce, S.nd, S.zg, S.zh, S.zn, S.zx⟩
  rw [List.getElem?_set] at q
  split at q
  · rename_i e; subst e
    split at q
    · rename_i hl
      cases q
      exact ⟨v, by rw [List.getElem?_set_self (by rw [← S.ln]; exact hl)], h⟩
    · cases q
  · rename_i ne
    obtain ⟨u, e1, e2⟩ := S.sl j e q
    exact ⟨u, by rw [List.getElem?_set_ne ne]; exact e1, e2⟩
/-- what a slot says may be forgotten, or told otherwise -/
theorem Sat.slots {ρ' : Rho} (S : Sat K Z ρ μ σ G H) (hl : ρ'.length = ρ.length) (h : ∀ (i : Nat) (d : D), ρ'[i]? = some (some d) → ∃ v, σ[i]? = some (some v) ∧ Rep K G d v) : Sat K Z ρ' μ σ G H :=
  ⟨S.gh, hl.trans S.ln, h, S.ce, S.nd, S.zg, S.zh, S.zn, S.zx⟩
end
end NC

set_option Elab.async false
set_option linter.all false
set_option autoImplicit false
set_option maxRecDepth 100000
set_option maxHeartbeats 2000000
/-! Expressions, tests, argument lists that evaluate to data. -/
namespace NC
open PySem PySem.Spec PyProof.Rows L2

/-! ### the weakest readings -/
def WE (X : Cx) (e : Expr) : TE := fun σ H Q => ∀ pins s, Inv X pins σ H s → wpAny (model X.prog X.w) X.A (eval e X.env) (EP X pins σ Q) X.xe s
def WT (X : Cx) (e : Expr) : TT := fun σ H Q => ∀ pins s, Inv X pins σ H s → wpAny (model X.prog X.w) X.A (isTrue e X.env (eval e X.env)) (TP X pins σ Q) X.xe s
def WA (X : Cx) (es : List Expr) : TA := fun σ H Q => ∀ pos pins s, Inv X pins σ H s → wpAny (model X.prog X.w) X.A (spliced (backTo pos (starEach es X.env))) (AP X pins σ Q) X.xe s
def WS (X : Cx) (st : Stmt) : TS := fun D σ H => ∀ pins s, Inv X pins σ H s → wpAny (model X.prog X.w) X.A (exec st X.env) (SP X pins D) X.xe s
def WSs (X : Cx) (st : List Stmt) : TS := fun D σ H => ∀ pins s, Inv X pins σ H s → wpAny (model X.prog X.w) X.A (execs st X.env) (SP X pins D) X.xe s
def WI (X : Cx) (tg iter : Expr) : TI := fun σ H R => ∀ pins s, Inv X pins σ H s → wpAny (model X.prog X.w) X.A (eval iter X.env) (fun v s1 => wpAny (model X.prog X.w) X.A (pyIter v) (PIE X pins σ tg R) X.xe s1) X.xe s
section
variable {X : Cx} {e : Expr} {es : List Expr} {st : Stmt} {ss : List Stmt} {tg iter : Expr}
theorem pe_we : PE X e (WE X e) := ⟨fun pins s _ _ _ I h => h pins s I⟩
theorem pt_wt : PT X e (WT X e) := ⟨fun pins s _ _ _ I h => h pins s I⟩
theorem pa_wa : PA X es (WA X es) := ⟨fun pos pins s _ _ _ I h => h pos pins s I⟩
theorem ps_ws : PS X st (WS X st) := ⟨fun pins s _ _ _ I h => h pins s I⟩
theorem pss_wss : PSs X ss (WSs X ss) := ⟨fun pins s _ _ _ I h => h pins s I⟩
theorem pi_wi : PI X tg iter (WI X tg iter) := ⟨fun pins s _ _ _ I h => h pins s I⟩
theorem we_of {t : TE} {σ : L2.St} {H : Hp} {Q : VK} (h : PE X e t) (q : t σ H Q) : WE X e σ H Q := fun pins s I => h.run pins s σ H Q I q
theorem wt_of {t : TT} {σ : L2.St} {H : Hp} {Q : Bool → Hp → Prop} (h : PT X e t) (q : t σ H Q) : WT X e σ H Q := fun pins s I => h.run pins s σ H Q I q
theorem wa_of {t : TA} {σ : L2.St} {H : Hp} {Q : List V → Hp → Prop} (h : PA X es t) (q : t σ H Q) : WA X es σ H Q := fun pos pins s I => h.run pos pins s σ H Q I q
theorem ws_of {t : TS} {σ : L2.St} {H : Hp} {D : Ends} (h : PS X st t) (q : t D σ H) : WS X st D σ H := fun pins s I => h.run pins s σ H D I q
theorem wss_of {t : TS} {σ : L2.St} {H : Hp} {D : Ends} (h : PSs X ss t) (q : t D σ H) : WSs X ss D σ H := fun pins s I => h.run pins s σ H D I q
theorem wi_of {t : TI} {σ : L2.St} {H : Hp} {R : It → Hp → Prop} (h : PI X tg iter t) (q : t σ H R) : WI X tg iter σ H R := fun pins s I => h.run pins s σ H R I q
end

/-! ### the context of a body -/
/-- N: names by slots; V: 0 not seen here, 1 captured, 2 a cell of the def, 3 a plain local; Gs: the global names used -/
structure Bc (X : Cx) (P : Program) (w : World) (K : PySem.W.Frag) (mg : Str → Option Value) (base : Heap) (N : List Str) (V : List Nat) (Gs : List Str) (k : Nat) : Prop where
  eP : X.prog = P
  ew : X.w = w
  eK : X.K = K
  em : X.mg = mg
  eb : X.base = base
  eN : X.N = N
  nd : N.Nodup
  kind : X.env.scope.kind = .function
  vis : ∀ (i : Nat) (x : Str) (n : Nat), V[i]? = some (n + 1) → N[i]? = some x → Vis X.env.scope x
  loc : ∀ (i : Nat) (x : Str) (n : Nat), V[i]? = some (n + 2) → N[i]? = some x → Loc X.env.scope x ∧ (X.fn x = true ∨ X.env.scope.names.lookup x = some .local)
  cap : ∀ (i : Nat) (x : Str) (n : Nat), V[i]? = some n → (n = 1 ∨ n = 2) → N[i]? = some x → X.env.scope.names.lookup x = some .cell ∨ X.env.scope.names.lookup x = some .free
  loc3 : ∀ (i : Nat) (x : Str), V[i]? = some 3 → N[i]? = some x → X.env.scope.names.lookup x = some .local
  nm : ∀ (i : Nat) (x : Str), N[i]? = some x → (x == ("__debug__" : Str)) = false ∧ (x == ("__classdict__" : Str)) = false
  glo : ∀ (j : Nat) (x : Str), Gs[j]? = some x → Gl X x ∧ (x == ("__debug__" : Str)) = false ∧ x ≠ ("__name__" : Str)
  calm : X.calm = true
  room : Room k X.A
  xe : X.xe = fun _ _ => False

/-! ### judgements -/
section
variable (K : PySem.W.Frag) (X : Cx) (Z : Zed)
/-- e evaluates to d; the owned cells go from μ to μ' -/
def DE (ρ : Rho) (μ : Mu) (e : Expr) (d : D) (μ' : Mu) : Prop := ∀ ν σ G H, Sat K Z ρ (μ ++ ν) σ G H → ∀ Q : VK, (∀ v G' H', Ex G G' → Sat K Z ρ (μ' ++ ν) σ G' H' → Rep K G' d v → Q v H') → WE X e σ H Q
/-- e evaluates to a new list of xs that is nobody else's -/
def DL (ρ : Rho) (μ : Mu) (e : Expr) (c : Cell) (μ' : Mu) : Prop := ∀ ν σ G H, Sat K Z ρ (μ ++ ν) σ G H → ∀ Q : VK, (∀ p G' H', Ex G G' → p ∉ Z.xs → Sat K Z ρ (μ' ++ ν ++ [(p, c)]) σ G' H' → Q (.ref p) H') → WE X e σ H Q
def DT (ρ : Rho) (μ : Mu) (e : Expr) (b : Bool) (μ' : Mu) : Prop := ∀ ν σ G H, Sat K Z ρ (μ ++ ν) σ G H → ∀ Q : Bool → Hp → Prop, (∀ G' H', Ex G G' → Sat K Z ρ (μ' ++ ν) σ G' H' → Q b H') → WT X e σ H Q
def DA (ρ : Rho) (μ : Mu) (es : List Expr) (ds : List D) (μ' : Mu) : Prop := ∀ ν σ G H, Sat K Z ρ (μ ++ ν) σ G H → ∀ Q : List V → Hp → Prop, (∀ vs G' H', Ex G G' → Sat K Z ρ (μ' ++ ν) σ G' H' → Reps K G' ds vs → Q vs H') → WA X es σ H Q
/-- what an operation on values does, told by data -/
def RD2 (ρ : Rho) (μ : Mu) (r : R2) (da db : D) (d : D) : Prop := ∀ ν σ G H x y, Sat K Z ρ (μ ++ ν) σ G H → Rep K G da x → Rep K G db y → ∀ Q : VK, (∀ v G' H', Ext G H G' H' → Rep K G' d v → Q v H') → r x y H Q
def RDL2 (ρ : Rho) (μ : Mu) (r : R2) (da db : D) (c : Cell) : Prop := ∀ ν σ G H x y, Sat K Z ρ (μ ++ ν) σ G H → Rep K G da x → Rep K G db y → ∀ Q : VK, (∀ p o, H p = none → CellAt K G (upd H p o) p c → Q (.ref p) (upd H p o)) → r x y H Q
def RDA (ρ : Rho) (μ : Mu) (r : List V → Hp → VK → Prop) (ds : List D) (d : D) : Prop := ∀ ν σ G H xs, Sat K Z ρ (μ ++ ν) σ G H → Reps K G ds xs → ∀ Q : VK, (∀ v G' H', Ext G H G' H' → Rep K G' d v → Q v H') → r xs H Q
def RDLA (ρ : Rho) (μ : Mu) (r : List V → Hp → VK → Prop) (ds : List D) (c : Cell) : Prop := ∀ ν σ G H xs, Sat K Z ρ (μ ++ ν) σ G H → Reps K G ds xs → ∀ Q : VK, (∀ p o, H p = none → CellAt K G (upd H p o) p c → Q (.ref p) (upd H p o)) → r xs H Q
end

section
variable {P : Program} {w : World} {K : PySem.W.Frag} {mg : Str → Option Value} {base : Heap} {N : List Str} {V : List Nat} {Gs : List Str} {k : Nat}
variable {X : Cx} {Z : Zed} {ρ : Rho} {μ μ1 μ2 μ3 : Mu} {a b c e o : Expr} {es : List Expr} {d da db dc : D} {ds : List D} {pos p pos' : Pos} {x : Str}

theorem de_is {d' : D} (h : DE K X Z ρ μ e d μ1) (q : d = d') : DE K X Z ρ μ e d' μ1 := q ▸ h
theorem dt_is {u v : Bool} (h : DT K X Z ρ μ e u μ1) (q : u = v) : DT K X Z ρ μ e v μ1 := q ▸ h
/-- slots may be forgotten -/
theorem Bc.hK (C : Bc X P w K mg base N V Gs k) : X.K = K := C.eK

/-! names and constants -/
theorem de_var (i : Nat) {n : Nat} (C : Bc X P w K mg base N V Gs k) (hN : N[i]? = some x) (hV : V[i]? = some (n + 1)) (hρ : ρ[i]? = some (some d)) : DE K X Z ρ μ (.Name x pos) d μ := fun ν σ G H S Q q => by
  obtain ⟨v, h1, h2⟩ := S.sl i d hρ
  obtain ⟨n1, n2⟩ := C.nm i x hN
  exact we_of (pe_var (by rw [C.eN]; exact hN) (C.vis i x n hV hN) n1 n2) ⟨v, h1, q v G H (.refl _) S h2⟩
theorem de_int {i : Int} {j : Nat} : DE K X Z ρ μ (.Constant (.int i) j pos) (.int i) μ := fun ν σ G H S Q q => we_of pe_int (q _ G H (.refl _) S (rep_v.mpr rfl))
theorem de_bl {i : Bool} {j : Nat} : DE K X Z ρ μ (.Constant (.bool i) j pos) (.bl i) μ := fun ν σ G H S Q q => we_of pe_bl (q _ G H (.refl _) S (rep_v.mpr rfl))
theorem de_non {j : Nat} : DE K X Z ρ μ (.Constant .none j pos) .non μ := fun ν σ G H S Q q => we_of pe_non (q _ G H (.refl _) S (rep_v.mpr rfl))
theorem de_str {i : Str} {j : Nat} : DE K X Z ρ μ (.Constant (.str i) j pos) (.str i) μ := fun ν σ G H S Q q => we_of pe_str (q _ G H (.refl _) S (rep_v.mpr rfl))
/-- a global that holds d -/
def GloD (K : PySem.W.Frag) (mg : Str → Option Value) (x : Str) (d : D) : Prop := ∃ u v, mg x = some u ∧ RelV v u ∧ ∀ G, Rep K G d v
theorem de_glo (j : Nat) (C : Bc X P w K mg base N V Gs k) (hG : Gs[j]? = some x) (h : GloD K mg x d) : DE K X Z ρ μ (.Name x pos) d μ := fun ν σ G H S Q q => by
  obtain ⟨u, v, h1, h2, h3⟩ := h
  obtain ⟨g1, g2, _⟩ := C.glo j x hG
  exact we_of (pe_glob g1 (by rw [C.em]; exact h1) h2 g2) (q v G H (.refl _) S (h3 G))
/-- a built-in class as a value -/
theorem de_ty (j : Nat) {T : String} (C : Bc X P w K mg base N V Gs k) (hG : Gs[j]? = some x) (hm : mg x = none) (hv : bootBuiltins x = some (.type T)) : DE K X Z ρ μ (.Name x pos) (.v (.ty T)) μ := fun ν σ G H S Q q => by
  obtain ⟨g1, g2, g3⟩ := C.glo j x hG
  exact we_of (pe_bltn g1 (by rw [C.em]; exact hm) hv (v := .ty T) rfl g3 g2) (q _ G H (.refl _) S (rep_v.mpr rfl))

/-! operators -/
theorem de_op {op : Operator} {r : R2} (ho : OpR X (binaryOp op) r) (ha : DE K X Z ρ μ a da μ1) (hb : DE K X Z ρ μ1 b db μ2) (hr : RD2 K Z ρ μ2 r da db d) : DE K X Z ρ μ (.BinOp a op b pos) d μ2 := fun ν σ G H S Q q =>
  we_of (pe_op ho pe_we pe_we) (ha ν σ G H S _ fun x G1 H1 e1 S1 r1 => hb ν σ G1 H1 S1 _ fun y G2 H2 e2 S2 r2 => hr ν σ G2 H2 x y S2 (r1.mono e2) r2 Q fun v G3 H3 e3 r3 => q v G3 H3 ((e1.trans e2).trans e3.gg) (S2.ext e3) r3)
theorem dl_op {op : Operator} {r : R2} {l : Cell} (ho : OpR X (binaryOp op) r) (ha : DE K X Z ρ μ a da μ1) (hb : DE K X Z ρ μ1 b db μ2) (hr : RDL2 K Z ρ μ2 r da db l) : DL K X Z ρ μ (.BinOp a op b pos) l μ2 := fun ν σ G H S Q q =>
  we_of (pe_op ho pe_we pe_we) (ha ν σ G H S _ fun x G1 H1 e1 S1 r1 => hb ν σ G1 H1 S1 _ fun y G2 H2 e2 S2 r2 => hr ν σ G2 H2 x y S2 (r1.mono e2) r2 Q fun p o hp hc => q p G2 _ (e1.trans e2) (S2.zfresh hp).2 (S2.own hp hc))
theorem de_un {op : UnaryOp} {r : L2.V → Hp → VK → Prop} (ho : UnR X (unaryOp op) r) (ha : DE K X Z ρ μ a da μ1) (hr : ∀ ν σ G H x, Sat K Z ρ (μ1 ++ ν) σ G H → Rep K G da x → ∀ Q : VK, (∀ v G' H', Ext G H G' H' → Rep K G' d v → Q v H') → r x H Q) : DE K X Z ρ μ (.UnaryOp op a pos) d μ1 := fun ν σ G H S Q q =>
  we_of (pe_un ho pe_we) (ha ν σ G H S _ fun x G1 H1 e1 S1 r1 => hr ν σ G1 H1 x S1 r1 Q fun v G3 H3 e3 r3 => q v G3 H3 (e1.trans e3.gg) (S1.ext e3) r3)
theorem rd_I0 {g : Int → Int → L2.V} {i j : Int} : RD2 K Z ρ μ (rI0 g) (.int i) (.int j) (.v (g i j)) := fun ν σ G H x y S rx ry Q q => ⟨i, j, rep_v.mp rx, rep_v.mp ry, q _ G H (.refl S.gh) (rep_v.mpr rfl)⟩
theorem rd_I {C : Int → Int → Prop} {g : Int → Int → L2.V} {i j : Int} (hc : C i j) : RD2 K Z ρ μ (rI C g) (.int i) (.int j) (.v (g i j)) := fun ν σ G H x y S rx ry Q q => ⟨i, j, rep_v.mp rx, rep_v.mp ry, hc, q _ G H (.refl S.gh) (rep_v.mpr rfl)⟩
theorem de_add {i j : Int} (ha : DE K X Z ρ μ a (.int i) μ1) (hb : DE K X Z ρ μ1 b (.int j) μ2) : DE K X Z ρ μ (.BinOp a .Add b pos) (.int (i + j)) μ2 := de_op op_add ha hb rd_I0
theorem de_sub {i j : Int} (ha : DE K X Z ρ μ a (.int i) μ1) (hb : DE K X Z ρ μ1 b (.int j) μ2) : DE K X Z ρ μ (.BinOp a .Sub b pos) (.int (i - j)) μ2 := de_op op_sub ha hb rd_I0
/-- a product of ints whose sizes are within the line -/
theorem de_mul {i j : Int} (ha : DE K X Z ρ μ a (.int i) μ1) (hb : DE K X Z ρ μ1 b (.int j) μ2) (h : CMulX i j) : DE K X Z ρ μ (.BinOp a .Mult b pos) (.int (i * j)) μ2 := de_op op_mulX ha hb (rd_I h)
theorem de_mod {i j : Int} (ha : DE K X Z ρ μ a (.int i) μ1) (hb : DE K X Z ρ μ1 b (.int j) μ2) (h : 0 < j) : DE K X Z ρ μ (.BinOp a .Mod b pos) (.int (i % j)) μ2 := de_op op_mod ha hb (rd_I h)
theorem de_pow {i j : Int} (ha : DE K X Z ρ μ a (.int i) μ1) (hb : DE K X Z ρ μ1 b (.int j) μ2) (h : CPow i j) : DE K X Z ρ μ (.BinOp a .Pow b pos) (.int (i ^ j.toNat)) μ2 := de_op op_pow ha hb (rd_I h)
theorem de_shl {i j : Int} (ha : DE K X Z ρ μ a (.int i) μ1) (hb : DE K X Z ρ μ1 b (.int j) μ2) (h : CPow i j) : DE K X Z ρ μ (.BinOp a .LShift b pos) (.int (i * 2 ^ j.toNat)) μ2 := de_op op_shl ha hb (rd_I h)
theorem de_shr {i j : Int} (ha : DE K X Z ρ μ a (.int i) μ1) (hb : DE K X Z ρ μ1 b (.int j) μ2) (h : 0 ≤ j) : DE K X Z ρ μ (.BinOp a .RShift b pos) (.int (i / 2 ^ j.toNat)) μ2 := de_op op_shr ha hb (rd_I h)
theorem de_and {i j : Int} (ha : DE K X Z ρ μ a (.int i) μ1) (hb : DE K X Z ρ μ1 b (.int j) μ2) : DE K X Z ρ μ (.BinOp a .BitAnd b pos) (.int (Builtin.bitAnd i j)) μ2 := de_op op_and ha hb rd_I0
theorem de_or {i j : Int} (ha : DE K X Z ρ μ a (.int i) μ1) (hb : DE K X Z ρ μ1 b (.int j) μ2) : DE K X Z ρ μ (.BinOp a .BitOr b pos) (.int (Builtin.bitOr i j)) μ2 := de_op op_or ha hb rd_I0
theorem de_neg {i : Int} (ha : DE K X Z ρ μ a (.int i) μ1) : DE K X Z ρ μ (.UnaryOp .USub a pos) (.int (-i)) μ1 := de_un un_neg ha fun ν σ G H x S rx Q q => ⟨i, rep_v.mp rx, q _ G H (.refl S.gh) (rep_v.mpr rfl)⟩

/-! comparisons as values -/
theorem de_cmp {op : CmpOp} {r : R2} (ho : OpR X (compareOp op) r) (hm : behindInMarks op b = false) (ha : DE K X Z ρ μ a da μ1) (hb : DE K X Z ρ μ1 b db μ2) (hr : RD2 K Z ρ μ2 r da db d) : DE K X Z ρ μ (.Compare a [op] [b] pos) d μ2 := fun ν σ G H S Q q =>
  we_of (pe_cmpR ho pe_we pe_we hm) (ha ν σ G H S _ fun x G1 H1 e1 S1 r1 => hb ν σ G1 H1 S1 _ fun y G2 H2 e2 S2 r2 => hr ν σ G2 H2 x y S2 (r1.mono e2) r2 Q fun v G3 H3 e3 r3 => q v G3 H3 ((e1.trans e2).trans e3.gg) (S2.ext e3) r3)
theorem dt_cmp {op : CmpOp} {r : R2} {u : Bool} (ho : OpR X (compareOp op) r) (hm : behindInMarks op b = false) (ha : DE K X Z ρ μ a da μ1) (hb : DE K X Z ρ μ1 b db μ2) (hr : RD2 K Z ρ μ2 r da db (.bl u)) : DT K X Z ρ μ (.Compare a [op] [b] pos) u μ2 := fun ν σ G H S Q q =>
  wt_of (pt_cmpR ho pe_we pe_we hm) (ha ν σ G H S _ fun x G1 H1 e1 S1 r1 => hb ν σ G1 H1 S1 _ fun y G2 H2 e2 S2 r2 => hr ν σ G2 H2 x y S2 (r1.mono e2) r2 _ fun v G3 H3 e3 r3 => ⟨u, rep_v.mp r3, q G3 H3 ((e1.trans e2).trans e3.gg) (S2.ext e3)⟩)
/-- a comparison by its operator: what it comes to -/
structure Cmp (K : PySem.W.Frag) (X : Cx) (Z : Zed) (ρ : Rho) (μ : Mu) (op : CmpOp) (e2 : Expr) (da db : D) (u : Bool) : Prop where
  ex : ∃ r, OpR X (compareOp op) r ∧ behindInMarks op e2 = false ∧ RD2 K Z ρ μ r da db (.bl u)
theorem de_cp {op : CmpOp} {u : Bool} (ha : DE K X Z ρ μ a da μ1) (hb : DE K X Z ρ μ1 b db μ2) (h : Cmp K X Z ρ μ2 op b da db u) : DE K X Z ρ μ (.Compare a [op] [b] pos) (.bl u) μ2 := by
  obtain ⟨r, h1, h2, h3⟩ := h.ex
  exact de_cmp h1 h2 ha hb h3
theorem dt_cp {op : CmpOp} {u : Bool} (ha : DE K X Z ρ μ a da μ1) (hb : DE K X Z ρ μ1 b db μ2) (h : Cmp K X Z ρ μ2 op b da db u) : DT K X Z ρ μ (.Compare a [op] [b] pos) u μ2 := by
  obtain ⟨r, h1, h2, h3⟩ := h.ex
  exact dt_cmp h1 h2 ha hb h3
theorem cp_lt {i j : Int} : Cmp K X Z ρ μ .Lt b (.int i) (.int j) (decide (i < j)) := ⟨_, op_lt, nomark _, rd_I0⟩
theorem cp_le {i j : Int} : Cmp K X Z ρ μ .LtE b (.int i) (.int j) (decide (i ≤ j)) := ⟨_, op_le, nomark _, rd_I0⟩
theorem cp_gt {i j : Int} : Cmp K X Z ρ μ .Gt b (.int i) (.int j) (decide (j < i)) := ⟨_, op_gt, nomark _, rd_I0⟩
theorem cp_ge {i j : Int} : Cmp K X Z ρ μ .GtE b (.int i) (.int j) (decide (j ≤ i)) := ⟨_, op_ge, nomark _, rd_I0⟩
theorem cp_eqV {x y : L2.V} (h : scal x y = true) : Cmp K X Z ρ μ .Eq b (.v x) (.v y) (decide (x = y)) := ⟨_, op_eq, nomark _, fun ν σ G H u v S rx ry Q q => by
  rw [rep_v.mp rx, rep_v.mp ry]; exact ⟨h, q _ G H (.refl S.gh) (rep_v.mpr rfl)⟩⟩
theorem cp_neV {x y : L2.V} (h : scal x y = true) : Cmp K X Z ρ μ .NotEq b (.v x) (.v y) (!decide (x = y)) := ⟨_, op_ne, nomark _, fun ν σ G H u v S rx ry Q q => by
  rw [rep_v.mp rx, rep_v.mp ry]; exact ⟨h, q _ G H (.refl S.gh) (rep_v.mpr rfl)⟩⟩
theorem Cmp.is {op : CmpOp} {u v : Bool} (h : Cmp K X Z ρ μ op b da db u) (e : u = v) : Cmp K X Z ρ μ op b da db v := e ▸ h
theorem cp_eq {i j : Int} : Cmp K X Z ρ μ .Eq b (.int i) (.int j) (decide (i = j)) := (cp_eqV rfl).is (by simp)
theorem cp_ne {i j : Int} : Cmp K X Z ρ μ .NotEq b (.int i) (.int j) (!decide (i = j)) := (cp_neV rfl).is (by simp)
theorem cp_eqS {i j : Str} : Cmp K X Z ρ μ .Eq b (.str i) (.str j) (decide (i = j)) := (cp_eqV rfl).is (by simp)
theorem cp_neS {i j : Str} : Cmp K X Z ρ μ .NotEq b (.str i) (.str j) (!decide (i = j)) := (cp_neV rfl).is (by simp)
theorem cp_isB {i j : Bool} : Cmp K X Z ρ μ .Is b (.bl i) (.bl j) (decide (i = j)) := ⟨_, op_isBl, nomark _, fun ν σ G H u v S rx ry Q q => ⟨i, j, rep_v.mp rx, rep_v.mp ry, q _ G H (.refl S.gh) (rep_v.mpr rfl)⟩⟩
theorem cp_notB {i j : Bool} : Cmp K X Z ρ μ .IsNot b (.bl i) (.bl j) (!decide (i = j)) := ⟨_, op_notBl, nomark _, fun ν σ G H u v S rx ry Q q => ⟨i, j, rep_v.mp rx, rep_v.mp ry, q _ G H (.refl S.gh) (rep_v.mpr rfl)⟩⟩
/-- x is None: no tuple, no list, no instance, no number is -/
def D.isNon : D → Bool
  | .v .non => true
  | _ => false
theorem rep_non {G : Hp} {v : L2.V} (h : Rep K G d v) : decide (v = .non) = d.isNon := by
  cases d with
  | v x => rw [rep_v.mp h]; cases x <;> simp [D.isNon]
  | tup xs => obtain ⟨a, vs, rfl, _⟩ := rep_tup.mp h; simp [D.isNon]
  | lst xs => obtain ⟨a, vs, rfl, _⟩ := rep_lst.mp h; simp [D.isNon]
  | ins C ns ds => obtain ⟨a, dx, vs, rfl, _⟩ := rep_ins.mp h; simp [D.isNon]
theorem cp_isN : Cmp K X Z ρ μ .Is b d .non d.isNon := ⟨_, op_isN, nomark _, fun ν σ G H u v S rx ry Q q => ⟨rep_v.mp ry, by rw [rep_non rx]; exact q _ G H (.refl S.gh) (rep_v.mpr rfl)⟩⟩
theorem cp_notN : Cmp K X Z ρ μ .IsNot b d .non (!d.isNon) := ⟨_, op_notN, nomark _, fun ν σ G H u v S rx ry Q q => ⟨rep_v.mp ry, by rw [rep_non rx]; exact q _ G H (.refl S.gh) (rep_v.mpr rfl)⟩⟩
/-- a < b <= c -/
theorem de_chain {op op' : CmpOp} {u v : Bool} (hm : behindInMarks op' c = false) (ha : DE K X Z ρ μ a da μ1) (hb : DE K X Z ρ μ1 b db μ2) (h : Cmp K X Z ρ μ2 op b da db u) (hc : DE K X Z ρ μ2 c dc μ2) (h' : Cmp K X Z ρ μ2 op' c db dc v) : DE K X Z ρ μ (.Compare a [op, op'] [b, c] pos) (.bl (u && v)) μ2 := fun ν σ G H S Q q => by
  obtain ⟨r, h1, h2, h3⟩ := h.ex
  obtain ⟨r', h1', h2', h3'⟩ := h'.ex
  refine we_of (pe_chain h1 h1' pe_we pe_we pe_we (by show behindInMarks op' c = false; exact hm)) ?_
  refine ha ν σ G H S _ fun x G1 H1 e1 S1 r1 => hb ν σ G1 H1 S1 _ fun y G2 H2 e2 S2 r2 => h3 ν σ G2 H2 x y S2 (r1.mono e2) r2 _ fun z G3 H3 e3 r3 => ⟨u, rep_v.mp r3, ?_⟩
  have S3 := S2.ext e3
  cases u with
  | false => exact q _ G3 H3 ((e1.trans e2).trans e3.gg) S3 (rep_v.mpr rfl)
  | true =>
    refine hc ν σ G3 H3 S3 _ fun z' G4 H4 e4 S4 r4 => h3' ν σ G4 H4 y z' S4 (r2.mono (e3.gg.trans e4)) r4 _ fun z2 G5 H5 e5 r5 => ?_
    exact q _ G5 H5 (((e1.trans e2).trans e3.gg).trans (e4.trans e5.gg)) (S4.ext e5) r5
theorem dt_chain {op op' : CmpOp} {u v : Bool} (hm : behindInMarks op' c = false) (ha : DE K X Z ρ μ a da μ1) (hb : DE K X Z ρ μ1 b db μ2) (h : Cmp K X Z ρ μ2 op b da db u) (hc : DE K X Z ρ μ2 c dc μ2) (h' : Cmp K X Z ρ μ2 op' c db dc v) : DT K X Z ρ μ (.Compare a [op, op'] [b, c] pos) (u && v) μ2 := fun ν σ G H S Q q => by
  obtain ⟨r, h1, h2, h3⟩ := h.ex
  obtain ⟨r', h1', h2', h3'⟩ := h'.ex
  refine wt_of (pt_chain h1 h1' pe_we pe_we pe_we (by show behindInMarks op' c = false; exact hm)) ?_
  refine ha ν σ G H S _ fun x G1 H1 e1 S1 r1 => hb ν σ G1 H1 S1 _ fun y G2 H2 e2 S2 r2 => h3 ν σ G2 H2 x y S2 (r1.mono e2) r2 _ fun z G3 H3 e3 r3 => ⟨u, rep_v.mp r3, ?_⟩
  have S3 := S2.ext e3
  cases u with
  | false => exact ⟨false, rfl, q G3 H3 ((e1.trans e2).trans e3.gg) S3⟩
  | true =>
    refine hc ν σ G3 H3 S3 _ fun z' G4 H4 e4 S4 r4 => h3' ν σ G4 H4 y z' S4 (r2.mono (e3.gg.trans e4)) r4 _ fun z2 G5 H5 e5 r5 => ?_
    exact ⟨v, rep_v.mp r5, q G5 H5 (((e1.trans e2).trans e3.gg).trans (e4.trans e5.gg)) (S4.ext e5)⟩
end
end NC

set_option Elab.async false
set_option linter.all false
set_option autoImplicit false
set_option maxRecDepth 100000
set_option maxHeartbeats 2000000
/-! Tests, displays, subscripts, slices, fields. -/
namespace NC
open PySem PySem.Spec PyProof.Rows L2
section
variable {P : Program} {w : World} {K : PySem.W.Frag} {mg : Str → Option Value} {base : Heap} {N : List Str} {V : List Nat} {Gs : List Str} {k : Nat}
variable {X : Cx} {Z : Zed} {ρ : Rho} {μ μ1 μ2 μ3 : Mu} {a b c e o : Expr} {es : List Expr} {d da db dc : D} {ds : List D} {pos p pos' : Pos} {x : Str} {u v : Bool} {cl : Cell}

/-! ### tests -/
theorem dt_val (h : DE K X Z ρ μ e (.bl u) μ1) (he : ∀ whole, isTrue e X.env whole = (do let v ← whole; standAt e.pos; holding [v] (truthy v)) := by intro _; rfl) : DT K X Z ρ μ e u μ1 := fun ν σ G H S Q q =>
  wt_of (pt_val pe_we he) (h ν σ G H S _ fun v G1 H1 e1 S1 r1 => ⟨u, rep_v.mp r1, q G1 H1 e1 S1⟩)
theorem dt_not (h : DT K X Z ρ μ e u μ1) : DT K X Z ρ μ (.UnaryOp .Not e pos) (!u) μ1 := fun ν σ G H S Q q => wt_of (pt_not pt_wt) (h ν σ G H S _ fun G1 H1 e1 S1 => q G1 H1 e1 S1)
/-- and, or as tests: DW tells of a BoolOp whatever its whole is -/
def DW (K : PySem.W.Frag) (X : Cx) (Z : Zed) (ρ : Rho) (μ : Mu) (e : Expr) (b : Bool) (μ' : Mu) : Prop := ∃ t, PW X e t ∧ ∀ ν σ G H, Sat K Z ρ (μ ++ ν) σ G H → ∀ Q : Bool → Hp → Prop, (∀ G' H', Ex G G' → Sat K Z ρ (μ' ++ ν) σ G' H' → Q b H') → t σ H Q
theorem DW.dt (h : DW K X Z ρ μ e u μ1) : DT K X Z ρ μ e u μ1 := by
  obtain ⟨t, h1, h2⟩ := h
  exact fun ν σ G H S Q q => wt_of h1.pt (h2 ν σ G H S Q q)
theorem dw_and1 (h : DT K X Z ρ μ a u μ1) : DW K X Z ρ μ (.BoolOp .And [a] pos) u μ1 := ⟨_, pw_and1 pt_wt, fun ν σ G H S Q q => h ν σ G H S Q q⟩
theorem dw_or1 (h : DT K X Z ρ μ a u μ1) : DW K X Z ρ μ (.BoolOp .Or [a] pos) u μ1 := ⟨_, pw_or1 pt_wt, fun ν σ G H S Q q => h ν σ G H S Q q⟩
theorem dw_and {rest : List Expr} (h : DT K X Z ρ μ a u μ) (h' : u = true → DW K X Z ρ μ (.BoolOp .And (b :: rest) pos) v μ) : DW K X Z ρ μ (.BoolOp .And (a :: b :: rest) pos) (u && v) μ := by
  cases u with
  | true =>
    obtain ⟨t, h1, h2⟩ := h' rfl
    refine ⟨_, pw_and pt_wt h1, fun ν σ G H S Q q => ?_⟩
    refine h ν σ G H S _ fun G1 H1 e1 S1 => ?_
    show t σ H1 Q
    exact h2 ν σ G1 H1 S1 Q fun G2 H2 e2 S2 => q G2 H2 (e1.trans e2) S2
  | false =>
    refine ⟨_, pw_and pt_wt (tB' := fun σ H Q => ∀ (whole : Sem Value) pins s, Inv X pins σ H s → wpAny (model X.prog X.w) X.A (isTrue (.BoolOp .And (b :: rest) pos) X.env whole) (TP X pins σ Q) X.xe s) ⟨fun whole pins s σ H Q I q => q whole pins s I⟩, fun ν σ G H S Q q => ?_⟩
    refine h ν σ G H S _ fun G1 H1 e1 S1 => ?_
    show Q false H1
    exact q G1 H1 e1 S1
theorem dw_or {rest : List Expr} (h : DT K X Z ρ μ a u μ) (h' : u = false → DW K X Z ρ μ (.BoolOp .Or (b :: rest) pos) v μ) : DW K X Z ρ μ (.BoolOp .Or (a :: b :: rest) pos) (u || v) μ := by
  cases u with
  | false =>
    obtain ⟨t, h1, h2⟩ := h' rfl
    refine ⟨_, pw_or pt_wt h1, fun ν σ G H S Q q => ?_⟩
    refine h ν σ G H S _ fun G1 H1 e1 S1 => ?_
    show t σ H1 Q
    exact h2 ν σ G1 H1 S1 Q fun G2 H2 e2 S2 => q G2 H2 (e1.trans e2) S2
  | true =>
    refine ⟨_, pw_or pt_wt (tB' := fun σ H Q => ∀ (whole : Sem Value) pins s, Inv X pins σ H s → wpAny (model X.prog X.w) X.A (isTrue (.BoolOp .Or (b :: rest) pos) X.env whole) (TP X pins σ Q) X.xe s) ⟨fun whole pins s σ H Q I q => q whole pins s I⟩, fun ν σ G H S Q q => ?_⟩
    refine h ν σ G H S _ fun G1 H1 e1 S1 => ?_
    show Q true H1
    exact q G1 H1 e1 S1
/-- and, or, not as values of truth values -/
theorem de_one {op : BoolOp} (h : DE K X Z ρ μ a d μ1) : DE K X Z ρ μ (.BoolOp op [a] pos) d μ1 := fun ν σ G H S Q q => we_of (pe_one pe_we) (h ν σ G H S Q q)
theorem de_andv {rest : List Expr} (h : DE K X Z ρ μ a (.bl u) μ) (h' : u = true → DE K X Z ρ μ (.BoolOp .And (b :: rest) pos) (.bl v) μ) : DE K X Z ρ μ (.BoolOp .And (a :: b :: rest) pos) (.bl (u && v)) μ := fun ν σ G H S Q q =>
  we_of (pe_and pe_we pe_we) (h ν σ G H S _ fun x G1 H1 e1 S1 r1 => ⟨u, rep_v.mp r1, by
    cases u with
    | true =>
      show WE X _ σ H1 Q
      exact h' rfl ν σ G1 H1 S1 Q fun v G2 H2 e2 S2 r2 => q v G2 H2 (e1.trans e2) S2 r2
    | false =>
      show Q (.bl false) H1
      exact q _ G1 H1 e1 S1 (rep_v.mpr rfl)⟩)
theorem de_orv {rest : List Expr} (h : DE K X Z ρ μ a (.bl u) μ) (h' : u = false → DE K X Z ρ μ (.BoolOp .Or (b :: rest) pos) (.bl v) μ) : DE K X Z ρ μ (.BoolOp .Or (a :: b :: rest) pos) (.bl (u || v)) μ := fun ν σ G H S Q q =>
  we_of (pe_or pe_we pe_we) (h ν σ G H S _ fun x G1 H1 e1 S1 r1 => ⟨u, rep_v.mp r1, by
    cases u with
    | false =>
      show WE X _ σ H1 Q
      exact h' rfl ν σ G1 H1 S1 Q fun v G2 H2 e2 S2 r2 => q v G2 H2 (e1.trans e2) S2 r2
    | true =>
      show Q (.bl true) H1
      exact q _ G1 H1 e1 S1 (rep_v.mpr rfl)⟩)
theorem de_notv (h : DE K X Z ρ μ a (.bl u) μ1) : DE K X Z ρ μ (.UnaryOp .Not a pos) (.bl (!u)) μ1 := fun ν σ G H S Q q =>
  we_of (pe_not pe_we) (h ν σ G H S _ fun x G1 H1 e1 S1 r1 => ⟨u, rep_v.mp r1, q _ G1 H1 e1 S1 (rep_v.mpr rfl)⟩)
theorem de_ifE (h : DT K X Z ρ μ c u μ1) (h1 : u = true → DE K X Z ρ μ1 a d μ2) (h2 : u = false → DE K X Z ρ μ1 b d μ2) : DE K X Z ρ μ (.IfExp c a b pos) d μ2 := fun ν σ G H S Q q =>
  we_of (pe_ifExp pt_wt pe_we pe_we) (h ν σ G H S _ fun G1 H1 e1 S1 => by
    cases u with
    | true =>
      show WE X a σ H1 Q
      exact h1 rfl ν σ G1 H1 S1 Q fun v G2 H2 e2 S2 r2 => q v G2 H2 (e1.trans e2) S2 r2
    | false =>
      show WE X b σ H1 Q
      exact h2 rfl ν σ G1 H1 S1 Q fun v G2 H2 e2 S2 r2 => q v G2 H2 (e1.trans e2) S2 r2)

/-! ### argument lists, displays -/
theorem da_nil : DA K X Z ρ μ [] [] μ := fun ν σ G H S Q q => wa_of pa_nil (q [] G H (.refl _) S Reps.nil)
theorem da_cons (h : DE K X Z ρ μ e d μ1) (h' : DA K X Z ρ μ1 es ds μ2) (hs : starEach (e :: es) X.env = (false, eval e X.env) :: starEach es X.env := by rfl) : DA K X Z ρ μ (e :: es) (d :: ds) μ2 := fun ν σ G H S Q q =>
  wa_of (pa_cons pe_we pa_wa hs) (h ν σ G H S _ fun v G1 H1 e1 S1 r1 => h' ν σ G1 H1 S1 _ fun vs G2 H2 e2 S2 r2 => q _ G2 H2 (e1.trans e2) S2 (Reps.cons (r1.mono e2) r2))
theorem sz100 {n : Nat} (h : n ≤ 100000) : n ≤ sizeLine := Nat.le_trans h (by decide)
theorem sz100' {n : Nat} (h : n < 100000) : n < sizeLine := Nat.lt_of_lt_of_le h (by decide)
theorem de_tup {x1 : Nat} (h : DA K X Z ρ μ es ds μ1) (hl : ds.length ≤ 100000 := by simp) : DE K X Z ρ μ (.Tuple es x1 pos) (.tup ds) μ1 := fun ν σ G H S Q q =>
  we_of (pe_tup pa_wa) (h ν σ G H S _ fun vs G1 H1 e1 S1 r1 => ⟨by rw [← r1.length]; exact sz100 hl, fun p hp =>
    have E := Ext.fr (o := .tup vs) S1.gh hp
    q _ _ _ (e1.trans E.gg) (S1.ext E) (rep_tup.mpr ⟨p, vs, rfl, .inl (.inl upd_same), r1.mono E.gg⟩)⟩)
theorem dl_lst (h : DA K X Z ρ μ es ds μ1) (hl : ds.length ≤ 100000 := by simp) : DL K X Z ρ μ (.List es pos) (.lst ds) μ1 := fun ν σ G H S Q q =>
  we_of (pe_lst pa_wa) (h ν σ G H S _ fun vs G1 H1 e1 S1 r1 => ⟨by rw [← r1.length]; exact sz100 hl, fun p hp =>
    q p G1 _ e1 (S1.zfresh hp).2 (S1.own hp ⟨vs, upd_same, r1⟩)⟩)
/-- a new list, a new instance may be taken as data at once -/
theorem frz_last {σ : L2.St} {G H : Hp} {p : Addr} {ν : Mu} (S : Sat K Z ρ (μ ++ ν ++ [(p, cl)]) σ G H) (hp : p ∉ Z.xs) {o : HO} (ho : H p = some o) : Sat K Z ρ (μ ++ ν) σ (upd G p o) H ∧ Ex G (upd G p o) := by
  have hj : (μ ++ ν ++ [(p, cl)])[(μ ++ ν).length]? = some (p, cl) := by simp
  have h := S.freeze hj hp ho
  have e : (μ ++ ν ++ [(p, cl)]).eraseIdx (μ ++ ν).length = μ ++ ν := by
    rw [List.eraseIdx_append_of_length_le (Nat.le_refl _)]; simp
  rw [e] at h
  exact h
theorem cell_last {σ : L2.St} {G H : Hp} {p : Addr} {ν : Mu} (S : Sat K Z ρ (μ ++ ν ++ [(p, cl)]) σ G H) : CellAt K G H p cl := (S.ce p cl (by simp)).1
theorem de_lst (h : DL K X Z ρ μ e (.lst ds) μ1) : DE K X Z ρ μ e (.lst ds) μ1 := fun ν σ G H S Q q => h ν σ G H S Q fun p G1 H1 e1 hp S1 => by
  obtain ⟨vs, h1, h2⟩ := cell_last S1
  obtain ⟨S2, e2⟩ := frz_last S1 hp h1
  exact q _ _ _ (e1.trans e2) S2 (rep_lst.mpr ⟨p, vs, rfl, upd_same, h2.mono e2⟩)
theorem de_insN {C : Addr} {ns : List Str} (h : DL K X Z ρ μ e (.ins C ns ds) μ1) : DE K X Z ρ μ e (.ins C ns ds) μ1 := fun ν σ G H S Q q => h ν σ G H S Q fun p G1 H1 e1 hp S1 => by
  obtain ⟨dx, vs, h1, h0, h2⟩ := cell_last S1
  obtain ⟨S2, e2⟩ := frz_last S1 hp h1
  exact q _ _ _ (e1.trans e2) S2 (rep_ins.mpr ⟨p, dx, vs, rfl, upd_same, h0, h2.mono e2⟩)
/-- .. or forgotten -/
theorem de_drop (h : DL K X Z ρ μ e cl μ1) (hr : ∀ G v, Rep K G d v) : DE K X Z ρ μ e d μ1 := fun ν σ G H S Q q => h ν σ G H S Q fun p G1 H1 e1 hp S1 =>
  q _ _ _ e1 (S1.mono (fun r hr => List.mem_append_left _ hr) (by
    have := S1.nd
    rw [List.map_append, List.nodup_append] at this
    exact this.1)) (hr _ _)

/-! ### subscripts -/
theorem de_ix {r : R2} (hr : IxR X r) (ha : DE K X Z ρ μ a da μ1) (hb : DE K X Z ρ μ1 b db μ2) (hd : RD2 K Z ρ μ2 r da db d) (hs : PlainIx b := by intro _ _; rfl) : DE K X Z ρ μ (.Subscript a b pos) d μ2 := fun ν σ G H S Q q =>
  we_of (pe_ix hr pe_we pe_we hs) (ha ν σ G H S _ fun x G1 H1 e1 S1 r1 => hb ν σ G1 H1 S1 _ fun y G2 H2 e2 S2 r2 => hd ν σ G2 H2 x y S2 (r1.mono e2) r2 Q fun v G3 H3 e3 r3 => q v G3 H3 ((e1.trans e2).trans e3.gg) (S2.ext e3) r3)
theorem at_reps {G : Hp} {vs : List L2.V} {i : Int} (h : Reps K G ds vs) (e : atI ds i = some d) : ∃ v, atI vs i = some v ∧ Rep K G d v := by
  unfold atI at e ⊢
  rw [h.length] at e
  cases q : ixN vs.length i with
  | none => rw [q] at e; cases e
  | some j =>
    rw [q] at e
    exact h.get e
theorem de_ixT {i : Int} (C : Bc X P w K mg base N V Gs k) (ha : DE K X Z ρ μ a (.tup ds) μ1) (hb : DE K X Z ρ μ1 b (.int i) μ2) (h : atI ds i = some d) (hs : PlainIx b := by intro _ _; rfl) : DE K X Z ρ μ (.Subscript a b pos) d μ2 :=
  de_ix ix_tup ha hb (fun ν σ G H x y S rx ry Q q => by
    obtain ⟨p, vs, rfl, h1, h2⟩ := rep_tup.mp rx
    obtain ⟨v, h3, h4⟩ := at_reps h2 h
    rw [C.eK]
    exact ⟨p, vs, i, v, rfl, rep_v.mp ry, S.gh.t h1, h3, q v G H (.refl S.gh) h4⟩) hs
theorem de_ixL {i : Int} (C : Bc X P w K mg base N V Gs k) (ha : DE K X Z ρ μ a (.lst ds) μ1) (hb : DE K X Z ρ μ1 b (.int i) μ2) (h : atI ds i = some d) (hs : PlainIx b := by intro _ _; rfl) : DE K X Z ρ μ (.Subscript a b pos) d μ2 :=
  de_ix ix_list ha hb (fun ν σ G H x y S rx ry Q q => by
    obtain ⟨p, vs, rfl, h1, h2⟩ := rep_lst.mp rx
    obtain ⟨v, h3, h4⟩ := at_reps h2 h
    rw [C.eK]
    exact ⟨p, vs, i, v, rfl, rep_v.mp ry, .inl (.inl (S.gh _ _ h1)), h3, q v G H (.refl S.gh) h4⟩) hs
/-- of an owned list -/
theorem de_ixO (j : Nat) {i : Int} {q : Addr} (C : Bc X P w K mg base N V Gs k) (ha : DE K X Z ρ μ a (.ref q) μ1) (hb : DE K X Z ρ μ1 b (.int i) μ2) (hj : μ2[j]? = some (q, .lst ds)) (h : atI ds i = some d) (hs : PlainIx b := by intro _ _; rfl) : DE K X Z ρ μ (.Subscript a b pos) d μ2 :=
  de_ix ix_list ha hb (fun ν σ G H x y S rx ry Q qq => by
    obtain ⟨vs, h1, h2⟩ := (S.ce q _ (List.mem_append_left _ (List.mem_of_getElem? hj))).1
    obtain ⟨v, h3, h4⟩ := at_reps h2 h
    rw [C.eK]
    exact ⟨q, vs, i, v, rep_v.mp rx, rep_v.mp ry, .inl (.inl h1), h3, qq v G H (.refl S.gh) h4⟩) hs

/-! ### slices of lists: new lists -/
/-- a part of a slice: left out, or an int -/
inductive DO (K : PySem.W.Frag) (X : Cx) (Z : Zed) (ρ : Rho) (μ : Mu) : Option Expr → Option Int → Prop where
  | none : DO K X Z ρ μ Option.none Option.none
  | some {e : Expr} {i : Int} (h : DE K X Z ρ μ e (.int i) μ) : DO K X Z ρ μ (Option.some e) (Option.some i)
theorem DO.run {o : Option Expr} {i : Option Int} (h : DO K X Z ρ μ o i) : ∃ t, PO X o t ∧ ∀ ν σ G H, Sat K Z ρ (μ ++ ν) σ G H → ∀ Q : Option Int → Hp → Prop, (∀ G' H', Ex G G' → Sat K Z ρ (μ ++ ν) σ G' H' → Q i H') → t σ H Q := by
  cases h with
  | none => exact ⟨_, po_none, fun ν σ G H S Q q => q G H (.refl _) S⟩
  | some h => exact ⟨_, po_some pe_we, fun ν σ G H S Q q => h ν σ G H S _ fun v G1 H1 e1 S1 r1 => ⟨_, rep_v.mp r1, q G1 H1 e1 S1⟩⟩
def cutD (xs : List D) (lo hi : Option Int) : List D := (xs.drop (HT.sIx xs.length 0 lo)).take (HT.sIx xs.length xs.length hi - HT.sIx xs.length 0 lo)
theorem reps_cut {G : Hp} {vs : List L2.V} {lo hi : Option Int} (h : Reps K G ds vs) : Reps K G (cutD ds lo hi) (cutV vs lo hi) := by
  unfold cutD cutV
  rw [h.length]
  exact (h.drop _).take _
theorem dl_slice {lo hi : Option Expr} {i j : Option Int} {p2 : Pos} (C : Bc X P w K mg base N V Gs k) (ha : DE K X Z ρ μ a (.lst ds) μ1) (hl : DO K X Z ρ μ1 lo i) (hh : DO K X Z ρ μ1 hi j) : DL K X Z ρ μ (.Subscript a (.Slice lo hi none p2) pos) (.lst (cutD ds i j)) μ1 := fun ν σ G H S Q q => by
  obtain ⟨tl, l1, l2⟩ := hl.run
  obtain ⟨th, h1, h2⟩ := hh.run
  refine we_of (pe_slice sl_list pe_we l1 h1) (ha ν σ G H S _ fun x G1 H1 e1 S1 r1 => l2 ν σ G1 H1 S1 _ fun G2 H2 e2 S2 => h2 ν σ G2 H2 S2 _ fun G3 H3 e3 S3 => ?_)
  obtain ⟨p, vs, rfl, g1, g2⟩ := rep_lst.mp (r1.mono (e2.trans e3))
  rw [C.eK]
  exact ⟨p, vs, rfl, .inl (.inl (S3.gh _ _ g1)), fun l hl => q l G3 _ ((e1.trans e2).trans e3) (S3.zfresh hl).2 (S3.own hl ⟨_, upd_same, reps_cut g2⟩)⟩

/-! ### fields -/
/-- a class: its fields are no attributes of its own, no two alike -/
structure ClsD (K : PySem.W.Frag) (C : Addr) (ns : List Str) : Prop where
  cl : Cls K C
  na : ∀ (i : Nat) (f : Str), ns[i]? = some f → NoAttr K C f
  nd : ns.Nodup
theorem look_zip {α : Type} : ∀ {ns : List Str} {vs : List α} {i : Nat} {f : Str} {v : α}, ns.Nodup → ns[i]? = some f → vs[i]? = some v → (ns.zip vs).lookup f = some v
  | [], _, i, _, _, _, h, _ => by simp at h
  | n :: ns, [], i, _, _, _, _, h => by simp at h
  | n :: ns, u :: vs, 0, f, v, nd, h1, h2 => by
    simp at h1 h2; subst h1 h2
    simp [List.lookup]
  | n :: ns, u :: vs, i + 1, f, v, nd, h1, h2 => by
    have h1' : ns[i]? = some f := by simpa using h1
    have hne : ¬ f = n := fun e => (List.nodup_cons.mp nd).1 (e ▸ List.mem_of_getElem? h1')
    have : (f == n) = false := by simpa using hne
    simp only [List.zip_cons_cons, List.lookup, this]
    exact look_zip (List.nodup_cons.mp nd).2 h1' (by simpa using h2)
theorem look_none {α : Type} : ∀ {ns : List Str} {vs : List α} {f : Str}, f ∉ ns → (ns.zip vs).lookup f = none
  | [], _, _, _ => by simp
  | n :: ns, [], _, _ => by simp
  | n :: ns, u :: vs, f, h => by
    have hne : ¬ f = n := fun e => h (by simp [e])
    have : (f == n) = false := by simpa using hne
    simp only [List.zip_cons_cons, List.lookup, this]
    exact look_none fun z => h (List.mem_cons_of_mem _ z)
theorem de_fld (i : Nat) {Cl : Addr} {ns : List Str} {f : Str} (C : Bc X P w K mg base N V Gs k) (T : ClsD K Cl ns) (ho : DE K X Z ρ μ o (.ins Cl ns ds) μ1) (hn : ns[i]? = some f) (hd : ds[i]? = some d) (hb : attributeBase o f X.env (eval o X.env) = eval o X.env := by rfl) : DE K X Z ρ μ (.Attribute o f pos) d μ1 := fun ν σ G H S Q q =>
  we_of (pe_fld pe_we hb) (ho ν σ G H S _ fun x G1 H1 e1 S1 r1 => by
    obtain ⟨a, dx, vs, rfl, h1, h2, h3⟩ := rep_ins.mp r1
    obtain ⟨v, h4, h5⟩ := h3.get hd
    rw [C.eK]
    exact ⟨a, Cl, dx, _, v, rfl, S1.gh _ _ h1, T.cl, T.na i f hn, look_zip T.nd hn h4, q v G1 H1 e1 S1 h5⟩)
theorem de_fldO (j i : Nat) {q : Addr} {Cl : Addr} {ns : List Str} {f : Str} (C : Bc X P w K mg base N V Gs k) (T : ClsD K Cl ns) (ho : DE K X Z ρ μ o (.ref q) μ1) (hj : μ1[j]? = some (q, .ins Cl ns ds)) (hn : ns[i]? = some f) (hd : ds[i]? = some d) (hb : attributeBase o f X.env (eval o X.env) = eval o X.env := by rfl) : DE K X Z ρ μ (.Attribute o f pos) d μ1 := fun ν σ G H S Q qq =>
  we_of (pe_fld pe_we hb) (ho ν σ G H S _ fun x G1 H1 e1 S1 r1 => by
    obtain ⟨dx, vs, h1, h2, h3⟩ := (S1.ce q _ (List.mem_append_left _ (List.mem_of_getElem? hj))).1
    obtain ⟨v, h4, h5⟩ := h3.get hd
    rw [C.eK]
    exact ⟨q, Cl, dx, _, v, rep_v.mp r1, h1, T.cl, T.na i f hn, look_zip T.nd hn h4, qq v G1 H1 e1 S1 h5⟩)
/-- of an instance that is not whole yet: its fields a part -/
theorem ClsD.part {Cl : Addr} {ns ms : List Str} (T : ClsD K Cl (ns ++ ms)) : ClsD K Cl ns := ⟨T.cl, fun i f h => T.na i f (by rw [List.getElem?_append_left (by exact (List.getElem?_eq_some_iff.mp h).1)]; exact h), (List.nodup_append.mp T.nd).1⟩
end
end NC

set_option Elab.async false
set_option linter.all false
set_option autoImplicit false
set_option maxRecDepth 100000
set_option maxHeartbeats 2000000
/-! Contracts of defs, calls. -/
namespace NC
open PySem PySem.Spec PyProof.Rows L2
/-- a def's contract: arguments, owned cells handed in, the answer, these cells behind it -/
abbrev Con := List D → Mu → D → Mu → Prop
/-- a contract that owns nothing -/
def Pu (R : List D → D → Prop) : Con := fun ds μ d μ' => μ = [] ∧ μ' = [] ∧ R ds d
def CellsOk (K : PySem.W.Frag) (G H : Hp) (μ : Mu) : Prop := ∀ p c, (p, c) ∈ μ → CellAt K G H p c ∧ G p = none
def spC (K : PySem.W.Frag) (n : Nat) (R : Con) : Sp := fun vs H Q _ => ∃ G ds μ d μ', vs.length = n ∧ Ex G H ∧ Reps K G ds vs ∧ CellsOk K G H μ ∧ (μ.map (·.1)).Nodup ∧ R ds μ d μ' ∧ μ'.map (·.1) = μ.map (·.1) ∧
  ∀ v G' H', Ex G G' → Ex G' H' → Rep K G' d v → CellsOk K G' H' μ' → (∀ a o, H a = some o → a ∉ μ.map (·.1) → H' a = some o) → (∀ a, H a ≠ none → G a = none → G' a = none) → Q v H'

section
variable {K : PySem.W.Frag} {Z : Zed} {ρ : Rho} {μ ν μa μa' μr : Mu} {σ : L2.St} {G H : Hp} {n : Nat} {R : Con} {ds : List D} {d : D}
theorem map_fst_app {μ ν : Mu} : (μ ++ ν).map (·.1) = μ.map (·.1) ++ ν.map (·.1) := List.map_append
/-- behind a call that owned μa -/
theorem Sat.after {v : L2.V} {G' H' : Hp} (S : Sat K Z ρ (μa ++ ν) σ G H) (hm : μa'.map (·.1) = μa.map (·.1)) (g : Ex G G') (gh : Ex G' H') (hc : CellsOk K G' H' μa') (hh : ∀ a o, H a = some o → a ∉ μa.map (·.1) → H' a = some o)
    (hn : ∀ a, H a ≠ none → G a = none → G' a = none) : Sat K Z ρ (μa' ++ ν) σ G' H' := by
  have nd := S.nd
  rw [map_fst_app, List.nodup_append] at nd
  have inA : ∀ a, a ∈ μa.map (·.1) → (Z.H a = none ∨ a ∈ Z.xs) := fun a ha => by
    obtain ⟨⟨p, c⟩, hp, rfl⟩ := List.mem_map.mp ha
    exact (S.ce p c (List.mem_append_left _ hp)).2.2
  refine ⟨gh, S.ln, fun i d h => ?_, fun p c h => ?_, ?_, S.zg.trans g, fun a o h1 h2 => ?_, fun a h1 h2 => ?_, fun a ha => ?_⟩
  · obtain ⟨u, e1, e2⟩ := S.sl i d h
    exact ⟨u, e1, e2.mono g⟩
  · rcases List.mem_append.mp h with h | h
    · refine ⟨(hc p c h).1, (hc p c h).2, inA p ?_⟩
      rw [← hm]
      exact List.mem_map.mpr ⟨(p, c), h, rfl⟩
    · obtain ⟨h1, h2, h3⟩ := S.ce p c (List.mem_append_right _ h)
      refine ⟨h1.keep g fun o e => hh p o e fun z => ?_, hn p h1.ne h2, h3⟩
      exact nd.2.2 p z p (List.mem_map.mpr ⟨(p, c), h, rfl⟩) rfl
  · rw [map_fst_app, hm, ← map_fst_app]; exact S.nd
  · refine hh a o (S.zh a o h1 h2) fun z => ?_
    rcases inA a z with q | q
    · rw [h1] at q; cases q
    · exact h2 q
  · refine hn a ?_ (S.zn a h1 h2)
    by_cases hx : a ∈ Z.xs
    · exact S.zx a hx
    · cases q : Z.H a with
      | none => exact absurd q h1
      | some o => rw [S.zh a o q hx]; simp
  · by_cases hA : a ∈ μa.map (·.1)
    · rw [← hm] at hA
      obtain ⟨⟨p, c⟩, hp, rfl⟩ := List.mem_map.mp hA
      exact (hc p c hp).1.ne
    · cases q : H a with
      | none => exact absurd q (S.zx a ha)
      | some o => rw [hh a o q hA]; simp
/-- a call by its contract -/
theorem spC_call {vs : List L2.V} {Q : VK} {E : XK} (S : Sat K Z ρ (μa ++ μr ++ ν) σ G H) (r : Reps K G ds vs) (hn : ds.length = n) (hR : R ds μa d μa') (hm : μa'.map (·.1) = μa.map (·.1))
    (q : ∀ v G' H', Ex G G' → Sat K Z ρ (μa' ++ μr ++ ν) σ G' H' → Rep K G' d v → Q v H') : spC K n R vs H Q E := by
  have S' : Sat K Z ρ (μa ++ (μr ++ ν)) σ G H := by rw [← List.append_assoc]; exact S
  have nd := S'.nd
  rw [map_fst_app, List.nodup_append] at nd
  refine ⟨G, ds, μa, d, μa', by rw [← r.length]; exact hn, S.gh, r, fun p c h => ?_, nd.1, hR, hm, fun v G' H' g gh rv hc hh hn => q v G' H' g ?_ rv⟩
  · exact ⟨(S'.ce p c (List.mem_append_left _ h)).1, (S'.ce p c (List.mem_append_left _ h)).2.1⟩
  · rw [List.append_assoc]
    exact S'.after (v := v) hm g gh hc hh hn
end

/-! ### what is known of a def, a method, a class -/
structure FC (P : Program) (w : World) (K : PySem.W.Frag) (mg : Str → Option Value) (base : Heap) (k : Nat) (x : Str) (n : Nat) (R : Con) : Prop where
  ex : ∃ f fd ps, mg x = some (.ref f) ∧ PySem.W.keepIn K (.ref f) = true ∧ Binds K fd ps [] ∧ FnOk P w K mg base CX0 k f fd ps (spC K n R)
/-- .. where its address is told -/
structure FA (P : Program) (w : World) (K : PySem.W.Frag) (mg : Str → Option Value) (base : Heap) (k : Nat) (f : Addr) (n : Nat) (R : Con) : Prop where
  ex : ∃ fd ps, PySem.W.keepIn K (.ref f) = true ∧ Binds K fd ps [] ∧ FnOk P w K mg base CX0 k f fd ps (spC K n R)
/-- a method of the class at Cl, whose instances have no field of its name -/
structure MC (P : Program) (w : World) (K : PySem.W.Frag) (mg : Str → Option Value) (base : Heap) (k : Nat) (Cl : Addr) (ns : List Str) (m : Str) (n : Nat) (R : Con) : Prop where
  ex : ∃ f fd ps, Cls K Cl ∧ Meth K Cl m f ∧ m ∉ ns ∧ Binds K fd ps [] ∧ FnOk P w K mg base CX0 k f fd ps (spC K n R)
structure KC (P : Program) (w : World) (K : PySem.W.Frag) (mg : Str → Option Value) (base : Heap) (k : Nat) (x : Str) (Cl : Addr) (n : Nat) (R : Con) : Prop where
  ex : ∃ f fd ps, mg x = some (.ref Cl) ∧ Mk K Cl f ∧ Binds K fd ps [] ∧ FnOk P w K mg base CX0 k f fd ps (spC K n R)
/-- C.m(..): a def read off its class -/
structure BC (P : Program) (w : World) (K : PySem.W.Frag) (mg : Str → Option Value) (base : Heap) (k : Nat) (x : Str) (Cl : Addr) (m : Str) (n : Nat) (R : Con) : Prop where
  ex : ∃ f fd ps mc, mg x = some (.ref Cl) ∧ ClX.CRead K Cl mc ∧ ClX.CVal K Cl mc m (.ref f) (.ref f) ∧ PySem.W.keepIn K (.ref f) = true ∧ Binds K fd ps [] ∧ FnOk P w K mg base CX0 k f fd ps (spC K n R)

section
variable {P : Program} {w : World} {K : PySem.W.Frag} {mg : Str → Option Value} {base : Heap} {N : List Str} {V : List Nat} {Gs : List Str} {k kf : Nat}
variable {X : Cx} {Z : Zed} {ρ : Rho} {μ μ1 μ2 μ3 μa μa' μr : Mu} {a b c e o : Expr} {es : List Expr} {d da db dc : D} {ds : List D} {pos p pos' apos : Pos} {x m : Str} {u v : Bool} {cl : Cell} {n : Nat} {R : Con}

/-- f(e, ..) -/
theorem de_call (j : Nat) (C : Bc X P w K mg base N V Gs k) (F : FC P w K mg base kf x n R) (hG : Gs[j]? = some x) (ha : DA K X Z ρ μ (e :: es) ds (μa ++ μr)) (hR : R ds μa d μa') (hn : ds.length = n := by rfl) (hk : kf ≤ k := by decide) (hm : μa'.map (·.1) = μa.map (·.1) := by rfl)
    (he : starEach (e :: es) X.env = (false, eval e X.env) :: starEach es X.env := by rfl) (hpl : (backTo pos (starEach es X.env)).any (·.1) = false := by rfl) : DE K X Z ρ μ (.Call (.Name x p) (e :: es) [] pos) d (μa' ++ μr) := fun ν σ G H S Q q => by
  obtain ⟨f, fd, ps, h1, h2, h3, h4⟩ := F.ex
  obtain ⟨g1, g2, _⟩ := C.glo j x hG
  have e1 := C.eP; have e2 := C.ew; have e3 := C.eK; have e4 := C.em; have e5 := C.eb
  subst e1 e2 e3 e4 e5
  exact we_of (pe_call h4 (C.room.mono hk) g1 h1 h2 h3 .nil pass0 pa_wa g2 he hpl) (ha ν σ G H S _ fun vs G1 H1 e1 S1 r1 => by
    rw [List.append_nil]
    exact spC_call S1 r1 hn hR hm fun v G2 H2 e2 S2 r2 => q v G2 H2 (e1.trans e2) S2 r2)
/-- .. that owns nothing -/
theorem de_callP {R : List D → D → Prop} (j : Nat) (C : Bc X P w K mg base N V Gs k) (F : FC P w K mg base kf x n (Pu R)) (hG : Gs[j]? = some x) (ha : DA K X Z ρ μ (e :: es) ds μ1) (hR : R ds d) (hn : ds.length = n := by rfl) (hk : kf ≤ k := by decide)
    (he : starEach (e :: es) X.env = (false, eval e X.env) :: starEach es X.env := by rfl) (hpl : (backTo pos (starEach es X.env)).any (·.1) = false := by rfl) : DE K X Z ρ μ (.Call (.Name x p) (e :: es) [] pos) d μ1 :=
  de_call (μa := []) (μa' := []) (μr := μ1) j C F hG ha ⟨rfl, rfl, hR⟩ hn hk rfl he hpl
/-- g(e, ..), g a local name that holds a def -/
theorem de_callL (i : Nat) {nn : Nat} {f : Addr} {R : List D → D → Prop} (C : Bc X P w K mg base N V Gs k) (F : FA P w K mg base kf f n (Pu R)) (hN : N[i]? = some x) (hV : V[i]? = some (nn + 1)) (hρ : ρ[i]? = some (some (.ref f))) (ha : DA K X Z ρ μ (e :: es) ds μ1) (hR : R ds d) (hn : ds.length = n := by rfl) (hk : kf ≤ k := by decide)
    (he : starEach (e :: es) X.env = (false, eval e X.env) :: starEach es X.env := by rfl) (hpl : (backTo pos (starEach es X.env)).any (·.1) = false := by rfl) : DE K X Z ρ μ (.Call (.Name x p) (e :: es) [] pos) d μ1 := fun ν σ G H S Q q => by
  obtain ⟨fd, ps, h2, h3, h4⟩ := F.ex
  obtain ⟨n1, n2⟩ := C.nm i x hN
  have e1 := C.eP; have e2 := C.ew; have e3 := C.eK; have e4 := C.em; have e5 := C.eb
  subst e1 e2 e3 e4 e5
  obtain ⟨v0, s1, s2⟩ := S.sl i _ hρ
  have hv0 := rep_v.mp s2
  subst hv0
  have CA : C8.CalAt X.prog X.w X.K X.mg X.base kf f (spC X.K n (Pu R)) := ⟨⟨fd, ps, h4, h2, h3⟩⟩
  refine we_of (C8.pe_cv (c1 := CA) (c2 := CA) C.room hk hk (by rw [C.eN]; exact hN) (C.vis i x nn hV hN) pa_wa n1 n2 he hpl) (.inl ⟨s1, ?_⟩)
  exact ha ν σ G H S _ fun vs G1 H1 e1 S1 r1 => spC_call (μa := []) (μa' := []) (μr := μ1) S1 r1 hn ⟨rfl, rfl, hR⟩ rfl fun v G2 H2 e2 S2 r2 => q v G2 H2 (e1.trans e2) S2 r2
/-- o.m(e, ..), o as data -/
theorem de_meth {pl : Sem Bool} {Cl : Addr} {ns : List Str} {dso : List D} (C : Bc X P w K mg base N V Gs k) (F : MC P w K mg base kf Cl ns m n R) (ho : DE K X Z ρ μ o (.ins Cl ns dso) μ1) (ha : DA K X Z ρ μ1 (e :: es) ds (μa ++ μr)) (hR : R (.ins Cl ns dso :: ds) μa d μa') (hn : ds.length + 1 = n := by rfl) (hk : kf ≤ k := by decide) (hm : μa'.map (·.1) = μa.map (·.1) := by rfl)
    (hst : starEach (e :: es) X.env = (false, eval e X.env) :: starEach es X.env := by rfl) (hpl : (backTo pos (starEach es X.env)).any (·.1) = false := by rfl)
    (ht : eval (.Call (.Attribute o m apos) (e :: es) [] pos) X.env = (do
      let ov ← eval o X.env
      standAt apos.atName
      let (f, first) ← holding [ov] (getMethod ov m pl)
      callWith pos f first (backTo pos (starEach (e :: es) X.env)) (backToKw pos (keywordEach [] X.env))) := by rfl) : DE K X Z ρ μ (.Call (.Attribute o m apos) (e :: es) [] pos) d (μa' ++ μr) := fun ν σ G H S Q q => by
  obtain ⟨f, fd, ps, h1, h2, h0, h3, h4⟩ := F.ex
  have e1 := C.eP; have e2 := C.ew; have e3 := C.eK; have e4 := C.em; have e5 := C.eb
  subst e1 e2 e3 e4 e5
  refine we_of (pe_meth (pl := pl) pe_we h1 h2 h4 (C.room.mono hk) h3 .nil pass0 pa_wa hst hpl ht) (ho ν σ G H S _ fun x0 G1 H1 e1 S1 r1 => ?_)
  obtain ⟨a, dx, vs, rfl, g1, g2, g3⟩ := rep_ins.mp r1
  refine ⟨a, dx, _, rfl, S1.gh _ _ g1, look_none h0, ha ν σ G1 H1 S1 _ fun vs2 G2 H2 e2 S2 r2 => ?_⟩
  rw [List.append_nil]
  exact spC_call S2 (Reps.cons (r1.mono e2) r2) (by simpa using hn) hR hm fun v G3 H3 e3 S3 r3 => q v G3 H3 ((e1.trans e2).trans e3) S3 r3
theorem de_meth0 {pl : Sem Bool} {Cl : Addr} {ns : List Str} {dso : List D} (C : Bc X P w K mg base N V Gs k) (F : MC P w K mg base kf Cl ns m n R) (ho : DE K X Z ρ μ o (.ins Cl ns dso) (μa ++ μr)) (hR : R [.ins Cl ns dso] μa d μa') (hn : 1 = n := by rfl) (hk : kf ≤ k := by decide) (hm : μa'.map (·.1) = μa.map (·.1) := by rfl)
    (ht : eval (.Call (.Attribute o m apos) [] [] pos) X.env = (do
      let ov ← eval o X.env
      standAt apos.atName
      let (f, first) ← holding [ov] (getMethod ov m pl)
      callWith pos f first (backTo pos (starEach [] X.env)) (backToKw pos (keywordEach [] X.env))) := by rfl) : DE K X Z ρ μ (.Call (.Attribute o m apos) [] [] pos) d (μa' ++ μr) := fun ν σ G H S Q q => by
  obtain ⟨f, fd, ps, h1, h2, h0, h3, h4⟩ := F.ex
  have e1 := C.eP; have e2 := C.ew; have e3 := C.eK; have e4 := C.em; have e5 := C.eb
  subst e1 e2 e3 e4 e5
  refine we_of (pe_meth0 (pl := pl) pe_we h1 h2 h4 (C.room.mono hk) h3 .nil pass0 ht) (ho ν σ G H S _ fun x0 G1 H1 e1 S1 r1 => ?_)
  obtain ⟨a, dx, vs, rfl, g1, g2, g3⟩ := rep_ins.mp r1
  refine ⟨a, dx, _, rfl, S1.gh _ _ g1, look_none h0, ?_⟩
  show spC _ _ _ (.ref a :: ([] ++ [])) H1 Q E0
  exact spC_call S1 (Reps.cons r1 Reps.nil) hn hR hm fun v G3 H3 e3 S3 r3 => q v G3 H3 (e1.trans e3) S3 r3
/-- o.m(e, ..), o an owned instance -/
theorem de_methO (i : Nat) {pl : Sem Bool} {q : Addr} {Cl : Addr} {ns : List Str} {dso : List D} (C : Bc X P w K mg base N V Gs k) (F : MC P w K mg base kf Cl ns m n R) (ho : DE K X Z ρ μ o (.ref q) μ1) (hi : μ1[i]? = some (q, .ins Cl ns dso)) (ha : DA K X Z ρ μ1 (e :: es) ds (μa ++ μr)) (hR : R (.ref q :: ds) μa d μa') (hn : ds.length + 1 = n := by rfl) (hk : kf ≤ k := by decide) (hm : μa'.map (·.1) = μa.map (·.1) := by rfl)
    (hst : starEach (e :: es) X.env = (false, eval e X.env) :: starEach es X.env := by rfl) (hpl : (backTo pos (starEach es X.env)).any (·.1) = false := by rfl)
    (ht : eval (.Call (.Attribute o m apos) (e :: es) [] pos) X.env = (do
      let ov ← eval o X.env
      standAt apos.atName
      let (f, first) ← holding [ov] (getMethod ov m pl)
      callWith pos f first (backTo pos (starEach (e :: es) X.env)) (backToKw pos (keywordEach [] X.env))) := by rfl) : DE K X Z ρ μ (.Call (.Attribute o m apos) (e :: es) [] pos) d (μa' ++ μr) := fun ν σ G H S Q qq => by
  obtain ⟨f, fd, ps, h1, h2, h0, h3, h4⟩ := F.ex
  have e1 := C.eP; have e2 := C.ew; have e3 := C.eK; have e4 := C.em; have e5 := C.eb
  subst e1 e2 e3 e4 e5
  refine we_of (pe_meth (pl := pl) pe_we h1 h2 h4 (C.room.mono hk) h3 .nil pass0 pa_wa hst hpl ht) (ho ν σ G H S _ fun x0 G1 H1 e1 S1 r1 => ?_)
  have ex0 := rep_v.mp r1
  subst ex0
  obtain ⟨dx, vs, g1, g2, g3⟩ := (S1.ce q _ (List.mem_append_left _ (List.mem_of_getElem? hi))).1
  refine ⟨q, dx, _, rfl, g1, look_none h0, ha ν σ G1 H1 S1 _ fun vs2 G2 H2 e2 S2 r2 => ?_⟩
  rw [List.append_nil]
  exact spC_call S2 (Reps.cons (rep_v.mpr rfl) r2) (by simpa using hn) hR hm fun v G3 H3 e3 S3 r3 => qq v G3 H3 ((e1.trans e2).trans e3) S3 r3
theorem de_methO0 (i : Nat) {pl : Sem Bool} {q : Addr} {Cl : Addr} {ns : List Str} {dso : List D} (C : Bc X P w K mg base N V Gs k) (F : MC P w K mg base kf Cl ns m n R) (ho : DE K X Z ρ μ o (.ref q) (μa ++ μr)) (hi : (μa ++ μr)[i]? = some (q, .ins Cl ns dso)) (hR : R [.ref q] μa d μa') (hn : 1 = n := by rfl) (hk : kf ≤ k := by decide) (hm : μa'.map (·.1) = μa.map (·.1) := by rfl)
    (ht : eval (.Call (.Attribute o m apos) [] [] pos) X.env = (do
      let ov ← eval o X.env
      standAt apos.atName
      let (f, first) ← holding [ov] (getMethod ov m pl)
      callWith pos f first (backTo pos (starEach [] X.env)) (backToKw pos (keywordEach [] X.env))) := by rfl) : DE K X Z ρ μ (.Call (.Attribute o m apos) [] [] pos) d (μa' ++ μr) := fun ν σ G H S Q qq => by
  obtain ⟨f, fd, ps, h1, h2, h0, h3, h4⟩ := F.ex
  have e1 := C.eP; have e2 := C.ew; have e3 := C.eK; have e4 := C.em; have e5 := C.eb
  subst e1 e2 e3 e4 e5
  refine we_of (pe_meth0 (pl := pl) pe_we h1 h2 h4 (C.room.mono hk) h3 .nil pass0 ht) (ho ν σ G H S _ fun x0 G1 H1 e1 S1 r1 => ?_)
  have ex0 := rep_v.mp r1
  subst ex0
  obtain ⟨dx, vs, g1, g2, g3⟩ := (S1.ce q _ (List.mem_append_left _ (List.mem_of_getElem? hi))).1
  refine ⟨q, dx, _, rfl, g1, look_none h0, ?_⟩
  show spC _ _ _ (.ref q :: ([] ++ [])) H1 Q E0
  exact spC_call S1 (Reps.cons (rep_v.mpr rfl) Reps.nil) hn hR hm fun v G3 H3 e3 S3 r3 => qq v G3 H3 (e1.trans e3) S3 r3
/-- o.m(e, ..), o an instance that is made here and kept by nobody -/
theorem de_methN {pl : Sem Bool} {Cl : Addr} {ns : List Str} {dso : List D} {dz : List D} (C : Bc X P w K mg base N V Gs k) (F : MC P w K mg base kf Cl ns m n R) (ho : DL K X Z ρ [] o (.ins Cl ns dso) []) (ha : ∀ q, DA K X Z ρ [(q, .ins Cl ns dso)] (e :: es) ds [(q, .ins Cl ns dso)]) (hR : ∀ q, R (.ref q :: ds) [(q, .ins Cl ns dso)] d [(q, .ins Cl ns dz)]) (hn : ds.length + 1 = n := by rfl) (hk : kf ≤ k := by decide)
    (hst : starEach (e :: es) X.env = (false, eval e X.env) :: starEach es X.env := by rfl) (hpl : (backTo pos (starEach es X.env)).any (·.1) = false := by rfl)
    (ht : eval (.Call (.Attribute o m apos) (e :: es) [] pos) X.env = (do
      let ov ← eval o X.env
      standAt apos.atName
      let (f, first) ← holding [ov] (getMethod ov m pl)
      callWith pos f first (backTo pos (starEach (e :: es) X.env)) (backToKw pos (keywordEach [] X.env))) := by rfl) : DE K X Z ρ [] (.Call (.Attribute o m apos) (e :: es) [] pos) d [] := fun ν σ G H S Q qq => by
  obtain ⟨f, fd, ps, h1, h2, h0, h3, h4⟩ := F.ex
  have e1 := C.eP; have e2 := C.ew; have e3 := C.eK; have e4 := C.em; have e5 := C.eb
  subst e1 e2 e3 e4 e5
  refine we_of (pe_meth (pl := pl) pe_we h1 h2 h4 (C.room.mono hk) h3 .nil pass0 pa_wa hst hpl ht) (ho ν σ G H S _ fun q G1 H1 e1 hq S1 => ?_)
  obtain ⟨dx, vs, g1, g2, g3⟩ := cell_last S1
  have S1' : Sat X.K Z ρ ([(q, .ins Cl ns dso)] ++ ν) σ G1 H1 := S1.mono (fun r hr => by
    rcases List.mem_append.mp hr with h | h
    · exact List.mem_append_right _ h
    · exact List.mem_append_left _ (List.mem_append_right _ h)) (by
    have := S1.nd
    rw [map_fst_app, List.nodup_append] at this
    rw [map_fst_app, List.nodup_append]
    refine ⟨by simp, by simpa using this.1, fun a ha b hb => ?_⟩
    exact fun z => this.2.2 b (by simpa using hb) a ha z.symm)
  refine ⟨q, dx, _, rfl, g1, look_none h0, ha q ν σ G1 H1 S1' _ fun vs2 G2 H2 e2 S2 r2 => ?_⟩
  rw [List.append_nil]
  refine spC_call (μr := []) (by simpa using S2) (Reps.cons (rep_v.mpr rfl) r2) (by simpa using hn) (hR q) rfl fun v G3 H3 e3 S3 r3 => qq v G3 H3 ((e1.trans e2).trans e3) (S3.mono (fun r hr => ?_) ?_) r3
  · exact List.mem_append_right _ (by simpa using hr)
  · have := S3.nd
    rw [map_fst_app, List.nodup_append] at this
    simpa using this.2.1
/-- C(e, ..): a new instance -/
theorem dl_make {Cl : Addr} {ns : List Str} {dz : List D} (j : Nat) (C : Bc X P w K mg base N V Gs k) (F : KC P w K mg base kf x Cl n R) (hG : Gs[j]? = some x) (ha : DA K X Z ρ μ (e :: es) ds μ1) (hR : ∀ q, R (.ref q :: ds) [(q, .ins Cl [] [])] .non [(q, .ins Cl ns dz)]) (hn : ds.length + 1 = n := by rfl) (hk : kf + 1 ≤ k := by decide)
    (he : starEach (e :: es) X.env = (false, eval e X.env) :: starEach es X.env := by rfl) (hpl : (backTo pos (starEach es X.env)).any (·.1) = false := by rfl) : DL K X Z ρ μ (.Call (.Name x p) (e :: es) [] pos) (.ins Cl ns dz) μ1 := fun ν σ G H S Q qq => by
  obtain ⟨f, fd, ps, h1, h2, h3, h4⟩ := F.ex
  obtain ⟨g1, g2, _⟩ := C.glo j x hG
  have e1 := C.eP; have e2 := C.ew; have e3 := C.eK; have e4 := C.em; have e5 := C.eb
  subst e1 e2 e3 e4 e5
  refine we_of (pe_make h2 h4 (C.room.mono hk) g1 h1 h3 .nil pass0 pa_wa g2 he hpl) (ha ν σ G H S _ fun vs G1 H1 e1 S1 r1 x0 dx hx hdx hne => ?_)
  have E1 : Ext G1 H1 G1 (upd H1 dx (.own x0)) := Ext.hid S1.gh hdx
  have S2 := S1.ext E1
  have hx2 : (upd H1 dx (.own x0)) x0 = none := by rw [upd_ne (fun z => hne z.symm)]; exact hx
  have S3 : Sat X.K Z ρ ((μ1 ++ ν) ++ [(x0, .ins Cl [] [])]) σ G1 (upd (upd H1 dx (.own x0)) x0 (.ins Cl dx [])) := S2.own hx2 ⟨dx, [], by rw [upd_same]; rfl, rfl, Reps.nil⟩
  have S3' : Sat X.K Z ρ ([(x0, .ins Cl [] [])] ++ [] ++ (μ1 ++ ν)) σ G1 (upd (upd H1 dx (.own x0)) x0 (.ins Cl dx [])) := S3.mono (fun r hr => by
    rcases List.mem_append.mp hr with h | h
    · exact List.mem_append_right _ (by simpa using h)
    · exact List.mem_append_left _ h) (by
    have := S3.nd
    rw [map_fst_app, List.nodup_append] at this
    rw [map_fst_app, List.nodup_append]
    exact ⟨by simp, this.1, fun a ha b hb => fun z => this.2.2 b hb a (by simpa using ha) z.symm⟩)
  rw [List.append_nil]
  have hxz : x0 ∉ Z.xs := (S2.zfresh hx2).2
  refine spC_call S3' (Reps.cons (rep_v.mpr rfl) r1) (by simpa using hn) (hR x0) rfl fun v G4 H4 e4 S4 r4 => ⟨rep_v.mp r4, qq x0 G4 H4 (e1.trans e4) hxz (S4.mono (fun r hr => ?_) ?_)⟩
  · rcases List.mem_append.mp hr with h | h
    · exact List.mem_append_right _ h
    · exact List.mem_append_left _ (by simpa using h)
  · have := S4.nd
    rw [map_fst_app, List.nodup_append] at this
    rw [map_fst_app, List.nodup_append]
    exact ⟨this.2.1, by simp, fun a ha b hb => fun z => this.2.2 b (by simpa using hb) a ha z.symm⟩
/-- C.m(e, ..), a def read off the class -/
theorem de_clsCall {pl : Sem Bool} (j : Nat) {Cl : Addr} (C : Bc X P w K mg base N V Gs k) (F : BC P w K mg base kf x Cl m n R) (hG : Gs[j]? = some x) (ha : DA K X Z ρ μ (e :: es) ds (μa ++ μr)) (hR : R ds μa d μa') (hn : ds.length = n := by rfl) (hk : kf ≤ k := by decide) (hm : μa'.map (·.1) = μa.map (·.1) := by rfl)
    (hst : starEach (e :: es) X.env = (false, eval e X.env) :: starEach es X.env := by rfl) (hpl : (backTo pos (starEach es X.env)).any (·.1) = false := by rfl)
    (ht : eval (.Call (.Attribute (.Name x p) m apos) (e :: es) [] pos) X.env = (do
      let ov ← eval (.Name x p) X.env
      standAt apos.atName
      let (f, first) ← holding [ov] (getMethod ov m pl)
      callWith pos f first (backTo pos (starEach (e :: es) X.env)) (backToKw pos (keywordEach [] X.env))) := by rfl) : DE K X Z ρ μ (.Call (.Attribute (.Name x p) m apos) (e :: es) [] pos) d (μa' ++ μr) := fun ν σ G H S Q q => by
  obtain ⟨f, fd, ps, mc, h1, h2, h3, h0, h5, h4⟩ := F.ex
  obtain ⟨g1, g2, _⟩ := C.glo j x hG
  have e1 := C.eP; have e2 := C.ew; have e3 := C.eK; have e4 := C.em; have e5 := C.eb
  subst e1 e2 e3 e4 e5
  intro pins s I
  refine PySem.W.methodCall_KW (pl := pl) (thn ((pe_glob (pos := p) g1 h1 (v := .ref Cl) rfl g2).run pins s σ H (fun v H1 => v = .ref Cl ∧ H1 = H) I ⟨rfl, rfl⟩) fun u s1 ⟨x0, H1, I1, rx, ex, eH⟩ => ?_) ht
  subst ex eH
  obtain rfl : u = Value.ref Cl := rx
  refine PySem.W.method_cls I1.kIn h2.ga (ClX.getcval_ok I1 h2 h3 fun s2 I2 => ?_)
  have hA : WA X (e :: es) σ H1 (fun vs H2 => spC X.K n R vs H2 Q E0) := ha ν σ G H1 S _ fun vs G1 H2 e1 S1 r1 => spC_call S1 r1 hn hR hm fun v G2 H2 e2 S2 r2 => q v G2 H2 (e1.trans e2) S2 r2
  refine PySem.W.callWith_K (first := []) (h₀ := X.base) I2.ok.mod.kin h0 (thn (hA pos pins s2 I2) fun us s3 ⟨vs, H2, I3, r, q2⟩ => ⟨I3.kIn, ?_⟩) hst hpl
  exact run_fn h4 (C.room.mono hk) h5 .nil (pass0 (X := X)) I3 r (by rw [List.append_nil]; exact q2)
end
end NC

set_option Elab.async false
set_option linter.all false
set_option autoImplicit false
set_option maxRecDepth 100000
set_option maxHeartbeats 2000000
/-! Built-ins, lists, tuples, isinstance, equality. -/
namespace NC
open PySem PySem.Spec PyProof.Rows L2

theorem bt_len : bootBuiltins "len" = some (.builtin "len") := by decide +kernel
theorem bt_abs : bootBuiltins "abs" = some (.builtin "abs") := by decide +kernel
theorem bt_max : bootBuiltins "max" = some (.builtin "max") := by decide +kernel
theorem bt_min : bootBuiltins "min" = some (.builtin "min") := by decide +kernel
theorem bt_isi : bootBuiltins "isinstance" = some (.builtin "isinstance") := by decide +kernel
theorem bt_all : bootBuiltins "all" = some (.builtin "all") := by decide +kernel
theorem bt_any : bootBuiltins "any" = some (.builtin "any") := by decide +kernel
theorem bt_sum : bootBuiltins "sum" = some (.builtin "sum") := by decide +kernel
theorem bt_int : bootBuiltins "int" = some (.type "int") := by decide +kernel
theorem bt_bool : bootBuiltins "bool" = some (.type "bool") := by decide +kernel
theorem bt_str : bootBuiltins "str" = some (.type "str") := by decide +kernel
theorem bt_list : bootBuiltins "list" = some (.type "list") := by decide +kernel
theorem bt_tuple : bootBuiltins "tuple" = some (.type "tuple") := by decide +kernel
theorem bt_dict : bootBuiltins "dict" = some (.type "dict") := by decide +kernel
theorem bt_zip : bootBuiltins "zip" = some (.type "zip") := by decide +kernel
theorem bt_enumerate : bootBuiltins "enumerate" = some (.type "enumerate") := by decide +kernel
theorem bt_range : bootBuiltins "range" = some (.type "range") := by decide +kernel

section
variable {P : Program} {w : World} {K : PySem.W.Frag} {mg : Str → Option Value} {base : Heap} {N : List Str} {V : List Nat} {Gs : List Str} {k kf : Nat}
variable {X : Cx} {Z : Zed} {ρ : Rho} {μ μ1 μ2 μ3 μa μa' μr : Mu} {a b c e o : Expr} {es : List Expr} {d da db dc : D} {ds xs ys : List D} {pos p pos' apos : Pos} {x m : Str} {u v : Bool} {cl : Cell} {n : Nat} {R : Con}

theorem de_callB {id : String} {r : List L2.V → Hp → VK → Prop} (j : Nat) (C : Bc X P w K mg base N V Gs k) (hc : CallR X (.builtin id) r) (hG : Gs[j]? = some x) (hm : mg x = none) (hv : bootBuiltins x = some (.builtin id)) (ha : DA K X Z ρ μ (e :: es) ds μ1) (hd : RDA K Z ρ μ1 r ds d)
    (he : starEach (e :: es) X.env = (false, eval e X.env) :: starEach es X.env := by rfl) (hpl : (backTo pos (starEach es X.env)).any (·.1) = false := by rfl) : DE K X Z ρ μ (.Call (.Name x p) (e :: es) [] pos) d μ1 := fun ν σ G H S Q q => by
  obtain ⟨g1, g2, g3⟩ := C.glo j x hG
  exact we_of (pe_callB hc g1 (by rw [C.em]; exact hm) hv pa_wa g3 g2 he hpl) (ha ν σ G H S _ fun vs G1 H1 e1 S1 r1 => hd ν σ G1 H1 vs S1 r1 Q fun v G2 H2 e2 r2 => q v G2 H2 (e1.trans e2.gg) (S1.ext e2) r2)
theorem de_callTy {T : String} {r : List L2.V → Hp → VK → Prop} (j : Nat) (C : Bc X P w K mg base N V Gs k) (hc : CallR X (.type T) r) (hG : Gs[j]? = some x) (hm : mg x = none) (hv : bootBuiltins x = some (.type T)) (ha : DA K X Z ρ μ (e :: es) ds μ1) (hd : RDA K Z ρ μ1 r ds d)
    (he : starEach (e :: es) X.env = (false, eval e X.env) :: starEach es X.env := by rfl) (hpl : (backTo pos (starEach es X.env)).any (·.1) = false := by rfl) : DE K X Z ρ μ (.Call (.Name x p) (e :: es) [] pos) d μ1 := fun ν σ G H S Q q => by
  obtain ⟨g1, g2, g3⟩ := C.glo j x hG
  exact we_of (pe_callTy hc g1 (by rw [C.em]; exact hm) hv pa_wa g3 g2 he hpl) (ha ν σ G H S _ fun vs G1 H1 e1 S1 r1 => hd ν σ G1 H1 vs S1 r1 Q fun v G2 H2 e2 r2 => q v G2 H2 (e1.trans e2.gg) (S1.ext e2) r2)
theorem dl_callTy {T : String} {r : List L2.V → Hp → VK → Prop} (j : Nat) (C : Bc X P w K mg base N V Gs k) (hc : CallR X (.type T) r) (hG : Gs[j]? = some x) (hm : mg x = none) (hv : bootBuiltins x = some (.type T)) (ha : DA K X Z ρ μ (e :: es) ds μ1) (hd : RDLA K Z ρ μ1 r ds cl)
    (he : starEach (e :: es) X.env = (false, eval e X.env) :: starEach es X.env := by rfl) (hpl : (backTo pos (starEach es X.env)).any (·.1) = false := by rfl) : DL K X Z ρ μ (.Call (.Name x p) (e :: es) [] pos) cl μ1 := fun ν σ G H S Q q => by
  obtain ⟨g1, g2, g3⟩ := C.glo j x hG
  exact we_of (pe_callTy hc g1 (by rw [C.em]; exact hm) hv pa_wa g3 g2 he hpl) (ha ν σ G H S _ fun vs G1 H1 e1 S1 r1 => hd ν σ G1 H1 vs S1 r1 Q fun p0 o0 hp hc => q p0 G1 _ e1 (S1.zfresh hp).2 (S1.own hp hc))

theorem reps1 {G : Hp} {vs : List L2.V} (h : Reps K G [d] vs) : ∃ v, vs = [v] ∧ Rep K G d v := by
  obtain ⟨v, r, rfl, h1, h2⟩ := reps_cons.mp h
  rw [reps_nil.mp h2]; exact ⟨v, rfl, h1⟩
theorem reps2 {G : Hp} {vs : List L2.V} (h : Reps K G [da, db] vs) : ∃ v u, vs = [v, u] ∧ Rep K G da v ∧ Rep K G db u := by
  obtain ⟨v, r, rfl, h1, h2⟩ := reps_cons.mp h
  obtain ⟨u, rfl, h3⟩ := reps1 h2
  exact ⟨v, u, rfl, h1, h3⟩

/-! ### len -/
/-- a sequence that stands still -/
def D.items : D → Option (List D)
  | .tup xs => some xs
  | .lst xs => some xs
  | _ => none
theorem rep_items {G : Hp} {v : L2.V} (h : Rep K G d v) (e : d.items = some xs) : ∃ a vs, v = .ref a ∧ (SqL K G a vs ∨ SqT K G a vs) ∧ Reps K G xs vs := by
  cases d with
  | tup ys => cases e; obtain ⟨a, vs, h1, h2, h3⟩ := rep_tup.mp h; exact ⟨a, vs, h1, .inr h2, h3⟩
  | lst ys => cases e; obtain ⟨a, vs, h1, h2, h3⟩ := rep_lst.mp h; exact ⟨a, vs, h1, .inl (.inl (.inl h2)), h3⟩
  | v x => cases e
  | ins C ns ds => cases e
theorem de_len (j : Nat) (C : Bc X P w K mg base N V Gs k) (hG : Gs[j]? = some ("len" : Str)) (hm : mg "len" = none) (ha : DE K X Z ρ μ a d μ1) (hi : d.items = some xs) (hs : starEach [a] X.env = [(false, eval a X.env)] := by rfl) : DE K X Z ρ μ (.Call (.Name "len" p) [a] [] pos) (.int (xs.length : Int)) μ1 :=
  de_callB j C call_len_seq hG hm bt_len (da_cons ha da_nil hs) (fun ν σ G H vs S r Q q => by
    obtain ⟨v, rfl, h1⟩ := reps1 r
    obtain ⟨b, us, rfl, h2, h3⟩ := rep_items h1 hi
    rw [C.eK]
    refine ⟨b, us, rfl, h2.imp S.gh.l S.gh.t, ?_⟩
    rw [← h3.length]
    exact q _ G H (.refl S.gh) (rep_v.mpr rfl)) hs
theorem de_lenO (i j : Nat) {l : Addr} (C : Bc X P w K mg base N V Gs k) (hG : Gs[j]? = some ("len" : Str)) (hm : mg "len" = none) (ha : DE K X Z ρ μ a (.ref l) μ1) (hi : μ1[i]? = some (l, .lst xs)) (hs : starEach [a] X.env = [(false, eval a X.env)] := by rfl) : DE K X Z ρ μ (.Call (.Name "len" p) [a] [] pos) (.int (xs.length : Int)) μ1 :=
  de_callB j C call_len_seq hG hm bt_len (da_cons ha da_nil hs) (fun ν σ G H vs S r Q q => by
    obtain ⟨v, rfl, h1⟩ := reps1 r
    obtain ⟨us, h2, h3⟩ := (S.ce l _ (List.mem_append_left _ (List.mem_of_getElem? hi))).1
    rw [C.eK, rep_v.mp h1]
    refine ⟨l, us, rfl, .inl (.inl (.inl h2)), ?_⟩
    rw [← h3.length]
    exact q _ G H (.refl S.gh) (rep_v.mpr rfl)) hs
theorem de_abs (j : Nat) {i : Int} (C : Bc X P w K mg base N V Gs k) (hG : Gs[j]? = some ("abs" : Str)) (hm : mg "abs" = none) (ha : DE K X Z ρ μ a (.int i) μ1) (hs : starEach [a] X.env = [(false, eval a X.env)] := by rfl) : DE K X Z ρ μ (.Call (.Name "abs" p) [a] [] pos) (.int (i.natAbs : Int)) μ1 :=
  de_callB j C call_abs hG hm bt_abs (da_cons ha da_nil hs) (fun ν σ G H vs S r Q q => by
    obtain ⟨v, rfl, h1⟩ := reps1 r
    rw [rep_v.mp h1]
    refine ⟨i, rfl, ?_⟩
    have e : (if i < 0 then -i else i) = (i.natAbs : Int) := by split <;> omega
    rw [e]
    exact q _ G H (.refl S.gh) (rep_v.mpr rfl)) hs
theorem de_max (j : Nat) {i l : Int} (C : Bc X P w K mg base N V Gs k) (hG : Gs[j]? = some ("max" : Str)) (hm : mg "max" = none) (ha : DE K X Z ρ μ a (.int i) μ1) (hb : DE K X Z ρ μ1 b (.int l) μ2) (hs : starEach [a, b] X.env = (false, eval a X.env) :: starEach [b] X.env := by rfl) (hs2 : starEach [b] X.env = [(false, eval b X.env)] := by rfl) (hpl : (backTo pos (starEach [b] X.env)).any (·.1) = false := by rfl) : DE K X Z ρ μ (.Call (.Name "max" p) [a, b] [] pos) (.int (max i l)) μ2 :=
  de_callB j C (call_max2 C.calm) hG hm bt_max (da_cons ha (da_cons hb da_nil hs2) hs) (fun ν σ G H vs S r Q q => by
    obtain ⟨v, u, rfl, h1, h2⟩ := reps2 r
    rw [rep_v.mp h1, rep_v.mp h2]
    refine ⟨i, l, rfl, ?_⟩
    have e : (if l > i then l else i) = max i l := by split <;> omega
    rw [e]
    exact q _ G H (.refl S.gh) (rep_v.mpr rfl)) hs hpl
theorem de_min (j : Nat) {i l : Int} (C : Bc X P w K mg base N V Gs k) (hG : Gs[j]? = some ("min" : Str)) (hm : mg "min" = none) (ha : DE K X Z ρ μ a (.int i) μ1) (hb : DE K X Z ρ μ1 b (.int l) μ2) (hs : starEach [a, b] X.env = (false, eval a X.env) :: starEach [b] X.env := by rfl) (hs2 : starEach [b] X.env = [(false, eval b X.env)] := by rfl) (hpl : (backTo pos (starEach [b] X.env)).any (·.1) = false := by rfl) : DE K X Z ρ μ (.Call (.Name "min" p) [a, b] [] pos) (.int (min i l)) μ2 :=
  de_callB j C (call_min2 C.calm) hG hm bt_min (da_cons ha (da_cons hb da_nil hs2) hs) (fun ν σ G H vs S r Q q => by
    obtain ⟨v, u, rfl, h1, h2⟩ := reps2 r
    rw [rep_v.mp h1, rep_v.mp h2]
    refine ⟨i, l, rfl, ?_⟩
    have e : (if l < i then l else i) = min i l := by split <;> omega
    rw [e]
    exact q _ G H (.refl S.gh) (rep_v.mpr rfl)) hs hpl
def b2n (u : Bool) : Int := if u then 1 else 0
theorem de_intB (j : Nat) (C : Bc X P w K mg base N V Gs k) (hG : Gs[j]? = some ("int" : Str)) (hm : mg "int" = none) (ha : DE K X Z ρ μ a (.bl u) μ1) (hs : starEach [a] X.env = [(false, eval a X.env)] := by rfl) : DE K X Z ρ μ (.Call (.Name "int" p) [a] [] pos) (.int (b2n u)) μ1 :=
  de_callTy j C call_int1 hG hm bt_int (da_cons ha da_nil hs) (fun ν σ G H vs S r Q q => by
    obtain ⟨v, rfl, h1⟩ := reps1 r
    rw [rep_v.mp h1]
    exact .inr ⟨u, rfl, q _ G H (.refl S.gh) (rep_v.mpr rfl)⟩) hs
theorem de_all (j : Nat) {bs : List Bool} (C : Bc X P w K mg base N V Gs k) (hG : Gs[j]? = some ("all" : Str)) (hm : mg "all" = none) (ha : DE K X Z ρ μ a (.lst (bs.map D.bl)) μ1) (hs : starEach [a] X.env = [(false, eval a X.env)] := by rfl) : DE K X Z ρ μ (.Call (.Name "all" p) [a] [] pos) (.bl (bs.all id)) μ1 :=
  de_callB j C (cr_all C.calm) hG hm bt_all (da_cons ha da_nil hs) (fun ν σ G H vs S r Q q => by
    obtain ⟨v, rfl, h1⟩ := reps1 r
    obtain ⟨l, us, rfl, h2, h3⟩ := rep_lst.mp h1
    rw [C.eK]
    rw [h3.bls] at h2
    exact ⟨l, bs, rfl, .inl (.inl (S.gh _ _ h2)), q _ G H (.refl S.gh) (rep_v.mpr rfl)⟩) hs
theorem de_any (j : Nat) {bs : List Bool} (C : Bc X P w K mg base N V Gs k) (hG : Gs[j]? = some ("any" : Str)) (hm : mg "any" = none) (ha : DE K X Z ρ μ a (.lst (bs.map D.bl)) μ1) (hs : starEach [a] X.env = [(false, eval a X.env)] := by rfl) : DE K X Z ρ μ (.Call (.Name "any" p) [a] [] pos) (.bl (bs.any id)) μ1 :=
  de_callB j C (cr_any C.calm) hG hm bt_any (da_cons ha da_nil hs) (fun ν σ G H vs S r Q q => by
    obtain ⟨v, rfl, h1⟩ := reps1 r
    obtain ⟨l, us, rfl, h2, h3⟩ := rep_lst.mp h1
    rw [C.eK]
    rw [h3.bls] at h2
    exact ⟨l, bs, rfl, .inl (.inl (S.gh _ _ h2)), q _ G H (.refl S.gh) (rep_v.mpr rfl)⟩) hs
theorem de_sum (j : Nat) {ns : List Int} (C : Bc X P w K mg base N V Gs k) (hG : Gs[j]? = some ("sum" : Str)) (hm : mg "sum" = none) (ha : DE K X Z ρ μ a (.lst (ns.map D.int)) μ1) (hs : starEach [a] X.env = [(false, eval a X.env)] := by rfl) : DE K X Z ρ μ (.Call (.Name "sum" p) [a] [] pos) (.int ns.sum) μ1 :=
  de_callB j C (cr_sum C.calm) hG hm bt_sum (da_cons ha da_nil hs) (fun ν σ G H vs S r Q q => by
    obtain ⟨v, rfl, h1⟩ := reps1 r
    obtain ⟨l, us, rfl, h2, h3⟩ := rep_lst.mp h1
    rw [C.eK]
    rw [h3.ints] at h2
    exact ⟨l, ns, rfl, .inl (.inl (S.gh _ _ h2)), q _ G H (.refl S.gh) (rep_v.mpr rfl)⟩) hs
/-- tuple(xs) of a list that stands still; of a tuple: itself -/
theorem de_tupleL (j : Nat) (C : Bc X P w K mg base N V Gs k) (hG : Gs[j]? = some ("tuple" : Str)) (hm : mg "tuple" = none) (ha : DE K X Z ρ μ a (.lst xs) μ1) (hs : starEach [a] X.env = [(false, eval a X.env)] := by rfl) : DE K X Z ρ μ (.Call (.Name "tuple" p) [a] [] pos) (.tup xs) μ1 :=
  de_callTy j C call_tuple_of hG hm bt_tuple (da_cons ha da_nil hs) (fun ν σ G H vs S r Q q => by
    obtain ⟨v, rfl, h1⟩ := reps1 r
    obtain ⟨l, us, rfl, h2, h3⟩ := rep_lst.mp h1
    rw [C.eK]
    refine ⟨l, us, rfl, .inl ⟨.inl (.inl (S.gh _ _ h2)), fun t ht => ?_⟩⟩
    have E := Ext.fr (o := .tup us) S.gh ht
    exact q _ _ _ E (rep_tup.mpr ⟨t, us, rfl, .inl (.inl upd_same), h3.mono E.gg⟩)) hs
theorem de_tupleO (i j : Nat) {l : Addr} (C : Bc X P w K mg base N V Gs k) (hG : Gs[j]? = some ("tuple" : Str)) (hm : mg "tuple" = none) (ha : DE K X Z ρ μ a (.ref l) μ1) (hi : μ1[i]? = some (l, .lst xs)) (hs : starEach [a] X.env = [(false, eval a X.env)] := by rfl) : DE K X Z ρ μ (.Call (.Name "tuple" p) [a] [] pos) (.tup xs) μ1 :=
  de_callTy j C call_tuple_of hG hm bt_tuple (da_cons ha da_nil hs) (fun ν σ G H vs S r Q q => by
    obtain ⟨v, rfl, h1⟩ := reps1 r
    obtain ⟨us, h2, h3⟩ := (S.ce l _ (List.mem_append_left _ (List.mem_of_getElem? hi))).1
    rw [C.eK, rep_v.mp h1]
    refine ⟨l, us, rfl, .inl ⟨.inl (.inl h2), fun t ht => ?_⟩⟩
    have E := Ext.fr (o := .tup us) S.gh ht
    exact q _ _ _ E (rep_tup.mpr ⟨t, us, rfl, .inl (.inl upd_same), h3.mono E.gg⟩)) hs
theorem dl_list (j : Nat) (C : Bc X P w K mg base N V Gs k) (hG : Gs[j]? = some ("list" : Str)) (hm : mg "list" = none) (ha : DE K X Z ρ μ a d μ1) (hi : d.items = some xs) (hs : starEach [a] X.env = [(false, eval a X.env)] := by rfl) : DL K X Z ρ μ (.Call (.Name "list" p) [a] [] pos) (.lst xs) μ1 :=
  dl_callTy j C call_list_of hG hm bt_list (da_cons ha da_nil hs) (fun ν σ G H vs S r Q q => by
    obtain ⟨v, rfl, h1⟩ := reps1 r
    obtain ⟨b, us, rfl, h2, h3⟩ := rep_items h1 hi
    rw [C.eK]
    exact ⟨b, us, rfl, h2.imp S.gh.l S.gh.t, fun l hl => q l _ hl ⟨us, upd_same, h3⟩⟩) hs

/-! ### + and * of sequences -/
theorem dl_cat (ha : DE K X Z ρ μ a (.lst xs) μ1) (hb : DE K X Z ρ μ1 b (.lst ys) μ2) (hl : xs.length + ys.length ≤ 100000) : DL K X Z ρ μ (.BinOp a .Add b pos) (.lst (xs ++ ys)) μ2 :=
  dl_op op_cat ha hb fun ν σ G H x y S rx ry Q q => by
    obtain ⟨l, us, rfl, h1, h2⟩ := rep_lst.mp rx
    obtain ⟨m, ws, rfl, h3, h4⟩ := rep_lst.mp ry
    refine ⟨l, m, us, ws, rfl, rfl, S.gh _ _ h1, S.gh _ _ h3, ?_, fun t ht => q t _ ht ⟨_, upd_same, h2.app h4⟩⟩
    rw [← h2.length, ← h4.length]; exact sz100 hl
theorem de_catT (C : Bc X P w K mg base N V Gs k) (ha : DE K X Z ρ μ a (.tup xs) μ1) (hb : DE K X Z ρ μ1 b (.tup ys) μ2) (hx : xs ≠ []) (hl : xs.length + ys.length ≤ 100000) (hy : ys ≠ []) : DE K X Z ρ μ (.BinOp a .Add b pos) (.tup (xs ++ ys)) μ2 :=
  de_op op_catT ha hb fun ν σ G H x y S rx ry Q q => by
    obtain ⟨l, us, rfl, h1, h2⟩ := rep_tup.mp rx
    obtain ⟨m, ws, rfl, h3, h4⟩ := rep_tup.mp ry
    rw [C.eK]
    have hu : us ≠ [] := fun z => hx (List.eq_nil_of_length_eq_zero (by rw [h2.length, z]; rfl))
    have hw : ws ≠ [] := fun z => hy (List.eq_nil_of_length_eq_zero (by rw [h4.length, z]; rfl))
    refine ⟨l, m, us, ws, rfl, rfl, S.gh.t h1, S.gh.t h3, hu, by rw [← h2.length, ← h4.length]; exact sz100 hl, fun z => absurd z hw, fun _ t ht => ?_⟩
    have E := Ext.fr (o := .tup (us ++ ws)) S.gh ht
    exact q _ _ _ E (rep_tup.mpr ⟨t, _, rfl, .inl (.inl upd_same), (h2.app h4).mono E.gg⟩)
theorem dl_rep {i : Int} {n : Nat} (ha : DE K X Z ρ μ a (.lst [d]) μ1) (hb : DE K X Z ρ μ1 b (.int i) μ2) (hi : i = (n : Int)) (hl : n ≤ 100000) : DL K X Z ρ μ (.BinOp a .Mult b pos) (.lst (List.replicate n d)) μ2 :=
  dl_op op_rep ha hb fun ν σ G H x y S rx ry Q q => by
    obtain ⟨l, us, rfl, h1, h2⟩ := rep_lst.mp rx
    obtain ⟨v, rfl, h3⟩ := reps1 h2
    have e : (List.replicate n [v]).flatten = List.replicate n v := by
      induction n with
      | zero => rfl
      | succ n ih => simp
    rw [rep_v.mp ry]
    subst hi
    refine ⟨l, _, [v], rfl, rfl, S.gh _ _ h1, by omega, by omega, ?_, ?_⟩
    · simp; exact sz100 hl
    · intro t ht
      rw [Int.toNat_natCast, e]
      exact q t _ ht ⟨_, upd_same, Reps.rep h3 n⟩
end
end NC

set_option Elab.async false
set_option linter.all false
set_option autoImplicit false
set_option maxRecDepth 100000
set_option maxHeartbeats 2000000
/-! Division, a tuple taken once, isinstance, membership, equality of data. -/
namespace NC
open PySem PySem.Spec PyProof.Rows L2

theorem tuple_mul1 (l : Addr) (items : Array Value) (n : Nat) (dd : Option Addr) (sl : Array (Option Value)) (u : Tok) :
    Meets (Builtin.«tuple.__mul__» ⟨[.ref l, .int 1 u], []⟩) (fun _ R s => s.heap.get? l = some { cls := .type "tuple", dict := dd, data := .seq items n, slots := sl } ∧ R (.ok (.ret (Value.ref l))) s) :=
  .of_wp fun prog w A R s h => by
    obtain ⟨hp, g, d, tk, os⟩ := s
    obtain ⟨hl, h⟩ := h
    have f1 := AutoSeq1.idx_int
    wp_walk using wpAny_loadPart' hl
    repeat (first
      | (refine wpAny_ite_false (decide_eq_false (by decide)) ?_; wp_walk using wpAny_loadPart' hl)
      | (refine wpAny_ite_true (decide_eq_true (by simp)) ?_; wp_walk using wpAny_loadPart' hl))
    exact ⟨_, rfl, h⟩
def rRepT1 (K : PySem.W.Frag) : R2 := fun x y H Q => ∃ l xs, x = .ref l ∧ y = .int 1 ∧ SqT K H l xs ∧ Q (.ref l) H
theorem op_repT1 {X : Cx} : OpR X (binaryOp .Mult) (rRepT1 X.K) := by
  intro pins s σ H x y v u Q I rx ry h
  obtain ⟨l, xs, rfl, rfl, hT, q⟩ := h
  cases rx
  obtain ⟨t, rfl⟩ := ry
  obtain ⟨its, r, ⟨⟨cls, dd, data, sl⟩, ho, hc, n, hd⟩, hs⟩ := I.tuple hT
  simp only at hc hd
  subst hc hd
  exact wpAny_binaryOp_repeat_ref (T := "tuple") (U := "int") (by decide) ⟨_, ho, rfl⟩ (fun s' => typeIs_int s' 1 t) noFill_tuple_mul F.fills_int_mul F.slot_int_rmul repeat_tuple F.slot_int_index.lookup
    (call_meets F.slot_int_rmul (typeIs_int s 1 t) F.entry_int_rmul (F.args_int_rmul_2 _ _) (int_rmul_tuple 1 t l its.toArray n dd sl)
      ⟨ho, rfl, ⟨_, ho, rfl⟩, call_meets F.slot_tuple_mul ⟨_, ho, rfl⟩ F.entry_tuple_mul (F.args_tuple_mul_2 _ _) (tuple_mul1 l its.toArray n dd sl t) ⟨ho, ⟨.ref l, H, I.tok _, rfl, q⟩⟩⟩)

section
variable {P : Program} {w : World} {K : PySem.W.Frag} {mg : Str → Option Value} {base : Heap} {N : List Str} {V : List Nat} {Gs : List Str} {k kf : Nat}
variable {X : Cx} {Z : Zed} {ρ : Rho} {μ μ1 μ2 μ3 μa μa' μr : Mu} {a b c e o : Expr} {es : List Expr} {d da db dc : D} {ds xs ys : List D} {pos p pos' apos : Pos} {x m : Str} {u v : Bool} {cl : Cell} {n : Nat} {R : Con}
theorem de_fdiv {i j : Int} (ha : DE K X Z ρ μ a (.int i) μ1) (hb : DE K X Z ρ μ1 b (.int j) μ2) (h : CDivW i j) : DE K X Z ρ μ (.BinOp a .FloorDiv b pos) (.int (i / j)) μ2 := de_op op_fdivW ha hb (rd_I h)
theorem de_rep1 (C : Bc X P w K mg base N V Gs k) (ha : DE K X Z ρ μ a (.tup xs) μ1) (hb : DE K X Z ρ μ1 b (.int 1) μ2) : DE K X Z ρ μ (.BinOp a .Mult b pos) (.tup xs) μ2 :=
  de_op op_repT1 ha hb fun ν σ G H x y S rx ry Q q => by
    obtain ⟨l, us, rfl, h1, h2⟩ := rep_tup.mp rx
    rw [C.eK]
    exact ⟨l, us, rfl, rep_v.mp ry, S.gh.t h1, q _ G H (.refl S.gh) (rep_tup.mpr ⟨l, us, rfl, h1, h2⟩)⟩

/-! ### isinstance -/
/-- the type of data, as the library's deciders take it -/
inductive TyD (K : PySem.W.Frag) : D → Value → Prop where
  | non : TyD K (.v .non) (.type "NoneType")
  | bl (x : Bool) : TyD K (.v (.bl x)) (.type "bool")
  | int (i : Int) : TyD K (.v (.int i)) (.type "int")
  | str (x : Str) : TyD K (.v (.str x)) (.type "str")
  | tup (xs : List D) : TyD K (.tup xs) (.type "tuple")
  | lst (xs : List D) : TyD K (.lst xs) (.type "list")
  | ins {C : Addr} {ns : List Str} {ds : List D} (cl : Cls K C) (ha : PySem.W.findIn K (.ref C) "__class__" = some (some (.builtin "object.__class__")))
      (hn : PySem.W.specialIn K (.builtin "object.__class__") "__get__" = some (some (.builtin "getset_descriptor.__get__"))) (htk : PySem.W.takesIn K (.builtin "object.__class__") = some true)
      (hm : PySem.W.mroIn K C (.type "object") = some true) : TyD K (.ins C ns ds) (.ref C)
theorem tyx_of {G H : Hp} {v : L2.V} {t : Value} (h : TyD K d t) (r : Rep K G d v) (e : Ex G H) : TyX K H v t := by
  cases h with
  | non => rw [rep_v.mp r]; exact .base .non
  | bl x => rw [rep_v.mp r]; exact .base (.bl x)
  | int x => rw [rep_v.mp r]; exact .base (.int x)
  | str x => rw [rep_v.mp r]; exact .base (.str x)
  | tup xs =>
    obtain ⟨l, us, rfl, h1, h2⟩ := rep_tup.mp r
    rcases e.t h1 with (h | ⟨o, h⟩) | ⟨o, its, n, h3, h4, _⟩
    · exact .base (.tup h)
    · exact .fTuple h
    · exact .kTuple h3 h4
  | lst xs =>
    obtain ⟨l, us, rfl, h1, h2⟩ := rep_lst.mp r
    exact .base (.lst (e _ _ h1))
  | ins cl ha hn htk hm =>
    obtain ⟨l, dx, us, rfl, h1, h2, h3⟩ := rep_ins.mp r
    exact .base (.ins (e _ _ h1) cl ha hn htk hm)
theorem de_isi (j : Nat) {c : L2.V} {t cv : Value} (C : Bc X P w K mg base N V Gs k) (hG : Gs[j]? = some ("isinstance" : Str)) (hm : mg "isinstance" = none) (ha : DE K X Z ρ μ a d μ1) (hb : DE K X Z ρ μ1 b (.v c) μ2) (ht : TyD K d t) (hc : ClsV c cv) (hk : PySem.W.kitOne K t cv = some u) (hs : starEach [a, b] X.env = (false, eval a X.env) :: starEach [b] X.env := by rfl) (hs2 : starEach [b] X.env = [(false, eval b X.env)] := by rfl) (hpl : (backTo pos (starEach [b] X.env)).any (·.1) = false := by rfl) : DE K X Z ρ μ (.Call (.Name "isinstance" p) [a, b] [] pos) (.bl u) μ2 :=
  de_callB j C call_isi hG hm bt_isi (da_cons ha (da_cons hb da_nil hs2) hs) (fun ν σ G H vs S r Q q => by
    obtain ⟨v, w, rfl, h1, h2⟩ := reps2 r
    rw [rep_v.mp h2, C.eK]
    exact ⟨v, c, t, cv, u, rfl, hc, tyx_of ht h1 S.gh, hk, q _ G H (.refl S.gh) (rep_v.mpr rfl)⟩) hs hpl
/-- isinstance(x, (c1, c2)) -/
theorem de_isiT (j : Nat) {c1 c2 : L2.V} {t v1 v2 : Value} {e1 e2 : Expr} {k2 : Nat} {p2 : Pos} (C : Bc X P w K mg base N V Gs k) (hG : Gs[j]? = some ("isinstance" : Str)) (hm : mg "isinstance" = none) (ha : DE K X Z ρ μ a d μ) (h1 : DE K X Z ρ μ e1 (.v c1) μ) (h2 : DE K X Z ρ μ e2 (.v c2) μ) (ht : TyD K d t) (hc1 : ClsV c1 v1) (hc2 : ClsV c2 v2) (hk : PySem.W.kitAny K t [v1, v2] = some u)
    (hs : starEach [a, .Tuple [e1, e2] k2 p2] X.env = (false, eval a X.env) :: starEach [.Tuple [e1, e2] k2 p2] X.env := by rfl) (hs2 : starEach [.Tuple [e1, e2] k2 p2] X.env = [(false, eval (.Tuple [e1, e2] k2 p2) X.env)] := by rfl) (hpl : (backTo pos (starEach [.Tuple [e1, e2] k2 p2] X.env)).any (·.1) = false := by rfl)
    (hs3 : starEach [e1, e2] X.env = (false, eval e1 X.env) :: starEach [e2] X.env := by rfl) (hs4 : starEach [e2] X.env = [(false, eval e2 X.env)] := by rfl) : DE K X Z ρ μ (.Call (.Name "isinstance" p) [a, .Tuple [e1, e2] k2 p2] [] pos) (.bl u) μ := fun ν σ G H S Q q => by
  obtain ⟨g1, g2, g3⟩ := C.glo j _ hG
  refine we_of (pe_callB call_isiT g1 (by rw [C.em]; exact hm) bt_isi (pa_cons pe_we (pa_cons (pe_tup (pa_cons pe_we (pa_cons pe_we pa_nil hs4) hs3)) pa_nil hs2) hs) g3 g2 hs hpl) ?_
  refine ha ν σ G H S _ fun x1 G1 H1 e1 S1 r1 => h1 ν σ G1 H1 S1 _ fun y1 G2 H2 e2 S2 r2 => h2 ν σ G2 H2 S2 _ fun y2 G3 H3 e3 S3 r3 => ⟨by show 2 ≤ sizeLine; decide, fun tp htp => ?_⟩
  have E := Ext.hid (o := .tup [y1, y2]) S3.gh htp
  rw [C.eK]
  refine ⟨x1, tp, [y1, y2], t, [v1, v2], u, rfl, upd_same, ?_, tyx_of ht (r1.mono (e2.trans e3)) (S3.gh.trans E.hh), hk, q _ G3 _ ((e1.trans e2).trans e3) (S3.ext E) (rep_v.mpr rfl)⟩
  rw [rep_v.mp r2, rep_v.mp r3]
  exact .cons hc1 (.cons hc2 .nil)

/-! ### x in xs, x not in xs (flat things) -/
theorem reps_vs : ∀ {zs : List L2.V} {G : Hp} {us : List L2.V}, Reps K G (zs.map D.v) us → us = zs
  | [], _, us, h => reps_nil.mp h
  | z :: zs, _, us, h => by
    obtain ⟨v, r, rfl, h2, h3⟩ := reps_cons.mp h
    rw [rep_v.mp h2, reps_vs h3]
theorem rd_in {neg : Bool} {z : L2.V} {zs : List L2.V} (C : Bc X P w K mg base N V Gs k) (hd : db.items = some (zs.map D.v)) (hz : flatV z = true) (hzs : zs.all flatV = true) : RD2 K Z ρ μ (rIn X.K neg) (.v z) db (.bl (if neg then !inV z zs else inV z zs)) := fun ν σ G H x y S rx ry Q q => by
  obtain ⟨l, us, rfl, h1, h2⟩ := rep_items ry hd
  rw [reps_vs h2] at h1
  rw [C.eK, rep_v.mp rx]
  exact ⟨l, zs, rfl, h1.imp S.gh.l S.gh.t, hz, hzs, q _ G H (.refl S.gh) (rep_v.mpr rfl)⟩
theorem cp_in {z : L2.V} {zs : List L2.V} (C : Bc X P w K mg base N V Gs k) (hd : db.items = some (zs.map D.v)) (hz : flatV z = true) (hzs : zs.all flatV = true) (hm : behindInMarks .In b = false := by rfl) : Cmp K X Z ρ μ .In b (.v z) db (inV z zs) := ⟨_, op_in_seq, hm, rd_in (neg := false) C hd hz hzs⟩
theorem cp_notin {z : L2.V} {zs : List L2.V} (C : Bc X P w K mg base N V Gs k) (hd : db.items = some (zs.map D.v)) (hz : flatV z = true) (hzs : zs.all flatV = true) (hm : behindInMarks .NotIn b = false := by rfl) : Cmp K X Z ρ μ .NotIn b (.v z) db (!inV z zs) := ⟨_, op_notIn_seq, hm, rd_in (neg := true) C hd hz hzs⟩
end

/-! ### == of fractions and of their rows -/
/-- a fraction -/
def eF (q : Rat) : D := .tup [.int q.num, .int (q.den : Int)]
def pyF (q : Rat) : PyData := .tuple [.int q.num, .int (q.den : Int)]
theorem dp_pair {G H : Hp} {i j : Int} {v : L2.V} {K : PySem.W.Frag} (r : Rep K G (.tup [.int i, .int j]) v) (e : Ex G H) : Dp K H v (.tuple [.int i, .int j]) := by
  obtain ⟨l, us, rfl, h1, h2⟩ := rep_tup.mp r
  obtain ⟨x, y, rfl, h3, h4⟩ := reps2 h2
  rw [rep_v.mp h3, rep_v.mp h4] at h1
  exact .tup (e.t h1) (.cons (.int _) (.cons (.int _) .nil))
theorem dps_fr {G H : Hp} {K : PySem.W.Frag} (e : Ex G H) : ∀ {qs : List Rat} {vs : List L2.V}, Reps K G (qs.map eF) vs → DpAll K H vs (qs.map pyF)
  | [], vs, h => by rw [reps_nil.mp h]; exact .nil
  | q :: qs, vs, h => by
    obtain ⟨v, r, rfl, h2, h3⟩ := reps_cons.mp h
    exact .cons (dp_pair h2 e) (dps_fr e h3)
theorem eqv_pair {i j a b : Int} : PyData.eqv (.tuple [.int i, .int j]) (.tuple [.int a, .int b]) = (decide (i = a) && decide (j = b)) := by
  simp [PyData.eqv, PyData.eqvAll, Bool.beq_eq_decide_eq]
theorem rat_eq {a b : Rat} : (decide (a.num = b.num) && decide ((a.den : Int) = (b.den : Int))) = decide (a = b) := by
  by_cases h : a = b
  · subst h; simp
  · rw [decide_eq_false h, Bool.and_eq_false_iff]
    by_cases h1 : a.num = b.num
    · right
      simp only [decide_eq_false_iff_not]
      intro z
      exact h (Rat.ext h1 (by omega))
    · left; simp [h1]
theorem eqv_fr {a b : Rat} : PyData.eqv (pyF a) (pyF b) = decide (a = b) := by
  unfold pyF
  rw [eqv_pair, rat_eq]
theorem eqvAll_fr : ∀ {as bs : List Rat}, PyData.eqvAll (as.map pyF) (bs.map pyF) = decide (as = bs)
  | [], [] => by simp [PyData.eqvAll]
  | [], b :: bs => by simp [PyData.eqvAll]
  | a :: as, [] => by simp [PyData.eqvAll]
  | a :: as, b :: bs => by
    rw [List.map_cons, List.map_cons, PyData.eqvAll, eqv_fr, eqvAll_fr]
    by_cases h1 : a = b
    · by_cases h2 : as = bs
      · simp [h1, h2]
      · simp [h1, h2]
    · simp [h1]
theorem shaped_pair {i j : Int} : SeqAt.shaped (.tuple [.int i, .int j]) = true := by
  simp [SeqAt.shaped, PyData.canLay0, PyData.canLayAll0, PyData.depth, PyData.depthAll]
theorem can_fr : ∀ {qs : List Rat}, PyData.canLayAll0 (qs.map pyF) = true ∧ PyData.depthAll (qs.map pyF) ≤ 3
  | [] => by simp [PyData.canLayAll0, PyData.depthAll]
  | q :: qs => by
    have h := can_fr (qs := qs)
    constructor
    · simp [PyData.canLayAll0, PyData.canLay0, pyF] at h ⊢; exact h.1
    · simp only [List.map_cons, PyData.depthAll, pyF, PyData.depth]
      have := h.2
      omega
theorem shaped_tup {qs : List Rat} : SeqAt.shaped (.tuple (qs.map pyF)) = true := by
  have h := can_fr (qs := qs)
  refine Bool.and_eq_true_iff.mpr ⟨by simpa [PyData.canLay0] using h.1, decide_eq_true ?_⟩
  rw [PyData.depth]
  have := h.2
  omega
theorem shaped_lst {qs : List Rat} : SeqAt.shaped (.list (qs.map pyF)) = true := by
  have h := can_fr (qs := qs)
  refine Bool.and_eq_true_iff.mpr ⟨by simpa [PyData.canLay0] using h.1, decide_eq_true ?_⟩
  rw [PyData.depth]
  have := h.2
  omega
section
variable {P : Program} {w : World} {K : PySem.W.Frag} {mg : Str → Option Value} {base : Heap} {N : List Str} {V : List Nat} {Gs : List Str} {k kf : Nat}
variable {X : Cx} {Z : Zed} {ρ : Rho} {μ : Mu} {b : Expr}
theorem Bc.u64 (C : Bc X P w K mg base N V Gs k) : X.A.units + 64 < cLine := C.room.units
theorem cp_eqP {i j a c : Int} (C : Bc X P w K mg base N V Gs k) : Cmp K X Z ρ μ .Eq b (.tup [.int i, .int j]) (.tup [.int a, .int c]) (decide (i = a) && decide (j = c)) := ⟨_, op_eqD C.u64, nomark _, fun ν σ G H u v S rx ry Q q => by
  rw [C.eK]; exact ⟨_, _, dp_pair rx S.gh, dp_pair ry S.gh, shaped_pair, shaped_pair, by rw [eqv_pair]; exact q _ G H (.refl S.gh) (rep_v.mpr rfl)⟩⟩
theorem cp_neP {i j a c : Int} (C : Bc X P w K mg base N V Gs k) : Cmp K X Z ρ μ .NotEq b (.tup [.int i, .int j]) (.tup [.int a, .int c]) (!(decide (i = a) && decide (j = c))) := ⟨_, op_neD C.u64, nomark _, fun ν σ G H u v S rx ry Q q => by
  rw [C.eK]; exact ⟨_, _, dp_pair rx S.gh, dp_pair ry S.gh, shaped_pair, shaped_pair, by rw [eqv_pair]; exact q _ G H (.refl S.gh) (rep_v.mpr rfl)⟩⟩
theorem cp_eqF {x y : Rat} (C : Bc X P w K mg base N V Gs k) : Cmp K X Z ρ μ .Eq b (eF x) (eF y) (decide (x = y)) := (cp_eqP C).is rat_eq
theorem cp_neF {x y : Rat} (C : Bc X P w K mg base N V Gs k) : Cmp K X Z ρ μ .NotEq b (eF x) (eF y) (!decide (x = y)) := (cp_neP C).is (by rw [rat_eq])
theorem cp_eqR {xs ys : List Rat} (C : Bc X P w K mg base N V Gs k) : Cmp K X Z ρ μ .Eq b (.tup (xs.map eF)) (.tup (ys.map eF)) (decide (xs = ys)) := ⟨_, op_eqD C.u64, nomark _, fun ν σ G H u v S rx ry Q q => by
  obtain ⟨l, us, rfl, h1, h2⟩ := rep_tup.mp rx
  obtain ⟨m, ws, rfl, h3, h4⟩ := rep_tup.mp ry
  rw [C.eK]
  refine ⟨_, _, .tup (S.gh.t h1) (dps_fr S.gh h2), .tup (S.gh.t h3) (dps_fr S.gh h4), shaped_tup, shaped_tup, ?_⟩
  show Q (.bl (PyData.eqv (.tuple (xs.map pyF)) (.tuple (ys.map pyF)))) H
  rw [PyData.eqv, eqvAll_fr]; exact q _ G H (.refl S.gh) (rep_v.mpr rfl)⟩
theorem cp_eqL {xs ys : List Rat} (C : Bc X P w K mg base N V Gs k) : Cmp K X Z ρ μ .Eq b (.lst (xs.map eF)) (.lst (ys.map eF)) (decide (xs = ys)) := ⟨_, op_eqD C.u64, nomark _, fun ν σ G H u v S rx ry Q q => by
  obtain ⟨l, us, rfl, h1, h2⟩ := rep_lst.mp rx
  obtain ⟨m, ws, rfl, h3, h4⟩ := rep_lst.mp ry
  rw [C.eK]
  refine ⟨_, _, .lst (.inl (.inl (S.gh _ _ h1))) (dps_fr S.gh h2), .lst (.inl (.inl (S.gh _ _ h3))) (dps_fr S.gh h4), shaped_lst, shaped_lst, ?_⟩
  show Q (.bl (PyData.eqv (.list (xs.map pyF)) (.list (ys.map pyF)))) H
  rw [PyData.eqv, eqvAll_fr]; exact q _ G H (.refl S.gh) (rep_v.mpr rfl)⟩
theorem cp_neL {xs ys : List Rat} (C : Bc X P w K mg base N V Gs k) : Cmp K X Z ρ μ .NotEq b (.lst (xs.map eF)) (.lst (ys.map eF)) (!decide (xs = ys)) := ⟨_, op_neD C.u64, nomark _, fun ν σ G H u v S rx ry Q q => by
  obtain ⟨l, us, rfl, h1, h2⟩ := rep_lst.mp rx
  obtain ⟨m, ws, rfl, h3, h4⟩ := rep_lst.mp ry
  rw [C.eK]
  refine ⟨_, _, .lst (.inl (.inl (S.gh _ _ h1))) (dps_fr S.gh h2), .lst (.inl (.inl (S.gh _ _ h3))) (dps_fr S.gh h4), shaped_lst, shaped_lst, ?_⟩
  show Q (.bl (!PyData.eqv (.list (xs.map pyF)) (.list (ys.map pyF)))) H
  rw [PyData.eqv, eqvAll_fr]; exact q _ G H (.refl S.gh) (rep_v.mpr rfl)⟩
end
end NC

set_option Elab.async false
set_option linter.all false
set_option autoImplicit false
set_option maxRecDepth 100000
set_option maxHeartbeats 2000000
/-! Targets, statements, blocks, what a for walks. -/
namespace NC
open PySem PySem.Spec PyProof.Rows L2

/-! ### targets -/
def WG (X : Cx) (tg : Expr) : TG := fun v σ H Q => ∀ pins s u, Inv X pins σ H s → RelV v u → wpAny (model X.prog X.w) X.A (assign tg X.env u) (fun _ s' => ∃ σ' H', Inv X pins σ' H' s' ∧ Q σ' H') X.xe s
def WGs (X : Cx) (ts : List Expr) : TGs := fun vs σ H Q => ∀ pins s us, Inv X pins σ H s → Vals vs us → wpAny (model X.prog X.w) X.A (assignInOrder ((assignEach ts X.env).map (·.2)) us) (fun _ s' => ∃ σ' H', Inv X pins σ' H' s' ∧ Q σ' H') X.xe s
section
variable {X : Cx} {tg : Expr} {ts : List Expr} {σ : L2.St} {H : Hp} {Q : L2.St → Hp → Prop}
theorem pg_wg : PG X tg (WG X tg) := ⟨fun pins s _ _ _ u _ I r h => h pins s u I r⟩
theorem pgs_wgs : PGs X ts (WGs X ts) := ⟨fun pins s _ _ _ us _ I r h => h pins s us I r⟩
theorem wg_of {t : TG} {v : L2.V} (h : PG X tg t) (q : t v σ H Q) : WG X tg v σ H Q := fun pins s u I r => h.run pins s σ H v u Q I r q
theorem wgs_of {t : TGs} {vs : List L2.V} (h : PGs X ts t) (q : t vs σ H Q) : WGs X ts vs σ H Q := fun pins s us I r => h.run pins s σ H vs us Q I r q
end
/-- d goes to the target: slots, cells; only the slots il may change -/
def DG (K : PySem.W.Frag) (X : Cx) (Z : Zed) (ρ : Rho) (μ : Mu) (tg : Expr) (d : D) (ρ' : Rho) (μ' : Mu) (il : List Nat) : Prop := ∀ ν σ G H v, Sat K Z ρ (μ ++ ν) σ G H → Rep K G d v → ∀ Q : L2.St → Hp → Prop, (∀ σ' G' H', Ex G G' → Sat K Z ρ' (μ' ++ ν) σ' G' H' → (∀ i, i ∉ il → σ'[i]? = σ[i]?) → σ'.length = σ.length → Q σ' H') → WG X tg v σ H Q
def DGs (K : PySem.W.Frag) (X : Cx) (Z : Zed) (ρ : Rho) (μ : Mu) (ts : List Expr) (ds : List D) (ρ' : Rho) (μ' : Mu) (il : List Nat) : Prop := ∀ ν σ G H vs, Sat K Z ρ (μ ++ ν) σ G H → Reps K G ds vs → ∀ Q : L2.St → Hp → Prop, (∀ σ' G' H', Ex G G' → Sat K Z ρ' (μ' ++ ν) σ' G' H' → (∀ i, i ∉ il → σ'[i]? = σ[i]?) → σ'.length = σ.length → Q σ' H') → WGs X ts vs σ H Q
section
variable {P : Program} {w : World} {K : PySem.W.Frag} {mg : Str → Option Value} {base : Heap} {N : List Str} {V : List Nat} {Gs : List Str} {k kf : Nat}
variable {X : Cx} {Z : Zed} {ρ ρ1 ρ2 : Rho} {μ μ1 μ2 μ3 : Mu} {a b c e o tg : Expr} {es ts : List Expr} {d da db dc : D} {ds xs ys : List D} {pos p pos' apos : Pos} {x m f : Str} {u v : Bool} {cl : Cell} {n : Nat} {il il2 : List Nat}
theorem dg_name (i : Nat) {n : Nat} (C : Bc X P w K mg base N V Gs k) (hN : N[i]? = some x) (hV : V[i]? = some (n + 2)) : DG K X Z ρ μ (.Name x pos) d (ρ.set i (some d)) μ [i] := fun ν σ G H v S r Q q => by
  obtain ⟨l1, l2⟩ := C.loc i x n hV hN
  refine wg_of (pg_name (i := i) (by rw [C.eN]; exact C.nd) (by rw [C.eN]; exact hN) l1 l2) ?_
  exact q _ G H (.refl _) (S.set r) (fun j hj => by rw [List.getElem?_set_ne (fun z => hj (by simp [z]))]) (by simp)
theorem dgs_nil : DGs K X Z ρ μ [] [] ρ μ [] := fun ν σ G H vs S r Q q => wgs_of pgs_nil ⟨reps_nil.mp r, q σ G H (.refl _) S (fun _ _ => rfl) rfl⟩
theorem dgs_cons (h : DG K X Z ρ μ e d ρ1 μ1 il) (h' : DGs K X Z ρ1 μ1 es ds ρ2 μ2 il2) (hs : (assignEach (e :: es) X.env).map (·.2) = assign e X.env :: (assignEach es X.env).map (·.2) := by rfl) : DGs K X Z ρ μ (e :: es) (d :: ds) ρ2 μ2 (il ++ il2) := fun ν σ G H vs S r Q q => by
  obtain ⟨v, vr, rfl, r1, r2⟩ := reps_cons.mp r
  refine wgs_of (pgs_cons pg_wg pgs_wgs hs) ⟨v, vr, rfl, h ν σ G H v S r1 _ fun σ1 G1 H1 e1 S1 g1 l1 => h' ν σ1 G1 H1 vr S1 (r2.mono e1) Q fun σ2 G2 H2 e2 S2 g2 l2 => q σ2 G2 H2 (e1.trans e2) S2 (fun i hi => ?_) (l2.trans l1)⟩
  rw [List.mem_append, not_or] at hi
  rw [g2 i hi.2, g1 i hi.1]
theorem dg_tup {kk : Nat} (C : Bc X P w K mg base N V Gs k) (h : DGs K X Z ρ μ es ds ρ1 μ1 il) (hl : ds.length = n) (hn : (assignEach es X.env).length = n := by rfl) (hst : (assignEach es X.env).findIdx? (·.1) = none := by rfl) : DG K X Z ρ μ (.Tuple es kk pos) (.tup ds) ρ1 μ1 il := fun ν σ G H v S r Q q => by
  obtain ⟨l, us, rfl, h1, h2⟩ := rep_tup.mp r
  refine wg_of (pg_tup C.calm pgs_wgs hn hst) ?_
  rw [C.eK]
  exact ⟨l, us, rfl, S.gh.t h1, by rw [← h2.length]; exact hl, h ν σ G H us S h2 Q q⟩

/-! ### blocks -/
structure Post where
  nx : Rho → Mu → Prop
  rt : D → Mu → Prop
def DB (K : PySem.W.Frag) (X : Cx) (Z : Zed) (ρ : Rho) (μ : Mu) (ss : List Stmt) (Φ : Post) : Prop := ∀ σ G H, Sat K Z ρ μ σ G H → ∀ D : Ends, (∀ ρ' μ' σ' G' H', Φ.nx ρ' μ' → Ex G G' → Sat K Z ρ' μ' σ' G' H' → D.nx σ' H') →
  (∀ d μ' v ρ' σ' G' H', Φ.rt d μ' → Ex G G' → Sat K Z ρ' μ' σ' G' H' → Rep K G' d v → D.rt v H') → WSs X ss D σ H
variable {st : Stmt} {rest body els : List Stmt} {Φ Ψ : Post}
theorem db_nil (h : Φ.nx ρ μ) : DB K X Z ρ μ [] Φ := fun σ G H S D q1 q2 => wss_of pss_nil (q1 ρ μ σ G H h (.refl _) S)
theorem wss_cons {t : TS} {D : Ends} {σ : L2.St} {H : Hp} (h : PS X st t) (q : t { D with nx := WSs X rest D } σ H) : WSs X (st :: rest) D σ H := wss_of (pss_cons h pss_wss) q
theorem DB.imp (h : DB K X Z ρ μ rest Φ) (h1 : ∀ ρ' μ', Φ.nx ρ' μ' → Ψ.nx ρ' μ') (h2 : ∀ d μ', Φ.rt d μ' → Ψ.rt d μ') : DB K X Z ρ μ rest Ψ := fun σ G H S D q1 q2 => h σ G H S D (fun ρ' μ' σ' G' H' z => q1 ρ' μ' σ' G' H' (h1 _ _ z)) fun d μ' v ρ' σ' G' H' z => q2 d μ' v ρ' σ' G' H' (h2 _ _ z)
theorem DE.at0 (h : DE K X Z ρ μ e d μ1) {σ : L2.St} {G H : Hp} (S : Sat K Z ρ μ σ G H) {Q : VK} (q : ∀ v G' H', Ex G G' → Sat K Z ρ μ1 σ G' H' → Rep K G' d v → Q v H') : WE X e σ H Q :=
  h [] σ G H (by simpa using S) Q fun v G' H' e S' r => q v G' H' e (by simpa using S') r
theorem DT.at0 (h : DT K X Z ρ μ e u μ1) {σ : L2.St} {G H : Hp} (S : Sat K Z ρ μ σ G H) {Q : Bool → Hp → Prop} (q : ∀ G' H', Ex G G' → Sat K Z ρ μ1 σ G' H' → Q u H') : WT X e σ H Q :=
  h [] σ G H (by simpa using S) Q fun G' H' e S' => q G' H' e (by simpa using S')
theorem DG.at0 (h : DG K X Z ρ μ tg d ρ1 μ1 il) {σ : L2.St} {G H : Hp} {v : L2.V} (S : Sat K Z ρ μ σ G H) (r : Rep K G d v) {Q : L2.St → Hp → Prop} (q : ∀ σ' G' H', Ex G G' → Sat K Z ρ1 μ1 σ' G' H' → Q σ' H') : WG X tg v σ H Q :=
  h [] σ G H v (by simpa using S) r Q fun σ' G' H' e S' _ _ => q σ' G' H' e (by simpa using S')
/-- name = e -/
theorem db_set (i : Nat) {n : Nat} (C : Bc X P w K mg base N V Gs k) (hN : N[i]? = some x) (hV : V[i]? = some (n + 2)) (h : DE K X Z ρ μ e d μ1) (hr : DB K X Z (ρ.set i (some d)) μ1 rest Φ) (hs : swapsWith e (some (.Name x pos')) pos.line X.env = pure false := by rfl) : DB K X Z ρ μ (.Assign [.Name x pos'] e pos :: rest) Φ := fun σ G H S D q1 q2 => by
  obtain ⟨l1, l2⟩ := C.loc i x n hV hN
  refine wss_cons (ps_set (i := i) (by rw [C.eN]; exact C.nd) (by rw [C.eN]; exact hN) l1 pe_we hs l2) ?_
  refine h.at0 S fun v G1 H1 e1 S1 r1 => ?_
  exact hr _ G1 H1 (S1.set r1) D (fun ρ' μ' σ' G' H' z e2 => q1 ρ' μ' σ' G' H' z (e1.trans e2)) fun d μ' v ρ' σ' G' H' z e2 => q2 d μ' v ρ' σ' G' H' z (e1.trans e2)
/-- name = a new list, a new instance that is owned -/
theorem db_own (i : Nat) {n : Nat} (C : Bc X P w K mg base N V Gs k) (hN : N[i]? = some x) (hV : V[i]? = some (n + 2)) (h : DL K X Z ρ μ e cl μ1) (hr : ∀ q, q ∉ Z.xs → DB K X Z (ρ.set i (some (.ref q))) (μ1 ++ [(q, cl)]) rest Φ) (hs : swapsWith e (some (.Name x pos')) pos.line X.env = pure false := by rfl) : DB K X Z ρ μ (.Assign [.Name x pos'] e pos :: rest) Φ := fun σ G H S D q1 q2 => by
  obtain ⟨l1, l2⟩ := C.loc i x n hV hN
  refine wss_cons (ps_set (i := i) (by rw [C.eN]; exact C.nd) (by rw [C.eN]; exact hN) l1 pe_we hs l2) ?_
  refine h [] σ G H (by simpa using S) _ fun q G1 H1 e1 hq S1 => ?_
  exact hr q hq _ G1 H1 (by simpa using S1.set (i := i) (v := .ref q) (rep_v.mpr rfl)) D (fun ρ' μ' σ' G' H' z e2 => q1 ρ' μ' σ' G' H' z (e1.trans e2)) fun d μ' v ρ' σ' G' H' z e2 => q2 d μ' v ρ' σ' G' H' z (e1.trans e2)
/-- an owned list, an owned instance stands still from here on -/
theorem db_freeze (i j : Nat) {q : Addr} (hρ : ρ[i]? = some (some (.ref q))) (hj : μ[j]? = some (q, .lst xs)) (hq : q ∉ Z.xs) (hr : DB K X Z (ρ.set i (some (.lst xs))) (μ.eraseIdx j) rest Φ) : DB K X Z ρ μ rest Φ := fun σ G H S D q1 q2 => by
  obtain ⟨vs, h1, h2⟩ := (S.ce q _ (List.mem_of_getElem? hj)).1
  obtain ⟨S1, e1⟩ := S.freeze hj hq h1
  obtain ⟨v, s1, s2⟩ := S.sl i _ hρ
  have hv := rep_v.mp s2
  subst hv
  have S2 : Sat K Z (ρ.set i (some (.lst xs))) (μ.eraseIdx j) σ (upd G q (.lst vs)) H := S1.slots (by simp) fun l dd hl => by
    rw [List.getElem?_set] at hl
    split at hl
    · rename_i e; subst e
      split at hl
      · cases hl
        exact ⟨_, s1, rep_lst.mpr ⟨q, vs, rfl, upd_same, h2.mono e1⟩⟩
      · cases hl
    · exact S1.sl l dd hl
  exact hr σ _ H S2 D (fun ρ' μ' σ' G' H' z e2 => q1 ρ' μ' σ' G' H' z (e1.trans e2)) fun d μ' v ρ' σ' G' H' z e2 => q2 d μ' v ρ' σ' G' H' z (e1.trans e2)
theorem db_freezeI (i j : Nat) {q Cl : Addr} {ns : List Str} (hρ : ρ[i]? = some (some (.ref q))) (hj : μ[j]? = some (q, .ins Cl ns ds)) (hq : q ∉ Z.xs) (hr : DB K X Z (ρ.set i (some (.ins Cl ns ds))) (μ.eraseIdx j) rest Φ) : DB K X Z ρ μ rest Φ := fun σ G H S D q1 q2 => by
  obtain ⟨dx, vs, h1, h0, h2⟩ := (S.ce q _ (List.mem_of_getElem? hj)).1
  obtain ⟨S1, e1⟩ := S.freeze hj hq h1
  obtain ⟨v, s1, s2⟩ := S.sl i _ hρ
  have hv := rep_v.mp s2
  subst hv
  have S2 : Sat K Z (ρ.set i (some (.ins Cl ns ds))) (μ.eraseIdx j) σ (upd G q (.ins Cl dx (ns.zip vs))) H := S1.slots (by simp) fun l dd hl => by
    rw [List.getElem?_set] at hl
    split at hl
    · rename_i e; subst e
      split at hl
      · cases hl
        exact ⟨_, s1, rep_ins.mpr ⟨q, dx, vs, rfl, upd_same, h0, h2.mono e1⟩⟩
      · cases hl
    · exact S1.sl l dd hl
  exact hr σ _ H S2 D (fun ρ' μ' σ' G' H' z e2 => q1 ρ' μ' σ' G' H' z (e1.trans e2)) fun d μ' v ρ' σ' G' H' z e2 => q2 d μ' v ρ' σ' G' H' z (e1.trans e2)
/-- cells, slots may be forgotten -/
theorem db_drop {ν : Mu} (hr : DB K X Z ρ ν rest Φ) (h : ∀ q, q ∈ ν → q ∈ μ) (hn : List.Sublist ν μ) : DB K X Z ρ μ rest Φ := fun σ G H S D q1 q2 => hr σ G H (S.mono h (List.Nodup.sublist (hn.map _) S.nd)) D q1 q2
/-- target = e -/
theorem db_asg (h : DE K X Z ρ μ e d μ1) (hg : DG K X Z ρ μ1 tg d ρ1 μ2 il) (hr : DB K X Z ρ1 μ2 rest Φ) (hs : swapsWithSole [tg] e pos.line X.env = pure false := by rfl) (hw : swappedStores [tg] e X.env = pure none := by rfl)
    (h1 : (assignEach [tg] X.env).map (·.2) = [assign tg X.env] := by rfl) : DB K X Z ρ μ (.Assign [tg] e pos :: rest) Φ := fun σ G H S D q1 q2 => by
  refine wss_cons (ps_asg pe_we pg_wg hs hw h1) ?_
  refine h.at0 S fun v G1 H1 e1 S1 r1 => hg.at0 S1 r1 fun σ2 G2 H2 e2 S2 => ?_
  exact hr _ G2 H2 S2 D (fun ρ' μ' σ' G' H' z e3 => q1 ρ' μ' σ' G' H' z ((e1.trans e2).trans e3)) fun d μ' v ρ' σ' G' H' z e3 => q2 d μ' v ρ' σ' G' H' z ((e1.trans e2).trans e3)
/-- x, y = e, f with plain locals -/
theorem db_par (i j : Nat) {x y : Str} {px py pt : Pos} {kt k2 : Nat} {pt2 : Pos} (C : Bc X P w K mg base N V Gs k) (hi : N[i]? = some x) (hj : N[j]? = some y) (hVi : V[i]? = some 3) (hVj : V[j]? = some 3) (h : DA K X Z ρ μ [a, b] [da, db] μ1) (hr : DB K X Z ((ρ.set i (some da)).set j (some db)) μ1 rest Φ) (hij : i ≠ j := by decide)
    (hp : ∀ (t : TA), X.calm = true → X.N.Nodup → X.N[i]? = some x → X.N[j]? = some y → i ≠ j → X.env.scope.names.lookup x = some .local → X.env.scope.names.lookup y = some .local → PA X [a, b] t → PS X (.Assign [.Tuple [.Name x px, .Name y py] kt pt] (.Tuple [a, b] k2 pt2) pos) (tPar i j t)) : DB K X Z ρ μ (.Assign [.Tuple [.Name x px, .Name y py] kt pt] (.Tuple [a, b] k2 pt2) pos :: rest) Φ := fun σ G H S D q1 q2 => by
  refine wss_cons (hp _ C.calm (by rw [C.eN]; exact C.nd) (by rw [C.eN]; exact hi) (by rw [C.eN]; exact hj) hij (C.loc3 i x hVi hi) (C.loc3 j y hVj hj) pa_wa) ?_
  refine h [] σ G H (by simpa using S) _ fun vs G1 H1 e1 S1 r1 => ?_
  obtain ⟨u, w, rfl, ra, rb⟩ := reps2 r1
  refine ⟨u, w, rfl, ?_⟩
  exact hr _ G1 H1 (by simpa using (S1.set ra).set rb) D (fun ρ' μ' σ' G' H' z e3 => q1 ρ' μ' σ' G' H' z (e1.trans e3)) fun d μ' v ρ' σ' G' H' z e3 => q2 d μ' v ρ' σ' G' H' z (e1.trans e3)
theorem db_ret (h : DE K X Z ρ μ e d μ1) (hq : Φ.rt d μ1) : DB K X Z ρ μ (.Return (some e) pos :: rest) Φ := fun σ G H S D q1 q2 =>
  wss_cons (ps_ret pe_we) (h.at0 S fun v G1 H1 e1 S1 r1 => q2 d μ1 v ρ σ G1 H1 hq e1 S1 r1)
theorem db_pass (hr : DB K X Z ρ μ rest Φ) : DB K X Z ρ μ (.Pass pos :: rest) Φ := fun σ G H S D q1 q2 => wss_cons ps_pass (hr σ G H S D q1 q2)
/-- an expression alone -/
theorem db_expr (h : DE K X Z ρ μ e d μ1) (hr : DB K X Z ρ μ1 rest Φ) (hs : swapsWith e none pos.line X.env = pure false := by rfl) : DB K X Z ρ μ (.Expr e pos :: rest) Φ := fun σ G H S D q1 q2 =>
  wss_cons (ps_expr pe_we hs) (h.at0 S fun v G1 H1 e1 S1 r1 => hr σ G1 H1 S1 D (fun ρ' μ' σ' G' H' z e3 => q1 ρ' μ' σ' G' H' z (e1.trans e3)) fun d μ' v ρ' σ' G' H' z e3 => q2 d μ' v ρ' σ' G' H' z (e1.trans e3))
theorem db_if (h : DT K X Z ρ μ c u μ1) (h1 : u = true → DB K X Z ρ μ1 body ⟨fun ρ' μ' => DB K X Z ρ' μ' rest Φ, Φ.rt⟩) (h2 : u = false → DB K X Z ρ μ1 els ⟨fun ρ' μ' => DB K X Z ρ' μ' rest Φ, Φ.rt⟩) : DB K X Z ρ μ (.If c body els pos :: rest) Φ := fun σ G H S D q1 q2 => by
  refine wss_cons (ps_if pt_wt pss_wss pss_wss) (h.at0 S fun G1 H1 e1 S1 => ?_)
  have go : ∀ ss, DB K X Z ρ μ1 ss ⟨fun ρ' μ' => DB K X Z ρ' μ' rest Φ, Φ.rt⟩ → WSs X ss { D with nx := WSs X rest D } σ H1 := fun ss hb =>
    hb σ G1 H1 S1 _ (fun ρ' μ' σ' G' H' z e2 S2 => z σ' G' H' S2 D (fun ρ2 μ2 σ2 G2 H2 z2 e3 => q1 ρ2 μ2 σ2 G2 H2 z2 ((e1.trans e2).trans e3)) fun d μ2 v ρ2 σ2 G2 H2 z2 e3 => q2 d μ2 v ρ2 σ2 G2 H2 z2 ((e1.trans e2).trans e3)) fun d μ2 v ρ2 σ2 G2 H2 z2 e3 => q2 d μ2 v ρ2 σ2 G2 H2 z2 (e1.trans e3)
  cases u with
  | true =>
    show WSs X body _ σ H1
    exact go body (h1 rfl)
  | false =>
    show WSs X els _ σ H1
    exact go els (h2 rfl)
/-- if c: .. that is not gone into (a refusal that is not due) -/
theorem db_skip (h : DT K X Z ρ μ c false μ1) (hr : DB K X Z ρ μ1 rest Φ) : DB K X Z ρ μ (.If c body [] pos :: rest) Φ := db_if h (fun z => by cases z) fun _ => db_nil hr
theorem db_if1 (h : DT K X Z ρ μ c true μ1) (hr : DB K X Z ρ μ1 body ⟨fun ρ' μ' => DB K X Z ρ' μ' rest Φ, Φ.rt⟩) : DB K X Z ρ μ (.If c body els pos :: rest) Φ := db_if h (fun _ => hr) fun z => by cases z
theorem db_if0 (h : DT K X Z ρ μ c false μ1) (hr : DB K X Z ρ μ1 els ⟨fun ρ' μ' => DB K X Z ρ' μ' rest Φ, Φ.rt⟩) : DB K X Z ρ μ (.If c body els pos :: rest) Φ := db_if h (fun z => by cases z) fun _ => hr

/-! ### owned lists grow, are written -/
theorem tyV_lst {q : Addr} {H : Hp} {vs : List L2.V} (h : H q = some (.lst vs)) : tyV K "list" (.ref q) H := .inl ⟨rfl, vs, .inl (.inl h)⟩
theorem cell_in {σ : L2.St} {G H : Hp} {q : Addr} {j : Nat} (S : Sat K Z ρ μ σ G H) (hj : μ[j]? = some (q, cl)) : CellAt K G H q cl := (S.ce q cl (List.mem_of_getElem? hj)).1
theorem db_app (j : Nat) {q : Addr} {ys : List D} (C : Bc X P w K mg base N V Gs k) (ho : DE K X Z ρ μ o (.ref q) μ1) (hj1 : μ1[j]? = some (q, .lst ys)) (he : DE K X Z ρ μ1 e d μ2) (hj : μ2[j]? = some (q, .lst xs)) (hl : xs.length < 100000) (hr : DB K X Z ρ (μ2.set j (q, .lst (xs ++ [d]))) rest Φ)
    (hbase : attributeBase o "append" X.env (eval o X.env) = eval o X.env := by rfl)
    (hfew : ((backTo pos' (starEach [e] X.env)).all (fun x => !x.1) && (backToKw pos' (keywordEach [] X.env)).all (fun x => x.1.isSome)
      && decide ([e].length + ([] : List Keyword).length + (if ([] : List Keyword).isEmpty then 0 else 1) < 30)) = true := by rfl)
    (hline : (apos.endLine == pos'.line) = true := by rfl) (hs : starEach [e] X.env = [(false, eval e X.env)] := by rfl) (hplain : (backTo pos' (starEach [] X.env)).any (·.1) = false := by rfl)
    (hsw : swapsWith (.Call (.Attribute o "append" apos) [e] [] pos') none pos.line X.env = pure false := by rfl) : DB K X Z ρ μ (.Expr (.Call (.Attribute o "append" apos) [e] [] pos') pos :: rest) Φ := fun σ G H S D q1 q2 => by
  refine wss_cons (ps_expr (pe_bm PySem.F.plainAttrs_list PySem.F.slot_list_append PySem.F.type_list_append mt_append pe_we (pa_cons pe_we pa_nil hs) hbase hfew hline hs hplain) hsw) ?_
  refine ho.at0 S fun v G1 H1 e1 S1 r1 => ?_
  have hv := rep_v.mp r1
  subst hv
  obtain ⟨vs0, g1, _⟩ := cell_in S1 hj1
  rw [C.eK]
  refine ⟨tyV_lst g1, he.at0 S1 fun u G2 H2 e2 S2 r2 => ?_⟩
  obtain ⟨vs, g2, g3⟩ := cell_in S2 hj
  refine ⟨q, vs, u, rfl, rfl, g2, by rw [← g3.length]; exact sz100' hl, ?_⟩
  have S3 := S2.write (o := .lst (vs ++ [u])) (c' := .lst (xs ++ [d])) hj ⟨vs ++ [u], upd_same, g3.app (Reps.cons r2 Reps.nil)⟩
  exact hr σ G2 _ S3 D (fun ρ' μ' σ' G' H' z e3 => q1 ρ' μ' σ' G' H' z ((e1.trans e2).trans e3)) fun d μ' v ρ' σ' G' H' z e3 => q2 d μ' v ρ' σ' G' H' z ((e1.trans e2).trans e3)
theorem db_ext (j : Nat) {q : Addr} {zs : List D} (C : Bc X P w K mg base N V Gs k) (ho : DE K X Z ρ μ o (.ref q) μ1) (hj1 : μ1[j]? = some (q, .lst zs)) (he : DE K X Z ρ μ1 e (.lst ys) μ2) (hj : μ2[j]? = some (q, .lst xs)) (hl : xs.length + ys.length ≤ 100000) (hr : DB K X Z ρ (μ2.set j (q, .lst (xs ++ ys))) rest Φ)
    (hbase : attributeBase o "extend" X.env (eval o X.env) = eval o X.env := by rfl)
    (hfew : ((backTo pos' (starEach [e] X.env)).all (fun x => !x.1) && (backToKw pos' (keywordEach [] X.env)).all (fun x => x.1.isSome)
      && decide ([e].length + ([] : List Keyword).length + (if ([] : List Keyword).isEmpty then 0 else 1) < 30)) = true := by rfl)
    (hline : (apos.endLine == pos'.line) = true := by rfl) (hs : starEach [e] X.env = [(false, eval e X.env)] := by rfl) (hplain : (backTo pos' (starEach [] X.env)).any (·.1) = false := by rfl)
    (hsw : swapsWith (.Call (.Attribute o "extend" apos) [e] [] pos') none pos.line X.env = pure false := by rfl) : DB K X Z ρ μ (.Expr (.Call (.Attribute o "extend" apos) [e] [] pos') pos :: rest) Φ := fun σ G H S D q1 q2 => by
  refine wss_cons (ps_expr (pe_bm PySem.F.plainAttrs_list PySem.F.slot_list_extend PySem.F.type_list_extend mt_extend pe_we (pa_cons pe_we pa_nil hs) hbase hfew hline hs hplain) hsw) ?_
  refine ho.at0 S fun v G1 H1 e1 S1 r1 => ?_
  have hv := rep_v.mp r1
  subst hv
  obtain ⟨vs0, g1, _⟩ := cell_in S1 hj1
  rw [C.eK]
  refine ⟨tyV_lst g1, he.at0 S1 fun u G2 H2 e2 S2 r2 => ?_⟩
  obtain ⟨vs, g2, g3⟩ := cell_in S2 hj
  obtain ⟨l, us, rfl, g4, g5⟩ := rep_lst.mp r2
  refine ⟨q, l, vs, us, rfl, rfl, g2, S2.gh _ _ g4, by rw [← g3.length, ← g5.length]; exact sz100 hl, ?_⟩
  have S3 := S2.write (o := .lst (vs ++ us)) (c' := .lst (xs ++ ys)) hj ⟨vs ++ us, upd_same, g3.app g5⟩
  exact hr σ G2 _ S3 D (fun ρ' μ' σ' G' H' z e3 => q1 ρ' μ' σ' G' H' z ((e1.trans e2).trans e3)) fun d μ' v ρ' σ' G' H' z e3 => q2 d μ' v ρ' σ' G' H' z ((e1.trans e2).trans e3)
/-- o[i] = .. as a target -/
theorem dg_setix (j : Nat) {q : Addr} {iv : Int} {l : Nat} (ho : DE K X Z ρ μ o (.ref q) μ1) (hi : DE K X Z ρ μ1 a (.int iv) μ2) (hj : μ2[j]? = some (q, .lst xs)) (hl : ixN xs.length iv = some l)
    (ha : ∀ v, assign (.Subscript o a pos) X.env v = (do
      let ov ← holding [v] (eval o X.env)
      let iv ← holding [v, ov] (eval a X.env)
      standAt pos
      holding [v, ov, iv] (setItem ov iv v)
      release [v, ov, iv] []) := by intro _; rfl) : DG K X Z ρ μ (.Subscript o a pos) d ρ (μ2.set j (q, .lst (xs.set l d))) [] := fun ν σ G H v S r Q qq => by
  refine wg_of (pg_sub pe_we pe_we set_list ha) ?_
  refine ho ν σ G H S _ fun v1 G1 H1 e1 S1 r1 => hi ν σ G1 H1 S1 _ fun v2 G2 H2 e2 S2 r2 => ?_
  have hjl := (List.getElem?_eq_some_iff.mp hj).1
  have hj' : (μ2 ++ ν)[j]? = some (q, .lst xs) := by rw [List.getElem?_append_left hjl]; exact hj
  obtain ⟨vs, g2, g3⟩ := cell_in S2 hj'
  have hv := rep_v.mp r1
  subst hv
  rw [rep_v.mp r2]
  refine ⟨q, vs, iv, l, rfl, rfl, g2, by rw [← g3.length]; exact hl, ?_⟩
  have S3 := S2.write (o := .lst (vs.set l v)) (c' := .lst (xs.set l d)) hj' ⟨vs.set l v, upd_same, g3.set l ((r.mono e1).mono e2)⟩
  rw [List.set_append_left _ _ hjl] at S3
  exact qq σ G2 _ (e1.trans e2) S3 (fun _ _ => rfl) rfl
end
end NC

set_option Elab.async false
set_option linter.all false
set_option autoImplicit false
set_option maxRecDepth 100000
set_option maxHeartbeats 4000000
/-! zip and enumerate over lists and tuples in any mix. -/
namespace NC
open PySem PySem.Spec PyProof.Rows L2

/-- true: a tuple; false: a list -/
def SqK (kd : Bool) (K : PySem.W.Frag) (H : Hp) (a : Addr) (xs : List L2.V) : Prop := match kd with | true => SqT K H a xs | false => SqL K H a xs
def ItH (kd : Bool) (h : Heap) (it a : Addr) (i : Nat) : Prop := match kd with | true => h.IsTupleIter it a i | false => h.IsListIter it a i
def SeqH (kd : Bool) (h : Heap) (a : Addr) (items : Array Value) : Prop := match kd with | true => h.IsTuple a items | false => h.IsList a items
def itObj (kd : Bool) (a : Addr) : Obj := match kd with | true => { cls := .type "tuple_iterator", data := .fields #[.ref a, .int 0 0] } | false => { cls := .type "list_iterator", data := .fields #[.ref a, .int 0 0] }
theorem draws_of {prog : Program} {w : World} {A : Around} (kd : Bool) (hh : A.handled = none) (it a : Addr) (hne : a ≠ it) (items : Array Value) :
    Draws prog w A it [it, a] items.size (fun i v => items[i]? = some v) (fun i h => ItH kd h it a i ∧ SeqH kd h a items) := by
  cases kd with
  | true => exact Draws.tuple hh it a hne items
  | false => exact Draws.list hh it a hne items
theorem begins_of (kd : Bool) (a : Addr) (items : Array Value) : Begins (.ref a) (itObj kd a) fun h => SeqH kd h a items := by
  cases kd with
  | true => exact begins_tuple a items
  | false => exact begins_list a items
theorem ItH.new {kd : Bool} {h : Heap} {it a : Addr} (e : h.get? it = some (itObj kd a)) : ItH kd h it a 0 := by
  cases kd with
  | true => exact ⟨_, e, rfl, rfl⟩
  | false => exact ⟨_, e, rfl, rfl⟩
theorem ItH.obj {kd : Bool} {h : Heap} {it a : Addr} {i : Nat} (x : ItH kd h it a i) : ∃ o, h.get? it = some o ∧ ∀ v, o.data ≠ .cell v := by
  cases kd with
  | true => obtain ⟨o, e, _, d⟩ := x; exact ⟨o, e, fun v q => by rw [d] at q; cases q⟩
  | false => obtain ⟨o, e, _, d⟩ := x; exact ⟨o, e, fun v q => by rw [d] at q; cases q⟩
theorem ItH.keep {kd : Bool} {h h' : Heap} {it a : Addr} {i : Nat} (x : ItH kd h it a i) (k : ∀ o, h.get? it = some o → h'.get? it = some o) : ItH kd h' it a i := by
  cases kd with
  | true => exact Heap.IsTupleIter.at x k
  | false => exact Heap.IsListIter.at x k
theorem ItH.ne {kd : Bool} {h : Heap} {it a : Addr} {i : Nat} {items : Array Value} (x : ItH kd h it a i) (y : SeqH kd h a items) : a ≠ it := by
  rintro rfl
  cases kd with
  | true =>
    obtain ⟨o, e, c, _⟩ := x
    obtain ⟨o2, e2, c2, _⟩ := y
    rw [e] at e2; cases e2; rw [c] at c2
    exact absurd c2 (by decide)
  | false =>
    obtain ⟨o, e, c, _⟩ := x
    obtain ⟨o2, e2, c2, _⟩ := y
    rw [e] at e2; cases e2; rw [c] at c2
    exact absurd c2 (by decide)
theorem SqK.its {kd : Bool} {X : Cx} {pins : List (Addr × Obj)} {σ : L2.St} {H : Hp} {s : Shared} {a : Addr} {xs : List L2.V} (I : Inv X pins σ H s) (h : SqK kd X.K H a xs) : ∃ its : List Value, Vals xs its ∧ SeqH kd s.heap a its.toArray ∧ a < s.heap.objs.size := by
  cases kd with
  | true =>
    obtain ⟨its, rv, p, _⟩ := I.tuple h
    exact ⟨its, rv, p, by obtain ⟨o, e, _⟩ := p; exact Heap.lt_size e⟩
  | false =>
    obtain ⟨its, rv, p, _⟩ := I.list h
    exact ⟨its, rv, p.isList, p.lt⟩
theorem SqK.inj {kd : Bool} {X : Cx} {pins : List (Addr × Obj)} {σ : L2.St} {H : Hp} {s : Shared} {a : Addr} {xs ys : List L2.V} (I : Inv X pins σ H s) (h : SqK kd X.K H a xs) (h' : SqK kd X.K H a ys) : xs = ys := by
  cases kd with
  | true => exact I.tuple_inj h h'
  | false => exact I.list_inj h h'

/-! ### zip -/
def ItzG (k1 k2 : Bool) (K : PySem.W.Frag) (a b : Addr) : It where
  go := fun i H => ∃ (xs ys : List L2.V) (x y : L2.V), SqK k1 K H a xs ∧ SqK k2 K H b ys ∧ xs[i]? = some x ∧ ys[i]? = some y
  yld := fun i H v H' => ∃ T x y, v = .ref T ∧ H T = none ∧ H' = upd H T (.tup [x, y]) ∧ (∀ xs, SqK k1 K H a xs → xs[i]? = some x) ∧ ∀ ys, SqK k2 K H b ys → ys[i]? = some y
  stop := fun i H => ∃ xs ys : List L2.V, SqK k1 K H a xs ∧ SqK k2 K H b ys ∧ i ≤ xs.length ∧ i ≤ ys.length ∧ (i = xs.length ∨ i = ys.length)
def tnZ (k1 k2 : Bool) (z TI TO i1 i2 a b : Addr) (i : Nat) (h : Heap) : Prop := IsZip h z TI TO .none ∧ IsTupOf2 h TI (.ref i1) (.ref i2) ∧ (∃ x y, IsTupOf2 h TO x y) ∧ ItH k1 h i1 a i ∧ ItH k2 h i2 b i
theorem turn_zipG {P : Program} {w : World} {K : PySem.W.Frag} {elts : List Expr} {kk : Nat} {tpos : Pos} {a b z TI TO i1 i2 : Addr} {k1 k2 : Bool} (S : ZipSep2 z TI TO i1 i2 [i1, a] [i2, b]) :
    Turn P w K (.Tuple elts kk tpos) (ItzG k1 k2 K a b) [z, TI, TO, i1, i2] z (tnZ k1 k2 z TI TO i1 i2 a b) where
  mem := by simp
  obj := fun i h st c hc => by
    obtain ⟨hz, hTI, ⟨x, y, hTO⟩, h1, h2⟩ := st
    simp only [List.mem_cons, List.not_mem_nil, or_false] at hc
    rcases hc with q | q | q | q | q
    · rw [q]; exact ⟨_, hz, fun v q => nomatch q⟩
    · rw [q]; exact ⟨_, hTI, fun v q => nomatch q⟩
    · rw [q]; exact ⟨_, hTO, fun v q => nomatch q⟩
    · rw [q]; exact h1.obj
    · rw [q]; exact h2.obj
  keep := fun i h h' st kp => by
    obtain ⟨hz, hTI, ⟨x, y, hTO⟩, h1, h2⟩ := st
    exact ⟨kp z (by simp) _ hz, kp TI (by simp) _ hTI, ⟨x, y, kp TO (by simp) _ hTO⟩, h1.keep fun o => kp i1 (by simp) o, h2.keep fun o => kp i2 (by simp) o⟩
  item := by
    intro X hP hw hK hc i pins s σ H E I hf st hg
    subst hP hw hK
    obtain ⟨hz, hTI, ⟨x0, y0, hTO⟩, h1, h2⟩ := st
    obtain ⟨xs, ys, x, y, hqx, hqy, hx, hy⟩ := hg
    obtain ⟨its, rv, p1, _⟩ := hqx.its I
    obtain ⟨its2, rv2, p2, _⟩ := hqy.its I
    have ne1 : a ≠ i1 ∧ b ≠ i2 := ⟨h1.ne p1, h2.ne p2⟩
    have D1 := draws_of (prog := X.prog) (w := X.w) (A := X.A.in1) k1 (I.ok.hd hc) i1 a ne1.1 its.toArray
    have D2 := draws_of (prog := X.prog) (w := X.w) (A := X.A.in1) k2 (I.ok.hd hc) i2 b ne1.2 its2.toArray
    obtain ⟨u, hu, ru⟩ := rv.get hx
    obtain ⟨u2, hu2, ru2⟩ := rv2.get hy
    have lt1 : i < its.toArray.size := by simpa using (List.getElem?_eq_some_iff.mp hu).1
    have lt2 : i < its2.toArray.size := by simpa using (List.getElem?_eq_some_iff.mp hu2).1
    have hzl : z < s.heap.objs.size := Heap.lt_size hz
    refine wpAny_pyNext_zipD2_item S D1 D2 hz hTI hTO ⟨h1, p1⟩ ⟨h2, p2⟩ lt1 lt2 fun w1 w2 h' tk q1 q2 z' TO' s1' s2' hT hsz hk => ?_
    have eu : w1 = u := by rw [List.getElem?_toArray, hu] at q1; exact (Option.some.inj q1).symm
    have eu2 : w2 = u2 := by rw [List.getElem?_toArray, hu2] at q2; exact (Option.some.inj q2).symm
    subst eu eu2
    refine ⟨_, rfl, wpAny_letOwnedTupleGo_zip (s := { s with heap := h', toks := tk }) z' fun h'' z'' sb => ?_⟩
    have hT2 : h''.get? s.heap.objs.size = some { cls := .type "tuple", data := .seq #[w1, w2] } := (sb.2 _ (Nat.ne_of_gt hzl)).trans hT
    have new : ObjOk X.prog X.w (upd H s.heap.objs.size (.tup [x, y])) h'' s.heap.objs.size (.tup [x, y]) :=
      ⟨by show 2 ≤ sizeLine; decide, [w1, w2], .cons ru (.cons ru2 .nil), ⟨_, hT2, rfl, _, rfl⟩⟩
    have out : ∀ {c : Addr}, c ∉ [z, TI, TO, i1, i2] → c ≠ z ∧ c ≠ TO ∧ c ≠ i1 ∧ c ≠ i2 := fun {c} hb => ⟨fun q => hb (by simp [q]), fun q => hb (by simp [q]), fun q => hb (by simp [q]), fun q => hb (by simp [q])⟩
    have I1 : Inv X pins σ (upd H s.heap.objs.size (.tup [x, y])) { s with heap := h'', toks := tk } :=
      I.turnedNew (t' := tk) (ch := [z, TI, TO, i1, i2]) (fun c o hb q => (sb.2 c (out hb).1).trans (hk c o (out hb).1 (out hb).2.1 (out hb).2.2.1 (out hb).2.2.2 q)) hf (Nat.le_refl _) new
    refine ⟨.ref s.heap.objs.size, _, I1, rfl, ⟨_, x, y, rfl, I.hok.fresh (Nat.le_refl _), rfl, fun l hl => by rw [hl.inj I hqx]; exact hx, fun l hl => by rw [hl.inj I hqy]; exact hy⟩, ⟨z'', ?_, ⟨w1, w2, ?_⟩, ?_, ?_⟩, fun c hcm => ?_⟩
    · exact (sb.2 _ S.TIz).trans (hk _ _ S.TIz S.TITO S.TIi1 S.TIi2 hTI)
    · exact (sb.2 _ S.TOz).trans TO'
    · exact s1'.1.keep fun o q => (sb.2 _ S.zi1.symm).trans q
    · exact s2'.1.keep fun o q => (sb.2 _ S.zi2.symm).trans q
    · have hlt : c < s.heap.objs.size := by
        simp only [List.mem_cons, List.not_mem_nil, or_false] at hcm
        rcases hcm with q | q | q | q | q
        · rw [q]; exact hzl
        · rw [q]; exact Heap.lt_size hTI
        · rw [q]; exact Heap.lt_size hTO
        · rw [q]; obtain ⟨_, e1, _⟩ := h1.obj; exact Heap.lt_size e1
        · rw [q]; obtain ⟨_, e2, _⟩ := h2.obj; exact Heap.lt_size e2
      rw [upd_ne (Nat.ne_of_lt hlt)]
      exact (hf c hcm).1
  done := by
    intro X hP hw hK hc i pins s σ H E I hf st hg
    subst hP hw hK
    obtain ⟨hz, hTI, ⟨x0, y0, hTO⟩, h1, h2⟩ := st
    obtain ⟨xs, ys, hqx, hqy, l1, l2, hend⟩ := hg
    obtain ⟨its, rv, p1, _⟩ := hqx.its I
    obtain ⟨its2, rv2, p2, _⟩ := hqy.its I
    have ne1 : a ≠ i1 ∧ b ≠ i2 := ⟨h1.ne p1, h2.ne p2⟩
    have D1 := draws_of (prog := X.prog) (w := X.w) (A := X.A.in1) k1 (I.ok.hd hc) i1 a ne1.1 its.toArray
    have D2 := draws_of (prog := X.prog) (w := X.w) (A := X.A.in1) k2 (I.ok.hd hc) i2 b ne1.2 its2.toArray
    have e1 := rv.length
    have e2 := rv2.length
    refine wpAny_pyNext_zipD2_end S D1 D2 hz hTI hTO ⟨h1, p1⟩ ⟨h2, p2⟩ (by simp; omega) (by simp; omega) (by simp; omega) fun h' tk hk => ⟨rfl, ?_⟩
    exact I.turnedL (t' := tk) (ch := [z, TI, TO, i1, i2]) (fun c o hb q => hk c o (fun q' => hb (by simp [q'])) (fun q' => hb (by simp [q'])) (fun q' => hb (by simp [q'])) (fun q' => hb (by simp [q'])) q) hf
  self := fun A i s Q E st h => wpAny_pyIter_zip st.1 h
end NC

set_option Elab.async false
set_option linter.all false
set_option autoImplicit false
set_option maxRecDepth 100000
set_option maxHeartbeats 4000000
/-! enumerate over a list or a tuple; how zip and enumerate begin. -/
namespace NC
open PySem PySem.Spec PyProof.Rows L2

def IteG (kd : Bool) (K : PySem.W.Frag) (a : Addr) : It where
  go := fun i H => ∃ (xs : List L2.V) (x : L2.V), SqK kd K H a xs ∧ xs[i]? = some x
  yld := fun i H v H' => ∃ T x, v = .ref T ∧ H T = none ∧ H' = upd H T (.tup [.int (i : Nat), x]) ∧ ∀ xs, SqK kd K H a xs → xs[i]? = some x
  stop := fun i H => ∃ xs : List L2.V, SqK kd K H a xs ∧ xs.length = i
def tnE (kd : Bool) (e it a : Addr) (i : Nat) (h : Heap) : Prop := (∃ old, IsEnum h e it ((i : Nat) : Int) old) ∧ ItH kd h it a i ∧ e ≠ it ∧ e ≠ a
theorem turn_enumG {P : Program} {w : World} {K : PySem.W.Frag} {elts : List Expr} {kk : Nat} {tpos : Pos} {kd : Bool} (a e it : Addr) : Turn P w K (.Tuple elts kk tpos) (IteG kd K a) [e, it] e (tnE kd e it a) where
  mem := by simp
  obj := fun i h st b hb => by
    obtain ⟨⟨old, he⟩, h1, _⟩ := st
    simp only [List.mem_cons, List.not_mem_nil, or_false] at hb
    rcases hb with q | q
    · rw [q]; exact ⟨_, he, fun v q => nomatch q⟩
    · rw [q]; exact h1.obj
  keep := fun i h h' st kp => let ⟨⟨old, he⟩, h1, hne⟩ := st; ⟨⟨old, kp e (by simp) _ he⟩, h1.keep fun o => kp it (by simp) o, hne⟩
  item := by
    intro X hP hw hK hc i pins s σ H E I hf st hg
    subst hP hw hK
    obtain ⟨⟨old, he⟩, hit, hne, hna⟩ := st
    obtain ⟨xs, x, hq, hx⟩ := hg
    obtain ⟨its, rv, p, _⟩ := hq.its I
    have D1 := draws_of (prog := X.prog) (w := X.w) (A := X.A.in1) kd (I.ok.hd hc) it a (hit.ne p) its.toArray
    obtain ⟨u, hu, ru⟩ := rv.get hx
    have lt1 : i < its.toArray.size := by simpa using (List.getElem?_eq_some_iff.mp hu).1
    have hel : e < s.heap.objs.size := Heap.lt_size he
    have hil : it < s.heap.objs.size := by obtain ⟨_, q, _⟩ := hit.obj; exact Heap.lt_size q
    refine wpAny_pyNext_enum_itemC D1 he ⟨hit, p⟩ lt1 hne (by simp [hne, hna]) fun w1 h' tk q1 ho st' hT hsz hk => ?_
    have eu : w1 = u := by rw [List.getElem?_toArray, hu] at q1; exact (Option.some.inj q1).symm
    subst eu
    refine ⟨_, rfl, wpAny_letOwnedTupleGo_enum (s := { s with heap := h', toks := tk + 1 }) ho fun h'' he' sb => ?_⟩
    have hT2 : h''.get? s.heap.objs.size = some { cls := .type "tuple", data := .seq #[.int i tk, w1] } := (sb.2 _ (Nat.ne_of_gt hel)).trans hT
    have new : ObjOk X.prog X.w (upd H s.heap.objs.size (.tup [.int (i : Nat), x])) h'' s.heap.objs.size (.tup [.int (i : Nat), x]) :=
      ⟨by show 2 ≤ sizeLine; decide, [.int i tk, w1], .cons ⟨_, rfl⟩ (.cons ru .nil), ⟨_, hT2, rfl, _, rfl⟩⟩
    have I1 : Inv X pins σ (upd H s.heap.objs.size (.tup [.int (i : Nat), x])) { s with heap := h'', toks := tk + 1 } :=
      I.turnedNew (t' := tk + 1) (ch := [e, it]) (fun b ob hb q => (sb.2 b (fun z => hb (by simp [z]))).trans (hk b ob (fun z => hb (by simp [z])) (fun z => hb (by simp [z])) q)) hf (Nat.le_refl _) new
    refine ⟨.ref s.heap.objs.size, _, I1, rfl, ⟨_, x, rfl, I.hok.fresh (Nat.le_refl _), rfl, fun ys hy => by rw [hy.inj I hq]; exact hx⟩, ⟨⟨w1, ?_⟩, st'.1.keep fun o q => (sb.2 it (Ne.symm hne)).trans q, hne, hna⟩, fun b hb => ?_⟩
    · have e1 : ((i + 1 : Nat) : Int) = (i : Int) + 1 := by omega
      rw [e1]; exact he'
    · have hb' : b < s.heap.objs.size := by
        simp only [List.mem_cons, List.not_mem_nil, or_false] at hb
        rcases hb with z | z
        · rw [z]; exact hel
        · rw [z]; exact hil
      rw [upd_ne (Nat.ne_of_lt hb')]
      exact (hf b hb).1
  done := by
    intro X hP hw hK hc i pins s σ H E I hf st hg
    subst hP hw hK
    obtain ⟨⟨old, he⟩, hit, hne, hna⟩ := st
    obtain ⟨xs, hq, hx⟩ := hg
    obtain ⟨its, rv, p, _⟩ := hq.its I
    have D1 := draws_of (prog := X.prog) (w := X.w) (A := X.A.in1) kd (I.ok.hd hc) it a (hit.ne p) its.toArray
    have hl := rv.length
    have en : its.toArray.size = i := by simp; omega
    refine wpAny_pyNext_enum_endD D1 he (by rw [en]; exact ⟨hit, p⟩) fun h' eb => ⟨rfl, ?_⟩
    exact I.turnedL (t' := s.toks) (ch := [e, it]) (fun b o hb q => eb b o (fun z => hb (by simp [z])) q) hf
  self := fun A i s Q E st h => let ⟨⟨_, he⟩, _⟩ := st; wpAny_pyIter_enum he h

set_option maxHeartbeats 8000000 in
theorem meets_enum1 {v : Value} {o : Obj} {H : Heap → Prop} (B : Begins v o H) : Meets (Builtin.«enumerate.__new__» ⟨[.type "enumerate", v], []⟩) (fun _ R s => H s.heap ∧
    R (.ok (.ret (.ref (s.heap.push o).objs.size))) { s with heap := (s.heap.push o).push { cls := .type "enumerate", data := .fields #[.none, .bool false, .ref s.heap.objs.size, rawInt 0, .none, .none] } }) :=
  .of_wp fun prog w A R ⟨hp, g, d, tk, os⟩ ⟨h1, h⟩ => by
    have hsub := sub_enumerate
    have q1 : ∀ {A1 : Around} {E1 : Value → Shared → Prop} {Q1 : Value → Shared → Prop}, Q1 (.ref hp.objs.size) ⟨hp.push o, g, d, tk, os⟩ → wpAny (model prog w) A1 (pyIter v) Q1 E1 ⟨hp, g, d, tk, os⟩ := fun q => B.iter prog w _ _ ⟨hp, g, d, tk, os⟩ _ h1 q
    wp_walk using q1
    refine wpAny_stack_any fun st => wpAny_pure ?_
    split
    next c _ _ _ _ _ => cases (c == Value.type "enumerate") <;> (wp_walk using q1; exact ⟨_, rfl, h⟩)
    next => (wp_walk using q1; exact ⟨_, rfl, h⟩)
theorem enum_begins1 {prog : Program} {w : World} {A : Around} {E : Value → Shared → Prop} {s : Shared} {v : Value} {o : Obj} {H : Heap → Prop} {Q : Value → Shared → Prop} (B : Begins v o H) (h1 : H s.heap)
    (h : ∀ h2, IsEnum h2 (s.heap.objs.size + 1) s.heap.objs.size 0 .none → h2.get? s.heap.objs.size = some o → (∀ b u, s.heap.get? b = some u → h2.get? b = some u) → Q (.ref (s.heap.objs.size + 1)) { s with heap := h2 }) :
    wpAny (model prog w) A (call (.type "enumerate") [v]) Q E s := by
  refine callType_new F.called_enumerate (by decide) (F.typeCall_enumerate_1 _) (F.newCall_enumerate_1 _) (fun x => F.args_object_init_2 x _) F.entry_enumerate_new (meets_enum1 B) ⟨h1, ?_⟩
  have hz : (s.heap.push o).objs.size = s.heap.objs.size + 1 := Heap.size_push ..
  have he := Heap.get?_push_size (s.heap.push o) (o := { cls := .type "enumerate", data := .fields #[.none, .bool false, .ref s.heap.objs.size, rawInt 0, .none, .none] }) rfl
  rw [hz] at he
  refine ⟨⟨_, by rw [hz]; exact he, rfl⟩, ?_⟩
  rw [hz]
  exact h _ he (Heap.get?_push_of_some _ (Heap.get?_push_size _ B.free)) fun b u x => Heap.get?_push_of_some _ (Heap.get?_push_of_some _ x)

section
variable {X : Cx} {e e2 : Expr} {ta : TA} {p pos tpos : Pos} {elts : List Expr} {kk : Nat}
def iZipG (K : PySem.W.Frag) (ta : TA) : TI := fun σ H R => ta σ H fun vs H1 => ∃ k1 k2 a b xs ys, vs = [.ref a, .ref b] ∧ SqK k1 K H1 a xs ∧ SqK k2 K H1 b ys ∧ R (ItzG k1 k2 K a b) H1
theorem pi_zipG (hg : Gl X "zip") (hm : X.mg "zip" = none) (ha : PA X [e, e2] ta)
    (hs : starEach [e, e2] X.env = (false, eval e X.env) :: starEach [e2] X.env := by rfl) (hpl : (backTo pos (starEach [e2] X.env)).any (·.1) = false := by rfl) : PI X (.Tuple elts kk tpos) (.Call (.Name "zip" p) [e, e2] [] pos) (iZipG X.K ta) := by
  refine ⟨fun pins s σ H R I h => Call_ (ld_blt I hg hm PyProof.Rows.boot_zip (PyProof.Rows.callWith_type1 (thn (ha.run pos pins s σ H _ I h) fun us s1 ⟨vs, H1, I1, r1, q1⟩ => ?_) hs hpl))⟩
  obtain ⟨k1, k2, a, b, xs, ys, ex, hqx, hqy, q⟩ := q1
  subst ex
  obtain ⟨u1, u2, rfl, ra, rb⟩ := vals2 r1
  cases ra
  cases rb
  obtain ⟨its, rv, p1, lt1⟩ := hqx.its I1
  obtain ⟨its2, rv2, p2, lt2⟩ := hqy.its I1
  refine zip_begins2 (begins_of k1 a its.toArray) (begins_of k2 b its2.toArray) p1 p2 fun h' hz hTI hTO g1 g2 hsz hk => wpAny_pyIter_zip hz ?_
  have I2 : Inv X pins σ H1 { s1 with heap := h' } := I1.kept (t' := s1.toks) hk
  refine ⟨s1.heap.objs.size + 4, [s1.heap.objs.size + 4, s1.heap.objs.size + 2, s1.heap.objs.size + 3, s1.heap.objs.size, s1.heap.objs.size + 1], _, _, H1, rfl, I2, turn_zipG (zip_sep2 (fp1 := [a]) (fp2 := [b]) (by simpa using lt1) (by simpa using lt2)), ⟨hz, hTI, ⟨_, _, hTO⟩, ItH.new g1, ItH.new g2⟩, fun c hcm => ?_, q⟩
  have hle : s1.heap.objs.size ≤ c := by
    simp only [List.mem_cons, List.not_mem_nil, or_false] at hcm
    rcases hcm with z | z | z | z | z <;> rw [z] <;> first | exact Nat.le_refl _ | exact Nat.le_add_right _ _
  exact I1.fpOk hle (I1.hok.fresh hle)
def iEnumG (K : PySem.W.Frag) (ta : TA) : TI := fun σ H R => ta σ H fun vs H1 => ∃ kd a xs, vs = [.ref a] ∧ SqK kd K H1 a xs ∧ R (IteG kd K a) H1
theorem pi_enumG (hg : Gl X "enumerate") (hm : X.mg "enumerate" = none) (ha : PA X [e] ta) (hs : starEach [e] X.env = [(false, eval e X.env)] := by rfl) :
    PI X (.Tuple elts kk tpos) (.Call (.Name "enumerate" p) [e] [] pos) (iEnumG X.K ta) := by
  refine ⟨fun pins s σ H R I h => Call_ (ld_blt I hg hm boot_enumerate (PyProof.Rows.callWith_type1 (thn (ha.run pos pins s σ H _ I h) fun us s1 ⟨vs, H1, I1, r1, q1⟩ => ?_) hs rfl))⟩
  obtain ⟨kd, a, xs, ex, hq, q⟩ := q1
  subst ex
  obtain ⟨u1, rfl, ra⟩ := vals1 r1
  cases ra
  obtain ⟨its, rv, p1, lt1⟩ := hq.its I1
  refine enum_begins1 (begins_of kd a its.toArray) p1 fun h' he hit hk => wpAny_pyIter_enum he ?_
  have I2 : Inv X pins σ H1 { s1 with heap := h' } := I1.kept (t' := s1.toks) hk
  have lt2 : a < s1.heap.objs.size := lt1
  refine ⟨s1.heap.objs.size + 1, [s1.heap.objs.size + 1, s1.heap.objs.size], _, _, H1, rfl, I2, turn_enumG a (s1.heap.objs.size + 1) s1.heap.objs.size, ⟨⟨.none, he⟩, ItH.new hit, Nat.succ_ne_self _, fun z => ?_⟩, fun b hb => ?_, q⟩
  · exact absurd (z ▸ lt2) (Nat.not_lt.mpr (Nat.le_succ _))
  · have hle : s1.heap.objs.size ≤ b := by
      simp only [List.mem_cons, List.not_mem_nil, or_false] at hb
      rcases hb with z | z <;> rw [z] <;> first | exact Nat.le_refl _ | exact Nat.le_add_right _ _
    exact I1.fpOk hle (I1.hok.fresh hle)
end
end NC

set_option Elab.async false
set_option linter.all false
set_option autoImplicit false
set_option maxRecDepth 100000
set_option maxHeartbeats 4000000
/-! What is walked, as data; for, while, comprehensions. -/
namespace NC
open PySem PySem.Spec PyProof.Rows L2

/-- the walked thing gives ys, one by one -/
def DI (K : PySem.W.Frag) (X : Cx) (Z : Zed) (ρ : Rho) (μ : Mu) (tg iter : Expr) (ys : List D) (μ1 : Mu) : Prop := ∀ ν σ G H, Sat K Z ρ (μ ++ ν) σ G H → ∀ R : It → Hp → Prop,
  (∀ J G1 H1 (Gp : Hp → Prop) (Y : Nat → Hp → L2.V → Hp → Prop), Ex G G1 → Sat K Z ρ (μ1 ++ ν) σ G1 H1 → Walk J ys.length Gp Y → (∀ G' H', Ex G1 G' → Ex G' H' → Gp H') →
    (∀ i Hx x Hx' G', i < ys.length → Y i Hx x Hx' → Ex G1 G' → Ex G' Hx → ∃ d G'', ys[i]? = some d ∧ Ext G' Hx G'' Hx' ∧ Rep K G'' d x) → R J H1) → WI X tg iter σ H R
section
variable {P : Program} {w : World} {K : PySem.W.Frag} {mg : Str → Option Value} {base : Heap} {N : List Str} {V : List Nat} {Gs : List Str} {k kf : Nat}
variable {X : Cx} {Z : Zed} {ρ ρ1 ρ2 : Rho} {μ μ1 μ2 μ3 : Mu} {a b c e o tg iter : Expr} {es ts elts : List Expr} {d da db dc : D} {ds xs ys : List D} {pos p pos' apos tpos : Pos} {x m f : Str} {u v : Bool} {cl : Cell} {n kk : Nat} {il il2 : List Nat} {rest body : List Stmt} {Φ Ψ : Post}

theorem di_list (C : Bc X P w K mg base N V Gs k) (h : DE K X Z ρ μ e (.lst ys) μ1) : DI K X Z ρ μ tg e ys μ1 := fun ν σ G H S R q =>
  wi_of (pi_list pe_we) (h ν σ G H S _ fun v G1 H1 e1 S1 r1 => by
    obtain ⟨l, us, rfl, h1, h2⟩ := rep_lst.mp r1
    rw [C.eK]
    refine ⟨l, rfl, ⟨us, .inl (.inl (S1.gh _ _ h1))⟩, ?_⟩
    have W := walk_list (K := K) (a := l) (xs := us)
    rw [← h2.length] at W
    exact q _ G1 H1 _ _ e1 S1 W (fun G' H' e2 e3 => .inl (.inl (e3 _ _ (e2 _ _ h1)))) fun i Hx x Hx' G' hi y e2 e3 => by
      obtain ⟨rfl, y2⟩ := y
      obtain ⟨d, y3, y4⟩ := h2.getV y2
      exact ⟨d, G', y3, .refl e3, y4.mono e2⟩)
theorem di_tup (C : Bc X P w K mg base N V Gs k) (h : DE K X Z ρ μ e (.tup ys) μ1) : DI K X Z ρ μ tg e ys μ1 := fun ν σ G H S R q =>
  wi_of (pi_tup pe_we) (h ν σ G H S _ fun v G1 H1 e1 S1 r1 => by
    obtain ⟨l, us, rfl, h1, h2⟩ := rep_tup.mp r1
    rw [C.eK]
    refine ⟨l, rfl, ⟨us, S1.gh.t h1⟩, ?_⟩
    have W := walk_tup (K := K) (a := l) (xs := us)
    rw [← h2.length] at W
    exact q _ G1 H1 _ _ e1 S1 W (fun G' H' e2 e3 => (e2.trans e3).t h1) fun i Hx x Hx' G' hi y e2 e3 => by
      obtain ⟨rfl, y2⟩ := y
      obtain ⟨d, y3, y4⟩ := h2.getV y2
      exact ⟨d, G', y3, .refl e3, y4.mono e2⟩)
def rangeD (n : Nat) : List D := (List.range n).map fun (i : Nat) => D.int (i : Int)
theorem di_range (j : Nat) {i : Int} {n : Nat} (C : Bc X P w K mg base N V Gs k) (hG : Gs[j]? = some ("range" : Str)) (hm : mg "range" = none) (h : DE K X Z ρ μ e (.int i) μ1) (hi : i = (n : Int)) (hn : n ≤ 1000000) (hs : starEach [e] X.env = [(false, eval e X.env)] := by rfl) : DI K X Z ρ μ tg (.Call (.Name "range" p) [e] [] pos) (rangeD n) μ1 := fun ν σ G H S R q => by
  obtain ⟨g1, g2, g3⟩ := C.glo j _ hG
  refine wi_of (pi_range1 g1 (by rw [C.em]; exact hm) (pa_cons pe_we pa_nil hs) hs) (h ν σ G H S _ fun v G1 H1 e1 S1 r1 => ?_)
  subst hi
  refine ⟨n, by rw [rep_v.mp r1], by omega, by omega, ?_⟩
  have W := walk_range (lo := 0) (n := n)
  have hl : (rangeD n).length = n := by simp [rangeD]
  rw [Int.toNat_natCast]
  refine q _ G1 H1 _ _ e1 S1 (by rw [hl]; exact W) (fun _ _ _ _ => trivial) fun i Hx x Hx' G' hi y e2 e3 => ?_
  obtain ⟨rfl, y2⟩ := y
  rw [hl] at hi
  refine ⟨.int (i : Int), G', by simp [rangeD, hi], .refl e3, rep_v.mpr ?_⟩
  rw [y2]
  show L2.V.int (0 + (i : Int)) = L2.V.int (i : Int)
  rw [Int.zero_add]
/-- a new pair stands still -/
theorem pair_new {G Hx : Hp} {T : Addr} {vx vy : L2.V} (e3 : Ex G Hx) (hT : Hx T = none) (h1 : Rep K G da vx) (h2 : Rep K G db vy) : ∃ G'', Ext G Hx G'' (upd Hx T (.tup [vx, vy])) ∧ Rep K G'' (.tup [da, db]) (.ref T) := by
  have E := Ext.fr (o := .tup [vx, vy]) e3 hT
  exact ⟨_, E, rep_tup.mpr ⟨T, _, rfl, .inl (.inl upd_same), (Reps.cons h1 (Reps.cons h2 Reps.nil)).mono E.gg⟩⟩
theorem rep_sq {G : Hp} {v : L2.V} (h : Rep K G d v) (e : d.items = some xs) : ∃ kd a vs, v = .ref a ∧ (∀ G' H', Ex G G' → Ex G' H' → SqK kd K H' a vs) ∧ Reps K G xs vs := by
  cases d with
  | tup ys => cases e; obtain ⟨a, vs, h1, h2, h3⟩ := rep_tup.mp h; exact ⟨true, a, vs, h1, fun _ _ e1 e2 => (e1.trans e2).t h2, h3⟩
  | lst ys => cases e; obtain ⟨a, vs, h1, h2, h3⟩ := rep_lst.mp h; exact ⟨false, a, vs, h1, fun _ _ e1 e2 => .inl (.inl (e2 _ _ (e1 _ _ h2))), h3⟩
  | v x => cases e
  | ins C ns ds => cases e
def zipD (xs ys : List D) : List D := (xs.zip ys).map fun q => D.tup [q.1, q.2]
theorem di_zip (j : Nat) (C : Bc X P w K mg base N V Gs k) (hG : Gs[j]? = some ("zip" : Str)) (hm : mg "zip" = none) (ha : DE K X Z ρ μ a da μ1) (hb : DE K X Z ρ μ1 b db μ2) (hx : da.items = some xs) (hy : db.items = some ys)
    (hs : starEach [a, b] X.env = (false, eval a X.env) :: starEach [b] X.env := by rfl) (hs2 : starEach [b] X.env = [(false, eval b X.env)] := by rfl) (hpl : (backTo pos (starEach [b] X.env)).any (·.1) = false := by rfl) : DI K X Z ρ μ (.Tuple elts kk tpos) (.Call (.Name "zip" p) [a, b] [] pos) (zipD xs ys) μ2 := fun ν σ G H S R q => by
  obtain ⟨g1, g2, g3⟩ := C.glo j _ hG
  refine wi_of (pi_zipG g1 (by rw [C.em]; exact hm) (pa_cons pe_we (pa_cons pe_we pa_nil hs2) hs) hs hpl) ?_
  refine ha ν σ G H S _ fun v1 G1 H1 e1 S1 r1 => hb ν σ G1 H1 S1 _ fun v2 G2 H2 e2 S2 r2 => ?_
  obtain ⟨k1, l1, us, rfl, h1, h2⟩ := rep_sq (r1.mono e2) hx
  obtain ⟨k2, l2, ws, rfl, h3, h4⟩ := rep_sq r2 hy
  rw [C.eK]
  refine ⟨k1, k2, l1, l2, us, ws, rfl, h1 G2 H2 (.refl _) S2.gh, h3 G2 H2 (.refl _) S2.gh, ?_⟩
  have hl : (zipD xs ys).length = min us.length ws.length := by simp [zipD, h2.length, h4.length]
  have W : Walk (ItzG k1 k2 K l1 l2) (zipD xs ys).length (fun H => SqK k1 K H l1 us ∧ SqK k2 K H l2 ws) (YPair (fun i => us[i]?) (fun i => ws[i]?)) := by
    rw [hl]
    refine ⟨fun i H hi q => ?_, fun H q => ⟨us, ws, q.1, q.2, by omega, by omega, by omega⟩, fun i H v H' hi q y => ?_⟩
    · have i1 : i < us.length := by omega
      have i2 : i < ws.length := by omega
      exact ⟨us, ws, us[i], ws[i], q.1, q.2, by simp [i1], by simp [i2]⟩
    · obtain ⟨T, x, z, y1, y2, y3, y4, y5⟩ := y
      exact ⟨T, x, z, y1, y2, y3, y4 us q.1, y5 ws q.2⟩
  refine q _ G2 H2 _ _ (e1.trans e2) S2 W (fun G' H' e3 e4 => ⟨h1 G' H' e3 e4, h3 G' H' e3 e4⟩) fun i Hx x Hx' G' hi y e3 e4 => ?_
  obtain ⟨T, vx, vy, rfl, hT, rfl, y4, y5⟩ := y
  obtain ⟨d1, q1, q2⟩ := h2.getV y4
  obtain ⟨d2, q3, q4⟩ := h4.getV y5
  obtain ⟨G'', E, rr⟩ := pair_new e4 hT (q2.mono e3) (q4.mono e3)
  refine ⟨.tup [d1, d2], G'', ?_, E, rr⟩
  have hz : (xs.zip ys)[i]? = some (d1, d2) := List.getElem?_zip_eq_some.mpr ⟨q1, q3⟩
  simp [zipD, hz]
def enumD (xs : List D) : List D := xs.mapIdx fun i x => D.tup [.int (i : Int), x]
theorem di_enum (j : Nat) (C : Bc X P w K mg base N V Gs k) (hG : Gs[j]? = some ("enumerate" : Str)) (hm : mg "enumerate" = none) (ha : DE K X Z ρ μ a da μ1) (hx : da.items = some xs)
    (hs : starEach [a] X.env = [(false, eval a X.env)] := by rfl) : DI K X Z ρ μ (.Tuple elts kk tpos) (.Call (.Name "enumerate" p) [a] [] pos) (enumD xs) μ1 := fun ν σ G H S R q => by
  obtain ⟨g1, g2, g3⟩ := C.glo j _ hG
  refine wi_of (pi_enumG g1 (by rw [C.em]; exact hm) (pa_cons pe_we pa_nil hs) hs) ?_
  refine ha ν σ G H S _ fun v1 G1 H1 e1 S1 r1 => ?_
  obtain ⟨kd, l1, us, rfl, h1, h2⟩ := rep_sq r1 hx
  rw [C.eK]
  refine ⟨kd, l1, us, rfl, h1 G1 H1 (.refl _) S1.gh, ?_⟩
  have hl : (enumD xs).length = us.length := by simp [enumD, h2.length]
  have W : Walk (IteG kd K l1) (enumD xs).length (fun H => SqK kd K H l1 us) (YPair (fun i => some (.int (i : Nat))) (fun i => us[i]?)) := by
    rw [hl]
    refine ⟨fun i H hi q => ⟨us, us[i], q, by simp [hi]⟩, fun H q => ⟨us, q, rfl⟩, fun i H v H' hi q y => ?_⟩
    obtain ⟨T, x, y1, y2, y3, y4⟩ := y
    exact ⟨T, _, x, y1, y2, y3, rfl, y4 us q⟩
  refine q _ G1 H1 _ _ e1 S1 W (fun G' H' e3 e4 => h1 G' H' e3 e4) fun i Hx x Hx' G' hi y e3 e4 => ?_
  obtain ⟨T, vx, vy, rfl, hT, rfl, y4, y5⟩ := y
  cases y4
  obtain ⟨d2, q3, q4⟩ := h2.getV y5
  obtain ⟨G'', E, rr⟩ := pair_new (da := .int (i : Int)) e4 hT (rep_v.mpr rfl) (q4.mono e3)
  exact ⟨.tup [.int (i : Int), d2], G'', by simp [enumD, q3], E, rr⟩

/-! ### for, while -/
theorem Bc.never (C : Bc X P w K mg base N V Gs k) : PassesOwn (model X.prog X.w) X.A X.env X.xe := by rw [C.xe]; exact PassesOwn.never
theorem db_for (I : Nat → Rho → Mu → Prop) (C : Bc X P w K mg base N V Gs k) (hi : DI K X Z ρ μ tg iter ys μ1) (h0 : I 0 ρ μ1)
    (hstep : ∀ i d ρ' μ', ys[i]? = some d → I i ρ' μ' → ∃ ρ2 μ2 il, DG K X Z ρ' μ' tg d ρ2 μ2 il ∧ DB K X Z ρ2 μ2 body ⟨I (i + 1), Φ.rt⟩) (hend : ∀ ρ' μ', I ys.length ρ' μ' → DB K X Z ρ' μ' rest Φ)
    (hs : ∀ x, foldedSetIterable iter X.env x = pure x := by intro _; rfl) : DB K X Z ρ μ (.For tg iter body [] pos :: rest) Φ := fun σ G H S D q1 q2 => by
  refine wss_cons (ps_for C.never C.calm pi_wi pg_wg pss_wss hs) ?_
  refine hi [] σ G H (by simpa using S) _ fun J G1 H1 Gp Y e1 S1 W hG hY => ?_
  refine for_it W (fun i σ' H' => ∃ ρ' μ' G', I i ρ' μ' ∧ Ex G1 G' ∧ Sat K Z ρ' μ' σ' G' H') ⟨ρ, μ1, G1, h0, .refl _, by simpa using S1⟩ (fun i σ' H' _ ⟨ρ', μ', G', _, e2, S2⟩ => hG G' H' e2 S2.gh) (fun i x σ' Hx Hx' hi' ⟨ρ', μ', G', hI, e2, S2⟩ y => ?_) fun σ' H' ⟨ρ', μ', G', hI, e2, S2⟩ => ?_
  · obtain ⟨d, G'', y1, E, r⟩ := hY i Hx x Hx' G' hi' y e2 S2.gh
    obtain ⟨ρ2, μ2, il, g, hb⟩ := hstep i d ρ' μ' y1 hI
    refine g.at0 (S2.ext E) r fun σ3 G3 H3 e3 S3 => ?_
    have e13 : Ex G1 G3 := (e2.trans E.gg).trans e3
    exact hb σ3 G3 H3 S3 _ (fun ρ4 μ4 σ4 G4 H4 z e4 S4 => ⟨ρ4, μ4, G4, z, e13.trans e4, S4⟩) fun d μ4 v ρ4 σ4 G4 H4 z e4 => q2 d μ4 v ρ4 σ4 G4 H4 z ((e1.trans e13).trans e4)
  · exact hend ρ' μ' hI σ' G' H' S2 D (fun ρ4 μ4 σ4 G4 H4 z e4 => q1 ρ4 μ4 σ4 G4 H4 z ((e1.trans e2).trans e4)) fun d μ4 v ρ4 σ4 G4 H4 z e4 => q2 d μ4 v ρ4 σ4 G4 H4 z ((e1.trans e2).trans e4)
theorem db_while (I : Nat → Rho → Mu → Prop) (n0 : Nat) (C : Bc X P w K mg base N V Gs k) (h0 : I n0 ρ μ)
    (hstep : ∀ n ρ' μ', I n ρ' μ' → ∃ u, DT K X Z ρ' μ' c u μ' ∧ (u = true → DB K X Z ρ' μ' body ⟨fun ρ2 μ2 => ∃ n', n' < n ∧ I n' ρ2 μ2, Φ.rt⟩) ∧ (u = false → DB K X Z ρ' μ' rest Φ)) : DB K X Z ρ μ (.While c body [] pos :: rest) Φ := fun σ G H S D q1 q2 => by
  refine wss_cons (ps_while C.never pt_wt pss_wss) ?_
  refine ⟨fun n σ' H' => ∃ ρ' μ' G', I n ρ' μ' ∧ Ex G G' ∧ Sat K Z ρ' μ' σ' G' H', ⟨n0, ρ, μ, G, h0, .refl _, S⟩, fun n σ' H' ⟨ρ', μ', G', hI, e2, S2⟩ => ?_⟩
  obtain ⟨u, ht, h1, h2⟩ := hstep n ρ' μ' hI
  refine ht.at0 S2 fun G3 H3 e3 S3 => ?_
  cases u with
  | true =>
    refine iteT ⟨fun σ4 H4 => ∃ n', n' < n ∧ ∃ ρ4 μ4 G4, I n' ρ4 μ4 ∧ Ex G G4 ∧ Sat K Z ρ4 μ4 σ4 G4 H4, fun σ4 H4 ⟨n', hn, z⟩ => ⟨n', hn, z⟩, ?_⟩
    exact h1 rfl σ' G3 H3 S3 _ (fun ρ4 μ4 σ4 G4 H4 ⟨n', hn, z⟩ e4 S4 => ⟨n', hn, ρ4, μ4, G4, z, (e2.trans e3).trans e4, S4⟩) fun d μ4 v ρ4 σ4 G4 H4 z e4 => q2 d μ4 v ρ4 σ4 G4 H4 z ((e2.trans e3).trans e4)
  | false =>
    refine iteF ?_
    exact h2 rfl σ' G3 H3 S3 D (fun ρ4 μ4 σ4 G4 H4 z e4 => q1 ρ4 μ4 σ4 G4 H4 z ((e2.trans e3).trans e4)) fun d μ4 v ρ4 σ4 G4 H4 z e4 => q2 d μ4 v ρ4 σ4 G4 H4 z ((e2.trans e3).trans e4)
end
end NC

set_option Elab.async false
set_option linter.all false
set_option autoImplicit false
set_option maxRecDepth 100000
set_option maxHeartbeats 4000000
/-! Comprehensions, fields stored, the rule for a def. -/
namespace NC
open PySem PySem.Spec PyProof.Rows L2

/-! ### slots of a comprehension's own names -/
def wipeR (ρ : Rho) : List Nat → Rho
  | [] => ρ
  | v :: vs => (wipeR ρ vs).set v none
theorem wipeR_len (ρ : Rho) : ∀ vs, (wipeR ρ vs).length = ρ.length
  | [] => rfl
  | v :: vs => by simp [wipeR, wipeR_len ρ vs]
theorem wipeR_some {ρ : Rho} {i : Nat} {d : D} : ∀ {vs : List Nat}, (wipeR ρ vs)[i]? = some (some d) → ρ[i]? = some (some d) ∧ i ∉ vs
  | [], h => ⟨h, by simp⟩
  | v :: vs, h => by
    unfold wipeR at h
    rw [List.getElem?_set] at h
    split at h
    · split at h <;> cases h
    · rename_i ne
      obtain ⟨h1, h2⟩ := wipeR_some h
      exact ⟨h1, by simp only [List.mem_cons, not_or]; exact ⟨fun e => ne e.symm, h2⟩⟩
theorem wipe_get (σ : L2.St) (j : Nat) : ∀ vs : List Nat, (wipe σ vs)[j]? = if j ∈ vs ∧ j < σ.length then some none else σ[j]?
  | [] => by simp [wipe]
  | v :: vs => by
    unfold wipe
    rw [List.getElem?_set, wipe_length, wipe_get σ j vs]
    by_cases e : v = j
    · subst e
      by_cases hl : v < σ.length
      · simp [hl]
      · simp [hl]
    · have e' : ¬ j = v := fun z => e z.symm
      simp [e, e']
theorem wipe_of {σ τ : L2.St} {vs : List Nat} (hl : σ.length = τ.length) (h : ∀ j, j ∉ vs → σ[j]? = τ[j]?) : wipe σ vs = wipe τ vs := by
  apply List.ext_getElem?
  intro j
  rw [wipe_get, wipe_get, hl]
  by_cases hj : j ∈ vs
  · by_cases hlt : j < τ.length
    · simp [hj, hlt]
    · have h1 : σ[j]? = none := List.getElem?_eq_none_iff.mpr (by omega)
      have h2 : τ[j]? = none := List.getElem?_eq_none_iff.mpr (by omega)
      simp [hlt, h1, h2]
  · simp [hj, h j hj]
theorem wipe_wipe (σ : L2.St) (vs : List Nat) : wipe (wipe σ vs) vs = wipe σ vs := by
  apply wipe_of (wipe_length σ vs)
  intro j hj
  rw [wipe_get]
  simp [hj]

/-! ### what a comprehension's scope must be -/
def kindC (sc : Scope) (V : List Nat) (N : List Str) : Bool := (List.range N.length).all fun i => match N[i]?, V[i]? with
  | some x, some 3 => decide (sc.names.lookup x = some .local)
  | some x, some 2 => decide (sc.names.lookup x = some .cell)
  | some x, some 1 => decide (sc.names.lookup x = some .free)
  | _, some 0 => true
  | _, none => true
  | _, _ => false
def nameC (N : List Str) : Bool := N.all fun x => !(x == ("__debug__" : Str)) && !(x == ("__classdict__" : Str))
def gloC (sc : Scope) (Gs : List Str) : Bool := Gs.all fun x => decide (sc.names.lookup x = some .globalImplicit) && (!(x == ("__debug__" : Str)) && decide (x ≠ ("__name__" : Str)))
def isFn (sc : Scope) : Bool := match sc.kind with | .function => true | _ => false
def compC (scope : Scope) (N : List Str) (V V' : List Nat) (Gs' : List Str) (own : List (Str × Nat)) : Bool :=
  isFn scope && ((scope.names.all fun y => decide (scope.names.lookup y.1 = some y.2)) && ((own.all fun p => decide (N[p.2]? = some p.1)) && ((scope.names.all fun y => match y.2 with
      | .free => (List.range N.length).any fun i => decide (N[i]? = some y.1) && (decide (V[i]? = some 1) || decide (V[i]? = some 2))
      | .local => decide (y.1 ∈ own.map (·.1)) || decide (y.1 ∉ N)
      | .cell => decide (y.1 ∈ own.map (·.1)) || decide (y.1 ∉ N)
      | _ => true) && (kindC scope V' N && gloC scope Gs'))))
theorem isFn_ok {sc : Scope} (h : isFn sc = true) : sc.kind = .function := by
  unfold isFn at h
  split at h
  · assumption
  · cases h
theorem band {a b : Bool} (h : (a && b) = true) : a = true ∧ b = true := Bool.and_eq_true_iff.mp h
theorem kindC_ok {sc : Scope} {V : List Nat} {N : List Str} (h : kindC sc V N = true) {i : Nat} {x : Str} {n : Nat} (hV : V[i]? = some n) (hN : N[i]? = some x) : (n = 0) ∨ (n = 1 ∧ sc.names.lookup x = some .free) ∨ (n = 2 ∧ sc.names.lookup x = some .cell) ∨ (n = 3 ∧ sc.names.lookup x = some .local) := by
  unfold kindC at h
  have hi : i < N.length := (List.getElem?_eq_some_iff.mp hN).1
  have h1 := List.all_eq_true.mp h i (List.mem_range.mpr hi)
  rw [hN, hV] at h1
  match n, h1 with
  | 0, _ => exact .inl rfl
  | 1, h1 => exact .inr (.inl ⟨rfl, of_decide_eq_true h1⟩)
  | 2, h1 => exact .inr (.inr (.inl ⟨rfl, of_decide_eq_true h1⟩))
  | 3, h1 => exact .inr (.inr (.inr ⟨rfl, of_decide_eq_true h1⟩))
theorem gloC_ok {sc : Scope} {Gs : List Str} (h : gloC sc Gs = true) {j : Nat} {x : Str} (hG : Gs[j]? = some x) : sc.names.lookup x = some .globalImplicit ∧ (x == ("__debug__" : Str)) = false ∧ x ≠ ("__name__" : Str) := by
  have h1 := List.all_eq_true.mp h x (List.mem_of_getElem? hG)
  obtain ⟨h2, h3⟩ := band h1
  obtain ⟨h4, h5⟩ := band h3
  exact ⟨of_decide_eq_true h2, by simpa using h4, of_decide_eq_true h5⟩

section
variable {P : Program} {w : World} {K : PySem.W.Frag} {mg : Str → Option Value} {base : Heap} {N : List Str} {V V' : List Nat} {Gs Gs' : List Str} {k kf : Nat}
variable {X : Cx} {Z : Zed} {ρ ρ1 ρ2 : Rho} {μ μ1 μ2 μ3 : Mu} {a b c e o tg iter elt : Expr} {es ts elts ifs : List Expr} {d da db dc : D} {ds xs ys : List D} {pos p pos' apos tpos : Pos} {x m f : Str} {u v : Bool} {cl : Cell} {n kk : Nat} {il il2 : List Nat} {rest body : List Stmt} {Φ Ψ : Post} {scope : Scope} {own : List (Str × Nat)}

theorem blk_of (C : Bc X P w K mg base N V Gs k) (h : compC scope N V V' Gs' own = true) : BlkOk X.N X.env.scope scope own := by
  unfold compC at h
  obtain ⟨h1, h⟩ := band h
  obtain ⟨h2, h⟩ := band h
  obtain ⟨h3, h⟩ := band h
  obtain ⟨h4, h⟩ := band h
  rw [C.eN]
  refine ⟨isFn_ok h1, fun y hy => of_decide_eq_true (List.all_eq_true.mp h2 y hy), fun q hq => of_decide_eq_true (List.all_eq_true.mp h3 q hq), fun y hy e => ?_, fun y hy e => ?_⟩
  · have h5 := List.all_eq_true.mp h4 y hy
    rw [e] at h5
    obtain ⟨i, _, h6⟩ := List.any_eq_true.mp h5
    obtain ⟨h7, h8⟩ := band h6
    have hN := of_decide_eq_true h7
    rcases Bool.or_eq_true_iff.mp h8 with h9 | h9
    · exact C.cap i y.1 1 (of_decide_eq_true h9) (.inl rfl) hN
    · exact C.cap i y.1 2 (of_decide_eq_true h9) (.inr rfl) hN
  · have h5 := List.all_eq_true.mp h4 y hy
    rcases e with e | e
    · rw [e] at h5
      rcases Bool.or_eq_true_iff.mp h5 with h6 | h6
      · exact .inl (of_decide_eq_true h6)
      · exact .inr (of_decide_eq_true h6)
    · rw [e] at h5
      rcases Bool.or_eq_true_iff.mp h5 with h6 | h6
      · exact .inl (of_decide_eq_true h6)
      · exact .inr (of_decide_eq_true h6)
theorem rel_free {sc : Scope} {names : List (Str × NameKind)} {x : Str} (h : names.lookup x = some .free) : (names.map fun (n, k) => if (k == NameKind.free && sc.kind == .function && sc.names.lookup n == some .cell) then (n, NameKind.cell) else (n, k)).lookup x = some .free ∨ (names.map fun (n, k) => if (k == NameKind.free && sc.kind == .function && sc.names.lookup n == some .cell) then (n, NameKind.cell) else (n, k)).lookup x = some .cell := by
  induction names with
  | nil => cases h
  | cons q r ih =>
    obtain ⟨n, k₀⟩ := q
    rw [List.map_cons]
    by_cases hx : x = n
    · subst hx
      have hk : k₀ = .free := by simpa [List.lookup] using h
      subst hk
      by_cases hc : (NameKind.free == NameKind.free && sc.kind == .function && sc.names.lookup x == some .cell) = true
      · right; simp only [hc, if_true]; simp [List.lookup]
      · left; simp only [hc]; simp [List.lookup]
    · have hb : (x == n) = false := by simpa using hx
      have h' : r.lookup x = some .free := by simpa [List.lookup, hb] using h
      show List.lookup x ((if (k₀ == NameKind.free && sc.kind == .function && sc.names.lookup n == some .cell) = true then (n, NameKind.cell) else (n, k₀)) :: r.map _) = _ ∨ List.lookup x ((if (k₀ == NameKind.free && sc.kind == .function && sc.names.lookup n == some .cell) = true then (n, NameKind.cell) else (n, k₀)) :: r.map _) = _
      by_cases hc : (k₀ == NameKind.free && sc.kind == .function && sc.names.lookup n == some .cell) = true
      · rw [if_pos hc]; simp only [List.lookup_cons, hb]; exact ih h'
      · rw [if_neg hc]; simp only [List.lookup_cons, hb]; exact ih h'
theorem blk_bc (C : Bc X P w K mg base N V Gs k) (hnm : nameC N = true) (h : compC scope N V V' Gs' own = true) (s : Shared) (H : Hp) (Ca : Addr) (cl : List (Str × Addr)) (fp : List Addr) : Bc (X.blk s H scope (compEnvC scope cl Ca X.env) fp) P w K mg base N V' Gs' k := by
  unfold compC at h
  obtain ⟨h1, h⟩ := band h
  obtain ⟨h2, h⟩ := band h
  obtain ⟨h3, h⟩ := band h
  obtain ⟨h4, h⟩ := band h
  obtain ⟨h5, h6⟩ := band h
  have keep : ∀ {x : Str} {kd : NameKind}, kd ≠ .free → scope.names.lookup x = some kd → (compEnvC scope cl Ca X.env).scope.names.lookup x = some kd := fun {x kd} hk h => lookup_relS_keep (sc := X.env.scope) hk h
  refine ⟨C.eP, C.ew, C.eK, C.em, C.eb, C.eN, C.nd, isFn_ok h1, fun i x n hV hN => ?_, fun i x n hV hN => ?_, fun i x n hV hn hN => ?_, fun i x hV hN => ?_, C.nm, fun j x hG => ?_, C.calm, C.room, rfl⟩
  · rcases kindC_ok h5 hV hN with q | ⟨_, q⟩ | ⟨_, q⟩ | ⟨_, q⟩
    · cases q
    · rcases rel_free (sc := X.env.scope) q with z | z
      · exact .inr (.inr z)
      · exact .inr (.inl z)
    · exact .inr (.inl (keep (by decide) q))
    · exact .inl (keep (by decide) q)
  · rcases kindC_ok h5 hV hN with q | ⟨e, q⟩ | ⟨_, q⟩ | ⟨_, q⟩
    · cases q
    · omega
    · refine ⟨.inr (keep (by decide) q), .inl ?_⟩
      show (scope.names.lookup x == some .cell) = true
      rw [q]; rfl
    · exact ⟨.inl (keep (by decide) q), .inr (keep (by decide) q)⟩
  · rcases kindC_ok h5 hV hN with q | ⟨e, q⟩ | ⟨_, q⟩ | ⟨e, q⟩
    · omega
    · rcases rel_free (sc := X.env.scope) q with z | z
      · exact .inr z
      · exact .inl z
    · exact .inl (keep (by decide) q)
    · omega
  · rcases kindC_ok h5 hV hN with q | ⟨e, q⟩ | ⟨e, q⟩ | ⟨_, q⟩
    · cases q
    · cases e
    · cases e
    · exact keep (by decide) q
  · obtain ⟨q1, q2, q3⟩ := gloC_ok h6 hG
    exact ⟨keep (by decide) q1, q2, q3⟩

/-! ### the tests of a comprehension -/
def WTs (X : Cx) (ifs : List Expr) : TT := fun σ H Q => ∀ pins s, Inv X pins σ H s → wpAny (model X.prog X.w) X.A (forIn ifs true fun c r => if r = true then do let ok ← isTrue c X.env (eval c X.env); pure (ForInStep.yield ok) else pure (ForInStep.yield r)) (TP X pins σ Q) X.xe s
theorem pts_wts : PTs X ifs (WTs X ifs) := ⟨fun pins s _ _ _ I h => h pins s I⟩
theorem wts_of {t : TT} {σ : L2.St} {H : Hp} {Q : Bool → Hp → Prop} (h : PTs X ifs t) (q : t σ H Q) : WTs X ifs σ H Q := fun pins s I => h.run pins s σ H Q I q
def DTs (K : PySem.W.Frag) (X : Cx) (Z : Zed) (ρ : Rho) (μ : Mu) (ifs : List Expr) (u : Bool) (μ1 : Mu) : Prop := ∀ ν σ G H, Sat K Z ρ (μ ++ ν) σ G H → ∀ Q : Bool → Hp → Prop, (∀ G' H', Ex G G' → Sat K Z ρ (μ1 ++ ν) σ G' H' → Q u H') → WTs X ifs σ H Q
theorem dts_nil : DTs K X Z ρ μ [] true μ := fun ν σ G H S Q q => wts_of pts_nil (q G H (.refl _) S)
theorem dts_one (h : DT K X Z ρ μ c u μ1) : DTs K X Z ρ μ [c] u μ1 := fun ν σ G H S Q q => wts_of (pts_one pt_wt) (h ν σ G H S Q q)

/-- the same in every block of a comprehension -/
def BWG (X : Cx) (scope : Scope) (tg : Expr) : TG := fun v σ H Q => ∀ s H0 Ca cl fp, WG (X.blk s H0 scope (compEnvC scope cl Ca X.env) fp) tg v σ H Q
def BWT (X : Cx) (scope : Scope) (ifs : List Expr) : TT := fun σ H Q => ∀ s H0 Ca cl fp, WTs (X.blk s H0 scope (compEnvC scope cl Ca X.env) fp) ifs σ H Q
def BWE (X : Cx) (scope : Scope) (elt : Expr) : TE := fun σ H Q => ∀ s H0 Ca cl fp, WE (X.blk s H0 scope (compEnvC scope cl Ca X.env) fp) elt σ H Q
theorem Sat.reslot {σ σ' : L2.St} {G H : Hp} (S : Sat K Z ρ1 μ σ' G H) (hl : ρ.length = σ.length) (h : ∀ (i : Nat) (d : D), ρ[i]? = some (some d) → ∃ v, σ[i]? = some (some v) ∧ Rep K G d v) : Sat K Z ρ μ σ G H :=
  ⟨S.gh, hl, h, S.ce, S.nd, S.zg, S.zh, S.zn, S.zx⟩

/-- [elt for tg in iter if ..]: its reading -/
def DC (K : PySem.W.Frag) (X : Cx) (Z : Zed) (ρ : Rho) (μ : Mu) (elt tg iter : Expr) (ifs : List Expr) (scope : Scope) (own : List (Str × Nat)) (c : Cell) (μ' : Mu) : Prop := ∀ ν σ G H, Sat K Z ρ (μ ++ ν) σ G H → ∀ Q : VK,
  (∀ p G' H', Ex G G' → p ∉ Z.xs → Sat K Z ρ (μ' ++ ν ++ [(p, c)]) σ G' H' → Q (.ref p) H') → tLc (WI X tg iter) (BWG X scope tg) (BWT X scope ifs) (BWE X scope elt) (own.map (·.2)) σ H Q
theorem dc_lc (μs : Nat → Mu) (out : Nat → List D) (bs : Nat → Bool) (g : Nat → D) (V' : List Nat) (Gs' : List Str) (own : List (Str × Nat)) (C : Bc X P w K mg base N V Gs k) (hnm : nameC N = true) (hck : compC scope N V V' Gs' own = true) (hi : DI K X Z ρ μ tg iter ys (μs 0)) (hlen : ys.length < 100000)
    (h0 : out 0 = []) (hy : ∀ i, bs i = true → out (i + 1) = out i ++ [g i]) (hn : ∀ i, bs i = false → out (i + 1) = out i)
    (hstep : ∀ i d, ys[i]? = some d → ∃ ρ2 il, (∀ j, j ∈ il → j ∈ own.map (·.2)) ∧ (bs i = false → μs (i + 1) = μs i) ∧ ∀ X', Bc X' P w K mg base N V' Gs' k → DG K X' Z (wipeR ρ (own.map (·.2))) (μs i) tg d ρ2 (μs i) il ∧ DTs K X' Z ρ2 (μs i) ifs (bs i) (μs i) ∧ (bs i = true → DE K X' Z ρ2 (μs i) elt (g i) (μs (i + 1)))) :
    DC K X Z ρ μ elt tg iter ifs scope own (.lst (out ys.length)) (μs ys.length) := fun ν σ G H S Q q => by
  have CB := fun s H Ca cl fp => blk_bc (V' := V') (Gs' := Gs') (own := own) C hnm hck s H Ca cl fp
  have ol : ∀ i, (out i).length ≤ i := fun i => by
    induction i with
    | zero => rw [h0]; simp
    | succ i ih =>
      cases e : bs i with
      | true => rw [hy i e]; simp; exact ih
      | false => rw [hn i e]; omega
  refine hi ν σ G H S _ fun J G1 H1 Gp Y e1 S1 W hG hY Dl hD => ?_
  have S1' := S1.own (o := .lst []) (c := .lst []) hD ⟨[], upd_same, Reps.nil⟩
  have hDz := (S1.zfresh hD).2
  -- slots as they were ahead, wiped
  have slw : ∀ G', Ex G1 G' → ∀ (i : Nat) (d : D), (wipeR ρ (own.map (·.2)))[i]? = some (some d) → ∃ v, (wipe σ (own.map (·.2)))[i]? = some (some v) ∧ Rep K G' d v := fun G' e i d h => by
    obtain ⟨h1, h2⟩ := wipeR_some h
    obtain ⟨v, h3, h4⟩ := S1.sl i d h1
    exact ⟨v, by rw [wipe_get]; simp [h2, h3], h4.mono e⟩
  refine lc_it (g := BWG X scope tg) (tt := BWT X scope ifs) (te := BWE X scope elt) (vs := own.map (·.2)) (σ := σ) (H1 := H1) (D := Dl) (Qd := Q (.ref Dl)) W (fun i H' => ∃ G', Ex G1 G' ∧ Sat K Z [] (μs i ++ (ν ++ [(Dl, .lst (out i))])) [] G' H') ⟨G1, .refl _, ?_⟩ (fun i H' _ ⟨G', e2, S2⟩ => hG G' H' e2 S2.gh) (fun i x Hx Hx' hi' ⟨G', e2, S2⟩ y => ?_) fun H' ⟨G', e2, S2⟩ => ?_
  · rw [h0, ← List.append_assoc]
    exact S1'.reslot rfl fun i d h => by simp at h
  · obtain ⟨d, G'', y1, E, r⟩ := hY i Hx x Hx' G' hi' y e2 S2.gh
    obtain ⟨ρ2, il, hil, mu0, hb⟩ := hstep i d y1
    have S3 := (S2.ext E).reslot (σ := wipe σ (own.map (·.2))) (ρ := wipeR ρ (own.map (·.2))) (by rw [wipeR_len, wipe_length]; exact S1.ln) (slw G'' (e2.trans E.gg))
    intro s H0 Ca cl fp
    refine (hb _ (CB s H0 Ca cl fp)).1 _ _ G'' Hx' x S3 r _ fun σ2 G2 H2 e3 S4 hsl hll => ⟨?_, ?_⟩
    · rw [← wipe_wipe σ (own.map (·.2))]
      exact wipe_of hll fun j hj => hsl j fun z => hj (hil j z)
    intro s H0 Ca cl fp
    refine (hb _ (CB s H0 Ca cl fp)).2.1 _ _ G2 H2 S4 _ fun G3 H3 e4 S5 => ?_
    have e13 : Ex G1 G3 := ((e2.trans E.gg).trans e3).trans e4
    cases eb : bs i with
    | false =>
      refine iteF ⟨G3, e13, ?_⟩
      rw [mu0 eb, hn i eb]
      exact S5.reslot rfl fun i d h => by simp at h
    | true =>
      refine iteT ?_
      intro s H0 Ca cl fp
      refine (hb _ (CB s H0 Ca cl fp)).2.2 eb _ _ G3 H3 S5 _ fun v G4 H4 e5 S6 r6 => ?_
      have hj : (μs (i + 1) ++ (ν ++ [(Dl, Cell.lst (out i))]))[(μs (i + 1) ++ ν).length]? = some (Dl, .lst (out i)) := by rw [← List.append_assoc]; simp
      obtain ⟨vs, g1, g2⟩ := cell_in S6 hj
      refine ⟨vs, g1, ?_, G4, e13.trans e5, ?_⟩
      · rw [← g2.length]
        exact sz100' (by have := ol i; omega)
      · have S7 := S6.write (o := .lst (vs ++ [v])) (c' := .lst (out i ++ [g i])) hj ⟨_, upd_same, g2.app (Reps.cons r6 Reps.nil)⟩
        have em : (μs (i + 1) ++ (ν ++ [(Dl, Cell.lst (out i))])).set (μs (i + 1) ++ ν).length (Dl, .lst (out i ++ [g i])) = μs (i + 1) ++ (ν ++ [(Dl, Cell.lst (out (i + 1)))]) := by
          rw [← List.append_assoc, hy i eb, List.set_append_right _ _ (Nat.le_refl _), Nat.sub_self, ← List.append_assoc]
          rfl
        rw [em] at S7
        exact S7.reslot rfl fun i d h => by simp at h
  · refine q Dl G' H' (e1.trans e2) hDz ?_
    rw [List.append_assoc]
    exact S2.reslot S1.ln fun i d h => by
      obtain ⟨v, h3, h4⟩ := S1.sl i d h
      exact ⟨v, h3, h4.mono e2⟩
theorem dl_of_dc {own : List (Str × Nat)} (C : Bc X P w K mg base N V Gs k) (hck : compC scope N V V' Gs' own = true) (h : DC K X Z ρ μ elt tg iter ifs scope own cl μ1) (hs : ∀ x, foldedSetIterable iter X.env x = pure x := by intro _; rfl) : DL K X Z ρ μ (.ListComp elt [⟨tg, iter, ifs, 0⟩] scope pos) cl μ1 := fun ν σ G H S Q q =>
  we_of (pe_lc (own := own) (g := BWG X scope tg) (tt := BWT X scope ifs) (te := BWE X scope elt) C.calm (by rw [C.eN]; exact C.nd) pi_wi (blk_of C hck)
    (fun s H0 Ca cl fp => ⟨fun pins s1 σ1 H1 v u Q1 I r h => h s H0 Ca cl fp pins s1 u I r⟩) (fun s H0 Ca cl fp => ⟨fun pins s1 σ1 H1 Q1 I h => h s H0 Ca cl fp pins s1 I⟩) (fun s H0 Ca cl fp => ⟨fun pins s1 σ1 H1 Q1 I h => h s H0 Ca cl fp pins s1 I⟩) hs) (h ν σ G H S Q q)
/-- name = [..]: the new list is owned -/
theorem db_setDc {own : List (Str × Nat)} (i : Nat) (C : Bc X P w K mg base N V Gs k) (hck : compC scope N V V' Gs' own = true) (hN : N[i]? = some x) (hV : V[i]? = some 3) (h : DC K X Z ρ μ elt tg iter ifs scope own cl μ1) (hr : ∀ q, q ∉ Z.xs → DB K X Z (ρ.set i (some (.ref q))) (μ1 ++ [(q, cl)]) rest Φ)
    (hl : (p.line == pos'.line) = true := by rfl) (ha : (scope.names.any fun (n, k) => n == x && (k == .local || k == .cell)) = false := by decide +kernel)
    (hs : ∀ x, foldedSetIterable iter X.env x = pure x := by intro _; rfl) : DB K X Z ρ μ (.Assign [.Name x p] (.ListComp elt [⟨tg, iter, ifs, 0⟩] scope pos') pos :: rest) Φ := fun σ G H S D q1 q2 => by
  have l3 := C.loc3 i x hV hN
  refine wss_cons (ps_setLc (i := i) (own := own) (g := BWG X scope tg) (tt := BWT X scope ifs) (te := BWE X scope elt) C.calm (by rw [C.eN]; exact C.nd) (by rw [C.eN]; exact hN) l3 (sw_true C.kind l3 hl ha) pi_wi (blk_of C hck)
    (fun s H0 Ca cl fp => ⟨fun pins s1 σ1 H1 v u Q1 I r h => h s H0 Ca cl fp pins s1 u I r⟩) (fun s H0 Ca cl fp => ⟨fun pins s1 σ1 H1 Q1 I h => h s H0 Ca cl fp pins s1 I⟩) (fun s H0 Ca cl fp => ⟨fun pins s1 σ1 H1 Q1 I h => h s H0 Ca cl fp pins s1 I⟩) hs) ?_
  refine h [] σ G H (by simpa using S) _ fun q G1 H1 e1 hq S1 => ?_
  exact hr q hq _ G1 H1 (by simpa using S1.set (i := i) (v := .ref q) (rep_v.mpr rfl)) D (fun ρ' μ' σ' G' H' z e2 => q1 ρ' μ' σ' G' H' z (e1.trans e2)) fun d μ' v ρ' σ' G' H' z e2 => q2 d μ' v ρ' σ' G' H' z (e1.trans e2)
/-- .. it stands still -/
theorem db_setDcF {own : List (Str × Nat)} (i : Nat) (C : Bc X P w K mg base N V Gs k) (hck : compC scope N V V' Gs' own = true) (hN : N[i]? = some x) (hV : V[i]? = some 3) (hi : i < ρ.length) (h : DC K X Z ρ μ elt tg iter ifs scope own (.lst xs) μ1) (hr : DB K X Z (ρ.set i (some (.lst xs))) μ1 rest Φ)
    (hl : (p.line == pos'.line) = true := by rfl) (ha : (scope.names.any fun (n, k) => n == x && (k == .local || k == .cell)) = false := by decide +kernel)
    (hs : ∀ x, foldedSetIterable iter X.env x = pure x := by intro _; rfl) : DB K X Z ρ μ (.Assign [.Name x p] (.ListComp elt [⟨tg, iter, ifs, 0⟩] scope pos') pos :: rest) Φ :=
  db_setDc i C hck hN hV h (fun q hq => db_freeze (xs := xs) i μ1.length (by simp [hi]) (by simp) hq (by
    rw [List.set_set, List.eraseIdx_append_of_length_le (Nat.le_refl _)]
    simpa using hr)) hl ha hs
end
end NC

set_option Elab.async false
set_option linter.all false
set_option autoImplicit false
set_option maxRecDepth 100000
set_option maxHeartbeats 4000000
/-! Slots forgotten, loops with a state, comprehensions by maps, fields stored, the rule for a def. -/
namespace NC
open PySem PySem.Spec PyProof.Rows L2

/-! ### slots forgotten -/
inductive Le : Rho → Rho → Prop where
  | nil : Le [] []
  | none {a : Option D} {ρ ρ' : Rho} (h : Le ρ ρ') : Le (Option.none :: ρ) (a :: ρ')
  | some {d : D} {ρ ρ' : Rho} (h : Le ρ ρ') : Le (Option.some d :: ρ) (Option.some d :: ρ')
theorem Le.len {ρ ρ' : Rho} (h : Le ρ ρ') : ρ.length = ρ'.length := by
  induction h with
  | nil => rfl
  | none h ih => simp [ih]
  | some h ih => simp [ih]
theorem Le.get {ρ ρ' : Rho} (h : Le ρ ρ') : ∀ {i : Nat} {d : D}, ρ[i]? = Option.some (Option.some d) → ρ'[i]? = Option.some (Option.some d) := by
  induction h with
  | nil => intro i d e; simp at e
  | none h ih =>
    intro i d e
    cases i with
    | zero => simp at e
    | succ i => simpa using ih (by simpa using e)
  | some h ih =>
    intro i d e
    cases i with
    | zero => simpa using e
    | succ i => simpa using ih (by simpa using e)
theorem Le.refl : ∀ ρ : Rho, Le ρ ρ
  | [] => .nil
  | Option.none :: ρ => .none (Le.refl ρ)
  | Option.some _ :: ρ => .some (Le.refl ρ)
theorem Le.trans {a b c : Rho} (h : Le a b) : Le b c → Le a c := by
  induction h generalizing c with
  | nil => exact id
  | none h ih =>
    intro g
    cases g with
    | none g => exact .none (ih g)
    | some g => exact .none (ih g)
  | some h ih =>
    intro g
    cases g with
    | some g => exact .some (ih g)

section
variable {P : Program} {w : World} {K : PySem.W.Frag} {mg : Str → Option Value} {base : Heap} {N : List Str} {V V' : List Nat} {Gs Gs' : List Str} {k kf : Nat}
variable {X : Cx} {Z : Zed} {ρ ρ1 ρ2 ρ' : Rho} {μ μ1 μ2 μ3 : Mu} {a b c e o tg iter elt : Expr} {es ts elts ifs : List Expr} {d da db dc : D} {ds xs ys : List D} {pos p pos' apos tpos : Pos} {x m f : Str} {u v : Bool} {cl : Cell} {n kk : Nat} {il il2 : List Nat} {rest body : List Stmt} {Φ Ψ : Post} {scope : Scope} {own : List (Str × Nat)}
theorem Sat.weak {σ : L2.St} {G H : Hp} (S : Sat K Z ρ μ σ G H) (h : Le ρ' ρ) : Sat K Z ρ' μ σ G H := S.slots h.len fun i d e => S.sl i d (h.get e)
theorem db_weak (h : Le ρ' ρ) (hr : DB K X Z ρ' μ rest Φ) : DB K X Z ρ μ rest Φ := fun σ G H S D q1 q2 => hr σ G H (S.weak h) D q1 q2
theorem dg_weak (h : Le ρ' ρ) (hr : DG K X Z ρ' μ tg d ρ1 μ1 il) : DG K X Z ρ μ tg d ρ1 μ1 il := fun ν σ G H v S r Q q => hr ν σ G H v (S.weak h) r Q q
theorem de_weak (h : Le ρ' ρ) (hr : DE K X Z ρ' μ e d μ1) : DE K X Z ρ μ e d μ1 := fun ν σ G H S Q q => hr ν σ G H (S.weak h) Q fun v G' H' e' S' r => q v G' H' e' (by
  exact S'.reslot (by rw [← h.len]; exact S.ln ▸ S'.ln ▸ h.len.symm ▸ (by rw [h.len] at *; rw [S.ln])) fun i d hd => by
    obtain ⟨v, e1, e2⟩ := S.sl i d hd
    exact ⟨v, e1, e2.mono e'⟩) r

/-! ### loops with a state -/
/-- as a list of data: the items, their data -/
theorem get_map {α : Type} {as : List α} {ey : α → D} {i : Nat} {d : D} (h : (as.map ey)[i]? = some d) : ∃ a, as[i]? = some a ∧ ey a = d := by
  rw [List.getElem?_map] at h
  cases e : as[i]? with
  | none => rw [e] at h; cases h
  | some a => rw [e] at h; exact ⟨a, rfl, Option.some.inj h⟩
theorem drop_get {α : Type} {as : List α} {i : Nat} {a : α} (h : as[i]? = some a) : as.drop i = a :: as.drop (i + 1) := by
  obtain ⟨hi, e⟩ := List.getElem?_eq_some_iff.mp h
  rw [List.drop_eq_getElem_cons hi, e]
/-- J s rest: what is known of the state s where rest is still to be walked -/
theorem db_forS {α S : Type} (as : List α) (ey : α → D) (J : S → List α → Prop) (ρs : S → Rho) (μs : S → Mu) (s0 : S) (C : Bc X P w K mg base N V Gs k) (hi : DI K X Z ρ μ tg iter (as.map ey) μ1) (hμ : μ1 = μs s0) (hρ : Le (ρs s0) ρ) (h0 : J s0 as)
    (hstep : ∀ s a l, J s (a :: l) → a ∈ as → ∃ ρ2 μ2 il, DG K X Z (ρs s) (μs s) tg (ey a) ρ2 μ2 il ∧ DB K X Z ρ2 μ2 body ⟨fun ρ' μ' => ∃ s', J s' l ∧ Le (ρs s') ρ' ∧ μ' = μs s', Φ.rt⟩) (hend : ∀ s, J s [] → DB K X Z (ρs s) (μs s) rest Φ)
    (hs : ∀ x, foldedSetIterable iter X.env x = pure x := by intro _; rfl) : DB K X Z ρ μ (.For tg iter body [] pos :: rest) Φ :=
  db_for (fun i ρ' μ' => ∃ s, J s (as.drop i) ∧ Le (ρs s) ρ' ∧ μ' = μs s) C hi ⟨s0, by simpa using h0, hρ, hμ⟩ (fun i d ρ' μ' hd ⟨s, hJ, hL, hM⟩ => by
    obtain ⟨a, e1, e2⟩ := get_map hd
    subst e2 hM
    rw [drop_get e1] at hJ
    obtain ⟨ρ2, μ2, il, g, hb⟩ := hstep s a _ hJ (List.mem_of_getElem? e1)
    exact ⟨ρ2, μ2, il, dg_weak hL g, hb⟩) (fun ρ' μ' ⟨s, hJ, hL, hM⟩ => by
    subst hM
    rw [List.length_map, List.drop_length] at hJ
    exact db_weak hL (hend s hJ)) hs
theorem db_whileS {S : Type} (J : S → Nat → Prop) (ρs : S → Rho) (μs : S → Mu) (s0 : S) (n0 : Nat) (C : Bc X P w K mg base N V Gs k) (hμ : μ = μs s0) (hρ : Le (ρs s0) ρ) (h0 : J s0 n0)
    (hstep : ∀ s n, J s n → ∃ u, DT K X Z (ρs s) (μs s) c u (μs s) ∧ (u = true → DB K X Z (ρs s) (μs s) body ⟨fun ρ' μ' => ∃ s' n', n' < n ∧ J s' n' ∧ Le (ρs s') ρ' ∧ μ' = μs s', Φ.rt⟩) ∧ (u = false → DB K X Z (ρs s) (μs s) rest Φ)) : DB K X Z ρ μ (.While c body [] pos :: rest) Φ := by
  subst hμ
  exact db_weak hρ (db_while (fun n ρ' μ' => ∃ s, J s n ∧ ρ' = ρs s ∧ μ' = μs s ∨ False) n0 C ⟨s0, .inl ⟨h0, rfl, rfl⟩⟩ fun n ρ' μ' ⟨s, hs⟩ => by
    obtain ⟨hJ, rfl, rfl⟩ := hs.resolve_right id
    obtain ⟨u, h1, h2, h3⟩ := hstep s n hJ
    refine ⟨u, h1, fun hu => ?_, h3⟩
    intro σ G H S0 D q1 q2
    exact h2 hu σ G H S0 D (fun ρ' μ' σ' G' H' ⟨s', n', hn, hJ', hL, hM⟩ e' S' => q1 (ρs s') μ' σ' G' H' ⟨n', hn, s', .inl ⟨hJ', rfl, hM⟩⟩ e' (S'.weak hL)) q2)

/-! ### comprehensions by maps -/
theorem take_succ_get {α : Type} {as : List α} {i : Nat} {a : α} (h : as[i]? = some a) : as.take (i + 1) = as.take i ++ [a] := by
  rw [List.take_succ, h]; rfl
/-- [elt for tg in iter if ..]: the cells may be written: st l, where l is what is done -/
theorem dc_mapM {α : Type} (as : List α) (ey : α → D) (eg : List α → α → D) (pf : α → Bool) (st : List α → Mu) (out : List α → List D) (V' : List Nat) (Gs' : List Str) (own : List (Str × Nat)) (C : Bc X P w K mg base N V Gs k) (hnm : nameC N = true) (hck : compC scope N V V' Gs' own = true) (hi : DI K X Z ρ μ tg iter (as.map ey) (st [])) (hlen : as.length < 100000)
    (h0 : out [] = []) (h1 : ∀ l a, pf a = true → out (l ++ [a]) = out l ++ [eg l a]) (h2 : ∀ l a, pf a = false → out (l ++ [a]) = out l)
    (hstep : ∀ l a r, as = l ++ a :: r → ∃ ρ2 il, (∀ j, j ∈ il → j ∈ own.map (·.2)) ∧ (pf a = false → st (l ++ [a]) = st l) ∧ ∀ X', Bc X' P w K mg base N V' Gs' k → DG K X' Z (wipeR ρ (own.map (·.2))) (st l) tg (ey a) ρ2 (st l) il ∧ DTs K X' Z ρ2 (st l) ifs (pf a) (st l) ∧ (pf a = true → DE K X' Z ρ2 (st l) elt (eg l a) (st (l ++ [a])))) :
    DC K X Z ρ μ elt tg iter ifs scope own (.lst (out as)) (st as) := by
  have h := dc_lc (fun i => st (as.take i)) (fun i => out (as.take i)) (fun i => match as[i]? with | some a => pf a | none => false) (fun i => match as[i]? with | some a => eg (as.take i) a | none => .non) V' Gs' own (elt := elt) (tg := tg) (iter := iter) (ifs := ifs) (ys := as.map ey) C hnm hck (by simpa using hi) (by simpa using hlen) (by simpa using h0) (fun i e => ?_) (fun i e => ?_) (fun i d hd => ?_)
  · simpa using h
  · cases q : as[i]? with
    | none => rw [q] at e; cases e
    | some a =>
      rw [q] at e
      rw [take_succ_get q, h1 _ _ e]
  · cases q : as[i]? with
    | none =>
      have hl : as.length ≤ i := by simpa using q
      rw [List.take_of_length_le hl, List.take_of_length_le (by omega)]
    | some a =>
      rw [q] at e
      rw [take_succ_get q, h2 _ _ e]
  · obtain ⟨a, e1, e2⟩ := get_map hd
    subst e2
    obtain ⟨ρ2, il, g1, g2, g3⟩ := hstep (as.take i) a (as.drop (i + 1)) (by rw [← drop_get e1, List.take_append_drop])
    refine ⟨ρ2, il, g1, ?_, ?_⟩
    · show (match as[i]? with | some a => pf a | none => false) = false → _
      rw [e1, take_succ_get e1]
      exact g2
    · show ∀ X', _ → _ ∧ DTs K X' Z ρ2 _ ifs (match as[i]? with | some a => pf a | none => false) _ ∧ ((match as[i]? with | some a => pf a | none => false) = true → DE K X' Z ρ2 _ elt (match as[i]? with | some a => eg (as.take i) a | none => .non) (st (as.take (i + 1))))
      rw [e1, take_succ_get e1]
      exact g3
/-- [elt for tg in iter]: nothing owned is written -/
theorem dc_map {α : Type} (as : List α) (ey eg : α → D) (V' : List Nat) (Gs' : List Str) (own : List (Str × Nat)) (C : Bc X P w K mg base N V Gs k) (hnm : nameC N = true) (hck : compC scope N V V' Gs' own = true) (hi : DI K X Z ρ μ tg iter (as.map ey) μ1) (hlen : as.length < 100000)
    (hstep : ∀ a, a ∈ as → ∃ ρ2 il, (∀ j, j ∈ il → j ∈ own.map (·.2)) ∧ ∀ X', Bc X' P w K mg base N V' Gs' k → DG K X' Z (wipeR ρ (own.map (·.2))) μ1 tg (ey a) ρ2 μ1 il ∧ DE K X' Z ρ2 μ1 elt (eg a) μ1) :
    DC K X Z ρ μ elt tg iter [] scope own (.lst (as.map eg)) μ1 :=
  dc_mapM as ey (fun _ a => eg a) (fun _ => true) (fun _ => μ1) (fun l => l.map eg) V' Gs' own C hnm hck hi hlen rfl (fun l a _ => by simp) (fun l a e => by cases e) fun l a r e => by
    obtain ⟨ρ2, il, h1, h2⟩ := hstep a (by rw [e]; simp)
    exact ⟨ρ2, il, h1, (fun e => by cases e), fun X' C' => ⟨(h2 X' C').1, dts_nil, fun _ => (h2 X' C').2⟩⟩
/-- .. if ..: -/
theorem dc_filter {α : Type} (as : List α) (ey eg : α → D) (pf : α → Bool) (V' : List Nat) (Gs' : List Str) (own : List (Str × Nat)) (C : Bc X P w K mg base N V Gs k) (hnm : nameC N = true) (hck : compC scope N V V' Gs' own = true) (hi : DI K X Z ρ μ tg iter (as.map ey) μ1) (hlen : as.length < 100000)
    (hstep : ∀ a, a ∈ as → ∃ ρ2 il, (∀ j, j ∈ il → j ∈ own.map (·.2)) ∧ ∀ X', Bc X' P w K mg base N V' Gs' k → DG K X' Z (wipeR ρ (own.map (·.2))) μ1 tg (ey a) ρ2 μ1 il ∧ DT K X' Z ρ2 μ1 c (pf a) μ1 ∧ (pf a = true → DE K X' Z ρ2 μ1 elt (eg a) μ1)) :
    DC K X Z ρ μ elt tg iter [c] scope own (.lst ((as.filter pf).map eg)) μ1 :=
  dc_mapM as ey (fun _ a => eg a) pf (fun _ => μ1) (fun l => (l.filter pf).map eg) V' Gs' own C hnm hck hi hlen rfl (fun l a e => by simp [e]) (fun l a e => by simp [e]) fun l a r e => by
    obtain ⟨ρ2, il, h1, h2⟩ := hstep a (by rw [e]; simp)
    exact ⟨ρ2, il, h1, (fun _ => rfl), fun X' C' => ⟨(h2 X' C').1, dts_one (h2 X' C').2.1, (h2 X' C').2.2⟩⟩

/-! ### fields stored -/
theorem putF_new {f : Str} {y : L2.V} : ∀ {ns : List Str} {vs : List L2.V}, f ∉ ns → ns.length = vs.length → putF f y (ns.zip vs) = (ns ++ [f]).zip (vs ++ [y])
  | [], [], _, _ => rfl
  | [], _ :: _, _, h => by simp at h
  | _ :: _, [], _, h => by simp at h
  | n :: ns, v :: vs, hf, hl => by
    have h1 : ¬ n = f := fun e => hf (by simp [e])
    show (if n = f then (n, y) :: ns.zip vs else (n, v) :: putF f y (ns.zip vs)) = _
    rw [if_neg h1, putF_new (fun z => hf (List.mem_cons_of_mem _ z)) (by simpa using hl)]
    rfl
theorem putF_at {f : Str} {y : L2.V} : ∀ {ns : List Str} {vs : List L2.V} {i : Nat}, ns.Nodup → ns[i]? = some f → ns.length = vs.length → putF f y (ns.zip vs) = ns.zip (vs.set i y)
  | [], _, i, _, h, _ => by simp at h
  | _ :: _, [], _, _, _, h => by simp at h
  | n :: ns, v :: vs, 0, nd, h, hl => by
    have h1 : n = f := by simpa using h
    show (if n = f then (n, y) :: ns.zip vs else _) = _
    rw [if_pos h1]; rfl
  | n :: ns, v :: vs, i + 1, nd, h, hl => by
    have h' : ns[i]? = some f := by simpa using h
    have h1 : ¬ n = f := fun e => (List.nodup_cons.mp nd).1 (e ▸ List.mem_of_getElem? h')
    show (if n = f then (n, y) :: ns.zip vs else (n, v) :: putF f y (ns.zip vs)) = _
    rw [if_neg h1, putF_at (List.nodup_cons.mp nd).2 h' (by simpa using hl)]
    rfl
theorem ClsD.mem {Cl : Addr} {ns : List Str} (T : ClsD K Cl ns) (h : f ∈ ns) : NoAttr K Cl f := by
  obtain ⟨i, hi⟩ := List.mem_iff_getElem?.mp h
  exact T.na i f hi
/-- o.f = e: a new field -/
theorem db_fldN (j : Nat) {q Cl : Addr} {ns : List Str} (C : Bc X P w K mg base N V Gs k) (T : ClsD K Cl (ns ++ [f])) (h : DE K X Z ρ μ e d μ1) (ho : DE K X Z ρ μ1 o (.ref q) μ1) (hj : μ1[j]? = some (q, .ins Cl ns ds)) (hr : DB K X Z ρ (μ1.set j (q, .ins Cl (ns ++ [f]) (ds ++ [d]))) rest Φ) (hlen : ns.length < 1000 := by decide)
    (hs : swapsWith e (some (.Attribute o f pos')) pos.line X.env = pure false := by rfl) : DB K X Z ρ μ (.Assign [.Attribute o f pos'] e pos :: rest) Φ := fun σ G H S D q1 q2 => by
  refine wss_cons (ps_fld pe_we pe_we hs) ?_
  refine h.at0 S fun v G1 H1 e1 S1 r1 => ho.at0 S1 fun u G2 H2 e2 S2 r2 => ?_
  have hu := rep_v.mp r2
  subst hu
  obtain ⟨dx, vs, g1, g2, g3⟩ := cell_in S2 hj
  rw [C.eK]
  have hf : f ∉ ns := fun z => (List.nodup_append.mp T.nd).2.2 f z f (by simp) rfl
  refine ⟨q, Cl, dx, _, rfl, g1, T.cl, T.mem (by simp), by rw [List.length_zip]; omega, ?_⟩
  rw [putF_new hf g2]
  have S3 := S2.write (o := .ins Cl dx ((ns ++ [f]).zip (vs ++ [v]))) (c' := .ins Cl (ns ++ [f]) (ds ++ [d])) hj ⟨dx, _, upd_same, by simp [g2], g3.app (Reps.cons (r1.mono e2) Reps.nil)⟩
  exact hr σ G2 _ S3 D (fun ρ' μ' σ' G' H' z e3 => q1 ρ' μ' σ' G' H' z ((e1.trans e2).trans e3)) fun d μ' v ρ' σ' G' H' z e3 => q2 d μ' v ρ' σ' G' H' z ((e1.trans e2).trans e3)
/-- o.f = a new list that is owned: a new field -/
theorem db_fldNO (j : Nat) {q Cl : Addr} {ns : List Str} (C : Bc X P w K mg base N V Gs k) (T : ClsD K Cl (ns ++ [f])) (h : DL K X Z ρ μ e cl μ1) (ho : ∀ l, DE K X Z ρ (μ1 ++ [(l, cl)]) o (.ref q) (μ1 ++ [(l, cl)])) (hj : μ1[j]? = some (q, .ins Cl ns ds)) (hr : ∀ l, l ∉ Z.xs → DB K X Z ρ (μ1.set j (q, .ins Cl (ns ++ [f]) (ds ++ [.ref l])) ++ [(l, cl)]) rest Φ) (hlen : ns.length < 1000 := by decide)
    (hs : swapsWith e (some (.Attribute o f pos')) pos.line X.env = pure false := by rfl) : DB K X Z ρ μ (.Assign [.Attribute o f pos'] e pos :: rest) Φ := fun σ G H S D q1 q2 => by
  refine wss_cons (ps_fld pe_we pe_we hs) ?_
  refine h [] σ G H (by simpa using S) _ fun l G1 H1 e1 hl S1 => ?_
  rw [List.append_nil] at S1
  refine (ho l).at0 S1 fun u G2 H2 e2 S2 r2 => ?_
  have hu := rep_v.mp r2
  subst hu
  have hjl := (List.getElem?_eq_some_iff.mp hj).1
  have hj' : (μ1 ++ [(l, cl)])[j]? = some (q, .ins Cl ns ds) := by rw [List.getElem?_append_left hjl]; exact hj
  obtain ⟨dx, vs, g1, g2, g3⟩ := cell_in S2 hj'
  rw [C.eK]
  have hf : f ∉ ns := fun z => (List.nodup_append.mp T.nd).2.2 f z f (by simp) rfl
  refine ⟨q, Cl, dx, _, rfl, g1, T.cl, T.mem (by simp), by rw [List.length_zip]; omega, ?_⟩
  rw [putF_new hf g2]
  have S3 := S2.write (o := .ins Cl dx ((ns ++ [f]).zip (vs ++ [.ref l]))) (c' := .ins Cl (ns ++ [f]) (ds ++ [.ref l])) hj' ⟨dx, _, upd_same, by simp [g2], g3.app (Reps.cons (rep_v.mpr rfl) Reps.nil)⟩
  rw [List.set_append_left _ _ hjl] at S3
  exact hr l hl σ G2 _ S3 D (fun ρ' μ' σ' G' H' z e3 => q1 ρ' μ' σ' G' H' z ((e1.trans e2).trans e3)) fun d μ' v ρ' σ' G' H' z e3 => q2 d μ' v ρ' σ' G' H' z ((e1.trans e2).trans e3)
/-- o.f = e: a field that is there -/
theorem db_fldW (j i : Nat) {q Cl : Addr} {ns : List Str} (C : Bc X P w K mg base N V Gs k) (T : ClsD K Cl ns) (h : DE K X Z ρ μ e d μ1) (ho : DE K X Z ρ μ1 o (.ref q) μ1) (hj : μ1[j]? = some (q, .ins Cl ns ds)) (hn : ns[i]? = some f) (hr : DB K X Z ρ (μ1.set j (q, .ins Cl ns (ds.set i d))) rest Φ) (hlen : ns.length < 1000 := by decide)
    (hs : swapsWith e (some (.Attribute o f pos')) pos.line X.env = pure false := by rfl) : DB K X Z ρ μ (.Assign [.Attribute o f pos'] e pos :: rest) Φ := fun σ G H S D q1 q2 => by
  refine wss_cons (ps_fld pe_we pe_we hs) ?_
  refine h.at0 S fun v G1 H1 e1 S1 r1 => ho.at0 S1 fun u G2 H2 e2 S2 r2 => ?_
  have hu := rep_v.mp r2
  subst hu
  obtain ⟨dx, vs, g1, g2, g3⟩ := cell_in S2 hj
  rw [C.eK]
  refine ⟨q, Cl, dx, _, rfl, g1, T.cl, T.na i f hn, by rw [List.length_zip]; omega, ?_⟩
  rw [putF_at T.nd hn g2]
  have S3 := S2.write (o := .ins Cl dx (ns.zip (vs.set i v))) (c' := .ins Cl ns (ds.set i d)) hj ⟨dx, _, upd_same, by simp [g2], g3.set i (r1.mono e2)⟩
  exact hr σ G2 _ S3 D (fun ρ' μ' σ' G' H' z e3 => q1 ρ' μ' σ' G' H' z ((e1.trans e2).trans e3)) fun d μ' v ρ' σ' G' H' z e3 => q2 d μ' v ρ' σ' G' H' z ((e1.trans e2).trans e3)
/-- .f as a target: a new field -/
theorem dg_fldN (j : Nat) {q Cl : Addr} {ns : List Str} (C : Bc X P w K mg base N V Gs k) (T : ClsD K Cl (ns ++ [f])) (ho : DE K X Z ρ μ o (.ref q) μ) (hj : μ[j]? = some (q, .ins Cl ns ds)) (hlen : ns.length < 1000 := by decide) : DG K X Z ρ μ (.Attribute o f pos) d ρ (μ.set j (q, .ins Cl (ns ++ [f]) (ds ++ [d]))) [] := fun ν σ G H v S r Q qq pins s u I rv => by
  rw [PySem.assign_Attribute]
  refine wpAny_bind (wpAny_holding (thn (ho ν σ G H S (fun v1 H1 => v1 = .ref q ∧ ∃ G1, Ex G G1 ∧ Sat K Z ρ (μ ++ ν) σ G1 H1) (fun v1 G1 H1 e1 S1 r1 => ⟨rep_v.mp r1, G1, e1, S1⟩) pins s I) fun ov s1 ⟨x, H1, I1, r1, ex, G1, e1, S1⟩ => ?_))
  subst ex
  obtain rfl : ov = Value.ref q := r1
  have hjl := (List.getElem?_eq_some_iff.mp hj).1
  have hj' : (μ ++ ν)[j]? = some (q, .ins Cl ns ds) := by rw [List.getElem?_append_left hjl]; exact hj
  obtain ⟨dx, vs, g1, g2, g3⟩ := cell_in S1 hj'
  have hf : f ∉ ns := fun z => (List.nodup_append.mp T.nd).2.2 f z f (by simp) rfl
  refine wpAny_bind (wpAny_standAt (wpAny_bind (wpAny_holding (setattr_ok I1 g1 (by rw [C.eK]; exact T.cl) (by rw [C.eK]; exact T.mem (by simp)) (by rw [List.length_zip]; omega) rv fun s2 I2 => ?_))))
  refine wpAny_release ⟨σ, _, I2, ?_⟩
  rw [putF_new hf g2]
  have S3 := S1.write (o := .ins Cl dx ((ns ++ [f]).zip (vs ++ [v]))) (c' := .ins Cl (ns ++ [f]) (ds ++ [d])) hj' ⟨dx, _, upd_same, by simp [g2], g3.app (Reps.cons (r.mono e1) Reps.nil)⟩
  rw [List.set_append_left _ _ hjl] at S3
  exact qq σ G1 _ e1 S3 (fun _ _ => rfl) rfl
end
end NC

set_option Elab.async false
set_option linter.all false
set_option autoImplicit false
set_option maxRecDepth 100000
set_option maxHeartbeats 4000000
/-! The rule for a def; dicts; a constructor that leaves lists behind. -/
namespace NC
open PySem PySem.Spec PyProof.Rows L2

def notC (b : Bool) : Bool := !b
/-- what a def's scope must be -/
def defC (N ps : List Str) (sc : Scope) (V : List Nat) (Gs : List Str) : Bool :=
  isFn sc && (notC sc.isCoroutine && (notC sc.isGenerator && (decide N.Nodup && (decide (N.take ps.length = ps) && ((ps.all fun x => decide (sc.names.lookup x = some .local) || decide (sc.names.lookup x = some .cell)) &&
    ((sc.names.all fun y => match y.2 with | .free => false | _ => true) && (kindC sc V N && (nameC N && gloC sc Gs))))))))
theorem defC_scope {N ps : List Str} {sc : Scope} {V : List Nat} {Gs : List Str} (h : defC N ps sc V Gs = true) : FnScope N ps sc := by
  unfold defC at h
  obtain ⟨h1, h⟩ := band h
  obtain ⟨h2, h⟩ := band h
  obtain ⟨h3, h⟩ := band h
  obtain ⟨h4, h⟩ := band h
  obtain ⟨h5, h⟩ := band h
  obtain ⟨h6, h⟩ := band h
  obtain ⟨h7, h⟩ := band h
  refine ⟨isFn_ok h1, by simpa [notC] using h2, by simpa [notC] using h3, of_decide_eq_true h4, of_decide_eq_true h5, fun x hx => ?_, fun y hy e => ?_⟩
  · rcases Bool.or_eq_true_iff.mp (List.all_eq_true.mp h6 x hx) with q | q
    · exact .inl (of_decide_eq_true q)
    · exact .inr (of_decide_eq_true q)
  · have q := List.all_eq_true.mp h7 y hy
    rw [e] at q
    cases q
section
variable {P : Program} {w : World} {K : PySem.W.Frag} {mg : Str → Option Value} {base : Heap} {N ps : List Str} {V V' : List Nat} {Gs Gs' : List Str} {k kf : Nat}
variable {X : Cx} {Z : Zed} {ρ ρ1 ρ2 ρ' : Rho} {μ μ1 μ2 μ3 : Mu} {a b c e o tg iter elt : Expr} {es ts elts ifs : List Expr} {d da db dc : D} {ds xs ys : List D} {pos p pos' apos tpos : Pos} {x m f : Str} {u v : Bool} {cl : Cell} {n kk : Nat} {il il2 : List Nat} {rest body : List Stmt} {Φ Ψ : Post} {scope : Scope} {own : List (Str × Nat)}
theorem bc_def {CX : CXT} {qual : Str} {fa : Addr} {cdv : Value} {A : Around} {outer : List Env} {s : Shared} {H : Hp} {E : XK} (h : defC N ps scope V Gs = true) (hr : Room k (A.deeper (envOfC qual scope s.heap.objs.size fa cdv))) : Bc (cxOf CX P w K mg base N qual scope fa cdv A outer s H E).nox P w K mg base N V Gs k := by
  have S := defC_scope h
  unfold defC at h
  obtain ⟨h1, h⟩ := band h
  obtain ⟨h2, h⟩ := band h
  obtain ⟨h3, h⟩ := band h
  obtain ⟨h4, h⟩ := band h
  obtain ⟨h5, h⟩ := band h
  obtain ⟨h6, h⟩ := band h
  obtain ⟨h7, h⟩ := band h
  obtain ⟨h8, h⟩ := band h
  obtain ⟨h9, h10⟩ := band h
  refine ⟨rfl, rfl, rfl, rfl, rfl, rfl, S.nd, S.kind, fun i x n hV hN => ?_, fun i x n hV hN => ?_, fun i x n hV hn hN => ?_, fun i x hV hN => ?_, fun i x hN => ?_, fun j x hG => ?_, rfl, hr, rfl⟩
  · rcases kindC_ok h8 hV hN with q | ⟨_, q⟩ | ⟨_, q⟩ | ⟨_, q⟩
    · cases q
    · exact .inr (.inr q)
    · exact .inr (.inl q)
    · exact .inl q
  · rcases kindC_ok h8 hV hN with q | ⟨e, q⟩ | ⟨_, q⟩ | ⟨_, q⟩
    · cases q
    · omega
    · exact ⟨.inr q, .inl rfl⟩
    · exact ⟨.inl q, .inr q⟩
  · rcases kindC_ok h8 hV hN with q | ⟨e, q⟩ | ⟨_, q⟩ | ⟨e, q⟩
    · omega
    · exact .inr q
    · exact .inl q
    · omega
  · rcases kindC_ok h8 hV hN with q | ⟨e, q⟩ | ⟨e, q⟩ | ⟨_, q⟩
    · cases q
    · cases e
    · cases e
    · exact q
  · have q := List.all_eq_true.mp h9 x (List.mem_of_getElem? hN)
    obtain ⟨q1, q2⟩ := band q
    exact ⟨by simpa using q1, by simpa using q2⟩
  · exact gloC_ok h10 hG
/-- a def that ends with d, its cells as μ', more of its own besides -/
abbrev PF (d : D) (μ' : Mu) : Post := ⟨fun _ μ2 => d = .non ∧ ∃ ν, μ2 = μ' ++ ν, fun d2 μ2 => d2 = d ∧ ∃ ν, μ2 = μ' ++ ν⟩
abbrev st0 (N : List Str) (n : Nat) (ds : List D) : Rho := ds.map some ++ List.replicate (N.length - n) none
theorem sat_start {vs : List L2.V} {G H : Hp} {ds : List D} {μ : Mu} (hl : vs.length = n) (e : Ex G H) (r : Reps K G ds vs) (hc : CellsOk K G H μ) (nd : (μ.map (·.1)).Nodup) : Sat K ⟨G, H, μ.map (·.1)⟩ (st0 N n ds) μ (start N vs) G H := by
  refine ⟨e, ?_, fun i d hd => ?_, fun p c hp => ⟨(hc p c hp).1, (hc p c hp).2, .inr (List.mem_map.mpr ⟨_, hp, rfl⟩)⟩, nd, .refl _, fun a o h _ => h, fun a _ h => h, fun a ha => ?_⟩
  · unfold st0 L2.start
    rw [List.length_append, List.length_append, List.length_map, List.length_map, List.length_replicate, List.length_replicate, r.length, hl]
  · unfold st0 at hd
    have hi : i < ds.length := by
      by_cases hi : i < ds.length
      · exact hi
      · rw [List.getElem?_append_right (by simpa using hi), List.getElem?_replicate] at hd
        split at hd <;> cases hd
    rw [List.getElem?_append_left (by simpa using hi), List.getElem?_map] at hd
    cases q : ds[i]? with
    | none => rw [q] at hd; cases hd
    | some d' =>
      rw [q] at hd
      have e' : d' = d := by simpa using hd
      subst e'
      obtain ⟨v, h1, h2⟩ := r.get q
      refine ⟨v, ?_, h2⟩
      unfold L2.start
      have hiv : i < vs.length := by rw [← r.length]; exact hi
      rw [List.getElem?_append_left (by simpa using hiv), List.getElem?_map, h1]
      rfl
  · obtain ⟨⟨p, c⟩, hp, rfl⟩ := List.mem_map.mp ha
    exact (hc p c hp).1.ne
/-- THE RULE -/
theorem fn_ok {qual : Str} {params : Arguments} {fa : Addr} {fd : FuncData} {R : Con} (F : FunD K x qual params body scope [] [] fa fd) (hck : defC N ps scope V Gs = true) (hn : ps.length = n)
    (hbody : ∀ X Z ds μ d μ', Bc X P w K mg base N V Gs k → R ds μ d μ' → Z.xs = μ.map (·.1) → ds.length = n → DB K X Z (st0 N n ds) μ body (PF d μ')) : FnOk P w K mg base CX0 (k + 1) fa fd ps (spC K n R) := by
  refine F.ok (defC_scope hck) (fun vs H Q E h => ?_) fun cdv A outer s H vs Q E hr hsp => ?_
  · obtain ⟨G, ds, μ, d, μ', hl, _⟩ := h
    rw [hl, hn]
  · obtain ⟨G, ds, μ, d, μ', hl, e, r, hc, nd, hR, hm, hq⟩ := hsp
    refine ⟨_, PSs.nox pss_wss, ?_⟩
    have B := hbody _ ⟨G, H, μ.map (·.1)⟩ ds μ d μ' (bc_def (P := P) (w := w) (K := K) (mg := mg) (base := base) (CX := CX0) (outer := outer) (H := H) (E := E) hck hr) hR rfl (by rw [r.length]; exact hl)
    refine B _ G H (sat_start hl e r hc nd) _ (fun ρ' μ2 σ' G' H' hΦ e' S' => ?_) fun d2 μ2 v ρ' σ' G' H' hΦ e' S' r' => ?_
    · obtain ⟨rfl, ν, rfl⟩ := hΦ
      exact hq _ G' H' e' S'.gh (rep_v.mpr rfl) (fun p c hp => ⟨(S'.ce p c (List.mem_append_left _ hp)).1, (S'.ce p c (List.mem_append_left _ hp)).2.1⟩) S'.zh S'.zn
    · obtain ⟨rfl, ν, rfl⟩ := hΦ
      exact hq _ G' H' e' S'.gh r' (fun p c hp => ⟨(S'.ce p c (List.mem_append_left _ hp)).1, (S'.ce p c (List.mem_append_left _ hp)).2.1⟩) S'.zh S'.zn

/-! ### a constructor that leaves a list of its own behind -/
/-- C(..): a field names an owned list -/
def spN (K : PySem.W.Frag) (n : Nat) (Cl : Addr) (ns : List Str) (R : List D → (Addr → List D) → List D → Prop) : Sp := fun vs H Q _ => ∃ G q ds dz t, vs.length = n ∧ Ex G H ∧ Reps K G (.ref q :: ds) vs ∧ CellsOk K G H [(q, .ins Cl [] [])] ∧ R ds dz t ∧
  ∀ G' H' p1, Ex G G' → Ex G' H' → CellsOk K G' H' [(q, .ins Cl ns (dz p1)), (p1, .lst t)] → [q, p1].Nodup → H p1 = none → (∀ a o, H a = some o → a ≠ q → H' a = some o) → (∀ a, H a ≠ none → G a = none → G' a = none) → Q .non H'
structure KN (P : Program) (w : World) (K : PySem.W.Frag) (mg : Str → Option Value) (base : Heap) (k : Nat) (x : Str) (Cl : Addr) (n : Nat) (ns : List Str) (R : List D → (Addr → List D) → List D → Prop) : Prop where
  ex : ∃ f fd ps, mg x = some (.ref Cl) ∧ Mk K Cl f ∧ Binds K fd ps [] ∧ FnOk P w K mg base CX0 k f fd ps (spN K n Cl ns R)
theorem fn_okN {qual : Str} {params : Arguments} {fa : Addr} {fd : FuncData} {Cl : Addr} {ns : List Str} {R : List D → (Addr → List D) → List D → Prop} (F : FunD K x qual params body scope [] [] fa fd) (hck : defC N ps scope V Gs = true) (hn : ps.length = n)
    (hbody : ∀ X Z q ds dz t, Bc X P w K mg base N V Gs k → R ds dz t → Z.xs = [q] → ds.length + 1 = n → DB K X Z (st0 N n (.ref q :: ds)) [(q, .ins Cl [] [])] body ⟨fun _ μ2 => ∃ p1 ν, p1 ∉ Z.xs ∧ μ2 = [(q, .ins Cl ns (dz p1)), (p1, .lst t)] ++ ν, fun _ _ => False⟩) : FnOk P w K mg base CX0 (k + 1) fa fd ps (spN K n Cl ns R) := by
  refine F.ok (defC_scope hck) (fun vs H Q E h => ?_) fun cdv A outer s H vs Q E hr hsp => ?_
  · obtain ⟨G, q, ds, dz, t, hl, _⟩ := h
    rw [hl, hn]
  · obtain ⟨G, q, ds, dz, t, hl, e, r, hc, hR, hq⟩ := hsp
    refine ⟨_, PSs.nox pss_wss, ?_⟩
    have B := hbody _ ⟨G, H, [q]⟩ q ds dz t (bc_def (P := P) (w := w) (K := K) (mg := mg) (base := base) (CX := CX0) (outer := outer) (H := H) (E := E) hck hr) hR rfl (by rw [← hl, ← r.length]; rfl)
    refine B _ G H (sat_start (μ := [(q, .ins Cl [] [])]) hl e r hc (by simp)) _ (fun ρ' μ2 σ' G' H' hΦ e' S' => ?_) fun d2 μ2 v ρ' σ' G' H' hΦ e' S' r' => hΦ.elim
    obtain ⟨p1, ν, n1, rfl⟩ := hΦ
    have nd := S'.nd
    rw [map_fst_app, List.nodup_append] at nd
    refine hq G' H' p1 e' S'.gh (fun p c hp => ⟨(S'.ce p c (List.mem_append_left _ hp)).1, (S'.ce p c (List.mem_append_left _ hp)).2.1⟩) nd.1 ?_ (fun a o h1 h2 => S'.zh a o h1 (by simpa using h2)) S'.zn
    exact ((S'.ce p1 (.lst t) (List.mem_append_left _ (by simp))).2.2).resolve_right n1
/-- o.m(), o an instance made here that owns a list -/
theorem de_methZ {pl : Sem Bool} {j : Nat} {Cl : Addr} {ns : List Str} {dz : Addr → List D} {t : List D} {Rn : List D → (Addr → List D) → List D → Prop} {R : Con} {n' : Nat} {kn : Nat} {ps2 : Pos} (C : Bc X P w K mg base N V Gs k) (FN : KN P w K mg base kn x Cl n' ns Rn) (F : MC P w K mg base kf Cl ns m 1 R) (hG : Gs[j]? = some x) (ha : DA K X Z ρ [] (e :: es) ds []) (hN : Rn ds dz t) (hR : ∀ q p1, ∃ μ', R [.ref q] [(q, .ins Cl ns (dz p1)), (p1, .lst t)] d μ' ∧ μ'.map (·.1) = [q, p1])
    (hn : ds.length + 1 = n' := by rfl) (hk : kf ≤ k := by decide) (hkn : kn + 1 ≤ k := by decide)
    (he : starEach (e :: es) X.env = (false, eval e X.env) :: starEach es X.env := by rfl) (hpl : (backTo ps2 (starEach es X.env)).any (·.1) = false := by rfl)
    (ht : eval (.Call (.Attribute (.Call (.Name x p) (e :: es) [] ps2) m apos) [] [] pos) X.env = (do
      let ov ← eval (.Call (.Name x p) (e :: es) [] ps2) X.env
      standAt apos.atName
      let (f, first) ← holding [ov] (getMethod ov m pl)
      callWith pos f first (backTo pos (starEach [] X.env)) (backToKw pos (keywordEach [] X.env))) := by rfl) : DE K X Z ρ [] (.Call (.Attribute (.Call (.Name x p) (e :: es) [] ps2) m apos) [] [] pos) d [] := fun ν σ G H S Q qq => by
  obtain ⟨f1, fd1, ps1, h11, h12, h13, h14⟩ := FN.ex
  obtain ⟨f, fd, ps, h1, h2, h0, h3, h4⟩ := F.ex
  obtain ⟨g1, g2, _⟩ := C.glo j x hG
  have e1 := C.eP; have e2 := C.ew; have e3 := C.eK; have e4 := C.em; have e5 := C.eb
  subst e1 e2 e3 e4 e5
  refine we_of (pe_meth0 (pl := pl) (pe_make h12 h14 (C.room.mono hkn) g1 h11 h13 .nil pass0 pa_wa g2 he hpl) h1 h2 h4 (C.room.mono hk) h3 .nil pass0 ht) (ha ν σ G H S _ fun vs G1 H1 e1 S1 r1 x0 dx hx hdx hne => ?_)
  have E1 : Ext G1 H1 G1 (upd H1 dx (.own x0)) := Ext.hid S1.gh hdx
  have S2 := S1.ext E1
  have hx2 : (upd H1 dx (.own x0)) x0 = none := by rw [upd_ne (fun z => hne z.symm)]; exact hx
  have S3 : Sat X.K Z ρ ((([] : Mu) ++ ν) ++ [(x0, .ins Cl [] [])]) σ G1 (upd (upd H1 dx (.own x0)) x0 (.ins Cl dx [])) := S2.own hx2 ⟨dx, [], by rw [upd_same]; rfl, rfl, Reps.nil⟩
  rw [List.append_nil]
  have nd3 := S3.nd
  rw [map_fst_app, List.nodup_append] at nd3
  have hc0 := S3.ce x0 _ (List.mem_append_right _ (List.mem_singleton.mpr rfl))
  refine ⟨G1, x0, ds, dz, t, by have := r1.length; simp; omega, S3.gh, Reps.cons (rep_v.mpr rfl) r1, fun p c hp => ?_, hN, fun G4 H4 p1 e4 gh4 hc nd hp1 hh hnw => ⟨rfl, ?_⟩⟩
  · cases List.mem_singleton.mp hp
    exact ⟨hc0.1, hc0.2.1⟩
  · -- the state behind the constructor
    have hz1 := S3.zfresh hp1
    have SA : Sat X.K Z ρ ([(x0, .ins Cl ns (dz p1)), (p1, .lst t)] ++ [] ++ ν) σ G4 H4 := by
      have hν : ∀ p c, (p, c) ∈ ν → p ≠ x0 := fun p c hp z => nd3.2.2 p (List.mem_map.mpr ⟨(p, c), by simpa using hp, rfl⟩) x0 (by simp) z
      refine ⟨gh4, S3.ln, fun i d h => ?_, fun p c h => ?_, ?_, S3.zg.trans e4, fun a o h1 h2 => ?_, fun a h1 h2 => ?_, fun a ha => ?_⟩
      · obtain ⟨v, a1, a2⟩ := S3.sl i d h
        exact ⟨v, a1, a2.mono e4⟩
      · rw [List.append_nil] at h
        rcases List.mem_append.mp h with h | h
        · refine ⟨(hc p c h).1, (hc p c h).2, ?_⟩
          simp only [List.mem_cons, List.not_mem_nil, or_false, Prod.mk.injEq] at h
          rcases h with ⟨rfl, _⟩ | ⟨rfl, _⟩
          · exact hc0.2.2
          · exact .inl hz1.1
        · obtain ⟨a1, a2, a3⟩ := S3.ce p c (by simp [h])
          exact ⟨a1.keep e4 fun o q => hh p o q (hν p c h), hnw p a1.ne a2, a3⟩
      · rw [List.append_nil, map_fst_app, List.nodup_append]
        refine ⟨nd, by simpa using nd3.1, fun a ha b hb => ?_⟩
        rintro rfl
        obtain ⟨⟨b, c⟩, hb', rfl⟩ := List.mem_map.mp hb
        have hne' := hν b c hb'
        have hbH := (S3.ce b c (by simp [hb'])).1.ne
        simp only [List.map_cons, List.map_nil, List.mem_cons, List.not_mem_nil, or_false] at ha
        rcases ha with rfl | rfl
        · exact hne' rfl
        · exact hbH hp1
      · by_cases hax : a = x0
        · subst hax
          have := S2.zfresh hx2
          rw [this.1] at h1; cases h1
        · exact hh a o (S3.zh a o h1 h2) hax
      · refine hnw a ?_ (S3.zn a h1 h2)
        by_cases hx : a ∈ Z.xs
        · exact S3.zx a hx
        · cases q : Z.H a with
          | none => exact absurd q h1
          | some o => rw [S3.zh a o q hx]; simp
      · by_cases hax : a = x0
        · subst hax
          exact (hc a (.ins Cl ns (dz p1)) (by simp)).1.ne
        · cases q : (upd (upd H1 dx (.own x0)) x0 (.ins Cl dx [])) a with
          | none => exact absurd q (S3.zx a ha)
          | some o => rw [hh a o q hax]; simp
    obtain ⟨dx4, vs4, c1, c2, c3⟩ := (SA.ce x0 (.ins Cl ns (dz p1)) (by simp)).1
    refine ⟨x0, dx4, _, rfl, c1, look_none h0, ?_⟩
    show spC _ _ _ (.ref x0 :: ([] ++ [])) H4 Q E0
    obtain ⟨μ', hR1, hR2⟩ := hR x0 p1
    refine spC_call (μr := []) SA (Reps.cons (rep_v.mpr rfl) Reps.nil) rfl hR1 (by rw [hR2]; rfl) fun v G5 H5 e5 S5 r5 => qq v G5 H5 ((e1.trans e4).trans e5) (S5.mono (fun r hr => ?_) ?_) r5
    · rw [List.append_assoc]; exact List.mem_append_right _ (by simpa using hr)
    · simpa using nd3.1
end
end NC

set_option Elab.async false
set_option linter.all false
set_option autoImplicit false
set_option maxRecDepth 100000
set_option maxHeartbeats 4000000
/-! Dicts by ints, choices. -/
namespace NC
open PySem PySem.Spec PyProof.Rows L2
section
variable {P : Program} {w : World} {K : PySem.W.Frag} {mg : Str → Option Value} {base : Heap} {N ps : List Str} {V V' : List Nat} {Gs Gs' : List Str} {k kf : Nat}
variable {X : Cx} {Z : Zed} {ρ ρ1 ρ2 ρ' : Rho} {μ μ1 μ2 μ3 : Mu} {a b c e o tg iter elt e2 : Expr} {es ts elts ifs : List Expr} {d da db dc : D} {ds xs ys : List D} {pos p pos' apos tpos : Pos} {x m f : Str} {u v : Bool} {cl : Cell} {n kk : Nat} {il il2 : List Nat} {rest body : List Stmt} {Φ Ψ : Post} {scope : Scope} {own : List (Str × Nat)}
theorem Bc.u1 (C : Bc X P w K mg base N V Gs k) : X.A.units + 1 < cLine := by have := C.u64; omega
/-- x if c else y -/
theorem de_ite (h : DT K X Z ρ μ c u μ1) (h1 : DE K X Z ρ μ1 a da μ2) (h2 : DE K X Z ρ μ1 b db μ2) : DE K X Z ρ μ (.IfExp c a b pos) (if u then da else db) μ2 :=
  de_ifE h (fun e => by rw [e]; exact h1) (fun e => by rw [e]; exact h2)
theorem at_b2n : atI [da, db] (b2n u) = some (if u then db else da) := by cases u <;> rfl
theorem at_b2nF {q r : Rat} : atI [eF q, eF r] (b2n u) = some (eF (if u then r else q)) := by cases u <;> rfl

/-! ### dicts -/
theorem dl_dict0 : DL K X Z ρ μ (.Dict [] [] pos) (.dic [] []) μ := fun ν σ G H S Q q =>
  we_of pe_dnewK fun l hl => q l G _ (.refl _) (S.zfresh hl).2 (S.own hl ⟨[], upd_same, rfl, Reps.nil⟩)
theorem dl_dict1 (j : Nat) {i : Int} (C : Bc X P w K mg base N V Gs k) (hG : Gs[j]? = some ("dict" : Str)) (hm : mg "dict" = none) (ha : DE K X Z ρ μ a (.lst [.tup [.int i, d]]) μ1) (hs : starEach [a] X.env = [(false, eval a X.env)] := by rfl) : DL K X Z ρ μ (.Call (.Name "dict" p) [a] [] pos) (.dic [i] [d]) μ1 := fun ν σ G H S Q q => by
  obtain ⟨g1, g2, g3⟩ := C.glo j _ hG
  refine we_of (pe_callTy (call_dictP C.calm) g1 (by rw [C.em]; exact hm) bt_dict (pa_cons pe_we pa_nil hs) g3 g2 hs) (ha ν σ G H S _ fun v G1 H1 e1 S1 r1 => ?_)
  obtain ⟨l, vs, rfl, h1, h2⟩ := rep_lst.mp r1
  obtain ⟨z, rfl, h3⟩ := reps1 h2
  obtain ⟨t, us, rfl, h4, h5⟩ := rep_tup.mp h3
  obtain ⟨x1, y1, rfl, h6, h7⟩ := reps2 h5
  rw [rep_v.mp h6] at h4
  rw [C.eK]
  refine ⟨l, [t], [(.inl i, y1)], rfl, .inl (.inl (S1.gh _ _ h1)), .cons (S1.gh.t h4) .nil, fun q2 hq2 => ?_⟩
  exact q q2 G1 _ e1 (S1.zfresh hq2).2 (S1.own hq2 ⟨[y1], upd_same, rfl, Reps.cons h7 Reps.nil⟩)
theorem val_none {ks : List Int} {i : Int} : ∀ {vs : List L2.V}, i ∉ ks → L2.valV ((ks.map Sum.inl).zip vs : List (Key × L2.V)) (.inl i) = none := by
  induction ks with
  | nil => intro vs _; simp [L2.valV]
  | cons k ks ih =>
    intro vs h
    cases vs with
    | nil => simp [L2.valV]
    | cons v vs =>
      have h1 : ¬ k = i := fun e => h (by simp [e])
      show L2.valV (((Sum.inl k : Key), v) :: (ks.map Sum.inl).zip vs) (.inl i) = none
      rw [L2.valV_neg (by simpa using h1)]
      exact ih fun z => h (List.mem_cons_of_mem _ z)
theorem zip_app {α β : Type} {as : List α} {bs : List β} (h : as.length = bs.length) (a : α) (b : β) : as.zip bs ++ [(a, b)] = (as ++ [a]).zip (bs ++ [b]) := by
  rw [List.zip_append h]; rfl
/-- o[i] = e, a new key -/
theorem db_dput (j : Nat) {q : Addr} {ks : List Int} {i : Int} (C : Bc X P w K mg base N V Gs k) (he : DE K X Z ρ μ e d μ1) (ho : DE K X Z ρ μ1 o (.ref q) μ2) (hi : DE K X Z ρ μ2 a (.int i) μ3) (hj : μ3[j]? = some (q, .dic ks ds)) (hn : i ∉ ks) (hl : ks.length < 100000) (hr : DB K X Z ρ (μ3.set j (q, .dic (ks ++ [i]) (ds ++ [d]))) rest Φ)
    (hs : swapsWith e (some (.Subscript o a pos')) pos.line X.env = pure false := by rfl) : DB K X Z ρ μ (.Assign [.Subscript o a pos'] e pos :: rest) Φ := fun σ G H S D q1 q2 => by
  refine wss_cons (ps_dput C.u1 pe_we pe_we pe_we hs) ?_
  refine he.at0 S fun v G1 H1 e1 S1 r1 => ho.at0 S1 fun v2 G2 H2 e2 S2 r2 => hi.at0 S2 fun v3 G3 H3 e3 S3 r3 => ?_
  have h2 := rep_v.mp r2
  have h3 := rep_v.mp r3
  subst h2 h3
  obtain ⟨vs, g1, g2, g3⟩ := cell_in S3 hj
  refine ⟨q, _, rfl, DPut.k (k := .inl i) g1 ?_, ?_⟩
  · rw [List.length_zip, List.length_map]
    exact Nat.lt_of_le_of_lt (Nat.min_le_left _ _) (sz100' hl)
  · rw [L2.putK_new _ (val_none hn)]
    have S4 := S3.write (o := .dK ((ks.map Sum.inl).zip vs ++ [(.inl i, v)])) (c' := .dic (ks ++ [i]) (ds ++ [d])) hj ⟨vs ++ [v], by rw [upd_same, zip_app (by simpa using g2), List.map_append]; rfl, by simp [g2], g3.app (Reps.cons (r1.mono (e2.trans e3)) Reps.nil)⟩
    exact hr σ G3 _ S4 D (fun ρ' μ' σ' G' H' z e4 => q1 ρ' μ' σ' G' H' z (((e1.trans e2).trans e3).trans e4)) fun d μ' v ρ' σ' G' H' z e4 => q2 d μ' v ρ' σ' G' H' z (((e1.trans e2).trans e3).trans e4)
def lookD : List Int → List D → Int → Option D
  | k :: ks, d :: ds, i => if k = i then some d else lookD ks ds i
  | _, _, _ => none
theorem look_rep {G : Hp} {i : Int} : ∀ {ks : List Int} {ds : List D} {vs : List L2.V}, ks.length = vs.length → Reps K G ds vs → match lookD ks ds i with | some d => ∃ v, L2.valV ((ks.map Sum.inl).zip vs : List (Key × L2.V)) (.inl i) = some v ∧ Rep K G d v | none => L2.valV ((ks.map Sum.inl).zip vs : List (Key × L2.V)) (.inl i) = none
  | [], ds, vs, h, r => by simp [lookD, L2.valV]
  | k :: ks, [], vs, h, r => by rw [reps_nil.mp r] at h; cases h
  | k :: ks, d :: ds, [], h, r => by cases h
  | k :: ks, d :: ds, v :: vs, h, r => by
    obtain ⟨v', r', e, r1, r2⟩ := reps_cons.mp r
    cases e
    by_cases hk : k = i
    · subst hk
      simp only [lookD, if_true]
      exact ⟨v, by simp [L2.valV], r1⟩
    · simp only [lookD, if_neg hk]
      have ih := look_rep (i := i) (ks := ks) (ds := ds) (vs := vs) (by simpa using h) r2
      have e : L2.valV (((k :: ks).map Sum.inl).zip (v :: vs) : List (Key × L2.V)) (.inl i) = L2.valV ((ks.map Sum.inl).zip vs : List (Key × L2.V)) (.inl i) := by
        show L2.valV (((Sum.inl k : Key), v) :: (ks.map Sum.inl).zip vs) (.inl i) = _
        rw [L2.valV_neg (by simpa using hk)]
      rw [e]
      exact ih
/-- o.get(i, e) -/
theorem de_dget2 (j : Nat) {q : Addr} {ks : List Int} {i : Int} {cpos : Pos} (C : Bc X P w K mg base N V Gs k) (ho : DE K X Z ρ μ o (.ref q) μ) (hi : DE K X Z ρ μ a (.int i) μ) (he : DE K X Z ρ μ e d μ) (hj : μ[j]? = some (q, .dic ks ds)) (hm : M2 X o "get" apos a e cpos := by exact ⟨by rfl, by rfl, by rfl, by rfl⟩) : DE K X Z ρ μ (.Call (.Attribute o "get" apos) [a, e] [] cpos) ((lookD ks ds i).getD d) μ := fun ν σ G H S Q qq => by
  have hjl := (List.getElem?_eq_some_iff.mp hj).1
  have hj' : (μ ++ ν)[j]? = some (q, .dic ks ds) := by rw [List.getElem?_append_left hjl]; exact hj
  refine we_of (pe_dget2 C.u1 pe_we pe_we pe_we hm) ?_
  refine ho ν σ G H S _ fun v1 G1 H1 e1 S1 r1 => ?_
  have h1 := rep_v.mp r1
  subst h1
  obtain ⟨vs1, g1, _⟩ := cell_in S1 hj'
  refine ⟨q, rfl, .inl ⟨_, .inl g1⟩, hi ν σ G1 H1 S1 _ fun v2 G2 H2 e2 S2 r2 => he ν σ G2 H2 S2 _ fun v3 G3 H3 e3 S3 r3 => ?_⟩
  have h2 := rep_v.mp r2
  subst h2
  obtain ⟨vs, g1, g2, g3⟩ := cell_in S3 hj'
  refine ⟨_, DGet.k (k := .inl i) g1, ?_⟩
  have L := look_rep (i := i) g2 g3
  cases q1 : lookD ks ds i with
  | some d1 =>
    rw [q1] at L
    obtain ⟨v, l1, l2⟩ := L
    rw [l1]
    exact qq _ G3 H3 ((e1.trans e2).trans e3) S3 (by rw [q1]; exact l2)
  | none =>
    rw [q1] at L
    rw [L]
    exact qq _ G3 H3 ((e1.trans e2).trans e3) S3 (by rw [q1]; exact r3)
end
end NC

set_option Elab.async false
set_option linter.all false
set_option autoImplicit false
set_option maxRecDepth 100000
set_option maxHeartbeats 4000000
namespace NC
open PySem PySem.Spec PyProof.Rows L2

/-! ### what the head tells -/
structure Hd (P : Program) (w : World) (K : PySem.W.Frag) (mg : Str → Option Value) (base : Heap) : Prop where
  sD : ∀ (i : Nat) (d : He.DefD), fnL[i]? = some d → ∃ fd, FunD K d.name d.qual d.params d.body d.scope [] [] (He.fAd K d.at_) fd
  glo : ∀ (j : Nat) (x : Str), glos[j]? = some x → mg x = some (.ref (He.ga K x))
  free : ∀ (j : Nat) (x : Str), frees[j]? = some x → mg x = none
  int : ∀ (j : Nat) (x : Str) (i : Int), intL[j]? = some (x, i) → ∃ t, mg x = some (.int i t)
  tup : ∀ (j : Nat) (x : Str) (a b : Int), tupL[j]? = some (x, (a, b)) → mg x = some (.ref (He.ga K x)) ∧ ∀ H, SqT K H (He.ga K x) [.int a, .int b]
  cls : ∀ (j : Nat) (C : Str) (ns : List Str), clsL[j]? = some (C, ns) → ClsD K (He.ga K C) ns
  mkr : ∀ (j : Nat) (C C' : Str), mkL[j]? = some (C, C') → Mk K (He.ga K C) (He.fAd K (C', some "__init__"))
  me : ∀ (j : Nat) (C m C' : Str), meL[j]? = some (C, m, C') → Meth K (He.ga K C) m (He.fAd K (C', some m))
  kit : ∀ (j : Nat) (a b : String) (u : Bool), kitL[j]? = some (a, b, u) → PySem.W.kitOne K (.type a) (.type b) = some u
  kitLT : PySem.W.kitAny K (.type "list") [.type "list", .type "tuple"] = some true
  kitTT : PySem.W.kitAny K (.type "tuple") [.type "list", .type "tuple"] = some true
  ins : ∀ (j : Nat) (a b : Str) (u : Bool), insL[j]? = some (a, b, u) → PySem.W.kitOne K (.ref (He.ga K a)) (.ref (He.ga K b)) = some u ∧ PySem.W.findIn K (.ref (He.ga K a)) "__class__" = some (some (.builtin "object.__class__")) ∧ PySem.W.specialIn K (.builtin "object.__class__") "__get__" = some (some (.builtin "getset_descriptor.__get__")) ∧ PySem.W.takesIn K (.builtin "object.__class__") = some true ∧ PySem.W.mroIn K (He.ga K a) (.type "object") = some true
  cread : ∃ mc, ClX.CRead K (He.ga K "Cases") mc ∧ ClX.CVal K (He.ga K "Cases") mc "__init__" (.ref (He.fAd K ("Cases", some "__init__"))) (.ref (He.fAd K ("Cases", some "__init__"))) ∧ PySem.W.keepIn K (.ref (He.fAd K ("Cases", some "__init__"))) = true
section
variable {P : Program} {w : World} {K : PySem.W.Frag} {mg : Str → Option Value} {base : Heap} {N ps : List Str} {V : List Nat} {Gs : List Str} {k n : Nat}
/-- a constant: an int, a pair of ints -/
theorem Hd.cI (h : Hd P w K mg base) (j : Nat) {x : Str} {i : Int} (e : intL[j]? = some (x, i)) : GloD K mg x (.int i) := by
  obtain ⟨t, e1⟩ := h.int j x i e
  exact ⟨_, .int i, e1, ⟨t, rfl⟩, fun G => rep_v.mpr rfl⟩
theorem Hd.cT (h : Hd P w K mg base) (j : Nat) {x : Str} {a b : Int} (e : tupL[j]? = some (x, (a, b))) : GloD K mg x (.tup [.int a, .int b]) := by
  obtain ⟨e1, e2⟩ := h.tup j x a b e
  exact ⟨_, .ref (He.ga K x), e1, rfl, fun G => rep_tup.mpr ⟨_, _, rfl, e2 G, Reps.cons (rep_v.mpr rfl) (Reps.cons (rep_v.mpr rfl) Reps.nil)⟩⟩
/-- a def, a class as a value -/
theorem Hd.cR (h : Hd P w K mg base) (j : Nat) {x : Str} (e : glos[j]? = some x) : GloD K mg x (.ref (He.ga K x)) := ⟨_, .ref (He.ga K x), h.glo j x e, rfl, fun G => rep_v.mpr rfl⟩
theorem mk_ok (h : Hd P w K mg base) (i : Nat) {R : Con} {d : He.DefD} (hi : fnL[i]? = some d) (hck : defC N ps d.scope V Gs = true) (hn : ps.length = n)
    (hb : ∀ (kV doc pm : Value) (an : Option Addr) (cdv ct : Value) (us : List Value), us.length = ps.length → bindArgs (PySem.W.fnOf d.name d.qual d.params d.body d.scope .none kV doc pm an cdv ct) ⟨us, []⟩ = pure (ps.zip us))
    (hbody : ∀ X Z ds μ r μ', Bc X P w K mg base N V Gs k → R ds μ r μ' → Z.xs = μ.map (·.1) → ds.length = n → DB K X Z (st0 N n ds) μ d.body (PF r μ')) : ∃ fd, PySem.W.keepIn K (.ref (He.fAd K d.at_)) = true ∧ Binds K fd ps [] ∧ FnOk P w K mg base CX0 (k + 1) (He.fAd K d.at_) fd ps (spC K n R) := by
  obtain ⟨fd, F⟩ := h.sD i d hi
  exact ⟨fd, F.kp, F.bindsN hb, fn_ok F hck hn hbody⟩
/-- .. of a global -/
theorem mk_fc (h : Hd P w K mg base) (i j : Nat) {R : Con} {d : He.DefD} {x : Str} (hi : fnL[i]? = some d) (hj : glos[j]? = some x) (hat : d.at_ = (x, none)) (hck : defC N ps d.scope V Gs = true) (hn : ps.length = n)
    (hb : ∀ (kV doc pm : Value) (an : Option Addr) (cdv ct : Value) (us : List Value), us.length = ps.length → bindArgs (PySem.W.fnOf d.name d.qual d.params d.body d.scope .none kV doc pm an cdv ct) ⟨us, []⟩ = pure (ps.zip us))
    (hbody : ∀ X Z ds μ r μ', Bc X P w K mg base N V Gs k → R ds μ r μ' → Z.xs = μ.map (·.1) → ds.length = n → DB K X Z (st0 N n ds) μ d.body (PF r μ')) : FC P w K mg base (k + 1) x n R := by
  obtain ⟨fd, h1, h2, h3⟩ := mk_ok h i hi hck hn hb hbody
  rw [hat] at h1 h3
  exact ⟨⟨_, fd, ps, h.glo j x hj, h1, h2, h3⟩⟩
/-- .. by its address -/
theorem mk_fa (h : Hd P w K mg base) (i : Nat) {R : Con} {d : He.DefD} {x : Str} (hi : fnL[i]? = some d) (hat : d.at_ = (x, none)) (hck : defC N ps d.scope V Gs = true) (hn : ps.length = n)
    (hb : ∀ (kV doc pm : Value) (an : Option Addr) (cdv ct : Value) (us : List Value), us.length = ps.length → bindArgs (PySem.W.fnOf d.name d.qual d.params d.body d.scope .none kV doc pm an cdv ct) ⟨us, []⟩ = pure (ps.zip us))
    (hbody : ∀ X Z ds μ r μ', Bc X P w K mg base N V Gs k → R ds μ r μ' → Z.xs = μ.map (·.1) → ds.length = n → DB K X Z (st0 N n ds) μ d.body (PF r μ')) : FA P w K mg base (k + 1) (He.ga K x) n R := by
  obtain ⟨fd, h1, h2, h3⟩ := mk_ok h i hi hck hn hb hbody
  rw [hat] at h1 h3
  exact ⟨⟨fd, ps, h1, h2, h3⟩⟩
/-- a method that is walked: as the class C has it, whose own or base's def it is -/
structure MO (P : Program) (w : World) (K : PySem.W.Frag) (mg : Str → Option Value) (base : Heap) (k : Nat) (p : Str × Option Str) (n : Nat) (R : Con) : Prop where
  ex : ∃ fd ps, PySem.W.keepIn K (.ref (He.fAd K p)) = true ∧ Binds K fd ps [] ∧ FnOk P w K mg base CX0 k (He.fAd K p) fd ps (spC K n R)
theorem mk_mo (h : Hd P w K mg base) (i : Nat) {R : Con} {d : He.DefD} {p : Str × Option Str} (hi : fnL[i]? = some d) (hat : d.at_ = p) (hck : defC N ps d.scope V Gs = true) (hn : ps.length = n)
    (hb : ∀ (kV doc pm : Value) (an : Option Addr) (cdv ct : Value) (us : List Value), us.length = ps.length → bindArgs (PySem.W.fnOf d.name d.qual d.params d.body d.scope .none kV doc pm an cdv ct) ⟨us, []⟩ = pure (ps.zip us))
    (hbody : ∀ X Z ds μ r μ', Bc X P w K mg base N V Gs k → R ds μ r μ' → Z.xs = μ.map (·.1) → ds.length = n → DB K X Z (st0 N n ds) μ d.body (PF r μ')) : MO P w K mg base (k + 1) p n R := by
  obtain ⟨fd, h1, h2, h3⟩ := mk_ok h i hi hck hn hb hbody
  rw [hat] at h1 h3
  exact ⟨⟨fd, ps, h1, h2, h3⟩⟩
theorem MO.mc {R : Con} {C C' m : Str} {ns : List Str} (M : MO P w K mg base k (C', some m) n R) (h : Hd P w K mg base) (j i : Nat) (hj : meL[j]? = some (C, m, C')) (hi : clsL[i]? = some (C, ns)) (hm : m ∉ ns := by decide) : MC P w K mg base k (He.ga K C) ns m n R := by
  obtain ⟨fd, ps, h1, h2, h3⟩ := M.ex
  exact ⟨⟨_, fd, ps, (h.cls i C ns hi).cl, h.me j C m C' hj, hm, h2, h3⟩⟩
theorem MO.kc {R : Con} {C C' : Str} (M : MO P w K mg base k (C', some "__init__") n R) (h : Hd P w K mg base) (j i : Nat) (hj : mkL[j]? = some (C, C')) (hi : glos[i]? = some C) : KC P w K mg base k C (He.ga K C) n R := by
  obtain ⟨fd, ps, h1, h2, h3⟩ := M.ex
  exact ⟨⟨_, fd, ps, h.glo i C hi, h.mkr j C C' hj, h2, h3⟩⟩
theorem MO.bc {R : Con} (M : MO P w K mg base k ("Cases", some "__init__") n R) (h : Hd P w K mg base) (i : Nat) (hi : glos[i]? = some "Cases") : BC P w K mg base k "Cases" (He.ga K "Cases") "__init__" n R := by
  obtain ⟨fd, ps, h1, h2, h3⟩ := M.ex
  obtain ⟨mc, c1, c2, c3⟩ := h.cread
  exact ⟨⟨_, fd, ps, mc, h.glo i _ hi, c1, c2, c3, h2, h3⟩⟩
end
end NC


set_option Elab.async false
set_option linter.all false
set_option autoImplicit false
set_option maxRecDepth 100000
set_option maxHeartbeats 4000000
/-! Rules with cells in front; sizes; the numbers' contracts. -/
namespace NC
open PySem PySem.Spec PyProof.Rows L2
theorem ClsV_int : ClsV (.ty "int") (.type "int") := by constructor
theorem ClsV_bool : ClsV (.ty "bool") (.type "bool") := by constructor
theorem ClsV_str : ClsV (.ty "str") (.type "str") := by constructor
theorem ClsV_tuple : ClsV (.ty "tuple") (.type "tuple") := by constructor
theorem ClsV_list : ClsV (.ty "list") (.type "list") := by constructor
section
variable {P : Program} {w : World} {K : PySem.W.Frag} {mg : Str → Option Value} {base : Heap} {N : List Str} {V : List Nat} {Gs : List Str} {k kf : Nat}
variable {X : Cx} {Z : Zed} {ρ : Rho} {μ μ1 μ2 μ3 μa' : Mu} {a b c e o : Expr} {es : List Expr} {d da db dc : D} {ds : List D} {pos p pos' apos : Pos} {x m : Str} {u v : Bool} {cl : Cell} {n : Nat} {R : Con}
/-- f(e, ..), the first na cells go in -/
theorem de_callC (na j : Nat) (C : Bc X P w K mg base N V Gs k) (F : FC P w K mg base kf x n R) (hG : Gs[j]? = some x) (ha : DA K X Z ρ μ (e :: es) ds μ1) (hR : R ds (μ1.take na) d μa') (hn : ds.length = n) (hk : kf ≤ k) (hm : μa'.map (·.1) = (μ1.take na).map (·.1) := by rfl)
    (he : starEach (e :: es) X.env = (false, eval e X.env) :: starEach es X.env := by rfl) (hpl : (backTo pos (starEach es X.env)).any (·.1) = false := by rfl) : DE K X Z ρ μ (.Call (.Name x p) (e :: es) [] pos) d (μa' ++ μ1.drop na) :=
  de_call (μa := μ1.take na) (μr := μ1.drop na) j C F hG (by rw [List.take_append_drop]; exact ha) hR hn hk hm he hpl
theorem de_methP {pl : Sem Bool} {Cl : Addr} {ns : List Str} {dso : List D} {R : List D → D → Prop} (C : Bc X P w K mg base N V Gs k) (F : MC P w K mg base kf Cl ns m n (Pu R)) (ho : DE K X Z ρ μ o (.ins Cl ns dso) μ1) (ha : DA K X Z ρ μ1 (e :: es) ds μ2) (hR : R (.ins Cl ns dso :: ds) d) (hn : ds.length + 1 = n) (hk : kf ≤ k)
    (hst : starEach (e :: es) X.env = (false, eval e X.env) :: starEach es X.env := by rfl) (hpl : (backTo pos (starEach es X.env)).any (·.1) = false := by rfl)
    (ht : eval (.Call (.Attribute o m apos) (e :: es) [] pos) X.env = (do
      let ov ← eval o X.env
      standAt apos.atName
      let (f, first) ← holding [ov] (getMethod ov m pl)
      callWith pos f first (backTo pos (starEach (e :: es) X.env)) (backToKw pos (keywordEach [] X.env))) := by rfl) : DE K X Z ρ μ (.Call (.Attribute o m apos) (e :: es) [] pos) d μ2 :=
  de_meth (pl := pl) (μa := []) (μa' := []) (μr := μ2) C F ho ha ⟨rfl, rfl, hR⟩ hn hk rfl hst hpl ht
theorem de_methP0 {pl : Sem Bool} {Cl : Addr} {ns : List Str} {dso : List D} {R : List D → D → Prop} (C : Bc X P w K mg base N V Gs k) (F : MC P w K mg base kf Cl ns m n (Pu R)) (ho : DE K X Z ρ μ o (.ins Cl ns dso) μ1) (hR : R [.ins Cl ns dso] d) (hn : 1 = n) (hk : kf ≤ k)
    (ht : eval (.Call (.Attribute o m apos) [] [] pos) X.env = (do
      let ov ← eval o X.env
      standAt apos.atName
      let (f, first) ← holding [ov] (getMethod ov m pl)
      callWith pos f first (backTo pos (starEach [] X.env)) (backToKw pos (keywordEach [] X.env))) := by rfl) : DE K X Z ρ μ (.Call (.Attribute o m apos) [] [] pos) d μ1 :=
  de_meth0 (pl := pl) (μa := []) (μa' := []) (μr := μ1) C F ho ⟨rfl, rfl, hR⟩ hn hk rfl ht
theorem de_methC (na i : Nat) {pl : Sem Bool} {q : Addr} {Cl : Addr} {ns : List Str} {dso : List D} (C : Bc X P w K mg base N V Gs k) (F : MC P w K mg base kf Cl ns m n R) (ho : DE K X Z ρ μ o (.ref q) μ1) (hi : μ1[i]? = some (q, .ins Cl ns dso)) (ha : DA K X Z ρ μ1 (e :: es) ds μ2) (hR : R (.ref q :: ds) (μ2.take na) d μa') (hn : ds.length + 1 = n) (hk : kf ≤ k) (hm : μa'.map (·.1) = (μ2.take na).map (·.1) := by rfl)
    (hst : starEach (e :: es) X.env = (false, eval e X.env) :: starEach es X.env := by rfl) (hpl : (backTo pos (starEach es X.env)).any (·.1) = false := by rfl)
    (ht : eval (.Call (.Attribute o m apos) (e :: es) [] pos) X.env = (do
      let ov ← eval o X.env
      standAt apos.atName
      let (f, first) ← holding [ov] (getMethod ov m pl)
      callWith pos f first (backTo pos (starEach (e :: es) X.env)) (backToKw pos (keywordEach [] X.env))) := by rfl) : DE K X Z ρ μ (.Call (.Attribute o m apos) (e :: es) [] pos) d (μa' ++ μ2.drop na) :=
  de_methO (pl := pl) (μa := μ2.take na) (μr := μ2.drop na) i C F ho hi (by rw [List.take_append_drop]; exact ha) hR hn hk hm hst hpl ht
theorem de_methC0 (na i : Nat) {pl : Sem Bool} {q : Addr} {Cl : Addr} {ns : List Str} {dso : List D} (C : Bc X P w K mg base N V Gs k) (F : MC P w K mg base kf Cl ns m n R) (ho : DE K X Z ρ μ o (.ref q) μ1) (hi : μ1[i]? = some (q, .ins Cl ns dso)) (hR : R [.ref q] (μ1.take na) d μa') (hn : 1 = n) (hk : kf ≤ k) (hm : μa'.map (·.1) = (μ1.take na).map (·.1) := by rfl)
    (ht : eval (.Call (.Attribute o m apos) [] [] pos) X.env = (do
      let ov ← eval o X.env
      standAt apos.atName
      let (f, first) ← holding [ov] (getMethod ov m pl)
      callWith pos f first (backTo pos (starEach [] X.env)) (backToKw pos (keywordEach [] X.env))) := by rfl) : DE K X Z ρ μ (.Call (.Attribute o m apos) [] [] pos) d (μa' ++ μ1.drop na) :=
  de_methO0 (pl := pl) (μa := μ1.take na) (μr := μ1.drop na) i C F (by rw [List.take_append_drop]; exact ho) (by rw [List.take_append_drop]; exact hi) hR hn hk hm ht
theorem sw_pair {env : Env} {x y : Str} {px py pt pt2 : Pos} {kt k2 : Nat} (hk : env.scope.kind = .function) (hx : env.scope.names.lookup x = some .local) (hy : env.scope.names.lookup y = some .local) (hxy : (y == x) = false) (hl : (py.line == px.line) = true)
    (hs : ([a, b].any fun | .Starred .. => true | _ => false) = false) (hf : [a, b].all (foldedForSure 8) = false) (hc : [a, b].all (constantsAlone 8) = false) : swappedStores [.Tuple [.Name x px, .Name y py] kt pt] (.Tuple [a, b] k2 pt2) env = pure (some [x, y]) := by
  unfold swappedStores
  have h1 : env.blockKind = .function := by unfold Env.blockKind; rw [hk]; rfl
  have h2 : env.kindOf x = some .local := hx
  have h3 : env.kindOf y = some .local := hy
  have hl' : py.line = px.line := by simpa using hl
  have e1 : Expr.pos (.Name x px) = px := rfl
  have ee : ([x, y] : List Str).eraseDups.length = 2 := by
    rw [List.eraseDups_cons]
    simp only [List.filter_cons, List.filter_nil, hxy, Bool.not_false, if_true, List.eraseDups_cons, List.eraseDups_nil, List.length_cons, List.length_nil]
  simp only [h1, h2, h3, hs, hf, hc, List.filterMap_cons, List.filterMap_nil, List.head?_cons, Option.map_some, Option.getD_some, e1, hl', beq_self_eq_true, Bool.and_self, if_true, List.length_cons, List.length_nil, ee]
  rw [if_neg (by decide), if_neg (by intro z; cases (hs.symm.trans z)), if_neg (by decide), if_neg (by decide), if_neg (by decide)]
theorem db_pr (i j : Nat) {x y : Str} {px py pt : Pos} {kt k2 : Nat} {pt2 : Pos} {rest : List Stmt} {Φ : Post} (C : Bc X P w K mg base N V Gs k) (hi : N[i]? = some x) (hj : N[j]? = some y) (hVi : V[i]? = some 3) (hVj : V[j]? = some 3) (h : DA K X Z ρ μ [a, b] [da, db] μ1) (hr : DB K X Z ((ρ.set i (some da)).set j (some db)) μ1 rest Φ) (hij : i ≠ j := by decide)
    (hxy : (y == x) = false := by decide) (hl : (py.line == px.line) = true := by rfl) (hs : ([a, b].any fun | .Starred .. => true | _ => false) = false := by rfl) (hf : [a, b].all (foldedForSure 8) = false := by rfl) (hc : [a, b].all (constantsAlone 8) = false := by rfl)
    (hw : ∀ env : Env, swapsWithSole [.Tuple [.Name x px, .Name y py] kt pt] (.Tuple [a, b] k2 pt2) pos.line env = pure false := by intro _; rfl) : DB K X Z ρ μ (.Assign [.Tuple [.Name x px, .Name y py] kt pt] (.Tuple [a, b] k2 pt2) pos :: rest) Φ :=
  db_par i j C hi hj hVi hVj h hr hij fun t c1 c2 c3 c4 c5 c6 c7 c8 => ps_par c1 c2 c3 c4 c5 c6 c7 c8 (sw_pair C.kind c6 c7 hxy hl hs hf hc) (hw _)
end

/-! ### a def that answers with a new list of its own -/
def spL (K : PySem.W.Frag) (n : Nat) (R : List D → Cell → Prop) : Sp := fun vs H Q _ => ∃ G ds c, vs.length = n ∧ Ex G H ∧ Reps K G ds vs ∧ R ds c ∧ ∀ q G' H', Ex G G' → Ex G' H' → CellAt K G' H' q c → G' q = none → H q = none → (∀ a o, H a = some o → H' a = some o) → (∀ a, H a ≠ none → G a = none → G' a = none) → Q (.ref q) H'
structure FL (P : Program) (w : World) (K : PySem.W.Frag) (mg : Str → Option Value) (base : Heap) (k : Nat) (x : Str) (n : Nat) (R : List D → Cell → Prop) : Prop where
  ex : ∃ f fd ps, mg x = some (.ref f) ∧ PySem.W.keepIn K (.ref f) = true ∧ Binds K fd ps [] ∧ FnOk P w K mg base CX0 k f fd ps (spL K n R)
section
variable {P : Program} {w : World} {K : PySem.W.Frag} {mg : Str → Option Value} {base : Heap} {N ps : List Str} {V : List Nat} {Gs : List Str} {k kf : Nat}
variable {X : Cx} {Z : Zed} {ρ : Rho} {μ μ1 μ2 μ3 μa' : Mu} {a b c e o : Expr} {es : List Expr} {d da db dc : D} {ds xs : List D} {pos p pos' apos : Pos} {x m : Str} {u v : Bool} {cl : Cell} {n : Nat} {R : List D → Cell → Prop} {rest : List Stmt} {Φ : Post} {tg : Expr}
theorem db_retL (h : DL K X Z ρ μ e cl μ1) (hq : ∀ q, q ∉ Z.xs → Φ.rt (.ref q) (μ1 ++ [(q, cl)])) : DB K X Z ρ μ (.Return (some e) pos :: rest) Φ := fun σ G H S D q1 q2 =>
  wss_cons (ps_ret pe_we) (h [] σ G H (by simpa using S) _ fun q G1 H1 e1 hn S1 => q2 (.ref q) _ (.ref q) ρ σ G1 H1 (hq q hn) e1 (by simpa using S1) (rep_v.mpr rfl))
theorem mk_fl (h : Hd P w K mg base) (i j : Nat) {d : He.DefD} {x : Str} (hi : fnL[i]? = some d) (hj : glos[j]? = some x) (hat : d.at_ = (x, none)) (hck : defC N ps d.scope V Gs = true) (hn : ps.length = n)
    (hb : ∀ (kV doc pm : Value) (an : Option Addr) (cdv ct : Value) (us : List Value), us.length = ps.length → bindArgs (PySem.W.fnOf d.name d.qual d.params d.body d.scope .none kV doc pm an cdv ct) ⟨us, []⟩ = pure (ps.zip us))
    (hbody : ∀ X Z ds c, Bc X P w K mg base N V Gs k → R ds c → Z.xs = [] → ds.length = n → DB K X Z (st0 N n ds) [] d.body ⟨fun _ _ => False, fun d2 μ2 => ∃ q, d2 = .ref q ∧ q ∉ Z.xs ∧ (q, c) ∈ μ2⟩) : FL P w K mg base (k + 1) x n R := by
  obtain ⟨fd, F⟩ := h.sD i d hi
  refine ⟨⟨_, fd, ps, h.glo j x hj, by have := F.kp; rw [hat] at this; exact this, F.bindsN hb, ?_⟩⟩
  have hq : He.fAd K d.at_ = He.ga K x := by rw [hat]; rfl
  rw [← hq]
  refine F.ok (defC_scope hck) (fun vs H Q E h => ?_) fun cdv A outer s H vs Q E hr hsp => ?_
  · obtain ⟨G, ds, c, hl, _⟩ := h
    rw [hl, hn]
  · obtain ⟨G, ds, c, hl, e, r, hR, hq⟩ := hsp
    refine ⟨_, PSs.nox pss_wss, ?_⟩
    have B := hbody _ ⟨G, H, []⟩ ds c (bc_def (P := P) (w := w) (K := K) (mg := mg) (base := base) (CX := CX0) (outer := outer) (H := H) (E := E) hck hr) hR rfl (by rw [r.length]; exact hl)
    refine B _ G H (sat_start (μ := []) hl e r (fun p c hp => by cases hp) (by simp)) _ (fun ρ' μ2 σ' G' H' hΦ e' S' => hΦ.elim) fun d2 μ2 v ρ' σ' G' H' hΦ e' S' r' => ?_
    obtain ⟨q, rfl, hq1, hq2⟩ := hΦ
    have hv := rep_v.mp r'
    subst hv
    obtain ⟨c1, c2, c3⟩ := S'.ce q c hq2
    exact hq q G' H' e' S'.gh c1 c2 (c3.resolve_right hq1) (fun a o h1 => S'.zh a o h1 (by simp)) S'.zn
theorem dl_callL (j : Nat) (C : Bc X P w K mg base N V Gs k) (F : FL P w K mg base kf x n R) (hG : Gs[j]? = some x) (ha : DA K X Z ρ μ (e :: es) ds μ1) (hR : R ds cl) (hn : ds.length = n) (hk : kf ≤ k)
    (he : starEach (e :: es) X.env = (false, eval e X.env) :: starEach es X.env := by rfl) (hpl : (backTo pos (starEach es X.env)).any (·.1) = false := by rfl) : DL K X Z ρ μ (.Call (.Name x p) (e :: es) [] pos) cl μ1 := fun ν σ G H S Q q => by
  obtain ⟨f, fd, ps, h1, h2, h3, h4⟩ := F.ex
  obtain ⟨g1, g2, _⟩ := C.glo j x hG
  have e1 := C.eP; have e2 := C.ew; have e3 := C.eK; have e4 := C.em; have e5 := C.eb
  subst e1 e2 e3 e4 e5
  refine we_of (pe_call h4 (C.room.mono hk) g1 h1 h2 h3 .nil pass0 pa_wa g2 he hpl) (ha ν σ G H S _ fun vs G1 H1 e1 S1 r1 => ?_)
  rw [List.append_nil]
  refine ⟨G1, ds, cl, by rw [← r1.length]; exact hn, S1.gh, r1, hR, fun q2 G2 H2 g gh hc hg hz hh hnw => q q2 G2 H2 (e1.trans g) (S1.zfresh hz).2 ?_⟩
  have S2 := S1.ext ⟨g, hh, gh, hnw⟩
  refine ⟨S2.gh, S2.ln, S2.sl, fun p c hp => ?_, ?_, S2.zg, S2.zh, S2.zn, S2.zx⟩
  · rcases List.mem_append.mp hp with hp | hp
    · exact S2.ce p c hp
    · rw [List.mem_singleton] at hp
      cases hp
      exact ⟨hc, hg, .inl (S1.zfresh hz).1⟩
  · rw [map_fst_app, List.nodup_append]
    refine ⟨S2.nd, by simp, fun a ha b hb => ?_⟩
    rw [List.map_singleton, List.mem_singleton] at hb
    subst hb
    rintro rfl
    obtain ⟨⟨q, d⟩, hq, rfl⟩ := List.mem_map.mp ha
    exact (S1.ce q d hq).1.ne hz

/-! ### a comprehension stored in a cell -/
theorem sw_cell {elt : Expr} {gs : List Comprehension} {scope : Scope} {pos py : Pos} {y : Str} {l : Nat} {env : Env} (hy : env.scope.names.lookup y = some .cell ∨ env.scope.names.lookup y = some .free) : swapsWith (.ListComp elt gs scope pos) (some (.Name y py)) l env = pure false := by
  have ky : env.kindOf y = some .cell ∨ env.kindOf y = some .free := hy
  unfold swapsWith
  rcases ky with ky | ky <;> simp only [ky]
  · have e : ((some NameKind.cell == some NameKind.local) = false) := by decide
    simp only [e, Bool.and_false, Bool.false_and]
  · have e : ((some NameKind.free == some NameKind.local) = false) := by decide
    simp only [e, Bool.and_false, Bool.false_and]
theorem db_setV2 {elt : Expr} {gs : List Comprehension} {scope : Scope} (i : Nat) (C : Bc X P w K mg base N V Gs k) (hN : N[i]? = some x) (hV : V[i]? = some 2) (h : DE K X Z ρ μ (.ListComp elt gs scope pos') d μ1) (hr : DB K X Z (ρ.set i (some d)) μ1 rest Φ) : DB K X Z ρ μ (.Assign [.Name x p] (.ListComp elt gs scope pos') pos :: rest) Φ :=
  db_set i C hN hV h hr (sw_cell (C.cap i x 2 hV (.inr rfl) hN))

/-! ### a list or a tuple -/
theorem de_ixQ {i : Int} (C : Bc X P w K mg base N V Gs k) (ha : DE K X Z ρ μ a da μ1) (hb : DE K X Z ρ μ1 b (.int i) μ2) (hi : da.items = some xs) (h : atI xs i = some d) (hs : PlainIx b := by intro _ _; rfl) : DE K X Z ρ μ (.Subscript a b pos) d μ2 := by
  cases da with
  | tup ys => cases hi; exact de_ixT C ha hb h hs
  | lst ys => cases hi; exact de_ixL C ha hb h hs
  | v x => cases hi
  | ins C ns ds => cases hi
theorem di_Q (C : Bc X P w K mg base N V Gs k) (ha : DE K X Z ρ μ a da μ1) (hi : da.items = some xs) : DI K X Z ρ μ tg a xs μ1 := by
  cases da with
  | tup ys => cases hi; exact di_tup C ha
  | lst ys => cases hi; exact di_list C ha
  | v x => cases hi
  | ins C ns ds => cases hi
theorem de_isiQ (h : Hd P w K mg base) (j : Nat) {e1 e2 : Expr} {k2 : Nat} {p2 : Pos} (C : Bc X P w K mg base N V Gs k) (hG : Gs[j]? = some ("isinstance" : Str)) (ha : DE K X Z ρ μ a da μ) (h1 : DE K X Z ρ μ e1 (.v (.ty "list")) μ) (h2 : DE K X Z ρ μ e2 (.v (.ty "tuple")) μ) (hi : da.items = some xs)
    (hs : starEach [a, .Tuple [e1, e2] k2 p2] X.env = (false, eval a X.env) :: starEach [.Tuple [e1, e2] k2 p2] X.env := by rfl) (hs2 : starEach [.Tuple [e1, e2] k2 p2] X.env = [(false, eval (.Tuple [e1, e2] k2 p2) X.env)] := by rfl) (hpl : (backTo pos (starEach [.Tuple [e1, e2] k2 p2] X.env)).any (·.1) = false := by rfl)
    (hs3 : starEach [e1, e2] X.env = (false, eval e1 X.env) :: starEach [e2] X.env := by rfl) (hs4 : starEach [e2] X.env = [(false, eval e2 X.env)] := by rfl) : DE K X Z ρ μ (.Call (.Name "isinstance" p) [a, .Tuple [e1, e2] k2 p2] [] pos) (.bl true) μ := by
  cases da with
  | tup ys => exact de_isiT j C hG (h.free 4 _ rfl) ha h1 h2 (.tup _) ClsV_list ClsV_tuple h.kitTT hs hs2 hpl hs3 hs4
  | lst ys => exact de_isiT j C hG (h.free 4 _ rfl) ha h1 h2 (.lst _) ClsV_list ClsV_tuple h.kitLT hs hs2 hpl hs3 hs4
  | v x => cases hi
  | ins C ns ds => cases hi
end

/-! ### sizes -/
def smL : Nat := 2 ^ 4400
/-- top and bottom below 2 ^ 4400 -/
def Sm (q : Rat) : Prop := q.num.natAbs < smL ∧ q.den < smL
theorem smul {i j : Int} (hi : i.natAbs < 2 ^ 9000) (hj : j.natAbs < 2 ^ 9000) : CMulX i j := by
  have b : ∀ x : Int, x.natAbs < 2 ^ 9000 → Builtin.Int.intBits x ≤ 9000 := fun x hx => by
    unfold Builtin.Int.intBits
    have := PySem.Flt.log2_lt_of (by decide : 0 < 9000) hx
    split <;> omega
  have h1 := b i hi
  have h2 := b j hj
  unfold CMulX
  omega
theorem smL_lt : smL < 2 ^ 9000 := Nat.pow_lt_pow_right (by decide) (by decide)
theorem smL_mul {a b : Nat} (ha : a < smL) (hb : b < smL) : a * b < 2 ^ 9000 := by
  have h : a * b < smL * smL := Nat.mul_lt_mul'' ha hb
  have e : smL * smL = 2 ^ 8800 := by unfold smL; rw [← Nat.pow_add]
  have : (2 : Nat) ^ 8800 ≤ 2 ^ 9000 := Nat.pow_le_pow_right (by decide) (by decide)
  omega
section
variable {p q : Rat}
theorem sm_nd (hp : Sm p) (hq : Sm q) : CMulX p.num (q.den : Int) := smul (Nat.lt_trans hp.1 smL_lt) (by simpa using Nat.lt_trans hq.2 smL_lt)
theorem sm_nn (hp : Sm p) (hq : Sm q) : CMulX p.num q.num := smul (Nat.lt_trans hp.1 smL_lt) (Nat.lt_trans hq.1 smL_lt)
theorem sm_dd (hp : Sm p) (hq : Sm q) : CMulX (p.den : Int) (q.den : Int) := smul (by simpa using Nat.lt_trans hp.2 smL_lt) (by simpa using Nat.lt_trans hq.2 smL_lt)
theorem sm_den (hp : Sm p) (hq : Sm q) : p.den * q.den < 2 ^ 9000 := smL_mul hp.2 hq.2
theorem den_nz (p q : Rat) : p.den * q.den ≠ 0 := Nat.mul_ne_zero p.den_nz q.den_nz
end
theorem eF_normalize {a : Int} {b : Nat} (h : b ≠ 0) : eF (Rat.normalize a b h) = .tup [.int (a / ((a.natAbs.gcd b : Nat) : Int)), .int ((b : Int) / ((a.natAbs.gcd b : Nat) : Int))] := by
  rw [Rat.normalize_eq]
  unfold eF
  simp

/-! ### contracts: numbers -/
abbrev R_is_whole (ds : List D) (d : D) : Prop := ∃ i : Int, True ∧ ds = [.int i] ∧ d = .bl true
abbrev R_common_part (ds : List D) (d : D) : Prop := ∃ a b : Nat, True ∧ ds = [.int (a : Int), .int (b : Int)] ∧ d = .int ((a.gcd b : Nat) : Int)
abbrev R_is_fraction (ds : List D) (d : D) : Prop := ∃ p : Rat, True ∧ ds = [eF p] ∧ d = .bl true
abbrev eR (qs : List Rat) : D := .tup (qs.map eF)
abbrev R_is_row (ds : List D) (d : D) : Prop := ∃ (qs : List Rat) (n : Int), ((qs.length : Int) = n ∧ qs.length < 100000) ∧ ds = [eR qs, .int n] ∧ d = .bl true
abbrev R_fraction_of (ds : List D) (d : D) : Prop := ∃ (a : Int) (b : Nat) (hb : b ≠ 0), b < 2 ^ 9000 ∧ ds = [.int a, .int (b : Int)] ∧ d = eF (Rat.normalize a b hb)
abbrev R_plus (ds : List D) (d : D) : Prop := ∃ p q : Rat, (Sm p ∧ Sm q) ∧ ds = [eF p, eF q] ∧ d = eF (p + q)
abbrev R_minus (ds : List D) (d : D) : Prop := ∃ p q : Rat, (Sm p ∧ Sm q) ∧ ds = [eF p, eF q] ∧ d = eF (p - q)
abbrev R_times (ds : List D) (d : D) : Prop := ∃ p q : Rat, (Sm p ∧ Sm q) ∧ ds = [eF p, eF q] ∧ d = eF (p * q)
abbrev R_is_less (ds : List D) (d : D) : Prop := ∃ p q : Rat, (Sm p ∧ Sm q) ∧ ds = [eF p, eF q] ∧ d = .bl (decide (p < q))
/-- partial sums and products stay small -/
def SmDot : Rat → List (Rat × Rat) → Prop
  | f, [] => Sm f
  | f, (a, b) :: l => Sm f ∧ Sm a ∧ Sm b ∧ Sm (a * b) ∧ SmDot (f + a * b) l
def dotZ (f : Rat) (l : List (Rat × Rat)) : Rat := l.foldl (fun f p => f + p.1 * p.2) f
def dot (xs ys : List Rat) : Rat := dotZ 0 (xs.zip ys)
abbrev R_weigh (ds : List D) (d : D) : Prop := ∃ xs ys : List Rat, SmDot 0 (xs.zip ys) ∧ ds = [eR xs, eR ys] ∧ d = eF (dot xs ys)
theorem enum_map {α : Type} (f : α → D) (xs : List α) : enumD (xs.map f) = xs.zipIdx.map fun q => .tup [.int (q.2 : Int), f q.1] := by
  unfold enumD
  apply List.ext_getElem?
  intro i
  simp [List.getElem?_mapIdx, List.getElem?_zipIdx]
  cases xs[i]? <;> simp
theorem di_is {K : PySem.W.Frag} {X : Cx} {Z : Zed} {ρ : Rho} {μ μ1 : Mu} {tg iter : Expr} {ys zs : List D} (h : DI K X Z ρ μ tg iter ys μ1) (e : ys = zs) : DI K X Z ρ μ tg iter zs μ1 := e ▸ h
theorem mapB {α : Type} (as : List α) (p : α → Bool) : D.lst (as.map fun a => D.bl (p a)) = D.lst ((as.map p).map D.bl) := by rw [List.map_map]; rfl
theorem mapI {α : Type} (as : List α) (p : α → Int) : D.lst (as.map fun a => D.int (p a)) = D.lst ((as.map p).map D.int) := by rw [List.map_map]; rfl
theorem all_true {α : Type} (as : List α) : (as.map fun _ => true).all id = true := by simp
theorem zip_map {α β : Type} (f : α → D) (g : β → D) (xs : List α) (ys : List β) : zipD (xs.map f) (ys.map g) = (xs.zip ys).map fun q => .tup [f q.1, g q.2] := by
  unfold zipD
  rw [List.zip_map, List.map_map]
  rfl
end NC

set_option Elab.async false
set_option linter.all false
set_option autoImplicit false
set_option maxRecDepth 100000
set_option maxHeartbeats 4000000
namespace NC
open PySem PySem.Spec PyProof.Rows L2

/-! printed by spec1.py: numbers, boxes, sums. -/
section
variable {P : Program} {w : World} {K : PySem.W.Frag} {mg : Str → Option Value} {base : Heap}

theorem c_is_whole (h : Hd P w K mg base) : FC P w K mg base 1 "is_whole" 1 (Pu (R_is_whole)) := by
  refine mk_fc (N := ["thing"]) (ps := ["thing"]) (V := [3]) (Gs := ["isinstance", "int", "bool"]) (k := 0) (d := dd_is_whole) h 0 0 rfl rfl rfl (by decide +kernel) rfl (fun _ _ _ _ _ _ us hl => match us, hl with | [_], _ => rfl) fun X Z ds μ r μ' C hR hx hl => ?_
  obtain ⟨rfl, rfl, i, _, rfl, rfl⟩ := hR
  show DB K X Z [some (.int i)] [] (defBody (top 16)) _
  exact db_ret (de_andv (de_isi 0 C rfl (h.free 4 _ rfl) (de_var 0 C rfl rfl rfl) (de_ty 1 C rfl (h.free 8 _ rfl) bt_int) (.int _) ClsV_int (h.kit 0 _ _ _ rfl)) fun hc0 => (de_one (de_notv (de_isi 0 C rfl (h.free 4 _ rfl) (de_var 0 C rfl rfl rfl) (de_ty 2 C rfl (h.free 9 _ rfl) bt_bool) (.int _) ClsV_bool (h.kit 1 _ _ _ rfl))))) ⟨(by rfl), [], (by first | rfl | simp)⟩
theorem c_common_part (h : Hd P w K mg base) : FC P w K mg base 1 "common_part" 2 (Pu (R_common_part)) := by
  refine mk_fc (N := ["one", "other"]) (ps := ["one", "other"]) (V := [3, 3]) (Gs := []) (k := 0) (d := dd_common_part) h 1 1 rfl rfl rfl (by decide +kernel) rfl (fun _ _ _ _ _ _ us hl => match us, hl with | [_, _], _ => rfl) fun X Z ds μ r μ' C hR hx hl => ?_
  obtain ⟨rfl, rfl, a, b, _, rfl, rfl⟩ := hR
  show DB K X Z [some (.int (a : Int)), some (.int (b : Int))] [] (defBody (top 17)) _
  refine db_whileS (S := Nat × Nat) (fun s n => s.1.gcd s.2 = a.gcd b ∧ n = s.2) (fun s => [some (.int (s.1 : Int)), some (.int (s.2 : Int))]) (fun _ => []) (a, b) b C rfl (Le.refl _) ⟨rfl, rfl⟩ (fun s n hJ => ⟨_, (dt_cp (de_var 1 C rfl rfl rfl) de_int cp_ne), fun hu => ?_, fun hu => ?_⟩)
  · have hb : s.2 ≠ 0 := by simpa using hu
    refine db_pr 0 1 C rfl rfl rfl rfl (da_cons (de_var 1 C rfl rfl rfl) (da_cons (de_mod (de_var 0 C rfl rfl rfl) (de_var 1 C rfl rfl rfl) (by omega)) da_nil)) ?_
    exact db_nil ⟨(s.2, s.1 % s.2), s.1 % s.2, by rw [hJ.2]; exact Nat.mod_lt _ (Nat.pos_of_ne_zero hb), ⟨by rw [← hJ.1]; show s.2.gcd (s.1 % s.2) = _; rw [Nat.gcd_comm, ← Nat.gcd_rec, Nat.gcd_comm], rfl⟩, Le.refl _, rfl⟩
  · have hb : s.2 = 0 := by simpa using hu
    have e : a.gcd b = s.1 := by rw [← hJ.1, hb, Nat.gcd_zero_right]
    rw [e]
    exact db_ret (de_var 0 C rfl rfl rfl) ⟨(by rfl), [], (by first | rfl | simp)⟩
theorem c_is_fraction (h : Hd P w K mg base) : FC P w K mg base 2 "is_fraction" 1 (Pu (R_is_fraction)) := by
  refine mk_fc (N := ["thing"]) (ps := ["thing"]) (V := [3]) (Gs := ["isinstance", "tuple", "len", "is_whole", "common_part", "abs"]) (k := 1) (d := dd_is_fraction) h 2 2 rfl rfl rfl (by decide +kernel) rfl (fun _ _ _ _ _ _ us hl => match us, hl with | [_], _ => rfl) fun X Z ds μ r μ' C hR hx hl => ?_
  obtain ⟨rfl, rfl, p, _, rfl, rfl⟩ := hR
  show DB K X Z [some (eF p)] [] (defBody (top 18)) _
  refine db_skip (dt_is (dw_or (dt_not (dt_val (de_isi 0 C rfl (h.free 4 _ rfl) (de_var 0 C rfl rfl rfl) (de_ty 1 C rfl (h.free 12 _ rfl) bt_tuple) (.tup _) ClsV_tuple (h.kit 2 _ _ _ rfl)))) fun hc0 => (dw_or (dt_cp (de_len 2 C rfl (h.free 0 _ rfl) (de_var 0 C rfl rfl rfl) rfl) de_int cp_ne) fun hc1 => (dw_or (dt_not (dt_val (de_callP 3 C (c_is_whole h) rfl (da_cons (de_ixT C (de_var 0 C rfl rfl rfl) de_int rfl) da_nil) ⟨_, trivial, rfl, rfl⟩ rfl (by omega)))) fun hc2 => (dw_or1 (dt_not (dt_val (de_callP 3 C (c_is_whole h) rfl (da_cons (de_ixT C (de_var 0 C rfl rfl rfl) de_int rfl) da_nil) ⟨_, trivial, rfl, rfl⟩ rfl (by omega)))))))).dt (by simp)) ?_
  exact db_ret (de_andv (de_cp (de_ixT C (de_var 0 C rfl rfl rfl) de_int rfl) de_int cp_gt) fun hc0 => (de_one (de_cp (de_callP 4 C (c_common_part h) rfl (da_cons (de_abs 5 C rfl (h.free 1 _ rfl) (de_ixT C (de_var 0 C rfl rfl rfl) de_int rfl)) (da_cons (de_ixT C (de_var 0 C rfl rfl rfl) de_int rfl) da_nil)) ⟨_, _, trivial, rfl, rfl⟩ rfl (by omega)) de_int cp_eq))) ⟨(by have h1 := p.reduced; have h2 := p.den_pos; unfold Nat.Coprime at h1; simp [h1]; omega), [], (by first | rfl | simp)⟩
theorem c_is_row (h : Hd P w K mg base) : FC P w K mg base 3 "is_row" 2 (Pu (R_is_row)) := by
  refine mk_fc (N := ["thing", "many", "one"]) (ps := ["thing", "many"]) (V := [3, 3, 0]) (Gs := ["isinstance", "tuple", "len", "all"]) (k := 2) (d := dd_is_row) h 3 3 rfl rfl rfl (by decide +kernel) rfl (fun _ _ _ _ _ _ us hl => match us, hl with | [_, _], _ => rfl) fun X Z ds μ r μ' C hR hx hl => ?_
  obtain ⟨rfl, rfl, qs, n, ⟨hn, hl2⟩, rfl, rfl⟩ := hR
  show DB K X Z [some (eR qs), some (.int n), none] [] (defBody (top 19)) _
  exact db_ret (de_andv (de_isi 0 C rfl (h.free 4 _ rfl) (de_var 0 C rfl rfl rfl) (de_ty 1 C rfl (h.free 12 _ rfl) bt_tuple) (.tup _) ClsV_tuple (h.kit 2 _ _ _ rfl)) fun hc0 => (de_andv (de_cp (de_len 2 C rfl (h.free 0 _ rfl) (de_var 0 C rfl rfl rfl) rfl) (de_var 1 C rfl rfl rfl) cp_eq) fun hc1 => (de_one (de_all 3 C rfl (h.free 5 _ rfl) (de_is (de_lst (dl_of_dc (V' := [0, 0, 3]) (Gs' := ["is_fraction"]) (own := [("one", 2)]) C (by decide +kernel) (dc_map qs eF (fun _ => .bl true) [0, 0, 3] ["is_fraction"] [("one", 2)] C (by decide +kernel) (by decide +kernel) (di_tup C (de_var 0 C rfl rfl rfl)) (by first | rfl | assumption | omega | decide | simp) fun a ha => ⟨_, _, (by decide), fun _ C' => ⟨(dg_name 2 C' rfl rfl), (de_callP 0 C' (c_is_fraction h) rfl (da_cons (de_var 2 C' rfl rfl rfl) da_nil) ⟨_, trivial, rfl, rfl⟩ rfl (by omega))⟩⟩))) (mapB _ _)))))) ⟨(by simp [hn]), [], (by first | rfl | simp)⟩
theorem ne_of_pos {b : Nat} (h : b ≠ 0) : ((b : Int) < 0) = False := by simp
theorem gcd_pos' {a : Int} {b : Nat} (h : b ≠ 0) : 0 < a.natAbs.gcd b := Nat.gcd_pos_of_pos_right _ (Nat.pos_of_ne_zero h)
theorem gcd_div {a i : Int} {b : Nat} (h : b ≠ 0) (hb : b < 2 ^ 9000) : CDivW i ((a.natAbs.gcd b : Nat) : Int) := wide_div (b := 9000) (by have := gcd_pos' (a := a) h; omega) (by
  rw [Int.natAbs_natCast]
  exact Nat.lt_of_le_of_lt (Nat.gcd_le_right _ (Nat.pos_of_ne_zero h)) hb) (by decide) (by decide)
theorem c_fraction_of (h : Hd P w K mg base) : FC P w K mg base 2 "fraction_of" 2 (Pu (R_fraction_of)) := by
  refine mk_fc (N := ["top", "bottom", "by"]) (ps := ["top", "bottom"]) (V := [3, 3, 3]) (Gs := ["common_part", "abs"]) (k := 1) (d := dd_fraction_of) h 4 4 rfl rfl rfl (by decide +kernel) rfl (fun _ _ _ _ _ _ us hl => match us, hl with | [_, _], _ => rfl) fun X Z ds μ r μ' C hR hx hl => ?_
  obtain ⟨rfl, rfl, a, b, hz, hb, rfl, rfl⟩ := hR
  show DB K X Z [some (.int a), some (.int (b : Int)), none] [] (defBody (top 20)) _
  refine db_set 2 C rfl rfl (de_callP 0 C (c_common_part h) rfl (da_cons (de_abs 1 C rfl (h.free 1 _ rfl) (de_var 0 C rfl rfl rfl)) (da_cons (de_abs 1 C rfl (h.free 1 _ rfl) (de_var 1 C rfl rfl rfl)) da_nil)) ⟨a.natAbs, b, trivial, rfl, rfl⟩ rfl (by omega)) ?_
  refine db_skip (dt_is (dt_cp (de_var 1 C rfl rfl rfl) de_int cp_lt) (by simp)) ?_
  exact db_ret (de_tup (da_cons (de_fdiv (de_var 0 C rfl rfl rfl) (de_var 2 C rfl rfl rfl) (by exact gcd_div hz hb)) (da_cons (de_fdiv (de_var 1 C rfl rfl rfl) (de_var 2 C rfl rfl rfl) (by exact gcd_div hz hb)) da_nil))) ⟨(by exact (eF_normalize hz).symm), [], (by first | rfl | simp)⟩
theorem c_plus (h : Hd P w K mg base) : FC P w K mg base 3 "plus" 2 (Pu (R_plus)) := by
  refine mk_fc (N := ["one", "other"]) (ps := ["one", "other"]) (V := [3, 3]) (Gs := ["fraction_of"]) (k := 2) (d := dd_plus) h 5 5 rfl rfl rfl (by decide +kernel) rfl (fun _ _ _ _ _ _ us hl => match us, hl with | [_, _], _ => rfl) fun X Z ds μ r μ' C hR hx hl => ?_
  obtain ⟨rfl, rfl, p, q, ⟨hp, hq⟩, rfl, rfl⟩ := hR
  show DB K X Z [some (eF p), some (eF q)] [] (defBody (top 21)) _
  exact db_ret (de_callP 0 C (c_fraction_of h) rfl (da_cons (de_add (de_mul (de_ixT C (de_var 0 C rfl rfl rfl) de_int rfl) (de_ixT C (de_var 1 C rfl rfl rfl) de_int rfl) (by exact sm_nd hp hq)) (de_mul (de_ixT C (de_var 1 C rfl rfl rfl) de_int rfl) (de_ixT C (de_var 0 C rfl rfl rfl) de_int rfl) (by exact sm_nd hq hp))) (da_cons (de_mul (de_ixT C (de_var 0 C rfl rfl rfl) de_int rfl) (de_ixT C (de_var 1 C rfl rfl rfl) de_int rfl) (by exact sm_dd hp hq)) da_nil)) ⟨_, p.den * q.den, den_nz p q, sm_den hp hq, by rw [Int.natCast_mul], rfl⟩ rfl (by omega)) ⟨(by exact congrArg eF (Rat.add_def p q).symm), [], (by first | rfl | simp)⟩
theorem c_minus (h : Hd P w K mg base) : FC P w K mg base 3 "minus" 2 (Pu (R_minus)) := by
  refine mk_fc (N := ["one", "other"]) (ps := ["one", "other"]) (V := [3, 3]) (Gs := ["fraction_of"]) (k := 2) (d := dd_minus) h 6 6 rfl rfl rfl (by decide +kernel) rfl (fun _ _ _ _ _ _ us hl => match us, hl with | [_, _], _ => rfl) fun X Z ds μ r μ' C hR hx hl => ?_
  obtain ⟨rfl, rfl, p, q, ⟨hp, hq⟩, rfl, rfl⟩ := hR
  show DB K X Z [some (eF p), some (eF q)] [] (defBody (top 22)) _
  exact db_ret (de_callP 0 C (c_fraction_of h) rfl (da_cons (de_sub (de_mul (de_ixT C (de_var 0 C rfl rfl rfl) de_int rfl) (de_ixT C (de_var 1 C rfl rfl rfl) de_int rfl) (by exact sm_nd hp hq)) (de_mul (de_ixT C (de_var 1 C rfl rfl rfl) de_int rfl) (de_ixT C (de_var 0 C rfl rfl rfl) de_int rfl) (by exact sm_nd hq hp))) (da_cons (de_mul (de_ixT C (de_var 0 C rfl rfl rfl) de_int rfl) (de_ixT C (de_var 1 C rfl rfl rfl) de_int rfl) (by exact sm_dd hp hq)) da_nil)) ⟨_, p.den * q.den, den_nz p q, sm_den hp hq, by rw [Int.natCast_mul], rfl⟩ rfl (by omega)) ⟨(by exact congrArg eF (Rat.sub_def p q).symm), [], (by first | rfl | simp)⟩
theorem c_times (h : Hd P w K mg base) : FC P w K mg base 3 "times" 2 (Pu (R_times)) := by
  refine mk_fc (N := ["one", "other"]) (ps := ["one", "other"]) (V := [3, 3]) (Gs := ["fraction_of"]) (k := 2) (d := dd_times) h 7 7 rfl rfl rfl (by decide +kernel) rfl (fun _ _ _ _ _ _ us hl => match us, hl with | [_, _], _ => rfl) fun X Z ds μ r μ' C hR hx hl => ?_
  obtain ⟨rfl, rfl, p, q, ⟨hp, hq⟩, rfl, rfl⟩ := hR
  show DB K X Z [some (eF p), some (eF q)] [] (defBody (top 23)) _
  exact db_ret (de_callP 0 C (c_fraction_of h) rfl (da_cons (de_mul (de_ixT C (de_var 0 C rfl rfl rfl) de_int rfl) (de_ixT C (de_var 1 C rfl rfl rfl) de_int rfl) (by exact sm_nn hp hq)) (da_cons (de_mul (de_ixT C (de_var 0 C rfl rfl rfl) de_int rfl) (de_ixT C (de_var 1 C rfl rfl rfl) de_int rfl) (by exact sm_dd hp hq)) da_nil)) ⟨_, p.den * q.den, den_nz p q, sm_den hp hq, by rw [Int.natCast_mul], rfl⟩ rfl (by omega)) ⟨(by exact congrArg eF (Rat.mul_def p q).symm), [], (by first | rfl | simp)⟩
theorem c_is_less (h : Hd P w K mg base) : FC P w K mg base 1 "is_less" 2 (Pu (R_is_less)) := by
  refine mk_fc (N := ["one", "other"]) (ps := ["one", "other"]) (V := [3, 3]) (Gs := []) (k := 0) (d := dd_is_less) h 8 8 rfl rfl rfl (by decide +kernel) rfl (fun _ _ _ _ _ _ us hl => match us, hl with | [_, _], _ => rfl) fun X Z ds μ r μ' C hR hx hl => ?_
  obtain ⟨rfl, rfl, p, q, ⟨hp, hq⟩, rfl, rfl⟩ := hR
  show DB K X Z [some (eF p), some (eF q)] [] (defBody (top 24)) _
  exact db_ret (de_cp (de_mul (de_ixT C (de_var 0 C rfl rfl rfl) de_int rfl) (de_ixT C (de_var 1 C rfl rfl rfl) de_int rfl) (by exact sm_nd hp hq)) (de_mul (de_ixT C (de_var 1 C rfl rfl rfl) de_int rfl) (de_ixT C (de_var 0 C rfl rfl rfl) de_int rfl) (by exact sm_nd hq hp)) cp_lt) ⟨(by simp [Rat.lt_iff]), [], (by first | rfl | simp)⟩
theorem c_weigh (h : Hd P w K mg base) : FC P w K mg base 4 "weigh" 2 (Pu (R_weigh)) := by
  refine mk_fc (N := ["row", "other", "found", "one", "two"]) (ps := ["row", "other"]) (V := [3, 3, 3, 3, 3]) (Gs := ["NOUGHT_numbers", "zip", "plus", "times"]) (k := 3) (d := dd_weigh) h 9 9 rfl rfl rfl (by decide +kernel) rfl (fun _ _ _ _ _ _ us hl => match us, hl with | [_, _], _ => rfl) fun X Z ds μ r μ' C hR hx hl => ?_
  obtain ⟨rfl, rfl, xs, ys, hs, rfl, rfl⟩ := hR
  show DB K X Z [some (eR xs), some (eR ys), none, none, none] [] (defBody (top 25)) _
  refine db_set 2 C rfl rfl (de_is (de_glo 0 C rfl (h.cT 0 rfl)) (by rfl : _ = eF (0))) ?_
  refine db_forS (xs.zip ys) (fun q => .tup [eF q.1, eF q.2]) (fun (f : Rat) l => SmDot f l ∧ dotZ f l = dot xs ys) (fun f => [some (eR xs), some (eR ys), some (eF f), none, none]) (fun _ => []) 0 C (di_is (di_zip 1 C rfl (h.free 14 _ rfl) (de_var 0 C rfl rfl rfl) (de_var 1 C rfl rfl rfl) rfl rfl) (zip_map _ _ _ _)) rfl (.some (.some (.some (.none (.none .nil))))) (by exact ⟨hs, rfl⟩) (fun f a l hJ ha => ?_) (fun f hJ => ?_)
  · skip
    obtain ⟨⟨s1, s2, s3, s4, s5⟩, e⟩ := hJ
    refine ⟨_, _, _, (dg_tup C (dgs_cons (dg_name 3 C rfl rfl) (dgs_cons (dg_name 4 C rfl rfl) dgs_nil)) rfl), ?_⟩
    refine db_set 2 C rfl rfl (de_callP 2 C (c_plus h) rfl (da_cons (de_var 2 C rfl rfl rfl) (da_cons (de_callP 3 C (c_times h) rfl (da_cons (de_var 3 C rfl rfl rfl) (da_cons (de_var 4 C rfl rfl rfl) da_nil)) ⟨_, _, ⟨(by first | rfl | assumption | omega | decide | simp), (by first | rfl | assumption | omega | decide | simp)⟩, rfl, rfl⟩ rfl (by omega)) da_nil)) ⟨_, _, ⟨(by first | rfl | assumption | omega | decide | simp), (by first | rfl | assumption | omega | decide | simp)⟩, rfl, rfl⟩ rfl (by omega)) ?_
    exact db_nil ⟨_, ⟨s5, e⟩, (.some (.some (.some (.none (.none .nil))))), rfl⟩
  exact db_ret (de_var 2 C rfl rfl rfl) ⟨(by rw [← hJ.2]; rfl), [], (by first | rfl | simp)⟩

/-! ### boxes -/
abbrev eBox (lo hi : Rat) : D := .tup [.tup [eF lo, eF hi]]
def BoxOk (lo hi : Rat) : Prop := lo ≤ hi ∧ Sm lo ∧ Sm hi
abbrev eA (a : Rat × Rat) : D := .tup [.tup [eF a.1], eF a.2]
abbrev eSum (a : List Rat × Rat) : D := .tup [eR a.1, eF a.2]
def SmA (a : Rat × Rat) : Prop := Sm a.1 ∧ Sm a.2
theorem sm_small {q : Rat} (h : q.num.natAbs < 1000) (h' : q.den < 1000) : Sm q := by
  have : 1000 < smL := by unfold smL; exact Nat.lt_of_lt_of_le (by decide : 1000 < 2 ^ 10) (Nat.pow_le_pow_right (by decide) (by decide))
  exact ⟨by omega, by omega⟩
theorem sm0 : Sm 0 := sm_small (by decide) (by decide)
theorem sm1 : Sm 1 := sm_small (by decide) (by decide)
theorem smN1 : Sm (-1) := sm_small (by decide) (by decide)
abbrev R_is_stretch (ds : List D) (d : D) : Prop := ∃ lo hi : Rat, BoxOk lo hi ∧ ds = [.tup [eF lo, eF hi]] ∧ d = .bl true
abbrev R_is_box (ds : List D) (d : D) : Prop := ∃ lo hi : Rat, BoxOk lo hi ∧ ds = [eBox lo hi] ∧ d = .bl true
abbrev R_need_box_boxes (ds : List D) (d : D) : Prop := ∃ lo hi : Rat, BoxOk lo hi ∧ ds = [eBox lo hi] ∧ d = .non
abbrev R_is_over (ds : List D) (d : D) : Prop := ∃ (a : List Rat × Rat) (n : Int), ((a.1.length : Int) = n ∧ a.1.length < 100000) ∧ ds = [eSum a, .int n] ∧ d = .bl true
abbrev R_lies_in (ds : List D) (d : D) : Prop := ∃ lo hi x : Rat, (BoxOk lo hi ∧ Sm x) ∧ ds = [eBox lo hi, .tup [eF x]] ∧ d = .bl (decide (lo ≤ x) && decide (x ≤ hi))
abbrev R_is_in (ds : List D) (d : D) : Prop := ∃ lo hi x : Rat, (BoxOk lo hi ∧ Sm x) ∧ ds = [eBox lo hi, .tup [eF x]] ∧ d = .bl (decide (lo ≤ x) && decide (x ≤ hi))
abbrev R_single_row (ds : List D) (d : D) : Prop := ∃ q : Rat, True ∧ ds = [.int 1, .int 0, eF q] ∧ d = .tup [eF q]
abbrev R_box_wishes (ds : List D) (c : Cell) : Prop := ∃ lo hi : Rat, BoxOk lo hi ∧ ds = [eBox lo hi] ∧ c = .lst [eA (1, hi), eA (-1, 0 - lo)]
abbrev R_need_box_handing (ds : List D) (d : D) : Prop := ∃ lo hi : Rat, BoxOk lo hi ∧ ds = [eBox lo hi, .int 1] ∧ d = .non

theorem c_is_stretch (h : Hd P w K mg base) : FC P w K mg base 4 "is_stretch" 1 (Pu (R_is_stretch)) := by
  refine mk_fc (N := ["thing"]) (ps := ["thing"]) (V := [3]) (Gs := ["is_row", "is_less"]) (k := 3) (d := dd_is_stretch) h 10 10 rfl rfl rfl (by decide +kernel) rfl (fun _ _ _ _ _ _ us hl => match us, hl with | [_], _ => rfl) fun X Z ds μ r μ' C hR hx hl => ?_
  obtain ⟨rfl, rfl, lo, hi, hb, rfl, rfl⟩ := hR
  show DB K X Z [some (.tup [eF lo, eF hi])] [] (defBody (top 28)) _
  exact db_ret (de_andv (de_callP 0 C (c_is_row h) rfl (da_cons (de_var 0 C rfl rfl rfl) (da_cons de_int da_nil)) ⟨[lo, hi], _, ⟨rfl, (by simp)⟩, rfl, rfl⟩ rfl (by omega)) fun hc0 => (de_one (de_notv (de_callP 1 C (c_is_less h) rfl (da_cons (de_ixT C (de_var 0 C rfl rfl rfl) de_int (by rfl)) (da_cons (de_ixT C (de_var 0 C rfl rfl rfl) de_int (by rfl)) da_nil)) ⟨_, _, ⟨(by exact hb.2.2), (by exact hb.2.1)⟩, rfl, rfl⟩ rfl (by omega))))) ⟨(by simp [Rat.not_lt, hb.1]), [], (by first | rfl | simp)⟩
theorem c_is_box (h : Hd P w K mg base) : FC P w K mg base 5 "is_box" 1 (Pu (R_is_box)) := by
  refine mk_fc (N := ["thing", "one"]) (ps := ["thing"]) (V := [3, 0]) (Gs := ["isinstance", "tuple", "len", "MOST_PLACES", "all"]) (k := 4) (d := dd_is_box) h 11 11 rfl rfl rfl (by decide +kernel) rfl (fun _ _ _ _ _ _ us hl => match us, hl with | [_], _ => rfl) fun X Z ds μ r μ' C hR hx hl => ?_
  obtain ⟨rfl, rfl, lo, hi, hb, rfl, rfl⟩ := hR
  show DB K X Z [some (eBox lo hi), none] [] (defBody (top 29)) _
  refine db_skip (dt_is (dw_or (dt_not (dt_val (de_isi 0 C rfl (h.free 4 _ rfl) (de_var 0 C rfl rfl rfl) (de_ty 1 C rfl (h.free 12 _ rfl) bt_tuple) (.tup _) ClsV_tuple (h.kit 2 _ _ _ rfl)))) fun hc0 => (dw_or1 (dt_not (dt_chain rfl de_int (de_len 2 C rfl (h.free 0 _ rfl) (de_var 0 C rfl rfl rfl) rfl) cp_le (de_glo 3 C rfl (h.cI 0 rfl)) cp_le)))).dt (by first | rfl | simp)) ?_
  exact db_ret (de_all 4 C rfl (h.free 5 _ rfl) (de_is (de_lst (dl_of_dc (V' := [0, 3]) (Gs' := ["is_stretch"]) (own := [("one", 1)]) C (by decide +kernel) (dc_map [()] (fun _ => .tup [eF lo, eF hi]) (fun _ => .bl true) [0, 3] ["is_stretch"] [("one", 1)] C (by decide +kernel) (by decide +kernel) (di_tup C (de_var 0 C rfl rfl rfl)) (by first | rfl | assumption | omega | decide | simp) fun a ha => ⟨_, _, (by decide), fun _ C' => ⟨(dg_name 1 C' rfl rfl), (de_callP 0 C' (c_is_stretch h) rfl (da_cons (de_var 1 C' rfl rfl rfl) da_nil) ⟨_, _, (by exact hb), rfl, rfl⟩ rfl (by omega))⟩⟩))) (mapB _ _))) ⟨(by rfl), [], (by first | rfl | simp)⟩
theorem c_need_box_boxes (h : Hd P w K mg base) : FC P w K mg base 6 "need_box_boxes" 1 (Pu (R_need_box_boxes)) := by
  refine mk_fc (N := ["box"]) (ps := ["box"]) (V := [3]) (Gs := ["is_box", "NoBox"]) (k := 5) (d := dd_need_box_boxes) h 12 12 rfl rfl rfl (by decide +kernel) rfl (fun _ _ _ _ _ _ us hl => match us, hl with | [_], _ => rfl) fun X Z ds μ r μ' C hR hx hl => ?_
  obtain ⟨rfl, rfl, lo, hi, hb, rfl, rfl⟩ := hR
  show DB K X Z [some (eBox lo hi)] [] (defBody (top 30)) _
  refine db_skip (dt_is (dt_not (dt_val (de_callP 0 C (c_is_box h) rfl (da_cons (de_var 0 C rfl rfl rfl) da_nil) ⟨_, _, (by first | rfl | assumption | omega | decide | simp), rfl, rfl⟩ rfl (by omega)))) (by rfl)) ?_
  exact db_nil ⟨rfl, [], rfl⟩
theorem c_is_over (h : Hd P w K mg base) : FC P w K mg base 4 "is_over" 2 (Pu (R_is_over)) := by
  refine mk_fc (N := ["thing", "many"]) (ps := ["thing", "many"]) (V := [3, 3]) (Gs := ["isinstance", "tuple", "len", "is_row", "is_fraction"]) (k := 3) (d := dd_is_over) h 13 13 rfl rfl rfl (by decide +kernel) rfl (fun _ _ _ _ _ _ us hl => match us, hl with | [_, _], _ => rfl) fun X Z ds μ r μ' C hR hx hl => ?_
  obtain ⟨rfl, rfl, a, n, ha, rfl, rfl⟩ := hR
  show DB K X Z [some (eSum a), some (.int n)] [] (defBody (top 32)) _
  refine db_skip (dt_is (dw_or (dt_not (dt_val (de_isi 0 C rfl (h.free 4 _ rfl) (de_var 0 C rfl rfl rfl) (de_ty 1 C rfl (h.free 12 _ rfl) bt_tuple) (.tup _) ClsV_tuple (h.kit 2 _ _ _ rfl)))) fun hc0 => (dw_or1 (dt_cp (de_len 2 C rfl (h.free 0 _ rfl) (de_var 0 C rfl rfl rfl) rfl) de_int cp_ne))).dt (by rfl)) ?_
  exact db_ret (de_andv (de_callP 3 C (c_is_row h) rfl (da_cons (de_ixT C (de_var 0 C rfl rfl rfl) de_int rfl) (da_cons (de_var 1 C rfl rfl rfl) da_nil)) ⟨a.1, _, ha, rfl, rfl⟩ rfl (by omega)) fun hc0 => (de_one (de_callP 4 C (c_is_fraction h) rfl (da_cons (de_ixT C (de_var 0 C rfl rfl rfl) de_int rfl) da_nil) ⟨_, trivial, rfl, rfl⟩ rfl (by omega)))) ⟨(by rfl), [], (by first | rfl | simp)⟩
theorem c_lies_in (h : Hd P w K mg base) : FC P w K mg base 2 "lies_in" 2 (Pu (R_lies_in)) := by
  refine mk_fc (N := ["box", "spot", "low", "high", "number"]) (ps := ["box", "spot"]) (V := [3, 3, 3, 3, 3]) (Gs := ["zip", "is_less"]) (k := 1) (d := dd_lies_in) h 14 14 rfl rfl rfl (by decide +kernel) rfl (fun _ _ _ _ _ _ us hl => match us, hl with | [_, _], _ => rfl) fun X Z ds μ r μ' C hR hx hl => ?_
  obtain ⟨rfl, rfl, lo, hi, x, ⟨hb, hx2⟩, rfl, rfl⟩ := hR
  show DB K X Z [some (eBox lo hi), some (.tup [eF x]), none, none, none] [] (defBody (top 33)) _
  refine db_forS [()] (fun _ => .tup [.tup [eF lo, eF hi], eF x]) (fun (_ : Unit) l => l ≠ [] ∨ (lo ≤ x ∧ x ≤ hi)) (fun _ => [some (eBox lo hi), some (.tup [eF x]), none, none, none]) (fun _ => []) () C (di_is (di_zip 0 C rfl (h.free 14 _ rfl) (de_var 0 C rfl rfl rfl) (de_var 1 C rfl rfl rfl) rfl rfl) (by rfl)) rfl (.some (.some (.none (.none (.none .nil))))) (by exact .inl (by simp)) (fun f a l hJ ha => ?_) (fun f hJ => ?_)
  · refine ⟨_, _, _, (dg_tup C (dgs_cons (dg_tup C (dgs_cons (dg_name 2 C rfl rfl) (dgs_cons (dg_name 3 C rfl rfl) dgs_nil)) rfl) (dgs_cons (dg_name 4 C rfl rfl) dgs_nil)) rfl), ?_⟩
    refine db_if (dw_or (dt_val (de_callP 1 C (c_is_less h) rfl (da_cons (de_var 4 C rfl rfl rfl) (da_cons (de_var 2 C rfl rfl rfl) da_nil)) ⟨_, _, ⟨(by exact hx2), (by exact hb.2.1)⟩, rfl, rfl⟩ rfl (by omega))) fun hc0 => (dw_or1 (dt_val (de_callP 1 C (c_is_less h) rfl (da_cons (de_var 3 C rfl rfl rfl) (da_cons (de_var 4 C rfl rfl rfl) da_nil)) ⟨_, _, ⟨(by exact hb.2.2), (by exact hx2)⟩, rfl, rfl⟩ rfl (by omega))))).dt (fun hc => ?_) (fun hc => ?_)
    · refine db_ret de_bl ⟨?_, [], rfl⟩
      have e : ¬ (lo ≤ x ∧ x ≤ hi) := by simp at hc; rintro ⟨a1, a2⟩; rcases hc with hc | hc; exact Rat.not_lt.mpr a1 hc; exact Rat.not_lt.mpr a2 hc
      rw [← Bool.decide_and, decide_eq_false e]
    · refine db_nil (db_nil ⟨(), .inr ?_, (.some (.some (.none (.none (.none .nil))))), rfl⟩)
      simp [Rat.not_lt] at hc; exact hc
  · have e := hJ.resolve_left (fun z => z rfl)
    refine db_ret de_bl ⟨?_, [], rfl⟩
    rw [← Bool.decide_and, decide_eq_true e]
theorem c_is_in (h : Hd P w K mg base) : FC P w K mg base 7 "is_in" 2 (Pu (R_is_in)) := by
  refine mk_fc (N := ["box", "thing"]) (ps := ["box", "thing"]) (V := [3, 3]) (Gs := ["need_box_boxes", "is_row", "len", "lies_in"]) (k := 6) (d := dd_is_in) h 15 15 rfl rfl rfl (by decide +kernel) rfl (fun _ _ _ _ _ _ us hl => match us, hl with | [_, _], _ => rfl) fun X Z ds μ r μ' C hR hx hl => ?_
  obtain ⟨rfl, rfl, lo, hi, x, ⟨hb, hx2⟩, rfl, rfl⟩ := hR
  show DB K X Z [some (eBox lo hi), some (.tup [eF x])] [] (defBody (top 34)) _
  refine db_expr (de_callP 0 C (c_need_box_boxes h) rfl (da_cons (de_var 0 C rfl rfl rfl) da_nil) ⟨_, _, (by exact hb), rfl, rfl⟩ rfl (by omega)) ?_
  exact db_ret (de_andv (de_callP 1 C (c_is_row h) rfl (da_cons (de_var 1 C rfl rfl rfl) (da_cons (de_len 2 C rfl (h.free 0 _ rfl) (de_var 0 C rfl rfl rfl) rfl) da_nil)) ⟨[x], _, ⟨rfl, (by simp)⟩, rfl, rfl⟩ rfl (by omega)) fun hc0 => (de_one (de_callP 3 C (c_lies_in h) rfl (da_cons (de_var 0 C rfl rfl rfl) (da_cons (de_var 1 C rfl rfl rfl) da_nil)) ⟨_, _, _, ⟨(by exact hb), (by exact hx2)⟩, rfl, rfl⟩ rfl (by omega)))) ⟨(by simp), [], (by first | rfl | simp)⟩
theorem c_single_row (h : Hd P w K mg base) : FC P w K mg base 1 "single_row" 3 (Pu (R_single_row)) := by
  refine mk_fc (N := ["many", "place", "number", "at"]) (ps := ["many", "place", "number"]) (V := [3, 2, 2, 0]) (Gs := ["tuple", "range"]) (k := 0) (d := dd_single_row) h 16 16 rfl rfl rfl (by decide +kernel) rfl (fun _ _ _ _ _ _ us hl => match us, hl with | [_, _, _], _ => rfl) fun X Z ds μ r μ' C hR hx hl => ?_
  obtain ⟨rfl, rfl, x, _, rfl, rfl⟩ := hR
  show DB K X Z [some (.int 1), some (.int 0), some (eF x), none] [] (defBody (top 35)) _
  exact db_ret (de_tupleL 0 C rfl (h.free 12 _ rfl) (de_lst (dl_of_dc (V' := [0, 1, 1, 3]) (Gs' := ["NOUGHT_numbers"]) (own := [("at", 3)]) C (by decide +kernel) (dc_map [0] (fun (i : Nat) => .int (i : Int)) (fun (i : Nat) => if decide ((i : Int) = 0) = true then eF x else eF 0) [0, 1, 1, 3] ["NOUGHT_numbers"] [("at", 3)] C (by decide +kernel) (by decide +kernel) (di_is (di_range (n := 1) 1 C rfl (h.free 16 _ rfl) (de_var 0 C rfl rfl rfl) (by first | rfl | assumption | omega | decide | simp) (by first | rfl | assumption | omega | decide | simp)) (by rfl)) (by first | rfl | assumption | omega | decide | simp) fun a ha => ⟨_, _, (by decide), fun _ C' => ⟨(dg_name 3 C' rfl rfl), (de_ite (dt_cp (de_var 3 C' rfl rfl rfl) (de_var 1 C' rfl rfl rfl) cp_eq) (de_var 2 C' rfl rfl rfl) (de_is (de_glo 0 C' rfl (h.cT 0 rfl)) (by rfl : _ = eF (0))))⟩⟩)))) ⟨(by rfl), [], (by first | rfl | simp)⟩
theorem l_box_wishes (h : Hd P w K mg base) : FL P w K mg base 7 "box_wishes" 1 (R_box_wishes) := by
  refine mk_fl (N := ["box", "many", "uppers", "at", "low", "high"]) (ps := ["box"]) (V := [3, 2, 3, 0, 0, 0]) (Gs := ["need_box_boxes", "len", "enumerate"]) (k := 6) (d := dd_box_wishes) h 17 17 rfl rfl rfl (by decide +kernel) rfl (fun _ _ _ _ _ _ us hl => match us, hl with | [_], _ => rfl) fun X Z ds c C hR hx hl => ?_
  obtain ⟨lo, hi, hb, rfl, rfl⟩ := hR
  show DB K X Z [some (eBox lo hi), none, none, none, none, none] [] (defBody (top 36)) _
  refine db_expr (de_callP 0 C (c_need_box_boxes h) rfl (da_cons (de_var 0 C rfl rfl rfl) da_nil) ⟨_, _, (by exact hb), rfl, rfl⟩ rfl (by omega)) ?_
  refine db_set 1 C rfl rfl (de_len 1 C rfl (h.free 0 _ rfl) (de_var 0 C rfl rfl rfl) rfl) ?_
  refine db_setDcF (V' := [0, 1, 0, 3, 3, 3]) (Gs' := ["single_row", "ONE_numbers"]) (own := [("at", 3), ("low", 4), ("high", 5)]) 2 C (by decide +kernel) rfl rfl (by simp) (dc_map [()] (fun _ => .tup [.int 0, .tup [eF lo, eF hi]]) (fun _ => eA (1, hi)) [0, 1, 0, 3, 3, 3] ["single_row", "ONE_numbers"] [("at", 3), ("low", 4), ("high", 5)] C (by decide +kernel) (by decide +kernel) (di_is (di_enum 2 C rfl (h.free 15 _ rfl) (de_var 0 C rfl rfl rfl) rfl) (by rfl)) (by first | rfl | assumption | omega | decide | simp) fun a ha => ⟨_, _, (by decide), fun _ C' => ⟨(dg_tup C' (dgs_cons (dg_name 3 C' rfl rfl) (dgs_cons (dg_tup C' (dgs_cons (dg_name 4 C' rfl rfl) (dgs_cons (dg_name 5 C' rfl rfl) dgs_nil)) rfl) dgs_nil)) rfl), (de_tup (da_cons (de_callP 0 C' (c_single_row h) rfl (da_cons (de_var 1 C' rfl rfl rfl) (da_cons (de_var 3 C' rfl rfl rfl) (da_cons (de_is (de_glo 1 C' rfl (h.cT 1 rfl)) (by rfl : _ = eF (1))) da_nil))) ⟨_, trivial, rfl, rfl⟩ rfl (by omega)) (da_cons (de_var 5 C' rfl rfl rfl) da_nil)))⟩⟩) ?_
  exact db_retL (dl_cat (de_var 2 C rfl rfl rfl) (de_lst (dl_of_dc (V' := [0, 1, 0, 3, 3, 3]) (Gs' := ["single_row", "minus", "NOUGHT_numbers"]) (own := [("at", 3), ("low", 4), ("high", 5)]) C (by decide +kernel) (dc_map [()] (fun _ => .tup [.int 0, .tup [eF lo, eF hi]]) (fun _ => eA (-1, 0 - lo)) [0, 1, 0, 3, 3, 3] ["single_row", "minus", "NOUGHT_numbers"] [("at", 3), ("low", 4), ("high", 5)] C (by decide +kernel) (by decide +kernel) (di_is (di_enum 2 C rfl (h.free 15 _ rfl) (de_var 0 C rfl rfl rfl) rfl) (by rfl)) (by first | rfl | assumption | omega | decide | simp) fun a ha => ⟨_, _, (by decide), fun _ C' => ⟨(dg_tup C' (dgs_cons (dg_name 3 C' rfl rfl) (dgs_cons (dg_tup C' (dgs_cons (dg_name 4 C' rfl rfl) (dgs_cons (dg_name 5 C' rfl rfl) dgs_nil)) rfl) dgs_nil)) rfl), (de_tup (da_cons (de_callP 0 C' (c_single_row h) rfl (da_cons (de_var 1 C' rfl rfl rfl) (da_cons (de_var 3 C' rfl rfl rfl) (da_cons (de_is (de_tup (da_cons (de_neg de_int) (da_cons de_int da_nil))) (by rfl : _ = eF (-1))) da_nil))) ⟨_, trivial, rfl, rfl⟩ rfl (by omega)) (da_cons (de_callP 1 C' (c_minus h) rfl (da_cons (de_is (de_glo 2 C' rfl (h.cT 0 rfl)) (by rfl : _ = eF (0))) (da_cons (de_var 4 C' rfl rfl rfl) da_nil)) ⟨_, _, ⟨(by exact sm0), (by exact hb.2.1)⟩, rfl, rfl⟩ rfl (by omega)) da_nil)))⟩⟩))) (by simp)) fun q hq => ⟨q, rfl, hq, (by simp)⟩
theorem c_need_box_handing (h : Hd P w K mg base) : FC P w K mg base 6 "need_box_handing" 2 (Pu (R_need_box_handing)) := by
  refine mk_fc (N := ["box", "many"]) (ps := ["box", "many"]) (V := [3, 3]) (Gs := ["is_box", "len", "NoBox"]) (k := 5) (d := dd_need_box_handing) h 18 18 rfl rfl rfl (by decide +kernel) rfl (fun _ _ _ _ _ _ us hl => match us, hl with | [_, _], _ => rfl) fun X Z ds μ r μ' C hR hx hl => ?_
  obtain ⟨rfl, rfl, lo, hi, hb, rfl, rfl⟩ := hR
  show DB K X Z [some (eBox lo hi), some (.int 1)] [] (defBody (top 39)) _
  refine db_skip (dt_is (dw_or (dt_not (dt_val (de_callP 0 C (c_is_box h) rfl (da_cons (de_var 0 C rfl rfl rfl) da_nil) ⟨_, _, (by exact hb), rfl, rfl⟩ rfl (by omega)))) fun hc0 => (dw_or1 (dt_cp (de_len 1 C rfl (h.free 0 _ rfl) (de_var 0 C rfl rfl rfl) rfl) (de_var 1 C rfl rfl rfl) cp_ne))).dt (by rfl)) ?_
  exact db_nil ⟨rfl, [], rfl⟩

/-! ### sums -/
abbrev R_sum_at (ds : List D) (d : D) : Prop := ∃ (a : List Rat × Rat) (xs : List Rat), (SmDot 0 (a.1.zip xs) ∧ Sm (dot a.1 xs) ∧ Sm a.2) ∧ ds = [eSum a, eR xs] ∧ d = eF (dot a.1 xs + a.2)
abbrev R_sum_plus (ds : List D) (d : D) : Prop := ∃ a b : Rat × Rat, (SmA a ∧ SmA b) ∧ ds = [eA a, eA b] ∧ d = eA (a.1 + b.1, a.2 + b.2)
abbrev R_sum_times (ds : List D) (d : D) : Prop := ∃ (t : Rat) (a : Rat × Rat), (Sm t ∧ SmA a) ∧ ds = [eF t, eA a] ∧ d = eA (t * a.1, t * a.2)
abbrev R_flat_sum (ds : List D) (d : D) : Prop := ∃ q : Rat, True ∧ ds = [.int 1, eF q] ∧ d = eA (0, q)
abbrev R_place_sum (ds : List D) (d : D) : Prop := True ∧ ds = [.int 1, .int 0] ∧ d = eA (1, 0)

theorem c_sum_at (h : Hd P w K mg base) : FC P w K mg base 5 "sum_at" 2 (Pu (R_sum_at)) := by
  refine mk_fc (N := ["one", "row"]) (ps := ["one", "row"]) (V := [3, 3]) (Gs := ["plus", "weigh"]) (k := 4) (d := dd_sum_at) h 19 19 rfl rfl rfl (by decide +kernel) rfl (fun _ _ _ _ _ _ us hl => match us, hl with | [_, _], _ => rfl) fun X Z ds μ r μ' C hR hx hl => ?_
  obtain ⟨rfl, rfl, a, xs, ⟨h1, h2, h3⟩, rfl, rfl⟩ := hR
  show DB K X Z [some (eSum a), some (eR xs)] [] (defBody (top 44)) _
  exact db_ret (de_callP 0 C (c_plus h) rfl (da_cons (de_callP 1 C (c_weigh h) rfl (da_cons (de_ixT C (de_var 0 C rfl rfl rfl) de_int rfl) (da_cons (de_var 1 C rfl rfl rfl) da_nil)) ⟨a.1, xs, h1, rfl, rfl⟩ rfl (by omega)) (da_cons (de_ixT C (de_var 0 C rfl rfl rfl) de_int rfl) da_nil)) ⟨_, _, ⟨(by exact h2), (by exact h3)⟩, rfl, rfl⟩ rfl (by omega)) ⟨(by rfl), [], (by first | rfl | simp)⟩
theorem c_sum_plus (h : Hd P w K mg base) : FC P w K mg base 4 "sum_plus" 2 (Pu (R_sum_plus)) := by
  refine mk_fc (N := ["one", "other", "first", "second"]) (ps := ["one", "other"]) (V := [3, 3, 0, 0]) (Gs := ["tuple", "zip", "plus"]) (k := 3) (d := dd_sum_plus) h 20 20 rfl rfl rfl (by decide +kernel) rfl (fun _ _ _ _ _ _ us hl => match us, hl with | [_, _], _ => rfl) fun X Z ds μ r μ' C hR hx hl => ?_
  obtain ⟨rfl, rfl, a, b, ⟨h1, h2⟩, rfl, rfl⟩ := hR
  show DB K X Z [some (eA a), some (eA b), none, none] [] (defBody (top 45)) _
  exact db_ret (de_tup (da_cons (de_tupleL 0 C rfl (h.free 12 _ rfl) (de_lst (dl_of_dc (V' := [0, 0, 3, 3]) (Gs' := ["plus"]) (own := [("first", 2), ("second", 3)]) C (by decide +kernel) (dc_map [()] (fun _ => .tup [eF a.1, eF b.1]) (fun _ => eF (a.1 + b.1)) [0, 0, 3, 3] ["plus"] [("first", 2), ("second", 3)] C (by decide +kernel) (by decide +kernel) (di_is (di_zip 1 C rfl (h.free 14 _ rfl) (de_ixT C (de_var 0 C rfl rfl rfl) de_int rfl) (de_ixT C (de_var 1 C rfl rfl rfl) de_int rfl) rfl rfl) (by rfl)) (by first | rfl | assumption | omega | decide | simp) fun a ha => ⟨_, _, (by decide), fun _ C' => ⟨(dg_tup C' (dgs_cons (dg_name 2 C' rfl rfl) (dgs_cons (dg_name 3 C' rfl rfl) dgs_nil)) rfl), (de_callP 0 C' (c_plus h) rfl (da_cons (de_var 2 C' rfl rfl rfl) (da_cons (de_var 3 C' rfl rfl rfl) da_nil)) ⟨_, _, ⟨(by exact h1.1), (by exact h2.1)⟩, rfl, rfl⟩ rfl (by omega))⟩⟩)))) (da_cons (de_callP 2 C (c_plus h) rfl (da_cons (de_ixT C (de_var 0 C rfl rfl rfl) de_int rfl) (da_cons (de_ixT C (de_var 1 C rfl rfl rfl) de_int rfl) da_nil)) ⟨_, _, ⟨(by exact h1.2), (by exact h2.2)⟩, rfl, rfl⟩ rfl (by omega)) da_nil))) ⟨(by rfl), [], (by first | rfl | simp)⟩
theorem c_sum_times (h : Hd P w K mg base) : FC P w K mg base 4 "sum_times" 2 (Pu (R_sum_times)) := by
  refine mk_fc (N := ["by", "one", "part"]) (ps := ["by", "one"]) (V := [2, 3, 0]) (Gs := ["tuple", "times"]) (k := 3) (d := dd_sum_times) h 21 21 rfl rfl rfl (by decide +kernel) rfl (fun _ _ _ _ _ _ us hl => match us, hl with | [_, _], _ => rfl) fun X Z ds μ r μ' C hR hx hl => ?_
  obtain ⟨rfl, rfl, t, a, ⟨h1, h2⟩, rfl, rfl⟩ := hR
  show DB K X Z [some (eF t), some (eA a), none] [] (defBody (top 46)) _
  exact db_ret (de_tup (da_cons (de_tupleL 0 C rfl (h.free 12 _ rfl) (de_lst (dl_of_dc (V' := [1, 0, 3]) (Gs' := ["times"]) (own := [("part", 2)]) C (by decide +kernel) (dc_map [()] (fun _ => eF a.1) (fun _ => eF (t * a.1)) [1, 0, 3] ["times"] [("part", 2)] C (by decide +kernel) (by decide +kernel) (di_tup C (de_ixT C (de_var 1 C rfl rfl rfl) de_int rfl)) (by first | rfl | assumption | omega | decide | simp) fun a ha => ⟨_, _, (by decide), fun _ C' => ⟨(dg_name 2 C' rfl rfl), (de_callP 0 C' (c_times h) rfl (da_cons (de_var 0 C' rfl rfl rfl) (da_cons (de_var 2 C' rfl rfl rfl) da_nil)) ⟨_, _, ⟨(by exact h1), (by exact h2.1)⟩, rfl, rfl⟩ rfl (by omega))⟩⟩)))) (da_cons (de_callP 1 C (c_times h) rfl (da_cons (de_var 0 C rfl rfl rfl) (da_cons (de_ixT C (de_var 1 C rfl rfl rfl) de_int rfl) da_nil)) ⟨_, _, ⟨(by exact h1), (by exact h2.2)⟩, rfl, rfl⟩ rfl (by omega)) da_nil))) ⟨(by rfl), [], (by first | rfl | simp)⟩
theorem c_flat_sum (h : Hd P w K mg base) : FC P w K mg base 1 "flat_sum" 2 (Pu (R_flat_sum)) := by
  refine mk_fc (N := ["many", "number"]) (ps := ["many", "number"]) (V := [3, 3]) (Gs := ["NOUGHT_sums"]) (k := 0) (d := dd_flat_sum) h 22 22 rfl rfl rfl (by decide +kernel) rfl (fun _ _ _ _ _ _ us hl => match us, hl with | [_, _], _ => rfl) fun X Z ds μ r μ' C hR hx hl => ?_
  obtain ⟨rfl, rfl, x, _, rfl, rfl⟩ := hR
  show DB K X Z [some (.int 1), some (eF x)] [] (defBody (top 47)) _
  exact db_ret (de_tup (da_cons (de_rep1 C (de_tup (da_cons (de_is (de_glo 0 C rfl (h.cT 3 rfl)) (by rfl : _ = eF (0))) da_nil)) (de_var 0 C rfl rfl rfl)) (da_cons (de_var 1 C rfl rfl rfl) da_nil))) ⟨(by rfl), [], (by first | rfl | simp)⟩
theorem c_place_sum (h : Hd P w K mg base) : FC P w K mg base 1 "place_sum" 2 (Pu (R_place_sum)) := by
  refine mk_fc (N := ["many", "place", "at"]) (ps := ["many", "place"]) (V := [3, 2, 0]) (Gs := ["tuple", "range", "NOUGHT_sums"]) (k := 0) (d := dd_place_sum) h 23 23 rfl rfl rfl (by decide +kernel) rfl (fun _ _ _ _ _ _ us hl => match us, hl with | [_, _], _ => rfl) fun X Z ds μ r μ' C hR hx hl => ?_
  obtain ⟨rfl, rfl, _, rfl, rfl⟩ := hR
  show DB K X Z [some (.int 1), some (.int 0), none] [] (defBody (top 48)) _
  exact db_ret (de_tup (da_cons (de_tupleL 0 C rfl (h.free 12 _ rfl) (de_lst (dl_of_dc (V' := [0, 1, 3]) (Gs' := ["NOUGHT_sums", "ONE_sums", "int"]) (own := [("at", 2)]) C (by decide +kernel) (dc_map [0] (fun (i : Nat) => .int (i : Int)) (fun (i : Nat) => eF (if decide ((i : Int) = 0) = true then 1 else 0)) [0, 1, 3] ["NOUGHT_sums", "ONE_sums", "int"] [("at", 2)] C (by decide +kernel) (by decide +kernel) (di_is (di_range (n := 1) 1 C rfl (h.free 16 _ rfl) (de_var 0 C rfl rfl rfl) (by first | rfl | assumption | omega | decide | simp) (by first | rfl | assumption | omega | decide | simp)) (by rfl)) (by first | rfl | assumption | omega | decide | simp) fun a ha => ⟨_, _, (by decide), fun _ C' => ⟨(dg_name 2 C' rfl rfl), (de_ixL C' (de_lst (dl_lst (da_cons (de_is (de_glo 0 C' rfl (h.cT 3 rfl)) (by rfl : _ = eF (0))) (da_cons (de_is (de_glo 1 C' rfl (h.cT 4 rfl)) (by rfl : _ = eF (1))) da_nil)))) (de_intB 2 C' rfl (h.free 8 _ rfl) (de_cp (de_var 2 C' rfl rfl rfl) (de_var 1 C' rfl rfl rfl) cp_eq)) (by exact at_b2nF))⟩⟩)))) (da_cons (de_is (de_glo 2 C rfl (h.cT 3 rfl)) (by rfl : _ = eF (0))) da_nil))) ⟨(by rfl), [], (by first | rfl | simp)⟩
end
end NC

set_option Elab.async false
set_option linter.all false
set_option autoImplicit false
set_option maxRecDepth 100000
set_option maxHeartbeats 4000000
namespace NC
open PySem PySem.Spec PyProof.Rows L2

/-! printed by spec2.py: layers, nets. -/
section
variable {P : Program} {w : World} {K : PySem.W.Frag} {mg : Str → Option Value} {base : Heap}


/-! ### nets as data -/
abbrev Node := List Rat × Rat
abbrev Lay := List Node
abbrev Lays := List Lay
abbrev eLay (l : Lay) : D := .tup (l.map eSum)
abbrev eLayL (l : Lay) : D := .lst (l.map eSum)
abbrev eLays (L : Lays) : D := .lst (L.map eLayL)
def clsOf (K : PySem.W.Frag) (b : Bool) : Addr := if b then He.ga K "CutLayer" else He.ga K "Layer"
abbrev eIns (K : PySem.W.Frag) (x : Bool × Lay) : D := .ins (clsOf K x.1) ["kept_nodes"] [eLay x.2]
abbrev stk (L : Lays) (ll : Lay) : List (Bool × Lay) := (L.map fun l => (true, l)) ++ [(false, ll)]
abbrev eNet (K : PySem.W.Frag) (L : Lays) (ll : Lay) : D := .ins (He.ga K "Net") ["taken", "stack"] [.int 1, .lst ((stk L ll).map (eIns K))]
def val (n : Node) (xs : List Rat) : Rat := dot n.1 xs + n.2
def SmAt (n : Node) (xs : List Rat) : Prop := SmDot 0 (n.1.zip xs) ∧ Sm (dot n.1 xs) ∧ Sm n.2 ∧ Sm (val n xs)
def cut0 (v : Rat) : Rat := if v < 0 then 0 else v
def pass (b : Bool) (l : Lay) (xs : List Rat) : List Rat := l.map fun n => if b then cut0 (val n xs) else val n xs
def outsZ (xs : List Rat) (S : List (Bool × Lay)) : List Rat := S.foldl (fun xs x => pass x.1 x.2 xs) xs
def outsAt (L : Lays) (ll : Lay) (xs : List Rat) : List Rat := outsZ xs (stk L ll)
/-- all values small -/
def SmZ : List Rat → List (Bool × Lay) → Prop
  | _, [] => True
  | xs, x :: S => (∀ n ∈ x.2, SmAt n xs) ∧ x.2.length < 100000 ∧ SmZ (pass x.1 x.2 xs) S
theorem sm_cut {v : Rat} (h : Sm v) : Sm (cut0 v) := by unfold cut0; split; exact sm0; exact h
def hid (L : Lays) : Nat := (L.map List.length).sum
/-- each layer has one to four nodes, rows as long as the layer ahead -/
def Shape : Nat → Lays → Prop
  | _, [] => True
  | a, l :: L => (1 ≤ l.length ∧ l.length ≤ 4 ∧ ∀ n ∈ l, n.1.length = a) ∧ Shape l.length L
def NetOk (L : Lays) (ll : Lay) : Prop := Shape 1 (L ++ [ll]) ∧ L.length ≤ 3
theorem clsOf_cls (h : Hd P w K mg base) (b : Bool) : ClsD K (clsOf K b) ["kept_nodes"] := by
  cases b
  · exact h.cls 0 _ _ rfl
  · exact h.cls 1 _ _ rfl

/-! ### contracts: layers, nets -/
abbrev R_Layer_init (K : PySem.W.Frag) : Con := fun ds μ d μ' => ∃ (q Cl : Addr) (l : Lay), ClsD K Cl ["kept_nodes"] ∧ ds = [.ref q, eLayL l] ∧ μ = [(q, .ins Cl [] [])] ∧ d = .non ∧ μ' = [(q, .ins Cl ["kept_nodes"] [eLay l])]
abbrev R_Layer_told (K : PySem.W.Frag) (ds : List D) (d : D) : Prop := ∃ (Cl : Addr) (l : Lay), ClsD K Cl ["kept_nodes"] ∧ ds = [.ins Cl ["kept_nodes"] [eLay l]] ∧ d = eLay l
abbrev R_Layer_sums (K : PySem.W.Frag) (ds : List D) (d : D) : Prop := ∃ (Cl : Addr) (l : Lay) (xs : List Rat), (ClsD K Cl ["kept_nodes"] ∧ (∀ n ∈ l, SmAt n xs) ∧ l.length < 100000) ∧ ds = [.ins Cl ["kept_nodes"] [eLay l], eR xs] ∧ d = eR (l.map fun n => val n xs)
abbrev R_Layer_passed (K : PySem.W.Frag) (b : Bool) (ds : List D) (d : D) : Prop := ∃ (l : Lay) (xs : List Rat), ((∀ n ∈ l, SmAt n xs) ∧ l.length < 100000) ∧ ds = [.ins (clsOf K b) ["kept_nodes"] [eLay l], eR xs] ∧ d = eR (pass b l xs)
abbrev R_is_between (ds : List D) (d : D) : Prop := ∃ i a b : Int, True ∧ ds = [.int i, .int a, .int b] ∧ d = .bl (decide (a ≤ i) && decide (i ≤ b))
abbrev R_is_sum (ds : List D) (d : D) : Prop := ∃ (n : Node) (k : Int), ((n.1.length : Int) = k ∧ n.1.length < 100000) ∧ ds = [eSum n, .int k] ∧ d = .bl true
abbrev R_is_some (ds : List D) (d : D) : Prop := ∃ (xs : List D) (m : Int), (1 ≤ xs.length ∧ (xs.length : Int) ≤ m) ∧ ds = [.lst xs, .int m] ∧ d = .bl true
abbrev R_are_layers (ds : List D) (d : D) : Prop := ∃ L : Lays, (Shape 1 L ∧ 1 ≤ L.length ∧ L.length ≤ 4) ∧ ds = [.int 1, eLays L] ∧ d = .bl true
abbrev R_Net_init (K : PySem.W.Frag) : Con := fun ds μ d μ' => ∃ (q : Addr) (L : Lays) (ll : Lay), NetOk L ll ∧ ds = [.ref q, .int 1, eLays (L ++ [ll])] ∧ μ = [(q, .ins (He.ga K "Net") [] [])] ∧ d = .non ∧ μ' = [(q, .ins (He.ga K "Net") ["taken", "stack"] [.int 1, .lst ((stk L ll).map (eIns K))])]
abbrev R_Net_ins (K : PySem.W.Frag) (ds : List D) (d : D) : Prop := ∃ (L : Lays) (ll : Lay), True ∧ ds = [eNet K L ll] ∧ d = .int 1
abbrev R_Net_outs (K : PySem.W.Frag) (ds : List D) (d : D) : Prop := ∃ (L : Lays) (ll : Lay), True ∧ ds = [eNet K L ll] ∧ d = .int (ll.length : Int)
abbrev R_Net_layers_told (K : PySem.W.Frag) (ds : List D) (d : D) : Prop := ∃ (L : Lays) (ll : Lay), (NetOk L ll) ∧ ds = [eNet K L ll] ∧ d = eLays (L ++ [ll])
abbrev R_Net_places (K : PySem.W.Frag) (ds : List D) (d : D) : Prop := ∃ (L : Lays) (ll : Lay), (NetOk L ll) ∧ ds = [eNet K L ll] ∧ d = .lst (L.zipIdx.flatMap fun x => (List.range x.1.length).map fun (i : Nat) => D.tup [.int (x.2 : Int), .int (i : Int)])
abbrev R_Net_hidden (K : PySem.W.Frag) (ds : List D) (d : D) : Prop := ∃ (L : Lays) (ll : Lay), (NetOk L ll) ∧ ds = [eNet K L ll] ∧ d = .int (hid L : Int)
abbrev R_Net_need_spot (K : PySem.W.Frag) (ds : List D) (d : D) : Prop := ∃ (L : Lays) (ll : Lay) (x : Rat), True ∧ ds = [eNet K L ll, eR [x]] ∧ d = .non
abbrev R_Net_outs_at (K : PySem.W.Frag) (ds : List D) (d : D) : Prop := ∃ (L : Lays) (ll : Lay) (x : Rat), SmZ [x] (stk L ll) ∧ ds = [eNet K L ll, eR [x]] ∧ d = eR (outsAt L ll [x])

theorem m_Layer_init (h : Hd P w K mg base) : MO P w K mg base 1 ("Layer", some "__init__") 2 (R_Layer_init K) := by
  refine mk_mo (N := ["self", "nodes"]) (ps := ["self", "nodes"]) (V := [3, 3]) (Gs := ["tuple"]) (k := 0) (d := dd_Layer_init) h 24 rfl  rfl (by decide +kernel) rfl (fun _ _ _ _ _ _ us hl => match us, hl with | [_, _], _ => rfl) fun X Z ds μ r μ' C hR hx hl => ?_
  obtain ⟨q, Cl, l, T, rfl, rfl, rfl, rfl⟩ := hR
  show DB K X Z [some (.ref q), some (eLayL l)] [(q, .ins Cl [] [])] (defBody (inClass (top 50) 0)) _
  refine db_fldN 0 C (T) (de_tupleL 0 C rfl (h.free 12 _ rfl) (de_var 1 C rfl rfl rfl)) (de_var 0 C rfl rfl rfl) rfl ?_
  exact db_nil ⟨rfl, [], rfl⟩
theorem m_Layer_told (h : Hd P w K mg base) : MO P w K mg base 1 ("Layer", some "told") 1 (Pu (R_Layer_told K)) := by
  refine mk_mo (N := ["self"]) (ps := ["self"]) (V := [3]) (Gs := []) (k := 0) (d := dd_Layer_told) h 25 rfl  rfl (by decide +kernel) rfl (fun _ _ _ _ _ _ us hl => match us, hl with | [_], _ => rfl) fun X Z ds μ r μ' C hR hx hl => ?_
  obtain ⟨rfl, rfl, Cl, l, T, rfl, rfl⟩ := hR
  show DB K X Z [some (.ins Cl ["kept_nodes"] [eLay l])] [] (defBody (inClass (top 50) 1)) _
  exact db_ret (de_fld 0 C T (de_var 0 C rfl rfl rfl) rfl rfl) ⟨(by rfl), [], (by first | rfl | simp)⟩
theorem m_Layer_sums (h : Hd P w K mg base) : MO P w K mg base 6 ("Layer", some "sums") 2 (Pu (R_Layer_sums K)) := by
  refine mk_mo (N := ["self", "ahead", "node"]) (ps := ["self", "ahead"]) (V := [3, 2, 0]) (Gs := ["tuple"]) (k := 5) (d := dd_Layer_sums) h 26 rfl  rfl (by decide +kernel) rfl (fun _ _ _ _ _ _ us hl => match us, hl with | [_, _], _ => rfl) fun X Z ds μ r μ' C hR hx hl => ?_
  obtain ⟨rfl, rfl, Cl, l, xs, ⟨T, hs, hlen⟩, rfl, rfl⟩ := hR
  show DB K X Z [some (.ins Cl ["kept_nodes"] [eLay l]), some (eR xs), none] [] (defBody (inClass (top 50) 2)) _
  exact db_ret (de_tupleL 0 C rfl (h.free 12 _ rfl) (de_lst (dl_of_dc (V' := [0, 1, 3]) (Gs' := ["sum_at"]) (own := [("node", 2)]) C (by decide +kernel) (dc_map l eSum (fun n => eF (val n xs)) [0, 1, 3] ["sum_at"] [("node", 2)] C (by decide +kernel) (by decide +kernel) (di_tup C (de_fld 0 C T (de_var 0 C rfl rfl rfl) rfl rfl)) (by first | rfl | assumption | omega | decide | simp) fun a ha => ⟨_, _, (by decide), fun _ C' => ⟨(dg_name 2 C' rfl rfl), (de_callP 0 C' (c_sum_at h) rfl (da_cons (de_var 2 C' rfl rfl rfl) (da_cons (de_var 1 C' rfl rfl rfl) da_nil)) ⟨a, xs, ⟨(hs a ha).1, (hs a ha).2.1, (hs a ha).2.2.1⟩, rfl, rfl⟩ rfl (by omega))⟩⟩)))) ⟨(by simp [Function.comp_def]), [], (by first | rfl | simp)⟩
theorem m_Layer_passed (h : Hd P w K mg base) : MO P w K mg base 7 ("Layer", some "passed") 2 (Pu (R_Layer_passed K false)) := by
  refine mk_mo (N := ["self", "ahead"]) (ps := ["self", "ahead"]) (V := [3, 3]) (Gs := []) (k := 6) (d := dd_Layer_passed) h 27 rfl  rfl (by decide +kernel) rfl (fun _ _ _ _ _ _ us hl => match us, hl with | [_, _], _ => rfl) fun X Z ds μ r μ' C hR hx hl => ?_
  obtain ⟨rfl, rfl, l, xs, ⟨hs, hlen⟩, rfl, rfl⟩ := hR
  show DB K X Z [some (.ins (He.ga K "Layer") ["kept_nodes"] [eLay l]), some (eR xs)] [] (defBody (inClass (top 50) 3)) _
  exact db_ret (de_methP C (MO.mc (m_Layer_sums h) h 1 0 rfl rfl) (de_var 0 C rfl rfl rfl) (da_cons (de_var 1 C rfl rfl rfl) da_nil) ⟨_, _, _, ⟨(by exact h.cls 0 _ _ rfl), (by exact hs), (by exact hlen)⟩, rfl, rfl⟩ rfl (by omega)) ⟨(by simp [pass]), [], (by first | rfl | simp)⟩
theorem m_CutLayer_passed (h : Hd P w K mg base) : MO P w K mg base 7 ("CutLayer", some "passed") 2 (Pu (R_Layer_passed K true)) := by
  refine mk_mo (N := ["self", "ahead", "one"]) (ps := ["self", "ahead"]) (V := [3, 3, 0]) (Gs := ["tuple"]) (k := 6) (d := dd_CutLayer_passed) h 28 rfl  rfl (by decide +kernel) rfl (fun _ _ _ _ _ _ us hl => match us, hl with | [_, _], _ => rfl) fun X Z ds μ r μ' C hR hx hl => ?_
  obtain ⟨rfl, rfl, l, xs, ⟨hs, hlen⟩, rfl, rfl⟩ := hR
  show DB K X Z [some (.ins (He.ga K "CutLayer") ["kept_nodes"] [eLay l]), some (eR xs), none] [] (defBody (inClass (top 51) 0)) _
  exact db_ret (de_tupleL 0 C rfl (h.free 12 _ rfl) (de_lst (dl_of_dc (V' := [0, 0, 3]) (Gs' := ["NOUGHT_sums", "int", "is_less"]) (own := [("one", 2)]) C (by decide +kernel) (dc_map (l.map fun n => val n xs) eF (fun v => eF (if decide (v < 0) = true then 0 else v)) [0, 0, 3] ["NOUGHT_sums", "int", "is_less"] [("one", 2)] C (by decide +kernel) (by decide +kernel) (di_tup C (de_methP C (MO.mc (m_Layer_sums h) h 4 1 rfl rfl) (de_var 0 C rfl rfl rfl) (da_cons (de_var 1 C rfl rfl rfl) da_nil) ⟨_, _, _, ⟨(by exact h.cls 1 _ _ rfl), (by exact hs), (by exact hlen)⟩, rfl, rfl⟩ rfl (by omega))) (by simpa using hlen) fun a ha => ⟨_, _, (by decide), fun _ C' => ⟨(dg_name 2 C' rfl rfl), (de_ixL C' (de_lst (dl_lst (da_cons (de_var 2 C' rfl rfl rfl) (da_cons (de_is (de_glo 0 C' rfl (h.cT 3 rfl)) (by rfl : _ = eF (0))) da_nil)))) (de_intB 1 C' rfl (h.free 8 _ rfl) (de_callP 2 C' (c_is_less h) rfl (da_cons (de_var 2 C' rfl rfl rfl) (da_cons (de_is (de_glo 0 C' rfl (h.cT 3 rfl)) (by rfl : _ = eF (0))) da_nil)) ⟨_, _, ⟨(by obtain ⟨n, hn, rfl⟩ := List.mem_map.mp ha; exact (hs n hn).2.2.2), (by exact sm0)⟩, rfl, rfl⟩ rfl (by omega))) (by exact at_b2nF))⟩⟩)))) ⟨(by simp [pass, cut0, Function.comp_def]), [], (by first | rfl | simp)⟩
theorem c_is_between (h : Hd P w K mg base) : FC P w K mg base 2 "is_between" 3 (Pu (R_is_between)) := by
  refine mk_fc (N := ["thing", "low", "high"]) (ps := ["thing", "low", "high"]) (V := [3, 3, 3]) (Gs := ["is_whole"]) (k := 1) (d := dd_is_between) h 29 24 rfl rfl rfl (by decide +kernel) rfl (fun _ _ _ _ _ _ us hl => match us, hl with | [_, _, _], _ => rfl) fun X Z ds μ r μ' C hR hx hl => ?_
  obtain ⟨rfl, rfl, i, a, b, _, rfl, rfl⟩ := hR
  show DB K X Z [some (.int i), some (.int a), some (.int b)] [] (defBody (top 56)) _
  exact db_ret (de_andv (de_callP 0 C (c_is_whole h) rfl (da_cons (de_var 0 C rfl rfl rfl) da_nil) ⟨_, trivial, rfl, rfl⟩ rfl (by omega)) fun hc0 => (de_one (de_chain rfl (de_var 1 C rfl rfl rfl) (de_var 0 C rfl rfl rfl) cp_le (de_var 2 C rfl rfl rfl) cp_le))) ⟨(by rfl), [], (by first | rfl | simp)⟩
theorem c_is_sum (h : Hd P w K mg base) : FC P w K mg base 4 "is_sum" 2 (Pu (R_is_sum)) := by
  refine mk_fc (N := ["thing", "many"]) (ps := ["thing", "many"]) (V := [3, 3]) (Gs := ["isinstance", "tuple", "len", "is_row", "is_fraction"]) (k := 3) (d := dd_is_sum) h 30 25 rfl rfl rfl (by decide +kernel) rfl (fun _ _ _ _ _ _ us hl => match us, hl with | [_, _], _ => rfl) fun X Z ds μ r μ' C hR hx hl => ?_
  obtain ⟨rfl, rfl, n, k, hk, rfl, rfl⟩ := hR
  show DB K X Z [some (eSum n), some (.int k)] [] (defBody (top 57)) _
  exact db_ret (de_andv (de_isi 0 C rfl (h.free 4 _ rfl) (de_var 0 C rfl rfl rfl) (de_ty 1 C rfl (h.free 12 _ rfl) bt_tuple) (.tup _) ClsV_tuple (h.kit 2 _ _ _ rfl)) fun hc0 => (de_andv (de_cp (de_len 2 C rfl (h.free 0 _ rfl) (de_var 0 C rfl rfl rfl) rfl) de_int cp_eq) fun hc1 => (de_andv (de_callP 3 C (c_is_row h) rfl (da_cons (de_ixT C (de_var 0 C rfl rfl rfl) de_int rfl) (da_cons (de_var 1 C rfl rfl rfl) da_nil)) ⟨n.1, _, hk, rfl, rfl⟩ rfl (by omega)) fun hc2 => (de_one (de_callP 4 C (c_is_fraction h) rfl (da_cons (de_ixT C (de_var 0 C rfl rfl rfl) de_int rfl) da_nil) ⟨_, trivial, rfl, rfl⟩ rfl (by omega)))))) ⟨(by simp), [], (by first | rfl | simp)⟩
theorem c_is_some (h : Hd P w K mg base) : FC P w K mg base 1 "is_some" 2 (Pu (R_is_some)) := by
  refine mk_fc (N := ["thing", "most"]) (ps := ["thing", "most"]) (V := [3, 3]) (Gs := ["isinstance", "list", "tuple", "len"]) (k := 0) (d := dd_is_some) h 31 26 rfl rfl rfl (by decide +kernel) rfl (fun _ _ _ _ _ _ us hl => match us, hl with | [_, _], _ => rfl) fun X Z ds μ r μ' C hR hx hl => ?_
  obtain ⟨rfl, rfl, xs, m, hk, rfl, rfl⟩ := hR
  show DB K X Z [some (.lst xs), some (.int m)] [] (defBody (top 58)) _
  exact db_ret (de_andv (de_isiT 0 C rfl (h.free 4 _ rfl) (de_var 0 C rfl rfl rfl) (de_ty 1 C rfl (h.free 11 _ rfl) bt_list) (de_ty 2 C rfl (h.free 12 _ rfl) bt_tuple) (.lst _) ClsV_list ClsV_tuple h.kitLT) fun hc0 => (de_one (de_chain rfl de_int (de_len 3 C rfl (h.free 0 _ rfl) (de_var 0 C rfl rfl rfl) rfl) cp_le (de_var 1 C rfl rfl rfl) cp_le))) ⟨(by have h1 := hk.1; have h2 := hk.2; simp [h1, h2]; omega), [], (by first | rfl | simp)⟩
theorem c_are_layers (h : Hd P w K mg base) : FC P w K mg base 5 "are_layers" 2 (Pu (R_are_layers)) := by
  refine mk_fc (N := ["ins", "thing", "ahead", "nodes", "node"]) (ps := ["ins", "thing"]) (V := [3, 3, 2, 3, 0]) (Gs := ["is_some", "MOST_LAYERS", "MOST_NODES", "all", "len"]) (k := 4) (d := dd_are_layers) h 32 27 rfl rfl rfl (by decide +kernel) rfl (fun _ _ _ _ _ _ us hl => match us, hl with | [_, _], _ => rfl) fun X Z ds μ r μ' C hR hx hl => ?_
  obtain ⟨rfl, rfl, L, hL, rfl, rfl⟩ := hR
  show DB K X Z [some (.int 1), some (eLays L), none, none, none] [] (defBody (top 59)) _
  refine db_skip (dt_is (dt_not (dt_val (de_callP 0 C (c_is_some h) rfl (da_cons (de_var 1 C rfl rfl rfl) (da_cons (de_glo 1 C rfl (h.cI 2 rfl)) da_nil)) ⟨_, _, ⟨(by simpa using hL.2.1), (by simp; exact_mod_cast hL.2.2)⟩, rfl, rfl⟩ rfl (by omega)))) (by rfl)) ?_
  refine db_set 2 C rfl rfl (de_var 0 C rfl rfl rfl) ?_
  refine db_forS L eLayL (fun (a : Nat) l => Shape a l ∧ a ≤ 4) (fun a => [some (.int 1), some (eLays L), some (.int (a : Int)), none, none]) (fun _ => []) 1 C (di_list C (de_var 1 C rfl rfl rfl)) rfl (.some (.some (.some (.none (.none .nil))))) (by exact ⟨hL.1, by decide⟩) (fun k l r hJ ha => ?_) (fun k hJ => ?_)
  · obtain ⟨⟨⟨h1, h2, h3⟩, h4⟩, h5⟩ := hJ
    refine ⟨_, _, _, (dg_name 3 C rfl rfl), ?_⟩
    refine db_skip (dt_is (dw_or (dt_not (dt_val (de_callP 0 C (c_is_some h) rfl (da_cons (de_var 3 C rfl rfl rfl) (da_cons (de_glo 2 C rfl (h.cI 3 rfl)) da_nil)) ⟨_, _, ⟨(by simpa using h1), (by simp; exact_mod_cast h2)⟩, rfl, rfl⟩ rfl (by omega)))) fun hc0 => (dw_or1 (dt_not (dt_val (de_all 3 C rfl (h.free 5 _ rfl) (de_is (de_lst (dl_of_dc (V' := [0, 0, 1, 0, 3]) (Gs' := ["is_sum"]) (own := [("node", 4)]) C (by decide +kernel) (dc_map l eSum (fun _ => .bl true) [0, 0, 1, 0, 3] ["is_sum"] [("node", 4)] C (by decide +kernel) (by decide +kernel) (di_list C (de_var 3 C rfl rfl rfl)) (by omega) fun a ha => ⟨_, _, (by decide), fun _ C' => ⟨(dg_name 4 C' rfl rfl), (de_callP 0 C' (c_is_sum h) rfl (da_cons (de_var 4 C' rfl rfl rfl) (da_cons (de_var 2 C' rfl rfl rfl) da_nil)) ⟨a, _, ⟨by rw [h3 a ha], by rw [h3 a ha]; omega⟩, rfl, rfl⟩ rfl (by omega))⟩⟩))) (mapB _ _))))))).dt (by simp)) ?_
    refine db_set 2 C rfl rfl (de_len 4 C rfl (h.free 0 _ rfl) (de_var 3 C rfl rfl rfl) rfl) ?_
    exact db_nil ⟨(l.map eSum).length, ⟨by simpa using h4, by simpa using h2⟩, (.some (.some (.some (.none (.none .nil))))), by rfl⟩
  · skip
    exact db_ret de_bl ⟨(by rfl), [], (by first | rfl | simp)⟩

theorem cut_last {α : Type} (L : List α) (l : α) (f : α → D) : cutD ((L ++ [l]).map f) none (some (-1)) = L.map f := by
  have e : (-1 + ((L.length : Int) + 1)).toNat = L.length := by omega
  unfold cutD HT.sIx
  simp [e]
theorem at_last {α : Type} (L : List α) (l : α) (f : α → D) : atI ((L ++ [l]).map f) (-1) = some (f l) := by
  have e : (-1 + ((L.length : Int) + 1)).toNat = L.length := by omega
  have e2 : (1 : Int) ≤ (L.length : Int) + 1 := by omega
  unfold atI ixN
  simp [e, e2]
theorem mc_told (h : Hd P w K mg base) (b : Bool) : MC P w K mg base 1 (clsOf K b) ["kept_nodes"] "told" 1 (Pu (R_Layer_told K)) := by
  cases b
  · exact MO.mc (m_Layer_told h) h 0 0 rfl rfl
  · exact MO.mc (m_Layer_told h) h 3 1 rfl rfl
theorem mc_passed (h : Hd P w K mg base) (b : Bool) : MC P w K mg base 7 (clsOf K b) ["kept_nodes"] "passed" 2 (Pu (R_Layer_passed K b)) := by
  cases b
  · exact MO.mc (m_Layer_passed h) h 2 0 rfl rfl
  · exact MO.mc (m_CutLayer_passed h) h 5 1 rfl rfl

theorem m_Net_init (h : Hd P w K mg base) : MO P w K mg base 6 ("Net", some "__init__") 3 (R_Net_init K) := by
  refine mk_mo (N := ["self", "ins", "layers", "nodes"]) (ps := ["self", "ins", "layers"]) (V := [3, 3, 3, 0]) (Gs := ["is_between", "MOST_INS", "NoNet", "are_layers", "Layer"]) (k := 5) (d := dd_Net_init) h 33 rfl  rfl (by decide +kernel) rfl (fun _ _ _ _ _ _ us hl => match us, hl with | [_, _, _], _ => rfl) fun X Z ds μ r μ' C hR hx hl => ?_
  obtain ⟨q, L, ll, ⟨hs, h3⟩, rfl, rfl, rfl, rfl⟩ := hR
  show DB K X Z [some (.ref q), some (.int 1), some (eLays (L ++ [ll])), none] [(q, .ins (He.ga K "Net") [] [])] (defBody (inClass (top 60) 0)) _
  refine db_skip (dt_is (dt_not (dt_val (de_callP 0 C (c_is_between h) rfl (da_cons (de_var 1 C rfl rfl rfl) (da_cons de_int (da_cons (de_glo 1 C rfl (h.cI 1 rfl)) da_nil))) ⟨_, _, _, trivial, rfl, rfl⟩ rfl (by omega)))) (by rfl)) ?_
  refine db_skip (dt_is (dt_not (dt_val (de_callP 3 C (c_are_layers h) rfl (da_cons (de_var 1 C rfl rfl rfl) (da_cons (de_var 2 C rfl rfl rfl) da_nil)) ⟨L ++ [ll], ⟨hs, by simp, by simp; omega⟩, rfl, rfl⟩ rfl (by omega)))) (by rfl)) ?_
  refine db_fldN 0 C (ClsD.part (ms := ["stack"]) (h.cls 2 _ _ rfl)) (de_var 1 C rfl rfl rfl) (de_var 0 C rfl rfl rfl) rfl ?_
  refine db_fldN 0 C (h.cls 2 _ _ rfl) (de_is (de_lst (dl_cat (de_lst (dl_of_dc (V' := [0, 0, 0, 3]) (Gs' := ["CutLayer"]) (own := [("nodes", 3)]) C (by decide +kernel) (dc_map L eLayL (fun l => eIns K (true, l)) [0, 0, 0, 3] ["CutLayer"] [("nodes", 3)] C (by decide +kernel) (by decide +kernel) (di_is (di_list C (de_lst (dl_slice C (de_var 2 C rfl rfl rfl) .none (.some (de_neg de_int))))) (cut_last _ _ _)) (by omega) fun a ha => ⟨_, _, (by decide), fun _ C' => ⟨(dg_name 3 C' rfl rfl), (de_insN (dl_make 0 C' (MO.kc (m_Layer_init h) h 1 96 rfl rfl) rfl (da_cons (de_var 3 C' rfl rfl rfl) da_nil) (fun q => ⟨q, _, a, clsOf_cls h true, rfl, rfl, rfl, rfl⟩) rfl (by omega)))⟩⟩))) (de_lst (dl_lst (da_cons (de_insN (dl_make 4 C (MO.kc (m_Layer_init h) h 0 95 rfl rfl) rfl (da_cons (de_ixL C (de_var 2 C rfl rfl rfl) (de_neg de_int) (by exact at_last _ _ _)) da_nil) (fun q => ⟨q, _, ll, clsOf_cls h false, rfl, rfl, rfl, rfl⟩) rfl (by omega))) da_nil))) (by simp; omega))) (by show D.lst (L.map (fun l => eIns K (true, l)) ++ [eIns K (false, ll)]) = D.lst ((stk L ll).map (eIns K)); simp [Function.comp_def])) (de_var 0 C rfl rfl rfl) rfl ?_
  exact db_nil ⟨rfl, [], rfl⟩
theorem m_Net_ins (h : Hd P w K mg base) : MO P w K mg base 1 ("Net", some "ins") 1 (Pu (R_Net_ins K)) := by
  refine mk_mo (N := ["self"]) (ps := ["self"]) (V := [3]) (Gs := []) (k := 0) (d := dd_Net_ins) h 34 rfl  rfl (by decide +kernel) rfl (fun _ _ _ _ _ _ us hl => match us, hl with | [_], _ => rfl) fun X Z ds μ r μ' C hR hx hl => ?_
  obtain ⟨rfl, rfl, L, ll, _, rfl, rfl⟩ := hR
  show DB K X Z [some (eNet K L ll)] [] (defBody (inClass (top 60) 1)) _
  exact db_ret (de_fld 0 C (h.cls 2 _ _ rfl) (de_var 0 C rfl rfl rfl) rfl rfl) ⟨(by rfl), [], (by first | rfl | simp)⟩
theorem m_Net_outs (h : Hd P w K mg base) : MO P w K mg base 2 ("Net", some "outs") 1 (Pu (R_Net_outs K)) := by
  refine mk_mo (N := ["self"]) (ps := ["self"]) (V := [3]) (Gs := ["len"]) (k := 1) (d := dd_Net_outs) h 35 rfl  rfl (by decide +kernel) rfl (fun _ _ _ _ _ _ us hl => match us, hl with | [_], _ => rfl) fun X Z ds μ r μ' C hR hx hl => ?_
  obtain ⟨rfl, rfl, L, ll, _, rfl, rfl⟩ := hR
  show DB K X Z [some (eNet K L ll)] [] (defBody (inClass (top 60) 2)) _
  exact db_ret (de_len 0 C rfl (h.free 0 _ rfl) (de_methP0 C (mc_told h _) (de_ixL C (de_fld 1 C (h.cls 2 _ _ rfl) (de_var 0 C rfl rfl rfl) rfl rfl) (de_neg de_int) (by exact at_last _ _ _)) ⟨_, ll, clsOf_cls h false, rfl, rfl⟩ rfl (by omega)) rfl) ⟨(by simp), [], (by first | rfl | simp)⟩
theorem m_Net_layers_told (h : Hd P w K mg base) : MO P w K mg base 2 ("Net", some "layers_told") 1 (Pu (R_Net_layers_told K)) := by
  refine mk_mo (N := ["self", "layer"]) (ps := ["self"]) (V := [3, 0]) (Gs := []) (k := 1) (d := dd_Net_layers_told) h 37 rfl  rfl (by decide +kernel) rfl (fun _ _ _ _ _ _ us hl => match us, hl with | [_], _ => rfl) fun X Z ds μ r μ' C hR hx hl => ?_
  obtain ⟨rfl, rfl, L, ll, hs, rfl, rfl⟩ := hR
  show DB K X Z [some (eNet K L ll), none] [] (defBody (inClass (top 60) 4)) _
  exact db_ret (de_lst (dl_of_dc (V' := [0, 3]) (Gs' := ["list"]) (own := [("layer", 1)]) C (by decide +kernel) (dc_map (stk L ll) (eIns K) (fun x => eLayL x.2) [0, 3] ["list"] [("layer", 1)] C (by decide +kernel) (by decide +kernel) (di_list C (de_fld 1 C (h.cls 2 _ _ rfl) (de_var 0 C rfl rfl rfl) rfl rfl)) (by have := hs.2; simp; omega) fun a ha => ⟨_, _, (by decide), fun _ C' => ⟨(dg_name 1 C' rfl rfl), (de_lst (dl_list 0 C' rfl (h.free 11 _ rfl) (de_methP0 C' (mc_told h _) (de_var 1 C' rfl rfl rfl) ⟨_, a.2, clsOf_cls h a.1, rfl, rfl⟩ rfl (by omega)) rfl))⟩⟩))) ⟨(by simp [Function.comp_def]), [], (by first | rfl | simp)⟩

abbrev plF (x : Lay × Nat) : List D := (List.range x.1.length).map fun (i : Nat) => D.tup [.int (x.2 : Int), .int (i : Int)]
theorem shape_hid : ∀ (L : Lays) (a : Nat) (l : Lay), Shape a (L ++ [l]) → hid L ≤ 4 * L.length
  | [], _, _, _ => by simp [hid]
  | m :: L, a, l, h => by
    have := shape_hid L m.length l h.2
    have h2 := h.1.2.1
    simp [hid] at this ⊢
    omega
theorem NetOk.hid {L : Lays} {ll : Lay} (h : NetOk L ll) : NC.hid L ≤ 12 := by
  have := shape_hid L 1 ll h.1
  have := h.2
  omega
theorem pl_len : ∀ (L : Lays) (k : Nat), ((L.zipIdx k).flatMap plF).length = hid L
  | [], k => rfl
  | l :: L, k => by
    rw [List.zipIdx_cons, List.flatMap_cons, List.length_append, pl_len L (k + 1)]
    simp [hid]

theorem m_Net_places (h : Hd P w K mg base) : MO P w K mg base 3 ("Net", some "places") 1 (Pu (R_Net_places K)) := by
  refine mk_mo (N := ["self", "found", "layer", "nodes", "node"]) (ps := ["self"]) (V := [3, 3, 2, 3, 0]) (Gs := ["enumerate", "range", "len"]) (k := 2) (d := dd_Net_places) h 38 rfl  rfl (by decide +kernel) rfl (fun _ _ _ _ _ _ us hl => match us, hl with | [_], _ => rfl) fun X Z ds μ r μ' C hR hx hl => ?_
  obtain ⟨rfl, rfl, L, ll, hs, rfl, rfl⟩ := hR
  show DB K X Z [some (eNet K L ll), none, none, none, none] [] (defBody (inClass (top 60) 5)) _
  refine db_own 1 C rfl rfl (dl_lst da_nil) (fun q0 hq0 => ?_)
  refine db_forS L.zipIdx (fun x => .tup [.int (x.2 : Int), eLayL x.1]) (fun (s : List D) r => s ++ r.flatMap plF = L.zipIdx.flatMap plF) (fun _ => [some (eNet K L ll), some (.ref q0), none, none, none]) (fun s => [(q0, .lst s)]) [] C (di_is (di_enum 0 C rfl (h.free 15 _ rfl) (de_lst (dl_slice C (de_methP0 C (MO.mc (m_Net_layers_told h) h 9 2 rfl rfl) (de_var 0 C rfl rfl rfl) ⟨L, ll, hs, rfl, rfl⟩ rfl (by omega)) .none (.some (de_neg de_int)))) rfl) (by rw [cut_last]; exact enum_map _ _)) rfl (.some (.some (.none (.none (.none .nil))))) (by simp) (fun s a r hJ ha => ?_) (fun s hJ => ?_)
  · skip
    have hl : s.length + a.1.length ≤ 12 := by
      have h1 := pl_len L 0
      rw [← hJ, List.flatMap_cons] at h1
      have h2 := hs.hid
      simp only [List.length_append, List.length_map, List.length_range] at h1
      omega
    refine ⟨_, _, _, (dg_tup C (dgs_cons (dg_name 2 C rfl rfl) (dgs_cons (dg_name 3 C rfl rfl) dgs_nil)) rfl), ?_⟩
    refine db_ext 0 C (de_var 1 C rfl rfl rfl) rfl (de_lst (dl_of_dc (V' := [0, 0, 1, 0, 3]) (Gs' := []) (own := [("node", 4)]) C (by decide +kernel) (dc_map (List.range a.1.length) (fun (i : Nat) => .int (i : Int)) (fun (i : Nat) => D.tup [.int (a.2 : Int), .int (i : Int)]) [0, 0, 1, 0, 3] [] [("node", 4)] C (by decide +kernel) (by decide +kernel) (di_is (di_range (n := a.1.length) 1 C rfl (h.free 16 _ rfl) (de_len 2 C rfl (h.free 0 _ rfl) (de_var 3 C rfl rfl rfl) rfl) (by simp) (by first | rfl | assumption | omega | decide | simp)) (by rfl)) (by simp; omega) fun a ha => ⟨_, _, (by decide), fun _ C' => ⟨(dg_name 4 C' rfl rfl), (de_tup (da_cons (de_var 2 C' rfl rfl rfl) (da_cons (de_var 4 C' rfl rfl rfl) da_nil)))⟩⟩))) rfl (by simp; omega) ?_
    exact db_nil ⟨s ++ plF a, by rw [← hJ, List.flatMap_cons, List.append_assoc], (.some (.some (.none (.none (.none .nil))))), rfl⟩
  rw [List.flatMap_nil, List.append_nil] at hJ
  refine db_freeze (xs := s) 1 0 rfl rfl hq0 ?_
  exact db_ret (de_var 1 C rfl rfl rfl) ⟨(by rw [hJ]), [], (by first | rfl | simp)⟩
theorem m_Net_hidden (h : Hd P w K mg base) : MO P w K mg base 4 ("Net", some "hidden") 1 (Pu (R_Net_hidden K)) := by
  refine mk_mo (N := ["self"]) (ps := ["self"]) (V := [3]) (Gs := ["len"]) (k := 3) (d := dd_Net_hidden) h 36 rfl  rfl (by decide +kernel) rfl (fun _ _ _ _ _ _ us hl => match us, hl with | [_], _ => rfl) fun X Z ds μ r μ' C hR hx hl => ?_
  obtain ⟨rfl, rfl, L, ll, hs, rfl, rfl⟩ := hR
  show DB K X Z [some (eNet K L ll)] [] (defBody (inClass (top 60) 3)) _
  exact db_ret (de_len 0 C rfl (h.free 0 _ rfl) (de_methP0 C (MO.mc (m_Net_places h) h 10 2 rfl rfl) (de_var 0 C rfl rfl rfl) ⟨L, ll, hs, rfl, rfl⟩ rfl (by omega)) rfl) ⟨(by exact congrArg (fun n : Nat => D.int (n : Int)) (pl_len L 0)), [], (by first | rfl | simp)⟩
theorem m_Net_need_spot (h : Hd P w K mg base) : MO P w K mg base 4 ("Net", some "need_spot") 2 (Pu (R_Net_need_spot K)) := by
  refine mk_mo (N := ["self", "spot"]) (ps := ["self", "spot"]) (V := [3, 3]) (Gs := ["is_row", "NoSpot"]) (k := 3) (d := dd_Net_need_spot) h 39 rfl  rfl (by decide +kernel) rfl (fun _ _ _ _ _ _ us hl => match us, hl with | [_, _], _ => rfl) fun X Z ds μ r μ' C hR hx hl => ?_
  obtain ⟨rfl, rfl, L, ll, x, _, rfl, rfl⟩ := hR
  show DB K X Z [some (eNet K L ll), some (eR [x])] [] (defBody (inClass (top 60) 7)) _
  refine db_skip (dt_is (dt_not (dt_val (de_callP 0 C (c_is_row h) rfl (da_cons (de_var 1 C rfl rfl rfl) (da_cons (de_fld 0 C (h.cls 2 _ _ rfl) (de_var 0 C rfl rfl rfl) rfl rfl) da_nil)) ⟨[x], _, ⟨rfl, (by simp)⟩, rfl, rfl⟩ rfl (by omega)))) (by rfl)) ?_
  exact db_nil ⟨rfl, [], rfl⟩
theorem m_Net_outs_at (h : Hd P w K mg base) : MO P w K mg base 8 ("Net", some "outs_at") 2 (Pu (R_Net_outs_at K)) := by
  refine mk_mo (N := ["self", "spot", "ahead", "layer"]) (ps := ["self", "spot"]) (V := [3, 3, 3, 3]) (Gs := []) (k := 7) (d := dd_Net_outs_at) h 40 rfl  rfl (by decide +kernel) rfl (fun _ _ _ _ _ _ us hl => match us, hl with | [_, _], _ => rfl) fun X Z ds μ r μ' C hR hx hl => ?_
  obtain ⟨rfl, rfl, L, ll, x, hs, rfl, rfl⟩ := hR
  show DB K X Z [some (eNet K L ll), some (eR [x]), none, none] [] (defBody (inClass (top 60) 8)) _
  refine db_expr (de_methP C (MO.mc (m_Net_need_spot h) h 11 2 rfl rfl) (de_var 0 C rfl rfl rfl) (da_cons (de_var 1 C rfl rfl rfl) da_nil) ⟨L, ll, x, trivial, rfl, rfl⟩ rfl (by omega)) ?_
  refine db_set 2 C rfl rfl (de_var 1 C rfl rfl rfl) ?_
  refine db_forS (stk L ll) (eIns K) (fun (xs : List Rat) r => SmZ xs r ∧ outsZ xs r = outsAt L ll [x]) (fun xs => [some (eNet K L ll), some (eR [x]), some (eR xs), none]) (fun _ => []) [x] C (di_list C (de_fld 1 C (h.cls 2 _ _ rfl) (de_var 0 C rfl rfl rfl) rfl rfl)) rfl (.some (.some (.some (.none .nil)))) (by exact ⟨hs, rfl⟩) (fun xs a r hJ ha => ?_) (fun xs hJ => ?_)
  · skip
    obtain ⟨⟨h1, h2, h3⟩, h4⟩ := hJ
    refine ⟨_, _, _, (dg_name 3 C rfl rfl), ?_⟩
    refine db_set 2 C rfl rfl (de_methP C (mc_passed h _) (de_var 3 C rfl rfl rfl) (da_cons (de_var 2 C rfl rfl rfl) da_nil) ⟨a.2, xs, ⟨h1, h2⟩, rfl, rfl⟩ rfl (by omega)) ?_
    exact db_nil ⟨_, ⟨h3, h4⟩, (.some (.some (.some (.none .nil)))), rfl⟩
  exact db_ret (de_var 2 C rfl rfl rfl) ⟨(by rw [← hJ.2]; rfl), [], (by first | rfl | simp)⟩
end
end NC

set_option Elab.async false
set_option linter.all false
set_option autoImplicit false
set_option maxRecDepth 100000
set_option maxHeartbeats 4000000
namespace NC
open PySem PySem.Spec PyProof.Rows L2

/-! printed by spec3.py: cases. -/
section
variable {P : Program} {w : World} {K : PySem.W.Frag} {mg : Str → Option Value} {base : Heap}


/-! ### affine sums -/
abbrev Aff := Rat × Rat
abbrev eAs (as : List Aff) : D := .lst (as.map eA)
def affZ (f : Aff) (l : List (Rat × Aff)) : Aff := l.foldl (fun f p => (f.1 + p.1 * p.2.1, f.2 + p.1 * p.2.2)) f
def nodeAff (n : Node) (as : List Aff) : Aff := affZ (0, n.2) (n.1.zip as)
def SmAff : Aff → List (Rat × Aff) → Prop
  | f, [] => SmA f
  | f, (w, a) :: l => SmA f ∧ Sm w ∧ SmA a ∧ SmA (w * a.1, w * a.2) ∧ SmAff (f.1 + w * a.1, f.2 + w * a.2) l
def ahd (p : Nat) : List Aff → List Aff
  | [] => []
  | a :: l => (if p % 2 = 1 then a else (0, 0)) :: ahd (p / 2) l
def sumsBy (p : Nat) (as : List Aff) : Lays → List (List Aff)
  | [] => []
  | l :: L => l.map (fun n => nodeAff n as) :: sumsBy (p / 2 ^ l.length) (ahd p (l.map fun n => nodeAff n as)) L
def lastAhead (p : Nat) (as : List Aff) : Lays → List Aff
  | [] => as
  | l :: L => lastAhead (p / 2 ^ l.length) (ahd p (l.map fun n => nodeAff n as)) L
/-- all of it small -/
def SmL (p : Nat) (as : List Aff) : Lays → Prop
  | [] => True
  | l :: L => (∀ n ∈ l, SmAff (0, n.2) (n.1.zip as)) ∧ l.length ≤ 4 ∧ SmL (p / 2 ^ l.length) (ahd p (l.map fun n => nodeAff n as)) L
abbrev hidA (L : Lays) (p : Nat) : List Aff := (sumsBy p [(1, 0)] L).flatten
abbrev outA (L : Lays) (ll : Lay) (p : Nat) : List Aff := ll.map fun n => nodeAff n (lastAhead p [(1, 0)] L)
theorem mapA {α : Type} (l : List α) (f : α → Aff) : D.lst (l.map fun n => eA (f n)) = eAs (l.map f) := by show _ = D.lst ((l.map f).map eA); rw [List.map_map]; rfl
theorem sumsBy_app : ∀ (L : Lays) (p : Nat) (as : List Aff) (ll : Lay), sumsBy p as (L ++ [ll]) = sumsBy p as L ++ [ll.map fun n => nodeAff n (lastAhead p as L)]
  | [], p, as, ll => rfl
  | l :: L, p, as, ll => by
    show _ :: sumsBy _ _ (L ++ [ll]) = _
    rw [sumsBy_app L]
    rfl
theorem sumsBy_flat : ∀ (L : Lays) (p : Nat) (as : List Aff), (sumsBy p as L).flatten.length = hid L
  | [], p, as => rfl
  | l :: L, p, as => by
    show (_ ++ (sumsBy _ _ L).flatten).length = _
    rw [List.length_append, sumsBy_flat L]
    simp [hid]
theorem pow_hid {p m : Nat} (h : p < 2 ^ m) (hm : m ≤ 1000) : (p : Int) < 1 * 2 ^ ((m : Int)).toNat := by
  rw [Int.one_mul, Int.toNat_natCast]
  exact_mod_cast h
theorem cpow1 {m : Nat} (hm : m ≤ 1000) : CPow 1 (m : Int) := ⟨by omega, by omega, by decide⟩
theorem at_bit {p : Nat} {x y : D} : atI [x, y] (Builtin.bitAnd (p : Int) 1) = some (if p % 2 = 1 then y else x) := by
  rw [bitAnd_m1]
  have h : p % 2 = 0 ∨ p % 2 = 1 := by omega
  rcases h with h | h
  · have e : ((p : Int) % 2) = 0 := by omega
    rw [e, if_neg (by omega)]; rfl
  · have e : ((p : Int) % 2) = 1 := by omega
    rw [e, if_pos h]; rfl
theorem shr1 {p : Nat} : ((p : Int) / 2 ^ ((1 : Int)).toNat) = ((p / 2 : Nat) : Int) := by simp

/-! ### contracts: cases -/
abbrev R_need_pattern (ds : List D) (d : D) : Prop := ∃ p m : Nat, (p < 2 ^ m ∧ m ≤ 1000) ∧ ds = [.int (p : Int), .int (m : Int)] ∧ d = .non
abbrev R_need_nets (K : PySem.W.Frag) (ds : List D) (d : D) : Prop := ∃ (dn : D) (L : Lays) (ll : Lay), dn.items = some [eNet K L ll] ∧ ds = [dn] ∧ d = .non
abbrev R_all_hidden (K : PySem.W.Frag) (ds : List D) (d : D) : Prop := ∃ (dn : D) (L : Lays) (ll : Lay), (dn.items = some [eNet K L ll] ∧ NetOk L ll) ∧ ds = [dn] ∧ d = .int (hid L : Int)
abbrev R_sum_over (ds : List D) (d : D) : Prop := ∃ (n : Node) (as : List Aff), SmAff (0, n.2) (n.1.zip as) ∧ ds = [eSum n, eAs as, .int 1] ∧ d = eA (nodeAff n as)
abbrev R_sums_by (K : PySem.W.Frag) (ds : List D) (d : D) : Prop := ∃ (L : Lays) (ll : Lay) (p : Nat), (NetOk L ll ∧ p < 2 ^ hid L ∧ SmL p [(1, 0)] (L ++ [ll])) ∧ ds = [eNet K L ll, .int (p : Int)] ∧ d = .lst ((sumsBy p [(1, 0)] (L ++ [ll])).map eAs)
abbrev R_cut_wish (ds : List D) (d : D) : Prop := ∃ a : Aff, SmA a ∧ ds = [eA a] ∧ d = eA (a.1, -1 * a.2)
abbrev R_kept_wish (ds : List D) (d : D) : Prop := ∃ a : Aff, SmA a ∧ ds = [eA a] ∧ d = eA (-1 * a.1, a.2)

theorem c_need_pattern (h : Hd P w K mg base) : FC P w K mg base 2 "need_pattern" 2 (Pu (R_need_pattern)) := by
  refine mk_fc (N := ["thing", "many"]) (ps := ["thing", "many"]) (V := [3, 3]) (Gs := ["is_whole", "NoPattern"]) (k := 1) (d := dd_need_pattern) h 41 28 rfl rfl rfl (by decide +kernel) rfl (fun _ _ _ _ _ _ us hl => match us, hl with | [_, _], _ => rfl) fun X Z ds μ r μ' C hR hx hl => ?_
  obtain ⟨rfl, rfl, p, m, ⟨hp, hm⟩, rfl, rfl⟩ := hR
  show DB K X Z [some (.int (p : Int)), some (.int (m : Int))] [] (defBody (top 63)) _
  refine db_skip (dt_is (dw_or (dt_not (dt_val (de_callP 0 C (c_is_whole h) rfl (da_cons (de_var 0 C rfl rfl rfl) da_nil) ⟨_, trivial, rfl, rfl⟩ rfl (by omega)))) fun hc0 => (dw_or1 (dt_not (dt_chain rfl de_int (de_var 0 C rfl rfl rfl) cp_le (de_shl de_int (de_var 1 C rfl rfl rfl) (by exact cpow1 hm)) cp_lt)))).dt (by simp; exact_mod_cast hp)) ?_
  exact db_nil ⟨rfl, [], rfl⟩
theorem c_need_nets (h : Hd P w K mg base) : FC P w K mg base 3 "need_nets" 1 (Pu (R_need_nets K)) := by
  refine mk_fc (N := ["nets", "net"]) (ps := ["nets"]) (V := [3, 0]) (Gs := ["isinstance", "list", "tuple", "len", "NoFit", "all"]) (k := 2) (d := dd_need_nets) h 42 29 rfl rfl rfl (by decide +kernel) rfl (fun _ _ _ _ _ _ us hl => match us, hl with | [_], _ => rfl) fun X Z ds μ r μ' C hR hx hl => ?_
  obtain ⟨rfl, rfl, dn, L, ll, hn, rfl, rfl⟩ := hR
  show DB K X Z [some (dn), none] [] (defBody (top 64)) _
  refine db_skip (dt_is (dw_or (dt_not (dt_val (de_isiQ h 0 C rfl (de_var 0 C rfl rfl rfl) (de_ty 1 C rfl (h.free 11 _ rfl) bt_list) (de_ty 2 C rfl (h.free 12 _ rfl) bt_tuple) hn))) fun hc0 => (dw_or1 (dt_cp (de_len 3 C rfl (h.free 0 _ rfl) (de_var 0 C rfl rfl rfl) hn) (de_tup (da_cons de_int (da_cons de_int da_nil))) (cp_notin (zs := [.int 1, .int 2]) C rfl rfl rfl)))).dt (by rfl)) ?_
  refine db_skip (dt_is (dw_or (dt_not (dt_val (de_all 5 C rfl (h.free 5 _ rfl) (de_is (de_lst (dl_of_dc (V' := [0, 3]) (Gs' := ["isinstance", "Net"]) (own := [("net", 1)]) C (by decide +kernel) (dc_map [()] (fun _ => eNet K L ll) (fun _ => .bl true) [0, 3] ["isinstance", "Net"] [("net", 1)] C (by decide +kernel) (by decide +kernel) (di_Q C (de_var 0 C rfl rfl rfl) hn) (by first | rfl | assumption | omega | decide | simp) fun a ha => ⟨_, _, (by decide), fun _ C' => ⟨(dg_name 1 C' rfl rfl), (de_isi 0 C' rfl (h.free 4 _ rfl) (de_var 1 C' rfl rfl rfl) (de_glo 1 C' rfl (h.cR 97 rfl)) (.ins (h.cls 2 _ _ rfl).cl (h.ins 0 _ _ _ rfl).2.1 (h.ins 0 _ _ _ rfl).2.2.1 (h.ins 0 _ _ _ rfl).2.2.2.1 (h.ins 0 _ _ _ rfl).2.2.2.2) (.own _) (h.ins 0 _ _ _ rfl).1)⟩⟩))) (mapB _ _))))) fun hc0 => (dw_or1 (dt_cp (de_methP0 C (MO.mc (m_Net_ins h) h 6 2 rfl rfl) (de_ixQ C (de_var 0 C rfl rfl rfl) de_int hn rfl) ⟨L, ll, trivial, rfl, rfl⟩ rfl (by omega)) (de_methP0 C (MO.mc (m_Net_ins h) h 6 2 rfl rfl) (de_ixQ C (de_var 0 C rfl rfl rfl) (de_neg de_int) hn rfl) ⟨L, ll, trivial, rfl, rfl⟩ rfl (by omega)) cp_ne))).dt (by simp)) ?_
  exact db_nil ⟨rfl, [], rfl⟩
theorem c_all_hidden (h : Hd P w K mg base) : FC P w K mg base 5 "all_hidden" 1 (Pu (R_all_hidden K)) := by
  refine mk_fc (N := ["nets", "net"]) (ps := ["nets"]) (V := [3, 0]) (Gs := ["sum"]) (k := 4) (d := dd_all_hidden) h 43 30 rfl rfl rfl (by decide +kernel) rfl (fun _ _ _ _ _ _ us hl => match us, hl with | [_], _ => rfl) fun X Z ds μ r μ' C hR hx hl => ?_
  obtain ⟨rfl, rfl, dn, L, ll, ⟨hn, hs⟩, rfl, rfl⟩ := hR
  show DB K X Z [some (dn), none] [] (defBody (top 65)) _
  exact db_ret (de_sum 0 C rfl (h.free 7 _ rfl) (de_is (de_lst (dl_of_dc (V' := [0, 3]) (Gs' := []) (own := [("net", 1)]) C (by decide +kernel) (dc_map [()] (fun _ => eNet K L ll) (fun _ => .int (hid L : Int)) [0, 3] [] [("net", 1)] C (by decide +kernel) (by decide +kernel) (di_Q C (de_var 0 C rfl rfl rfl) hn) (by first | rfl | assumption | omega | decide | simp) fun a ha => ⟨_, _, (by decide), fun _ C' => ⟨(dg_name 1 C' rfl rfl), (de_methP0 C' (MO.mc (m_Net_hidden h) h 8 2 rfl rfl) (de_var 1 C' rfl rfl rfl) ⟨L, ll, hs, rfl, rfl⟩ rfl (by omega))⟩⟩))) (mapI _ _))) ⟨(by simp), [], (by first | rfl | simp)⟩
theorem c_sum_over (h : Hd P w K mg base) : FC P w K mg base 5 "sum_over" 3 (Pu (R_sum_over)) := by
  refine mk_fc (N := ["node", "ahead", "many", "row", "number", "found", "weight", "one"]) (ps := ["node", "ahead", "many"]) (V := [3, 3, 3, 3, 3, 3, 3, 3]) (Gs := ["flat_sum", "zip", "sum_plus", "sum_times"]) (k := 4) (d := dd_sum_over) h 44 31 rfl rfl rfl (by decide +kernel) rfl (fun _ _ _ _ _ _ us hl => match us, hl with | [_, _, _], _ => rfl) fun X Z ds μ r μ' C hR hx hl => ?_
  obtain ⟨rfl, rfl, n, as, hs, rfl, rfl⟩ := hR
  show DB K X Z [some (eSum n), some (eAs as), some (.int 1), none, none, none, none, none] [] (defBody (top 66)) _
  refine db_asg (de_var 0 C rfl rfl rfl) (dg_tup C (dgs_cons (dg_name 3 C rfl rfl) (dgs_cons (dg_name 4 C rfl rfl) dgs_nil)) rfl) ?_
  refine db_set 5 C rfl rfl (de_is (de_callP 0 C (c_flat_sum h) rfl (da_cons (de_var 2 C rfl rfl rfl) (da_cons (de_var 4 C rfl rfl rfl) da_nil)) ⟨n.2, trivial, rfl, rfl⟩ rfl (by omega)) (by exact (rfl : _ = eA (0, n.2)))) ?_
  refine db_forS (n.1.zip as) (fun q => .tup [eF q.1, eA q.2]) (fun (f : Aff) l => SmAff f l ∧ affZ f l = nodeAff n as) (fun f => [some (eSum n), some (eAs as), some (.int 1), some (eR n.1), some (eF n.2), some (eA f), none, none]) (fun _ => []) (0, n.2) C (di_is (di_zip 1 C rfl (h.free 14 _ rfl) (de_var 3 C rfl rfl rfl) (de_var 1 C rfl rfl rfl) rfl rfl) (zip_map _ _ _ _)) rfl (.some (.some (.some (.some (.some (.some (.none (.none .nil)))))))) (by exact ⟨hs, rfl⟩) (fun f a l hJ ha => ?_) (fun f hJ => ?_)
  · skip
    obtain ⟨⟨s1, s2, s3, s4, s5⟩, e⟩ := hJ
    refine ⟨_, _, _, (dg_tup C (dgs_cons (dg_name 6 C rfl rfl) (dgs_cons (dg_name 7 C rfl rfl) dgs_nil)) rfl), ?_⟩
    refine db_set 5 C rfl rfl (de_callP 2 C (c_sum_plus h) rfl (da_cons (de_var 5 C rfl rfl rfl) (da_cons (de_callP 3 C (c_sum_times h) rfl (da_cons (de_var 6 C rfl rfl rfl) (da_cons (de_var 7 C rfl rfl rfl) da_nil)) ⟨a.1, a.2, ⟨s2, s3⟩, rfl, rfl⟩ rfl (by omega)) da_nil)) ⟨f, (a.1 * a.2.1, a.1 * a.2.2), ⟨s1, s4⟩, rfl, rfl⟩ rfl (by omega)) ?_
    exact db_nil ⟨_, ⟨s5, e⟩, (.some (.some (.some (.some (.some (.some (.none (.none .nil)))))))), rfl⟩
  exact db_ret (de_var 5 C rfl rfl rfl) ⟨(by rw [← hJ.2]; rfl), [], (by first | rfl | simp)⟩
theorem c_sums_by (h : Hd P w K mg base) : FC P w K mg base 6 "sums_by" 2 (Pu (R_sums_by K)) := by
  refine mk_fc (N := ["net", "pattern", "many", "ahead", "found", "layer", "one", "place", "node"]) (ps := ["net", "pattern"]) (V := [3, 3, 2, 2, 3, 3, 3, 0, 0]) (Gs := ["need_pattern", "range", "flat_sum", "NOUGHT_handing"]) (k := 5) (d := dd_sums_by) h 45 32 rfl rfl rfl (by decide +kernel) rfl (fun _ _ _ _ _ _ us hl => match us, hl with | [_, _], _ => rfl) fun X Z ds μ r μ' C hR hx hl => ?_
  obtain ⟨rfl, rfl, L, ll, p, ⟨hs, hp⟩, rfl, rfl⟩ := hR
  show DB K X Z [some (eNet K L ll), some (.int (p : Int)), none, none, none, none, none, none, none] [] (defBody (top 67)) _
  refine db_expr (de_callP 0 C (c_need_pattern h) rfl (da_cons (de_var 1 C rfl rfl rfl) (da_cons (de_methP0 C (MO.mc (m_Net_hidden h) h 8 2 rfl rfl) (de_var 0 C rfl rfl rfl) ⟨L, ll, hs, rfl, rfl⟩ rfl (by omega)) da_nil)) ⟨p, hid L, ⟨hp.1, by have := hs.hid; omega⟩, rfl, rfl⟩ rfl (by omega)) ?_
  refine db_set 2 C rfl rfl (de_methP0 C (MO.mc (m_Net_ins h) h 6 2 rfl rfl) (de_var 0 C rfl rfl rfl) ⟨L, ll, trivial, rfl, rfl⟩ rfl (by omega)) ?_
  refine db_setV2 3 C rfl rfl (de_lst (dl_of_dc (V' := [0, 0, 1, 0, 0, 0, 0, 3, 0]) (Gs' := ["place_sum"]) (own := [("place", 7)]) C (by decide +kernel) (dc_map [0] (fun (i : Nat) => .int (i : Int)) (fun _ => eA (1, 0)) [0, 0, 1, 0, 0, 0, 0, 3, 0] ["place_sum"] [("place", 7)] C (by decide +kernel) (by decide +kernel) (di_is (di_range (n := 1) 1 C rfl (h.free 16 _ rfl) (de_var 2 C rfl rfl rfl) (by first | rfl | assumption | omega | decide | simp) (by first | rfl | assumption | omega | decide | simp)) (by rfl)) (by first | rfl | assumption | omega | decide | simp) fun a ha => ⟨_, _, (by decide), fun _ C' => ⟨(dg_name 7 C' rfl rfl), (de_callP 0 C' (c_place_sum h) rfl (da_cons (de_var 2 C' rfl rfl rfl) (da_cons (de_var 7 C' rfl rfl rfl) da_nil)) ⟨trivial, by rw [List.mem_singleton.mp ha]; rfl, rfl⟩ rfl (by omega))⟩⟩))) ?_
  refine db_own 4 C rfl rfl (dl_lst da_nil) (fun q0 hq0 => ?_)
  refine db_forS (S := List (List Aff) × List Aff × Nat) (L ++ [ll]) eLayL (fun s r => SmL s.2.2 s.2.1 r ∧ s.1 ++ sumsBy s.2.2 s.2.1 r = sumsBy p [(1, 0)] (L ++ [ll]) ∧ s.1.length + r.length ≤ 4) (fun s => [some (eNet K L ll), some (.int (s.2.2 : Int)), some (.int 1), some (eAs s.2.1), some (.ref q0), none, none, none, none]) (fun s => [(q0, .lst (s.1.map eAs))]) ([], [(1, 0)], p) C (di_list C (de_methP0 C (MO.mc (m_Net_layers_told h) h 9 2 rfl rfl) (de_var 0 C rfl rfl rfl) ⟨L, ll, hs, rfl, rfl⟩ rfl (by omega))) rfl (.some (.some (.some (.some (.some (.none (.none (.none (.none .nil))))))))) (by refine ⟨hp.2, rfl, ?_⟩; have := hs.2; simp; omega) (fun s l r hJ ha => ?_) (fun s hJ => ?_)
  · obtain ⟨acc, as, p1⟩ := s
    obtain ⟨⟨h1, h2, h3⟩, h4, h5⟩ := hJ
    simp only at h1 h2 h3 h4 h5
    have hlen : acc.length < 100000 := by simp at h5; omega
    refine ⟨_, _, _, (dg_name 5 C rfl rfl), ?_⟩
    refine db_app 0 C (de_var 4 C rfl rfl rfl) rfl (de_is (de_lst (dl_of_dc (V' := [0, 0, 1, 1, 0, 0, 0, 0, 3]) (Gs' := ["sum_over"]) (own := [("node", 8)]) C (by decide +kernel) (dc_map l eSum (fun n => eA (nodeAff n as)) [0, 0, 1, 1, 0, 0, 0, 0, 3] ["sum_over"] [("node", 8)] C (by decide +kernel) (by decide +kernel) (di_list C (de_var 5 C rfl rfl rfl)) (by omega) fun a ha => ⟨_, _, (by decide), fun _ C' => ⟨(dg_name 8 C' rfl rfl), (de_callP 0 C' (c_sum_over h) rfl (da_cons (de_var 8 C' rfl rfl rfl) (da_cons (de_var 3 C' rfl rfl rfl) (da_cons (de_var 2 C' rfl rfl rfl) da_nil))) ⟨a, as, h1 a ha, rfl, rfl⟩ rfl (by omega))⟩⟩))) (by exact mapA l _)) rfl (by simpa using hlen) ?_
    refine db_own 3 C rfl rfl (dl_lst da_nil) (fun q1 hq1 => ?_)
    refine db_forS (S := List Aff × Nat) (l.map fun n => nodeAff n as) eA (fun s r => s.1 ++ ahd s.2 r = ahd p1 (l.map fun n => nodeAff n as) ∧ s.2 / 2 ^ r.length = p1 / 2 ^ l.length ∧ s.1.length + r.length ≤ 4) (fun s => [some (eNet K L ll), some (.int (s.2 : Int)), some (.int 1), some (.ref q1), some (.ref q0), none, none, none, none]) (fun s => [(q0, .lst (acc.map eAs ++ [eAs (l.map fun n => nodeAff n as)])), (q1, .lst (s.1.map eA))]) ([], p1) C (di_list C (de_ixO 0 C (de_var 4 C rfl rfl rfl) (de_neg de_int) rfl (by show atI (acc.map eAs ++ [eAs (l.map fun n => nodeAff n as)]) (-1) = some (eAs (l.map fun n => nodeAff n as)); have e := at_last acc (l.map fun n => nodeAff n as) eAs; simpa using e))) (by simp) (.some (.some (.some (.some (.some (.none (.none (.none (.none .nil))))))))) (by refine ⟨rfl, by simp, by simpa using h2⟩) (fun s a1 r2 hK ha2 => ?_) (fun s hK => ?_)
    · obtain ⟨hs1, p2⟩ := s
      obtain ⟨k1, k2, k3⟩ := hK
      simp only at k1 k2 k3
      refine ⟨_, _, _, (dg_name 6 C rfl rfl), ?_⟩
      refine db_app 1 C (de_var 3 C rfl rfl rfl) rfl (de_ixL C (de_lst (dl_lst (da_cons (de_callP 2 C (c_flat_sum h) rfl (da_cons (de_var 2 C rfl rfl rfl) (da_cons (de_is (de_glo 3 C rfl (h.cT 2 rfl)) (by rfl : _ = eF (0))) da_nil)) ⟨0, trivial, rfl, rfl⟩ rfl (by omega)) (da_cons (de_var 6 C rfl rfl rfl) da_nil)))) (de_and (de_var 1 C rfl rfl rfl) de_int) (by exact at_bit)) rfl (by have k4 := k3; simp at k4 ⊢; omega) ?_
      refine db_set 1 C rfl rfl (de_is (de_shr (de_var 1 C rfl rfl rfl) de_int (by first | rfl | assumption | omega | decide | simp)) (by exact congrArg D.int shr1)) ?_
      refine db_nil ⟨(hs1 ++ [if p2 % 2 = 1 then a1 else (0, 0)], p2 / 2), ⟨by rw [← k1]; simp [ahd], by rw [← k2, List.length_cons, Nat.pow_succ, Nat.mul_comm, Nat.div_div_eq_div_mul], by simp at k3 ⊢; omega⟩, (.some (.some (.some (.some (.some (.none (.none (.none (.none .nil))))))))), ?_⟩
      simp only [List.set_cons_succ, List.set_cons_zero, List.map_append, List.map_cons, List.map_nil]
      split <;> rfl
    · obtain ⟨k1, k2, k3⟩ := hK
      refine db_freeze (xs := s.1.map eA) 3 1 rfl rfl hq1 ?_
      refine db_nil ⟨(acc ++ [l.map fun n => nodeAff n as], s.1, s.2), ⟨?_, ?_, ?_⟩, (.some (.some (.some (.some (.some (.none (.none (.none (.none .nil))))))))), by simp⟩
      · have e1 : s.1 = ahd p1 (l.map fun n => nodeAff n as) := by simpa [ahd] using k1
        have e2 : s.2 = p1 / 2 ^ l.length := by simpa using k2
        show SmL s.2 s.1 r
        rw [e1, e2]; exact h3
      · have e1 : s.1 = ahd p1 (l.map fun n => nodeAff n as) := by simpa [ahd] using k1
        have e2 : s.2 = p1 / 2 ^ l.length := by simpa using k2
        show (acc ++ [l.map fun n => nodeAff n as]) ++ sumsBy s.2 s.1 r = _
        rw [e1, e2, ← h4, List.append_assoc]; rfl
      · simp at h5 ⊢; omega
  · obtain ⟨h1, h4, h5⟩ := hJ
    have e : s.1 = sumsBy p [(1, 0)] (L ++ [ll]) := by simpa [sumsBy] using h4
    refine db_freeze (xs := s.1.map eAs) 4 0 rfl rfl hq0 ?_
    rw [e]
    exact db_ret (de_var 4 C rfl rfl rfl) ⟨(by rfl), [], (by first | rfl | simp)⟩

def CaseOk (K : PySem.W.Frag) (dn : D) (L : Lays) (ll : Lay) (p : Nat) : Prop := dn.items = some [eNet K L ll] ∧ NetOk L ll ∧ p < 2 ^ hid L ∧ SmL p [(1, 0)] (L ++ [ll])
theorem smAff_end : ∀ (l : List (Rat × Aff)) (f : Aff), SmAff f l → SmA (affZ f l)
  | [], f, h => h
  | q :: l, f, h => smAff_end l _ h.2.2.2.2
theorem smL_mem : ∀ (L : Lays) (p : Nat) (as : List Aff) (M : Lays), SmL p as (L ++ M) → ∀ a ∈ (sumsBy p as L).flatten, SmA a
  | [], p, as, M, h, a, ha => by simp [sumsBy] at ha
  | l :: L, p, as, M, h, a, ha => by
    obtain ⟨h1, h2, h3⟩ := h
    rw [show (sumsBy p as (l :: L)).flatten = (l.map fun n => nodeAff n as) ++ (sumsBy (p / 2 ^ l.length) (ahd p (l.map fun n => nodeAff n as)) L).flatten from rfl] at ha
    rcases List.mem_append.mp ha with ha | ha
    · obtain ⟨n, hn, rfl⟩ := List.mem_map.mp ha
      exact smAff_end _ _ (h1 n hn)
    · exact smL_mem L _ _ M h3 a ha
theorem smL_tail : ∀ (L : Lays) (p : Nat) (as : List Aff) (M : Lays), SmL p as (L ++ M) → SmL (p / 2 ^ hid L) (lastAhead p as L) M
  | [], p, as, M, h => by simpa [hid, lastAhead] using h
  | l :: L, p, as, M, h => by
    have := smL_tail L _ _ M h.2.2
    have e : p / 2 ^ hid (l :: L) = p / 2 ^ l.length / 2 ^ hid L := by rw [Nat.div_div_eq_div_mul, ← Nat.pow_add]; simp [hid]
    rw [e]
    exact this
theorem CaseOk.mem {dn : D} {L : Lays} {ll : Lay} {p : Nat} (h : CaseOk K dn L ll p) : ∀ a ∈ hidA L p, SmA a := smL_mem L p _ [ll] h.2.2.2
theorem CaseOk.out {dn : D} {L : Lays} {ll : Lay} {p : Nat} (h : CaseOk K dn L ll p) : ∀ a ∈ outA L ll p, SmA a := fun a ha => by
  have := smL_tail L p _ [ll] h.2.2.2
  obtain ⟨n, hn, rfl⟩ := List.mem_map.mp ha
  exact smAff_end _ _ (this.1 n hn)
theorem mask {p m : Nat} (h : p < 2 ^ m) : Builtin.bitAnd (p : Int) (1 * 2 ^ ((m : Int)).toNat - 1) = (p : Int) := by
  rw [Int.one_mul, Int.toNat_natCast, PySem.W.kbt_mask]
  have : ((p : Int)) < ((2 ^ m : Nat) : Int) := by exact_mod_cast h
  rw [Int.emod_eq_of_lt (by omega) (by simpa using this)]
theorem cut_take {α : Type} (xs : List α) (m : Nat) (f : α → D) : cutD (xs.map f) none (some (m : Int)) = (xs.take m).map f := by
  unfold cutD HT.sIx
  simp
  rw [if_neg (by omega)]
  omega
/-- a hidden sum's own wish, by its bit -/
def wsh (p : Nat) (x : Aff × Nat) : Aff := if p / 2 ^ x.2 % 2 = 1 then (-1 * x.1.1, x.1.2) else (x.1.1, -1 * x.1.2)
def ownW (L : Lays) (p m : Nat) : List Aff := ((hidA L p).take m).zipIdx.map (wsh p)
def caseW (lo hi : Rat) (L : Lays) (p m : Nat) : List Aff := [(1, hi), (-1, 0 - lo)] ++ ownW L p m
abbrev R_sums_together (K : PySem.W.Frag) (ds : List D) (d : D) : Prop := ∃ (dn : D) (L : Lays) (ll : Lay) (p : Nat), CaseOk K dn L ll p ∧ ds = [dn, .int (p : Int)] ∧ d = .tup [eAs (hidA L p), eAs (outA L ll p)]
abbrev R_case_wishes (K : PySem.W.Frag) (ds : List D) (d : D) : Prop := ∃ (dn : D) (L : Lays) (ll : Lay) (lo hi : Rat) (p m : Nat), (CaseOk K dn L ll p ∧ BoxOk lo hi) ∧ ds = [dn, eBox lo hi, .int (p : Int), .int (m : Int)] ∧ d = eAs (caseW lo hi L p m)
abbrev R_wishes_by (K : PySem.W.Frag) (ds : List D) (d : D) : Prop := ∃ (dn : D) (L : Lays) (ll : Lay) (lo hi : Rat) (p m : Nat), (CaseOk K dn L ll p ∧ BoxOk lo hi ∧ m ≤ hid L) ∧ ds = [dn, eBox lo hi, .int (p : Int), .int (m : Int)] ∧ d = eAs (caseW lo hi L p m)
abbrev R_aimed_sum (K : PySem.W.Frag) (ds : List D) (d : D) : Prop := ∃ (dn : D) (L : Lays) (ll : Lay) (p : Nat) (aim : List Rat), (CaseOk K dn L ll p ∧ SmAff (0, 0) (aim.zip (outA L ll p))) ∧ ds = [dn, .int (p : Int), eR aim] ∧ d = eA (nodeAff (aim, 0) (outA L ll p))


theorem shape_last : ∀ (L : Lays) (a : Nat) (l : Lay), Shape a (L ++ [l]) → 1 ≤ l.length ∧ l.length ≤ 4
  | [], _, _, h => ⟨h.1.1, h.1.2.1⟩
  | m :: L, a, l, h => shape_last L m.length l h.2
theorem NetOk.ll {L : Lays} {ll : Lay} (h : NetOk L ll) : 1 ≤ ll.length ∧ ll.length ≤ 4 := shape_last L 1 ll h.1

theorem c_sums_together (h : Hd P w K mg base) : FC P w K mg base 7 "sums_together" 2 (Pu (R_sums_together K)) := by
  refine mk_fc (N := ["nets", "pattern", "hidden", "outs", "net", "layers", "layer"]) (ps := ["nets", "pattern"]) (V := [3, 3, 3, 3, 3, 3, 3]) (Gs := ["sums_by"]) (k := 6) (d := dd_sums_together) h 46 33 rfl rfl rfl (by decide +kernel) rfl (fun _ _ _ _ _ _ us hl => match us, hl with | [_, _], _ => rfl) fun X Z ds μ r μ' C hR hx hl => ?_
  obtain ⟨rfl, rfl, dn, L, ll, p, hc, rfl, rfl⟩ := hR
  have hn := hc.1
  show DB K X Z [some (dn), some (.int (p : Int)), none, none, none, none, none] [] (defBody (top 68)) _
  refine db_own 2 C rfl rfl (dl_lst da_nil) (fun q0 hq0 => ?_)
  refine db_own 3 C rfl rfl (dl_lst da_nil) (fun q1 hq1 => ?_)
  refine db_forS [()] (fun _ => eNet K L ll) (fun s r => s = r.isEmpty ∧ r.length ≤ 1) (fun s => [some dn, (bif s then none else some (.int (p : Int))), some (.ref q0), some (.ref q1), none, none, none]) (fun s => bif s then [(q0, .lst ((hidA L p).map eA)), (q1, .lst ((outA L ll p).map eA))] else [(q0, .lst []), (q1, .lst [])]) false C (di_Q C (de_var 0 C rfl rfl rfl) hn) rfl (.some (.some (.some (.some (.none (.none (.none .nil))))))) (by exact ⟨rfl, by simp⟩) (fun s a r hJ ha => ?_) (fun s hJ => ?_)
  · obtain ⟨hs0, hr⟩ := hJ
    have hs0 : s = false := hs0
    subst hs0
    have hr : r = [] := List.eq_nil_of_length_eq_zero (by simpa using hr)
    subst hr
    refine ⟨_, _, _, (dg_name 4 C rfl rfl), ?_⟩
    show DB K X Z _ [(q0, .lst []), (q1, .lst [])] _ _
    refine db_set 5 C rfl rfl (de_is (de_callP 0 C (c_sums_by h) rfl (da_cons (de_var 4 C rfl rfl rfl) (da_cons (de_and (de_var 1 C rfl rfl rfl) (de_sub (de_shl de_int (de_methP0 C (MO.mc (m_Net_hidden h) h 8 2 rfl rfl) (de_var 4 C rfl rfl rfl) ⟨L, ll, hc.2.1, rfl, rfl⟩ rfl (by omega)) (by exact cpow1 (by have := hc.2.1.hid; omega))) de_int)) da_nil)) ⟨L, ll, p, ⟨hc.2.1, hc.2.2.1, hc.2.2.2⟩, by rw [mask hc.2.2.1], rfl⟩ rfl (by omega)) (by rw [sumsBy_app])) ?_
    refine db_set 1 C rfl rfl (de_shr (de_var 1 C rfl rfl rfl) (de_methP0 C (MO.mc (m_Net_hidden h) h 8 2 rfl rfl) (de_var 4 C rfl rfl rfl) ⟨L, ll, hc.2.1, rfl, rfl⟩ rfl (by omega)) (by omega)) ?_
    refine db_forS (sumsBy p [(1, 0)] L) eAs (fun (s : List Aff) r => s ++ r.flatten = hidA L p) (fun (s : List Aff) => [some dn, none, some (.ref q0), some (.ref q1), some (eNet K L ll), some (.lst ((sumsBy p [(1, 0)] L ++ [outA L ll p]).map eAs)), none]) (fun s => [(q0, .lst (s.map eA)), (q1, .lst [])]) [] C (di_is (di_list C (de_lst (dl_slice C (de_var 5 C rfl rfl rfl) .none (.some (de_neg de_int))))) (cut_last _ _ _)) rfl (.some (.none (.some (.some (.some (.some (.none .nil))))))) (by rfl) (fun s a r hK ha2 => ?_) (fun s hK => ?_)
    · have hl : s.length + a.length ≤ 12 := by
        have h1 : (hidA L p).length = hid L := sumsBy_flat L p [(1, 0)]
        have h2 := hc.2.1.hid
        have h3 := congrArg List.length hK
        simp only [List.flatten_cons, List.length_append] at h3
        omega
      refine ⟨_, _, _, (dg_name 6 C rfl rfl), ?_⟩
      refine db_ext 0 C (de_var 2 C rfl rfl rfl) rfl (de_var 6 C rfl rfl rfl) rfl (by simp; omega) ?_
      exact db_nil ⟨s ++ a, by rw [← hK, List.flatten_cons, List.append_assoc], (.some (.none (.some (.some (.some (.some (.none .nil))))))), by simp⟩
    · have hK : s = hidA L p := by simpa using hK
      subst hK
      refine db_ext 1 C (de_var 3 C rfl rfl rfl) rfl (de_ixL C (de_var 5 C rfl rfl rfl) (de_neg de_int) (by exact at_last _ _ _)) rfl (by have h := hc.2.1.ll; simp; omega) ?_
      exact db_nil ⟨true, ⟨rfl, by simp⟩, (.some (.none (.some (.some (.none (.none (.none .nil))))))), by simp⟩
  · obtain ⟨hs0, _⟩ := hJ
    have hs0 : s = true := hs0
    subst hs0
    show DB K X Z [some dn, none, some (.ref q0), some (.ref q1), none, none, none] [(q0, .lst ((hidA L p).map eA)), (q1, .lst ((outA L ll p).map eA))] _ _
    refine db_freeze (xs := (hidA L p).map eA) 2 0 rfl rfl hq0 ?_
    refine db_freeze (xs := (outA L ll p).map eA) 3 0 rfl rfl hq1 ?_
    exact db_ret (de_tup (da_cons (de_var 2 C rfl rfl rfl) (da_cons (de_var 3 C rfl rfl rfl) da_nil))) ⟨(by rfl), [], (by first | rfl | simp)⟩
theorem c_cut_wish (h : Hd P w K mg base) : FC P w K mg base 5 "cut_wish" 1 (Pu (R_cut_wish)) := by
  refine mk_fc (N := ["one"]) (ps := ["one"]) (V := [3]) (Gs := ["sum_times", "LESS_cases"]) (k := 4) (d := dd_cut_wish) h 47 34 rfl rfl rfl (by decide +kernel) rfl (fun _ _ _ _ _ _ us hl => match us, hl with | [_], _ => rfl) fun X Z ds μ r μ' C hR hx hl => ?_
  obtain ⟨rfl, rfl, a, ha, rfl, rfl⟩ := hR
  show DB K X Z [some (eA a)] [] (defBody (top 69)) _
  exact db_ret (de_tup (da_cons (de_ixT C (de_var 0 C rfl rfl rfl) de_int rfl) (da_cons (de_ixT C (de_callP 0 C (c_sum_times h) rfl (da_cons (de_is (de_glo 1 C rfl (h.cT 5 rfl)) (by rfl : _ = eF (-1))) (da_cons (de_var 0 C rfl rfl rfl) da_nil)) ⟨_, _, ⟨(by exact smN1), (by exact ha)⟩, rfl, rfl⟩ rfl (by omega)) de_int rfl) da_nil))) ⟨(by rfl), [], (by first | rfl | simp)⟩
theorem c_kept_wish (h : Hd P w K mg base) : FC P w K mg base 5 "kept_wish" 1 (Pu (R_kept_wish)) := by
  refine mk_fc (N := ["one"]) (ps := ["one"]) (V := [3]) (Gs := ["sum_times", "LESS_cases"]) (k := 4) (d := dd_kept_wish) h 48 35 rfl rfl rfl (by decide +kernel) rfl (fun _ _ _ _ _ _ us hl => match us, hl with | [_], _ => rfl) fun X Z ds μ r μ' C hR hx hl => ?_
  obtain ⟨rfl, rfl, a, ha, rfl, rfl⟩ := hR
  show DB K X Z [some (eA a)] [] (defBody (top 70)) _
  exact db_ret (de_tup (da_cons (de_ixT C (de_callP 0 C (c_sum_times h) rfl (da_cons (de_is (de_glo 1 C rfl (h.cT 5 rfl)) (by rfl : _ = eF (-1))) (da_cons (de_var 0 C rfl rfl rfl) da_nil)) ⟨_, _, ⟨(by exact smN1), (by exact ha)⟩, rfl, rfl⟩ rfl (by omega)) de_int rfl) (da_cons (de_ixT C (de_var 0 C rfl rfl rfl) de_int rfl) da_nil))) ⟨(by rfl), [], (by first | rfl | simp)⟩
theorem a_cut_wish (h : Hd P w K mg base) : FA P w K mg base 5 (He.ga K "cut_wish") 1 (Pu (R_cut_wish)) := by
  refine mk_fa (N := ["one"]) (ps := ["one"]) (V := [3]) (Gs := ["sum_times", "LESS_cases"]) (k := 4) (d := dd_cut_wish) h 47 rfl  rfl (by decide +kernel) rfl (fun _ _ _ _ _ _ us hl => match us, hl with | [_], _ => rfl) fun X Z ds μ r μ' C hR hx hl => ?_
  obtain ⟨rfl, rfl, a, ha, rfl, rfl⟩ := hR
  show DB K X Z [some (eA a)] [] (defBody (top 69)) _
  exact db_ret (de_tup (da_cons (de_ixT C (de_var 0 C rfl rfl rfl) de_int rfl) (da_cons (de_ixT C (de_callP 0 C (c_sum_times h) rfl (da_cons (de_is (de_glo 1 C rfl (h.cT 5 rfl)) (by rfl : _ = eF (-1))) (da_cons (de_var 0 C rfl rfl rfl) da_nil)) ⟨_, _, ⟨(by exact smN1), (by exact ha)⟩, rfl, rfl⟩ rfl (by omega)) de_int rfl) da_nil))) ⟨(by rfl), [], (by first | rfl | simp)⟩
theorem a_kept_wish (h : Hd P w K mg base) : FA P w K mg base 5 (He.ga K "kept_wish") 1 (Pu (R_kept_wish)) := by
  refine mk_fa (N := ["one"]) (ps := ["one"]) (V := [3]) (Gs := ["sum_times", "LESS_cases"]) (k := 4) (d := dd_kept_wish) h 48 rfl  rfl (by decide +kernel) rfl (fun _ _ _ _ _ _ us hl => match us, hl with | [_], _ => rfl) fun X Z ds μ r μ' C hR hx hl => ?_
  obtain ⟨rfl, rfl, a, ha, rfl, rfl⟩ := hR
  show DB K X Z [some (eA a)] [] (defBody (top 70)) _
  exact db_ret (de_tup (da_cons (de_ixT C (de_callP 0 C (c_sum_times h) rfl (da_cons (de_is (de_glo 1 C rfl (h.cT 5 rfl)) (by rfl : _ = eF (-1))) (da_cons (de_var 0 C rfl rfl rfl) da_nil)) ⟨_, _, ⟨(by exact smN1), (by exact ha)⟩, rfl, rfl⟩ rfl (by omega)) de_int rfl) (da_cons (de_ixT C (de_var 0 C rfl rfl rfl) de_int rfl) da_nil))) ⟨(by rfl), [], (by first | rfl | simp)⟩

abbrev R_make (b : Prop) [Decidable b] (ds : List D) (d : D) : Prop := ∃ a : Aff, SmA a ∧ ds = [eA a] ∧ d = eA (if b then (-1 * a.1, a.2) else (a.1, -1 * a.2))
theorem fa_make (h : Hd P w K mg base) (b : Prop) [Decidable b] : FA P w K mg base 5 (if b then He.ga K "kept_wish" else He.ga K "cut_wish") 1 (Pu (R_make b)) := by
  by_cases hb : b
  · have e : R_make b = R_kept_wish := by funext ds d; show (∃ a : Aff, SmA a ∧ ds = [eA a] ∧ d = eA (if b then (-1 * a.1, a.2) else (a.1, -1 * a.2))) = _; simp only [if_pos hb]
    rw [if_pos hb, e]
    exact a_kept_wish h
  · have e : R_make b = R_cut_wish := by funext ds d; show (∃ a : Aff, SmA a ∧ ds = [eA a] ∧ d = eA (if b then (-1 * a.1, a.2) else (a.1, -1 * a.2))) = _; simp only [if_neg hb]
    rw [if_neg hb, e]
    exact a_cut_wish h
theorem at_bitR {p : Nat} {x y : Addr} : atI [D.ref x, D.ref y] (Builtin.bitAnd (p : Int) 1) = some (.ref (if p % 2 = 1 then y else x)) := by
  rw [at_bit]; split <;> rfl
theorem shrm {p m : Nat} : ((p : Int) / 2 ^ ((m : Int)).toNat) = ((p / 2 ^ m : Nat) : Int) := by simp
theorem at_bitS {p m : Nat} {x y : Addr} : atI [D.ref x, D.ref y] (Builtin.bitAnd ((p : Int) / 2 ^ ((m : Int)).toNat) 1) = some (.ref (if p / 2 ^ m % 2 = 1 then y else x)) := by
  rw [shrm, at_bitR]
theorem ownW_len (L : Lays) (p m : Nat) : (ownW L p m).length ≤ hid L := by
  have : (hidA L p).length = hid L := sumsBy_flat L p [(1, 0)]
  simp only [ownW, List.length_map, List.length_zipIdx, List.length_take]
  omega

theorem c_case_wishes (h : Hd P w K mg base) : FC P w K mg base 8 "case_wishes" 4 (Pu (R_case_wishes K)) := by
  refine mk_fc (N := ["nets", "box", "pattern", "many", "found", "place", "one", "make"]) (ps := ["nets", "box", "pattern", "many"]) (V := [3, 3, 3, 3, 3, 3, 3, 3]) (Gs := ["box_wishes", "enumerate", "sums_together", "cut_wish", "kept_wish"]) (k := 7) (d := dd_case_wishes) h 49 36 rfl rfl rfl (by decide +kernel) rfl (fun _ _ _ _ _ _ us hl => match us, hl with | [_, _, _, _], _ => rfl) fun X Z ds μ r μ' C hR hx hl => ?_
  obtain ⟨rfl, rfl, dn, L, ll, lo, hi, p, m, ⟨hc, hb⟩, rfl, rfl⟩ := hR
  have hn := hc.1
  show DB K X Z [some (dn), some (eBox lo hi), some (.int (p : Int)), some (.int (m : Int)), none, none, none, none] [] (defBody (top 71)) _
  refine db_own 4 C rfl rfl (dl_callL 0 C (l_box_wishes h) rfl (da_cons (de_var 1 C rfl rfl rfl) da_nil) ⟨_, _, (by exact hb), rfl, rfl⟩ rfl (by omega)) (fun q0 hq0 => ?_)
  refine db_forS ((hidA L p).take m).zipIdx (fun x => .tup [.int (x.2 : Int), eA x.1]) (fun (s : List Aff) r => s ++ r.map (wsh p) = caseW lo hi L p m ∧ (∀ x ∈ r, SmA x.1)) (fun _ => [some dn, some (eBox lo hi), some (.int (p : Int)), some (.int (m : Int)), some (.ref q0), none, none, none]) (fun s => [(q0, .lst (s.map eA))]) [(1, hi), (-1, 0 - lo)] C (di_is (di_enum 1 C rfl (h.free 15 _ rfl) (de_lst (dl_slice C (de_ixT C (de_callP 2 C (c_sums_together h) rfl (da_cons (de_var 0 C rfl rfl rfl) (da_cons (de_var 2 C rfl rfl rfl) da_nil)) ⟨dn, L, ll, p, hc, rfl, rfl⟩ rfl (by omega)) de_int rfl) .none (.some (de_var 3 C rfl rfl rfl)))) rfl) (by rw [cut_take]; exact enum_map _ _)) rfl (.some (.some (.some (.some (.some (.none (.none (.none .nil)))))))) (by refine ⟨rfl, fun x hx => hc.mem _ (List.mem_of_mem_take (List.fst_mem_of_mem_zipIdx hx))⟩) (fun s a r hJ ha => ?_) (fun s hJ => ?_)
  · skip
    have hl : s.length < 100000 := by
      have h1 := congrArg List.length hJ.1
      have h2 := ownW_len L p m
      have h3 := hc.2.1.hid
      simp only [caseW, List.length_append, List.length_cons, List.length_nil, List.length_map] at h1
      omega
    refine ⟨_, _, _, (dg_tup C (dgs_cons (dg_name 5 C rfl rfl) (dgs_cons (dg_name 6 C rfl rfl) dgs_nil)) rfl), ?_⟩
    refine db_set 7 C rfl rfl (de_ixL C (de_lst (dl_lst (da_cons (de_glo 3 C rfl (h.cR 34 rfl)) (da_cons (de_glo 4 C rfl (h.cR 35 rfl)) da_nil)))) (de_and (de_shr (de_var 2 C rfl rfl rfl) (de_var 5 C rfl rfl rfl) (by omega)) de_int) (by exact at_bitS)) ?_
    refine db_app 0 C (de_var 4 C rfl rfl rfl) rfl (de_callL 7 C (fa_make h (p / 2 ^ a.2 % 2 = 1)) rfl rfl rfl (da_cons (de_var 6 C rfl rfl rfl) da_nil) ⟨a.1, hJ.2 a (by simp), rfl, rfl⟩ rfl (by omega)) rfl (by simpa using hl) ?_
    exact db_nil ⟨s ++ [wsh p a], ⟨by rw [← hJ.1]; simp, fun x hx => hJ.2 x (List.mem_cons_of_mem _ hx)⟩, (.some (.some (.some (.some (.some (.none (.none (.none .nil)))))))), by simp [wsh]⟩
  have hJ1 : s = caseW lo hi L p m := by simpa using hJ.1
  refine db_freeze (xs := s.map eA) 4 0 rfl rfl hq0 ?_
  rw [hJ1]
  exact db_ret (de_var 4 C rfl rfl rfl) ⟨(by rfl), [], (by first | rfl | simp)⟩
theorem c_wishes_by (h : Hd P w K mg base) : FC P w K mg base 9 "wishes_by" 4 (Pu (R_wishes_by K)) := by
  refine mk_fc (N := ["nets", "box", "pattern", "many"]) (ps := ["nets", "box", "pattern", "many"]) (V := [3, 3, 3, 3]) (Gs := ["need_nets", "need_box_handing", "need_pattern", "all_hidden", "is_whole", "NoNumber", "case_wishes"]) (k := 8) (d := dd_wishes_by) h 50 37 rfl rfl rfl (by decide +kernel) rfl (fun _ _ _ _ _ _ us hl => match us, hl with | [_, _, _, _], _ => rfl) fun X Z ds μ r μ' C hR hx hl => ?_
  obtain ⟨rfl, rfl, dn, L, ll, lo, hi, p, m, ⟨hc, hb, hm⟩, rfl, rfl⟩ := hR
  have hn := hc.1
  show DB K X Z [some (dn), some (eBox lo hi), some (.int (p : Int)), some (.int (m : Int))] [] (defBody (top 72)) _
  refine db_expr (de_callP 0 C (c_need_nets h) rfl (da_cons (de_var 0 C rfl rfl rfl) da_nil) ⟨dn, L, ll, hn, rfl, rfl⟩ rfl (by omega)) ?_
  refine db_expr (de_callP 1 C (c_need_box_handing h) rfl (da_cons (de_var 1 C rfl rfl rfl) (da_cons (de_methP0 C (MO.mc (m_Net_ins h) h 6 2 rfl rfl) (de_ixQ C (de_var 0 C rfl rfl rfl) de_int hn rfl) ⟨L, ll, trivial, rfl, rfl⟩ rfl (by omega)) da_nil)) ⟨lo, hi, hb, rfl, rfl⟩ rfl (by omega)) ?_
  refine db_expr (de_callP 2 C (c_need_pattern h) rfl (da_cons (de_var 2 C rfl rfl rfl) (da_cons (de_callP 3 C (c_all_hidden h) rfl (da_cons (de_var 0 C rfl rfl rfl) da_nil) ⟨dn, L, ll, ⟨hn, hc.2.1⟩, rfl, rfl⟩ rfl (by omega)) da_nil)) ⟨p, hid L, ⟨hc.2.2.1, by have := hc.2.1.hid; omega⟩, rfl, rfl⟩ rfl (by omega)) ?_
  refine db_skip (dt_is (dw_or (dt_not (dt_val (de_callP 4 C (c_is_whole h) rfl (da_cons (de_var 3 C rfl rfl rfl) da_nil) ⟨_, trivial, rfl, rfl⟩ rfl (by omega)))) fun hc0 => (dw_or1 (dt_not (dt_chain rfl de_int (de_var 3 C rfl rfl rfl) cp_le (de_callP 3 C (c_all_hidden h) rfl (da_cons (de_var 0 C rfl rfl rfl) da_nil) ⟨dn, L, ll, ⟨hn, hc.2.1⟩, rfl, rfl⟩ rfl (by omega)) cp_le)))).dt (by simp; omega)) ?_
  exact db_ret (de_callP 6 C (c_case_wishes h) rfl (da_cons (de_var 0 C rfl rfl rfl) (da_cons (de_var 1 C rfl rfl rfl) (da_cons (de_var 2 C rfl rfl rfl) (da_cons (de_var 3 C rfl rfl rfl) da_nil)))) ⟨dn, L, ll, lo, hi, p, m, ⟨hc, hb⟩, rfl, rfl⟩ rfl (by omega)) ⟨(by rfl), [], (by first | rfl | simp)⟩
theorem c_aimed_sum (h : Hd P w K mg base) : FC P w K mg base 8 "aimed_sum" 3 (Pu (R_aimed_sum K)) := by
  refine mk_fc (N := ["nets", "pattern", "aim"]) (ps := ["nets", "pattern", "aim"]) (V := [3, 3, 3]) (Gs := ["sum_over", "NOUGHT_handing", "sums_together"]) (k := 7) (d := dd_aimed_sum) h 51 38 rfl rfl rfl (by decide +kernel) rfl (fun _ _ _ _ _ _ us hl => match us, hl with | [_, _, _], _ => rfl) fun X Z ds μ r μ' C hR hx hl => ?_
  obtain ⟨rfl, rfl, dn, L, ll, p, aim, ⟨hc, ha⟩, rfl, rfl⟩ := hR
  have hn := hc.1
  show DB K X Z [some (dn), some (.int (p : Int)), some (eR aim)] [] (defBody (top 73)) _
  exact db_ret (de_callP 0 C (c_sum_over h) rfl (da_cons (de_tup (da_cons (de_var 2 C rfl rfl rfl) (da_cons (de_is (de_glo 1 C rfl (h.cT 2 rfl)) (by rfl : _ = eF (0))) da_nil))) (da_cons (de_ixT C (de_callP 2 C (c_sums_together h) rfl (da_cons (de_var 0 C rfl rfl rfl) (da_cons (de_var 1 C rfl rfl rfl) da_nil)) ⟨dn, L, ll, p, hc, rfl, rfl⟩ rfl (by omega)) de_int rfl) (da_cons (de_methP0 C (MO.mc (m_Net_ins h) h 6 2 rfl rfl) (de_ixQ C (de_var 0 C rfl rfl rfl) de_int hn rfl) ⟨L, ll, trivial, rfl, rfl⟩ rfl (by omega)) da_nil))) ⟨(aim, 0), outA L ll p, ha, rfl, rfl⟩ rfl (by omega)) ⟨(by rfl), [], (by first | rfl | simp)⟩
end
end NC

set_option Elab.async false
set_option linter.all false
set_option autoImplicit false
set_option maxRecDepth 100000
set_option maxHeartbeats 4000000
/-! Owned lists of ints that are walked; division by what may be below nought; a list of a field that stands still. -/
namespace NC
open PySem PySem.Spec PyProof.Rows L2
theorem op_fdivN {X : Cx} : OpR X (binaryOp .FloorDiv) (rI (fun _ j => j ≠ 0 ∧ j.natAbs.log2 < 9000) fun i j => .int (i.fdiv j)) := opI fun i j _ _ _ _ _ hc q => floordiv_int hc.1 q (.inl (PyProof.noPylong_of_log2 hc.2))
section
variable {P : Program} {w : World} {K : PySem.W.Frag} {mg : Str → Option Value} {base : Heap} {N : List Str} {V V' : List Nat} {Gs Gs' : List Str} {k kf : Nat}
variable {X : Cx} {Z : Zed} {ρ ρ1 ρ2 ρ' : Rho} {μ μ1 μ2 μ3 : Mu} {a b c e o tg iter elt : Expr} {es ts elts ifs : List Expr} {d da db dc : D} {ds xs ys : List D} {pos p pos' apos tpos : Pos} {x m f : Str} {u v : Bool} {cl : Cell} {n kk : Nat} {il il2 : List Nat} {rest body : List Stmt} {Φ Ψ : Post} {scope : Scope} {own : List (Str × Nat)}
theorem de_fdivN {i j : Int} (ha : DE K X Z ρ μ a (.int i) μ1) (hb : DE K X Z ρ μ1 b (.int j) μ2) (h : j ≠ 0) (h2 : j.natAbs < 2 ^ 9000) : DE K X Z ρ μ (.BinOp a .FloorDiv b pos) (.int (i.fdiv j)) μ2 := de_op op_fdivN ha hb (rd_I ⟨h, PySem.Flt.log2_lt_of (by decide) h2⟩)
theorem map_erase {α β : Type} (f : α → β) : ∀ (xs : List α) (i : Nat), (xs.eraseIdx i).map f = (xs.map f).eraseIdx i
  | [], _ => rfl
  | x :: xs, 0 => rfl
  | x :: xs, i + 1 => by simp [map_erase f xs i]
/-- the list that the field i of the instance in cell j names stands still from here on -/
theorem db_freezeF (i j l : Nat) {q r Cl : Addr} {ns : List Str} (hj : μ[j]? = some (q, .ins Cl ns ds)) (hl : μ[l]? = some (r, .lst xs)) (hd : ds[i]? = some (.ref r)) (hr : r ∉ Z.xs) (hjl : j ≠ l) (hb : DB K X Z ρ ((μ.set j (q, .ins Cl ns (ds.set i (.lst xs)))).eraseIdx l) rest Φ) : DB K X Z ρ μ rest Φ := fun σ G H S D q1 q2 => by
  obtain ⟨vs, h1, h2⟩ := cell_in S hl
  obtain ⟨S1, e1⟩ := S.freeze hl hr h1
  have hjl' := (List.getElem?_eq_some_iff.mp hj).1
  have hll' := (List.getElem?_eq_some_iff.mp hl).1
  have hne : q ≠ r := fun z => by
    have e1 : (μ.map (·.1))[j]? = some q := by simp [hj]
    have e2 : (μ.map (·.1))[l]? = some q := by simp [hl, z]
    exact hjl (nd_ix S.nd e1 e2)
  have S2 : Sat K Z ρ ((μ.set j (q, .ins Cl ns (ds.set i (.lst xs)))).eraseIdx l) σ (upd G r (.lst vs)) H := by
    refine ⟨S1.gh, S1.ln, S1.sl, fun p c hp => ?_, ?_, S1.zg, S1.zh, S1.zn, S1.zx⟩
    · obtain ⟨m, hml, hm⟩ := List.mem_eraseIdx_iff_getElem?.mp hp
      by_cases hmj : m = j
      · subst hmj
        rw [List.getElem?_set_self hjl'] at hm
        cases hm
        obtain ⟨c1, c2, c3⟩ := S.ce q _ (List.mem_of_getElem? hj)
        obtain ⟨dx, us, g1, g2, g3⟩ := c1
        obtain ⟨v, g4, g5⟩ := g3.get hd
        have hv := rep_v.mp g5
        subst hv
        refine ⟨⟨dx, us, g1, g2, ?_⟩, by rw [upd_ne hne]; exact c2, c3⟩
        have g6 := (g3.mono e1).set i (rep_lst.mpr ⟨r, vs, rfl, upd_same, h2.mono e1⟩ : Rep K (upd G r (.lst vs)) (.lst xs) (.ref r))
        have hil := (List.getElem?_eq_some_iff.mp g4)
        have : us.set i (.ref r) = us := by
          apply List.ext_getElem?
          intro t
          rw [List.getElem?_set]
          split
          · rename_i ht; subst ht
            rw [g4]; simp [hil.1]
          · rfl
        rw [this] at g6
        exact g6
      · rw [List.getElem?_set_ne (fun z => hmj z.symm)] at hm
        exact S1.ce p c (List.mem_eraseIdx_iff_getElem?.mpr ⟨m, hml, hm⟩)
    · have : ((μ.set j (q, Cell.ins Cl ns (ds.set i (.lst xs)))).eraseIdx l).map (·.1) = (μ.eraseIdx l).map (·.1) := by
        rw [map_erase, map_erase, List.map_set]
        congr 1
        apply List.ext_getElem?
        intro t
        rw [List.getElem?_set]
        split
        · rename_i ht; subst ht
          have e5 := (List.getElem?_eq_some_iff.mp hj).2
          simp [hjl', e5]
        · rfl
      rw [this]
      exact S1.nd
  exact hb σ _ H S2 D (fun ρ' μ' σ' G' H' z e2 => q1 ρ' μ' σ' G' H' z (e1.trans e2)) fun d μ' v ρ' σ' G' H' z e2 => q2 d μ' v ρ' σ' G' H' z (e1.trans e2)

/-! ### an owned list of ints is walked -/
/-- DI, where the list at l stays as it is -/
def DIK (K : PySem.W.Frag) (X : Cx) (Z : Zed) (l : Addr) (ns : List Int) (ρ : Rho) (μ : Mu) (tg iter : Expr) (ys : List D) (μ1 : Mu) : Prop := ∀ ν σ G H, Sat K Z ρ (μ ++ ν) σ G H → ∀ R : It → Hp → Prop,
  (∀ J G1 H1 (Gp : Hp → Prop) (Y : Nat → Hp → L2.V → Hp → Prop), Ex G G1 → Sat K Z ρ (μ1 ++ ν) σ G1 H1 → Walk J ys.length Gp Y → (∀ G' H', Ex G1 G' → Ex G' H' → H' l = some (.lst (ns.map L2.V.int)) → Gp H') →
    (∀ i Hx x Hx' G', i < ys.length → Y i Hx x Hx' → Ex G1 G' → Ex G' Hx → ∃ d G'', ys[i]? = some d ∧ Ext G' Hx G'' Hx' ∧ Rep K G'' d x) → R J H1) → WI X tg iter σ H R
theorem cell_ints {σ : L2.St} {G H : Hp} {l : Addr} {ns : List Int} (S : Sat K Z ρ μ σ G H) (h : (l, Cell.lst (ns.map D.int)) ∈ μ) : H l = some (.lst (ns.map L2.V.int)) := by
  obtain ⟨vs, h1, h2⟩ := (S.ce l _ h).1
  rw [h2.ints] at h1
  exact h1
theorem di_zipK (j : Nat) {l : Addr} {ns : List Int} (C : Bc X P w K mg base N V Gs k) (hG : Gs[j]? = some ("zip" : Str)) (hm : mg "zip" = none) (ha : DE K X Z ρ μ a (.ref l) μ1) (hb : DE K X Z ρ μ1 b db μ2) (hl : (l, Cell.lst (ns.map D.int)) ∈ μ2) (hy : db.items = some ys)
    (hs : starEach [a, b] X.env = (false, eval a X.env) :: starEach [b] X.env := by rfl) (hs2 : starEach [b] X.env = [(false, eval b X.env)] := by rfl) (hpl : (backTo pos (starEach [b] X.env)).any (·.1) = false := by rfl) : DIK K X Z l ns ρ μ (.Tuple elts kk tpos) (.Call (.Name "zip" p) [a, b] [] pos) (zipD (ns.map D.int) ys) μ2 := fun ν σ G H S R q => by
  obtain ⟨g1, g2, g3⟩ := C.glo j _ hG
  refine wi_of (pi_zipG g1 (by rw [C.em]; exact hm) (pa_cons pe_we (pa_cons pe_we pa_nil hs2) hs) hs hpl) ?_
  refine ha ν σ G H S _ fun v1 G1 H1 e1 S1 r1 => hb ν σ G1 H1 S1 _ fun v2 G2 H2 e2 S2 r2 => ?_
  have hv := rep_v.mp r1
  subst hv
  have hH := cell_ints S2 (List.mem_append_left _ hl)
  obtain ⟨k2, l2, ws, rfl, h3, h4⟩ := rep_sq r2 hy
  rw [C.eK]
  refine ⟨false, k2, l, l2, ns.map L2.V.int, ws, rfl, .inl (.inl hH), h3 G2 H2 (.refl _) S2.gh, ?_⟩
  have hl : (zipD (ns.map D.int) ys).length = min (ns.map L2.V.int).length ws.length := by simp [zipD, h4.length]
  have W : Walk (ItzG false k2 K l l2) (zipD (ns.map D.int) ys).length (fun H => SqK false K H l (ns.map L2.V.int) ∧ SqK k2 K H l2 ws) (YPair (fun i => (ns.map L2.V.int)[i]?) (fun i => ws[i]?)) := by
    rw [hl]
    refine ⟨fun i H hi q => ?_, fun H q => ⟨ns.map L2.V.int, ws, q.1, q.2, by omega, by omega, by omega⟩, fun i H v H' hi q y => ?_⟩
    · have i1 : i < (ns.map L2.V.int).length := by omega
      have i2 : i < ws.length := by omega
      exact ⟨ns.map L2.V.int, ws, (ns.map L2.V.int)[i], ws[i], q.1, q.2, by simp at i1; simp [i1], by simp [i2]⟩
    · obtain ⟨T, x, z, y1, y2, y3, y4, y5⟩ := y
      exact ⟨T, x, z, y1, y2, y3, y4 _ q.1, y5 ws q.2⟩
  refine q _ G2 H2 _ _ (e1.trans e2) S2 W (fun G' H' e3 e4 e5 => ⟨.inl (.inl e5), h3 G' H' e3 e4⟩) fun i Hx x Hx' G' hi y e3 e4 => ?_
  obtain ⟨T, vx, vy, rfl, hT, rfl, y4, y5⟩ := y
  have y4 : (ns.map L2.V.int)[i]? = some vx := y4
  rw [List.getElem?_map] at y4
  cases q1 : ns[i]? with
  | none => rw [q1] at y4; cases y4
  | some z =>
    rw [q1] at y4
    have hz : L2.V.int z = vx := by simpa using y4
    obtain ⟨d2, q3, q4⟩ := h4.getV y5
    obtain ⟨G'', E, rr⟩ := pair_new (da := .int z) e4 hT (rep_v.mpr hz.symm) (q4.mono e3)
    refine ⟨.tup [.int z, d2], G'', ?_, E, rr⟩
    have hz2 : ((ns.map D.int).zip ys)[i]? = some (.int z, d2) := List.getElem?_zip_eq_some.mpr ⟨by simp [q1], q3⟩
    simp [zipD, hz2]
theorem dik_is {l : Addr} {ns : List Int} {zs : List D} (h : DIK K X Z l ns ρ μ tg iter ys μ1) (e : ys = zs) : DIK K X Z l ns ρ μ tg iter zs μ1 := e ▸ h
theorem db_forK {α S : Type} {l : Addr} {ns : List Int} (as : List α) (ey : α → D) (J : S → List α → Prop) (ρs : S → Rho) (μs : S → Mu) (s0 : S) (C : Bc X P w K mg base N V Gs k) (hi : DIK K X Z l ns ρ μ tg iter (as.map ey) μ1) (hμ : μ1 = μs s0) (hρ : Le (ρs s0) ρ) (h0 : J s0 as) (hκ : ∀ s, (l, Cell.lst (ns.map D.int)) ∈ μs s)
    (hstep : ∀ s a l, J s (a :: l) → a ∈ as → ∃ ρ2 μ2 il, DG K X Z (ρs s) (μs s) tg (ey a) ρ2 μ2 il ∧ DB K X Z ρ2 μ2 body ⟨fun ρ' μ' => ∃ s', J s' l ∧ Le (ρs s') ρ' ∧ μ' = μs s', Φ.rt⟩) (hend : ∀ s, J s [] → DB K X Z (ρs s) (μs s) rest Φ)
    (hs : ∀ x, foldedSetIterable iter X.env x = pure x := by intro _; rfl) : DB K X Z ρ μ (.For tg iter body [] pos :: rest) Φ := fun σ G H S D q1 q2 => by
  refine wss_cons (ps_for C.never C.calm pi_wi pg_wg pss_wss hs) ?_
  refine hi [] σ G H (by simpa using S) _ fun J' G1 H1 Gp Y e1 S1 W hG hY => ?_
  rw [List.append_nil, hμ] at S1
  refine for_it W (fun i σ' H' => ∃ s G', J s (as.drop i) ∧ Ex G1 G' ∧ Sat K Z (ρs s) (μs s) σ' G' H') ⟨s0, G1, by simpa using h0, .refl _, S1.weak hρ⟩ (fun i σ' H' _ ⟨s, G', _, e2, S2⟩ => hG G' H' e2 S2.gh (cell_ints S2 (hκ s))) (fun i x σ' Hx Hx' hi' ⟨s, G', hI, e2, S2⟩ y => ?_) fun σ' H' ⟨s, G', hI, e2, S2⟩ => ?_
  · obtain ⟨d, G'', y1, E, r⟩ := hY i Hx x Hx' G' hi' y e2 S2.gh
    obtain ⟨a, a1, a2⟩ := get_map y1
    subst a2
    rw [drop_get a1] at hI
    obtain ⟨ρ2, μ2, il, g, hb⟩ := hstep s a _ hI (List.mem_of_getElem? a1)
    refine g.at0 (S2.ext E) r fun σ3 G3 H3 e3 S3 => ?_
    have e13 : Ex G1 G3 := (e2.trans E.gg).trans e3
    exact hb σ3 G3 H3 S3 _ (fun ρ4 μ4 σ4 G4 H4 ⟨s', z1, z2, z3⟩ e4 S4 => ⟨s', G4, z1, e13.trans e4, by rw [← z3]; exact S4.weak z2⟩) fun d μ4 v ρ4 σ4 G4 H4 z e4 => q2 d μ4 v ρ4 σ4 G4 H4 z ((e1.trans e13).trans e4)
  · rw [List.length_map, List.drop_length] at hI
    exact hend s hI σ' G' H' S2 D (fun ρ4 μ4 σ4 G4 H4 z e4 => q1 ρ4 μ4 σ4 G4 H4 z ((e1.trans e2).trans e4)) fun d μ4 v ρ4 σ4 G4 H4 z e4 => q2 d μ4 v ρ4 σ4 G4 H4 z ((e1.trans e2).trans e4)
/-- [elt for tg in zip(owned ints, ..)] -/
theorem dc_mapK {α : Type} {l : Addr} {ns : List Int} (as : List α) (ey eg : α → D) (V' : List Nat) (Gs' : List Str) (own : List (Str × Nat)) (C : Bc X P w K mg base N V Gs k) (hnm : nameC N = true) (hck : compC scope N V V' Gs' own = true) (hi : DIK K X Z l ns ρ μ tg iter (as.map ey) μ1) (hlen : as.length < 100000) (hκ : (l, Cell.lst (ns.map D.int)) ∈ μ1)
    (hstep : ∀ a, a ∈ as → ∃ ρ2 il, (∀ j, j ∈ il → j ∈ own.map (·.2)) ∧ ∀ X', Bc X' P w K mg base N V' Gs' k → DG K X' Z (wipeR ρ (own.map (·.2))) μ1 tg (ey a) ρ2 μ1 il ∧ DE K X' Z ρ2 μ1 elt (eg a) μ1) :
    DC K X Z ρ μ elt tg iter [] scope own (.lst (as.map eg)) μ1 := fun ν σ G H S Q q => by
  have CB := fun s H Ca cl fp => blk_bc (V' := V') (Gs' := Gs') (own := own) C hnm hck s H Ca cl fp
  refine hi ν σ G H S _ fun J G1 H1 Gp Y e1 S1 W hG hY Dl hD => ?_
  have S1' := S1.own (o := .lst []) (c := .lst []) hD ⟨[], upd_same, Reps.nil⟩
  have hDz := (S1.zfresh hD).2
  have slw : ∀ G', Ex G1 G' → ∀ (i : Nat) (d : D), (wipeR ρ (own.map (·.2)))[i]? = some (some d) → ∃ v, (wipe σ (own.map (·.2)))[i]? = some (some v) ∧ Rep K G' d v := fun G' e i d h => by
    obtain ⟨h1, h2⟩ := wipeR_some h
    obtain ⟨v, h3, h4⟩ := S1.sl i d h1
    exact ⟨v, by rw [wipe_get]; simp [h2, h3], h4.mono e⟩
  refine lc_it (g := BWG X scope tg) (tt := BWT X scope []) (te := BWE X scope elt) (vs := own.map (·.2)) (σ := σ) (H1 := H1) (D := Dl) (Qd := Q (.ref Dl)) W (fun i H' => ∃ G', Ex G1 G' ∧ Sat K Z [] (μ1 ++ (ν ++ [(Dl, .lst ((as.take i).map eg))])) [] G' H') ⟨G1, .refl _, ?_⟩ (fun i H' _ ⟨G', e2, S2⟩ => hG G' H' e2 S2.gh (cell_ints S2 (List.mem_append_left _ hκ))) (fun i x Hx Hx' hi' ⟨G', e2, S2⟩ y => ?_) fun H' ⟨G', e2, S2⟩ => ?_
  · rw [← List.append_assoc]
    exact S1'.reslot rfl fun i d h => by simp at h
  · obtain ⟨d, G'', y1, E, r⟩ := hY i Hx x Hx' G' hi' y e2 S2.gh
    obtain ⟨a, a1, a2⟩ := get_map y1
    subst a2
    obtain ⟨ρ2, il, hil, hb⟩ := hstep a (List.mem_of_getElem? a1)
    have S3 := (S2.ext E).reslot (σ := wipe σ (own.map (·.2))) (ρ := wipeR ρ (own.map (·.2))) (by rw [wipeR_len, wipe_length]; exact S1.ln) (slw G'' (e2.trans E.gg))
    intro s H0 Ca cl fp
    refine (hb _ (CB s H0 Ca cl fp)).1 _ _ G'' Hx' x S3 r _ fun σ2 G2 H2 e3 S4 hsl hll => ⟨?_, ?_⟩
    · rw [← wipe_wipe σ (own.map (·.2))]
      exact wipe_of hll fun j hj => hsl j fun z => hj (hil j z)
    intro s H0 Ca cl fp
    refine wts_of pts_nil ?_
    refine iteT (B := ∃ G', Ex G1 G' ∧ Sat K Z [] (μ1 ++ (ν ++ [(Dl, Cell.lst ((as.take (i + 1)).map eg))])) [] G' H2) ?_
    intro s H0 Ca cl fp
    have e13 : Ex G1 G2 := (e2.trans E.gg).trans e3
    refine (hb _ (CB s H0 Ca cl fp)).2 _ _ G2 H2 S4 _ fun v G4 H4 e5 S6 r6 => ?_
    have hj : (μ1 ++ (ν ++ [(Dl, Cell.lst ((as.take i).map eg))]))[(μ1 ++ ν).length]? = some (Dl, .lst ((as.take i).map eg)) := by rw [← List.append_assoc]; simp
    obtain ⟨vs, g1, g2⟩ := cell_in S6 hj
    refine ⟨vs, g1, ?_, G4, e13.trans e5, ?_⟩
    · rw [← g2.length]
      exact sz100' (by have hx := (List.getElem?_eq_some_iff.mp a1).1; rw [List.length_map, List.length_take]; omega)
    · have S7 := S6.write (o := .lst (vs ++ [v])) (c' := .lst ((as.take i).map eg ++ [eg a])) hj ⟨_, upd_same, g2.app (Reps.cons r6 Reps.nil)⟩
      have em : (μ1 ++ (ν ++ [(Dl, Cell.lst ((as.take i).map eg))])).set (μ1 ++ ν).length (Dl, .lst ((as.take i).map eg ++ [eg a])) = μ1 ++ (ν ++ [(Dl, Cell.lst ((as.take (i + 1)).map eg))]) := by
        rw [← List.append_assoc, take_succ_get a1, List.map_append, List.set_append_right _ _ (Nat.le_refl _), Nat.sub_self, ← List.append_assoc]
        rfl
      rw [em] at S7
      exact S7.reslot rfl fun i d h => by simp at h
  · refine q Dl G' H' (e1.trans e2) hDz ?_
    rw [List.append_assoc]
    rw [List.length_map, List.take_length] at S2
    exact S2.reslot S1.ln fun i d h => by
      obtain ⟨v, h3, h4⟩ := S1.sl i d h
      exact ⟨v, h3, h4.mono e2⟩
end
end NC

set_option Elab.async false
set_option linter.all false
set_option autoImplicit false
set_option maxRecDepth 100000
set_option maxHeartbeats 4000000
namespace NC
open PySem PySem.Spec PyProof.Rows L2

/-! printed by spec4.py: settling. -/
section
variable {P : Program} {w : World} {K : PySem.W.Frag} {mg : Str → Option Value} {base : Heap}


/-! ### small fractions, rows made whole -/
def skL : Nat := 2 ^ 500
def Sk (q : Rat) : Prop := q.num.natAbs < skL ∧ q.den < skL
def SkA (a : Aff) : Prop := Sk a.1 ∧ Sk a.2
theorem skL_le : skL < smL := Nat.pow_lt_pow_right (by decide) (by decide)
theorem Sk.sm {q : Rat} (h : Sk q) : Sm q := ⟨Nat.lt_trans h.1 skL_le, Nat.lt_trans h.2 skL_le⟩
theorem SkA.sm {a : Aff} (h : SkA a) : SmA a := ⟨h.1.sm, h.2.sm⟩
/-- the whole number by which a row's fractions become whole -/
def byZ (b : Nat) (qs : List Rat) : Nat := qs.foldl (fun b q => b * (q.den / b.gcd q.den)) b
def rz (b : Nat) (q : Rat) : Int := q.num * ((b / q.den : Nat) : Int)
theorem pow9 {a b : Nat} (h : a < 2 ^ b) (hb : b ≤ 9000) : a < 2 ^ 9000 := Nat.lt_of_lt_of_le h (Nat.pow_le_pow_right (by decide) hb)
abbrev R_need_list (ds : List D) (d : D) : Prop := ∃ xs : List D, True ∧ ds = [.lst xs] ∧ d = .non
abbrev R_need_each (ds : List D) (d : D) : Prop := ∃ (lo hi : Rat) (as : List Aff), True ∧ ds = [eBox lo hi, eAs as] ∧ d = .non
abbrev R_need_wishes (ds : List D) (d : D) : Prop := ∃ (lo hi : Rat) (as : List Aff), as.length ≤ 16 ∧ ds = [eBox lo hi, eAs as] ∧ d = .non
abbrev R_need_aim_settling (ds : List D) (d : D) : Prop := ∃ (lo hi g : Rat), True ∧ ds = [eBox lo hi, .tup [eF g]] ∧ d = .non
abbrev R_Most_init (K : PySem.W.Frag) : Con := fun ds μ d μ' => ∃ (q : Addr) (s m : D), True ∧ ds = [.ref q, s, m] ∧ μ = [(q, .ins (He.ga K "Most") [] [])] ∧ d = .non ∧ μ' = [(q, .ins (He.ga K "Most") ["spot", "multiples"] [s, m])]
abbrev R_Empty_init (K : PySem.W.Frag) : Con := fun ds μ d μ' => ∃ (q : Addr) (m : D), True ∧ ds = [.ref q, m] ∧ μ = [(q, .ins (He.ga K "Empty") [] [])] ∧ d = .non ∧ μ' = [(q, .ins (He.ga K "Empty") ["multiples"] [m])]
abbrev R_whole_row (ds : List D) (d : D) : Prop := ∃ qs : List Rat, (qs.length ≤ 2 ∧ ∀ q ∈ qs, Sk q) ∧ ds = [eR qs] ∧ d = .tup [.lst (qs.map fun q => .int (rz (byZ 1 qs) q)), .int (byZ 1 qs : Int)]
abbrev R_summed (ds : List D) (d : D) : Prop := ∃ a b : Int, (a.natAbs < 2 ^ 9000 ∧ b.natAbs < 2 ^ 9000) ∧ ds = [.lst [.int a], .lst [.int b]] ∧ d = .int (a * b)
theorem byZ_step {b : Nat} {q : Rat} {r : List Rat} : byZ (b * (q.den / b.gcd q.den)) r = byZ b (q :: r) := rfl
theorem gcd_pos2 {b : Nat} {q : Rat} : 0 < b.gcd q.den := Nat.gcd_pos_of_pos_right _ q.den_pos
theorem by_grow {b k : Nat} {q : Rat} (hb : b ≤ 2 ^ (500 * k)) (hq : Sk q) : b * (q.den / b.gcd q.den) ≤ 2 ^ (500 * (k + 1)) := by
  have h1 : q.den / b.gcd q.den ≤ 2 ^ 500 := Nat.le_trans (Nat.div_le_self _ _) (Nat.le_of_lt hq.2)
  have e : 2 ^ (500 * (k + 1)) = 2 ^ (500 * k) * 2 ^ 500 := by rw [← Nat.pow_add]; rfl
  rw [e]
  exact Nat.mul_le_mul hb h1
theorem by_pos {b : Nat} {q : Rat} (hb : 0 < b) : 0 < b * (q.den / b.gcd q.den) := Nat.mul_pos hb (Nat.div_pos (Nat.le_of_dvd q.den_pos (Nat.gcd_dvd_right _ _)) gcd_pos2)
theorem by_bound : ∀ (qs : List Rat) (b k : Nat), 0 < b → b ≤ 2 ^ (500 * k) → (∀ q ∈ qs, Sk q) → 0 < byZ b qs ∧ byZ b qs ≤ 2 ^ (500 * (k + qs.length))
  | [], b, k, h0, h, _ => ⟨h0, h⟩
  | q :: qs, b, k, h0, h, hs => by
    have := by_bound qs _ (k + 1) (by_pos h0) (by_grow h (hs q (by simp))) fun q hq => hs q (by simp [hq])
    rw [byZ_step] at this
    refine ⟨this.1, ?_⟩
    have e : k + (q :: qs).length = k + 1 + qs.length := by simp; omega
    rw [e]
    exact this.2
theorem p1500 : (2 : Nat) ^ 1500 = 2 ^ 500 * 2 ^ 1000 := by rw [← Nat.pow_add]
theorem rz_bound {b : Nat} {q : Rat} (hb : b ≤ 2 ^ 1000) (hq : Sk q) : (rz b q).natAbs < 2 ^ 1500 := by
  unfold rz
  rw [Int.natAbs_mul, Int.natAbs_natCast, p1500]
  exact Nat.mul_lt_mul_of_lt_of_le hq.1 (Nat.le_trans (Nat.div_le_self _ _) hb) (Nat.pow_pos (by decide))

theorem c_need_list (h : Hd P w K mg base) : FC P w K mg base 1 "need_list" 1 (Pu (R_need_list)) := by
  refine mk_fc (N := ["wishes"]) (ps := ["wishes"]) (V := [3]) (Gs := ["isinstance", "list", "tuple", "NoWish"]) (k := 0) (d := dd_need_list) h 52 39 rfl rfl rfl (by decide +kernel) rfl (fun _ _ _ _ _ _ us hl => match us, hl with | [_], _ => rfl) fun X Z ds μ r μ' C hR hx hl => ?_
  obtain ⟨rfl, rfl, xs, _, rfl, rfl⟩ := hR
  show DB K X Z [some (.lst xs)] [] (defBody (top 76)) _
  refine db_skip (dt_is (dt_not (dt_val (de_isiT 0 C rfl (h.free 4 _ rfl) (de_var 0 C rfl rfl rfl) (de_ty 1 C rfl (h.free 11 _ rfl) bt_list) (de_ty 2 C rfl (h.free 12 _ rfl) bt_tuple) (.lst _) ClsV_list ClsV_tuple h.kitLT))) (by rfl)) ?_
  exact db_nil ⟨rfl, [], rfl⟩
theorem c_need_each (h : Hd P w K mg base) : FC P w K mg base 5 "need_each" 2 (Pu (R_need_each)) := by
  refine mk_fc (N := ["box", "wishes", "wish"]) (ps := ["box", "wishes"]) (V := [3, 3, 3]) (Gs := ["is_over", "len", "NoWish"]) (k := 4) (d := dd_need_each) h 53 40 rfl rfl rfl (by decide +kernel) rfl (fun _ _ _ _ _ _ us hl => match us, hl with | [_, _], _ => rfl) fun X Z ds μ r μ' C hR hx hl => ?_
  obtain ⟨rfl, rfl, lo, hi, as, _, rfl, rfl⟩ := hR
  show DB K X Z [some (eBox lo hi), some (eAs as), none] [] (defBody (top 77)) _
  refine db_forS as eA (fun (_ : Unit) r => True) (fun _ => [some (eBox lo hi), some (eAs as), none]) (fun _ => []) () C (di_list C (de_var 1 C rfl rfl rfl)) rfl (.some (.some (.none .nil))) (by trivial) (fun s a r hJ ha => ?_) (fun s hJ => ?_)
  · skip
    refine ⟨_, _, _, (dg_name 2 C rfl rfl), ?_⟩
    refine db_skip (dt_is (dt_not (dt_val (de_callP 0 C (c_is_over h) rfl (da_cons (de_var 2 C rfl rfl rfl) (da_cons (de_len 1 C rfl (h.free 0 _ rfl) (de_var 0 C rfl rfl rfl) rfl) da_nil)) ⟨([a.1], a.2), _, ⟨rfl, (by simp)⟩, rfl, rfl⟩ rfl (by omega)))) (by rfl)) ?_
    exact db_nil ⟨(), trivial, (.some (.some (.none .nil))), rfl⟩
  exact db_nil ⟨rfl, [], rfl⟩
theorem c_need_wishes (h : Hd P w K mg base) : FC P w K mg base 6 "need_wishes" 2 (Pu (R_need_wishes)) := by
  refine mk_fc (N := ["box", "wishes"]) (ps := ["box", "wishes"]) (V := [3, 3]) (Gs := ["need_list", "len", "MOST_WISHES_settling", "NoWish", "need_each"]) (k := 5) (d := dd_need_wishes) h 54 41 rfl rfl rfl (by decide +kernel) rfl (fun _ _ _ _ _ _ us hl => match us, hl with | [_, _], _ => rfl) fun X Z ds μ r μ' C hR hx hl => ?_
  obtain ⟨rfl, rfl, lo, hi, as, hl2, rfl, rfl⟩ := hR
  show DB K X Z [some (eBox lo hi), some (eAs as)] [] (defBody (top 78)) _
  refine db_expr (de_callP 0 C (c_need_list h) rfl (da_cons (de_var 1 C rfl rfl rfl) da_nil) ⟨_, trivial, rfl, rfl⟩ rfl (by omega)) ?_
  refine db_skip (dt_is (dt_cp (de_len 1 C rfl (h.free 0 _ rfl) (de_var 1 C rfl rfl rfl) rfl) (de_glo 2 C rfl (h.cI 4 rfl)) cp_gt) (by simp; omega)) ?_
  refine db_expr (de_callP 4 C (c_need_each h) rfl (da_cons (de_var 0 C rfl rfl rfl) (da_cons (de_var 1 C rfl rfl rfl) da_nil)) ⟨lo, hi, as, trivial, rfl, rfl⟩ rfl (by omega)) ?_
  exact db_nil ⟨rfl, [], rfl⟩
theorem c_need_aim_settling (h : Hd P w K mg base) : FC P w K mg base 4 "need_aim_settling" 2 (Pu (R_need_aim_settling)) := by
  refine mk_fc (N := ["box", "aim"]) (ps := ["box", "aim"]) (V := [3, 3]) (Gs := ["is_row", "len", "NoAim"]) (k := 3) (d := dd_need_aim_settling) h 55 42 rfl rfl rfl (by decide +kernel) rfl (fun _ _ _ _ _ _ us hl => match us, hl with | [_, _], _ => rfl) fun X Z ds μ r μ' C hR hx hl => ?_
  obtain ⟨rfl, rfl, lo, hi, g, _, rfl, rfl⟩ := hR
  show DB K X Z [some (eBox lo hi), some (.tup [eF g])] [] (defBody (top 79)) _
  refine db_skip (dt_is (dt_not (dt_val (de_callP 0 C (c_is_row h) rfl (da_cons (de_var 1 C rfl rfl rfl) (da_cons (de_len 1 C rfl (h.free 0 _ rfl) (de_var 0 C rfl rfl rfl) rfl) da_nil)) ⟨[g], _, ⟨rfl, (by simp)⟩, rfl, rfl⟩ rfl (by omega)))) (by rfl)) ?_
  exact db_nil ⟨rfl, [], rfl⟩
theorem m_Most_init (h : Hd P w K mg base) : MO P w K mg base 1 ("Most", some "__init__") 3 (R_Most_init K) := by
  refine mk_mo (N := ["self", "spot", "multiples"]) (ps := ["self", "spot", "multiples"]) (V := [3, 3, 3]) (Gs := []) (k := 0) (d := dd_Most_init) h 56 rfl  rfl (by decide +kernel) rfl (fun _ _ _ _ _ _ us hl => match us, hl with | [_, _, _], _ => rfl) fun X Z ds μ r μ' C hR hx hl => ?_
  obtain ⟨q, s, m, _, rfl, rfl, rfl, rfl⟩ := hR
  show DB K X Z [some (.ref q), some (s), some (m)] [(q, .ins (He.ga K "Most") [] [])] (defBody (inClass (top 85) 0)) _
  refine db_fldN 0 C (ClsD.part (ms := ["multiples"]) (h.cls 3 _ _ rfl)) (de_var 1 C rfl rfl rfl) (de_var 0 C rfl rfl rfl) rfl ?_
  refine db_fldN 0 C (h.cls 3 _ _ rfl) (de_var 2 C rfl rfl rfl) (de_var 0 C rfl rfl rfl) rfl ?_
  exact db_nil ⟨rfl, [], rfl⟩
theorem m_Empty_init (h : Hd P w K mg base) : MO P w K mg base 1 ("Empty", some "__init__") 2 (R_Empty_init K) := by
  refine mk_mo (N := ["self", "multiples"]) (ps := ["self", "multiples"]) (V := [3, 3]) (Gs := []) (k := 0) (d := dd_Empty_init) h 57 rfl  rfl (by decide +kernel) rfl (fun _ _ _ _ _ _ us hl => match us, hl with | [_, _], _ => rfl) fun X Z ds μ r μ' C hR hx hl => ?_
  obtain ⟨q, m, _, rfl, rfl, rfl, rfl⟩ := hR
  show DB K X Z [some (.ref q), some (m)] [(q, .ins (He.ga K "Empty") [] [])] (defBody (inClass (top 86) 0)) _
  refine db_fldN 0 C (h.cls 4 _ _ rfl) (de_var 1 C rfl rfl rfl) (de_var 0 C rfl rfl rfl) rfl ?_
  exact db_nil ⟨rfl, [], rfl⟩
theorem c_whole_row (h : Hd P w K mg base) : FC P w K mg base 2 "whole_row" 1 (Pu (R_whole_row)) := by
  refine mk_fc (N := ["row", "by", "top", "bottom"]) (ps := ["row"]) (V := [3, 2, 3, 3]) (Gs := ["common_part"]) (k := 1) (d := dd_whole_row) h 58 43 rfl rfl rfl (by decide +kernel) rfl (fun _ _ _ _ _ _ us hl => match us, hl with | [_], _ => rfl) fun X Z ds μ r μ' C hR hx hl => ?_
  obtain ⟨rfl, rfl, qs, ⟨hq, hs⟩, rfl, rfl⟩ := hR
  show DB K X Z [some (eR qs), none, none, none] [] (defBody (top 87)) _
  refine db_set 1 C rfl rfl de_int ?_
  refine db_forS qs eF (fun (b : Nat) r => byZ b r = byZ 1 qs ∧ 0 < b ∧ b ≤ 2 ^ (500 * (2 - r.length)) ∧ r.length ≤ 2 ∧ ∀ q ∈ r, Sk q) (fun b => [some (eR qs), some (.int (b : Int)), none, none]) (fun _ => []) 1 C (di_tup C (de_var 0 C rfl rfl rfl)) rfl (.some (.some (.none (.none .nil)))) (by exact ⟨rfl, by decide, Nat.one_le_two_pow, hq, hs⟩) (fun b a r hJ ha => ?_) (fun b hJ => ?_)
  · skip
    obtain ⟨h1, h2, h3, h4, h5⟩ := hJ
    have hd := h5 a (by simp)
    have h6 : b < 2 ^ 9000 := Nat.lt_of_le_of_lt h3 (Nat.pow_lt_pow_right (by decide) (by omega))
    have h7 := gcd_pos2 (b := b) (q := a)
    have h8 : a.den < 2 ^ 9000 := Nat.lt_trans hd.2 (Nat.pow_lt_pow_right (by decide) (by decide))
    refine ⟨_, _, _, (dg_tup C (dgs_cons (dg_name 2 C rfl rfl) (dgs_cons (dg_name 3 C rfl rfl) dgs_nil)) rfl), ?_⟩
    refine db_set 1 C rfl rfl (de_is (de_mul (de_var 1 C rfl rfl rfl) (de_fdiv (de_var 3 C rfl rfl rfl) (de_callP 0 C (c_common_part h) rfl (da_cons (de_var 1 C rfl rfl rfl) (da_cons (de_var 3 C rfl rfl rfl) da_nil)) ⟨_, _, trivial, rfl, rfl⟩ rfl (by omega)) (by exact wide_div (b := 9000) (by omega) (by rw [Int.natAbs_natCast]; exact Nat.lt_of_le_of_lt (Nat.gcd_le_right _ a.den_pos) h8) (by decide) (by decide))) (by refine smul (by simpa using h6) ?_; rw [← Int.natCast_ediv, Int.natAbs_natCast]; exact Nat.lt_of_le_of_lt (Nat.div_le_self _ _) h8)) (by exact congrArg D.int (by simp : _ = ((b * (a.den / b.gcd a.den) : Nat) : Int)))) ?_
    exact db_nil ⟨_, ⟨h1, by_pos h2, Nat.le_trans (by_grow h3 hd) (Nat.pow_le_pow_right (by decide) (by simp at h4 ⊢; omega)), by simp at h4; omega, fun q hq => h5 q (by simp [hq])⟩, (.some (.some (.none (.none .nil)))), rfl⟩
  have hb : b = byZ 1 qs := hJ.1
  have hB := by_bound qs 1 0 (by decide) (by decide) hs
  have hB2 : byZ 1 qs ≤ 2 ^ 1000 := Nat.le_trans hB.2 (Nat.pow_le_pow_right (by decide) (by omega))
  subst hb
  exact db_ret (de_tup (da_cons (de_lst (dl_of_dc (V' := [0, 1, 3, 3]) (Gs' := []) (own := [("top", 2), ("bottom", 3)]) C (by decide +kernel) (dc_map qs eF (fun q => .int (q.num * ((byZ 1 qs : Int) / (q.den : Int)))) [0, 1, 3, 3] [] [("top", 2), ("bottom", 3)] C (by decide +kernel) (by decide +kernel) (di_tup C (de_var 0 C rfl rfl rfl)) (by omega) fun a ha => ⟨_, _, (by decide), fun _ C' => ⟨(dg_tup C' (dgs_cons (dg_name 2 C' rfl rfl) (dgs_cons (dg_name 3 C' rfl rfl) dgs_nil)) rfl), (de_mul (de_var 2 C' rfl rfl rfl) (de_fdiv (de_var 1 C' rfl rfl rfl) (de_var 3 C' rfl rfl rfl) (by exact wide_div (b := 9000) (by have := a.den_pos; omega) (by rw [Int.natAbs_natCast]; exact Nat.lt_trans (hs a ha).2 (Nat.pow_lt_pow_right (by decide) (by decide))) (by decide) (by decide))) (by refine smul (Nat.lt_trans (hs a ha).1 (Nat.pow_lt_pow_right (by decide) (by decide))) ?_; rw [← Int.natCast_ediv, Int.natAbs_natCast]; exact Nat.lt_of_le_of_lt (Nat.le_trans (Nat.div_le_self _ _) hB2) (Nat.pow_lt_pow_right (by decide) (by decide))))⟩⟩))) (da_cons (de_var 1 C rfl rfl rfl) da_nil))) ⟨(by simp [rz]), [], (by first | rfl | simp)⟩
theorem c_summed (h : Hd P w K mg base) : FC P w K mg base 1 "summed" 2 (Pu (R_summed)) := by
  refine mk_fc (N := ["row", "other", "one", "two"]) (ps := ["row", "other"]) (V := [3, 3, 0, 0]) (Gs := ["sum", "zip"]) (k := 0) (d := dd_summed) h 59 44 rfl rfl rfl (by decide +kernel) rfl (fun _ _ _ _ _ _ us hl => match us, hl with | [_, _], _ => rfl) fun X Z ds μ r μ' C hR hx hl => ?_
  obtain ⟨rfl, rfl, a, b, ⟨ha1, hb1⟩, rfl, rfl⟩ := hR
  show DB K X Z [some (.lst [.int a]), some (.lst [.int b]), none, none] [] (defBody (top 88)) _
  exact db_ret (de_sum 0 C rfl (h.free 7 _ rfl) (de_is (de_lst (dl_of_dc (V' := [0, 0, 3, 3]) (Gs' := []) (own := [("one", 2), ("two", 3)]) C (by decide +kernel) (dc_map [()] (fun _ => .tup [.int a, .int b]) (fun _ => .int (a * b)) [0, 0, 3, 3] [] [("one", 2), ("two", 3)] C (by decide +kernel) (by decide +kernel) (di_is (di_zip 1 C rfl (h.free 14 _ rfl) (de_var 0 C rfl rfl rfl) (de_var 1 C rfl rfl rfl) rfl rfl) (by rfl)) (by first | rfl | assumption | omega | decide | simp) fun a ha => ⟨_, _, (by decide), fun _ C' => ⟨(dg_tup C' (dgs_cons (dg_name 2 C' rfl rfl) (dgs_cons (dg_name 3 C' rfl rfl) dgs_nil)) rfl), (de_mul (de_var 2 C' rfl rfl rfl) (de_var 3 C' rfl rfl rfl) (by exact smul ha1 hb1))⟩⟩))) (mapI _ _))) ⟨(by simp), [], (by first | rfl | simp)⟩
end
end NC

set_option Elab.async false
set_option linter.all false
set_option autoImplicit false
set_option maxRecDepth 100000
set_option maxHeartbeats 4000000
namespace NC
open PySem PySem.Spec PyProof.Rows L2

/-! printed by spec5.py: the steps. -/
section
variable {P : Program} {w : World} {K : PySem.W.Frag} {mg : Str → Option Value} {base : Heap}


/-! ### the steps, in one dimension -/
def fA (a : Aff) : Nat := byZ 1 [a.1, a.2]
def rA (a : Aff) : Int := rz (fA a) a.1
def bA (a : Aff) : Int := rz (fA a) a.2
def gN (g : Rat) : Int := rz (byZ 1 [g]) g
def gD (g : Rat) : Nat := byZ 1 [g]
def rowAt (as : List Aff) (i : Nat) : Aff := as.getD i (0, 0)
abbrev nsS : List Str := ["many", "rows", "bounds", "factors", "goal", "goal_factor", "tight", "measure", "lines"]
abbrev eRows (as : List Aff) : D := .lst (as.map fun a => .lst [.int (rA a)])
abbrev eBnds (as : List Aff) : D := .lst (as.map fun a => .int (bA a))
abbrev eFacs (as : List Aff) : D := .lst (as.map fun a => .int (fA a : Int))
abbrev stD (as : List Aff) (g : Rat) (p1 : Addr) (m l : Int) : List D := [.int 1, eRows as, eBnds as, eFacs as, .lst [.int (gN g)], .int (gD g : Int), .ref p1, .int m, .lst [.lst [.int l]]]
abbrev muS (K : PySem.W.Frag) (q p1 : Addr) (as : List Aff) (g : Rat) (t : Nat) (m l : Int) : Mu := [(q, .ins (He.ga K "Steps") nsS (stD as g p1 m l)), (p1, .lst [.int (t : Int)])]
structure StOk (as : List Aff) (g : Rat) (t : Nat) (m l : Int) : Prop where
  sa : ∀ a ∈ as, SkA a
  sl : as.length ≤ 100
  sg : Sk g
  ht : t < as.length
  hm : m.natAbs < 2 ^ 1500
  m0 : 0 < m
  hl : l.natAbs ≤ 1
theorem fA_bound {a : Aff} (h : SkA a) : 0 < fA a ∧ fA a ≤ 2 ^ 1000 := by
  have := by_bound [a.1, a.2] 1 0 (by decide) (by decide) (fun q hq => by
    simp at hq
    rcases hq with rfl | rfl
    · exact h.1
    · exact h.2)
  exact this
theorem rA_bound {a : Aff} (h : SkA a) : (rA a).natAbs < 2 ^ 1500 := rz_bound (fA_bound h).2 h.1
theorem bA_bound {a : Aff} (h : SkA a) : (bA a).natAbs < 2 ^ 1500 := rz_bound (fA_bound h).2 h.2
theorem gD_bound {g : Rat} (h : Sk g) : 0 < gD g ∧ gD g ≤ 2 ^ 1000 := by
  have := by_bound [g] 1 0 (by decide) (by decide) (fun q hq => by simp at hq; rw [hq]; exact h)
  exact ⟨this.1, Nat.le_trans this.2 (Nat.pow_le_pow_right (by decide) (by simp))⟩
theorem gN_bound {g : Rat} (h : Sk g) : (gN g).natAbs < 2 ^ 1500 := rz_bound (gD_bound h).2 h
theorem row_get {as : List Aff} {i : Nat} (h : i < as.length) : as[i]? = some (rowAt as i) := by
  unfold rowAt
  rw [List.getD_eq_getElem?_getD, List.getElem?_eq_getElem h]; rfl
theorem row_mem {as : List Aff} {i : Nat} (h : i < as.length) : rowAt as i ∈ as := List.mem_of_getElem? (row_get h)
theorem at_row {as : List Aff} {i : Nat} (f : Aff → D) (h : i < as.length) : atI (as.map f) (i : Int) = some (f (rowAt as i)) := by
  unfold atI ixN
  have h1 : (0 : Int) ≤ (i : Int) := by omega
  have e := row_get h
  rw [List.getElem?_eq_getElem h] at e
  have e := Option.some.inj e
  simp [h, e]
theorem lt9 {a : Nat} {k : Nat} (h : a < 2 ^ k) (hk : k ≤ 9000) : a < 2 ^ 9000 := Nat.lt_of_lt_of_le h (Nat.pow_le_pow_right (by decide) hk)
theorem le9 {a : Nat} {k : Nat} (h : a ≤ 2 ^ k) (hk : k < 9000) : a < 2 ^ 9000 := Nat.lt_of_le_of_lt h (Nat.pow_lt_pow_right (by decide) hk)
theorem mulB {i j : Int} {a b : Nat} (hi : i.natAbs < 2 ^ a) (hj : j.natAbs < 2 ^ b) : (i * j).natAbs < 2 ^ (a + b) := by
  rw [Int.natAbs_mul, Nat.pow_add]
  exact Nat.mul_lt_mul'' hi hj
/-- the corner times the measure -/
def cnr (as : List Aff) (t : Nat) (l : Int) : Int := bA (rowAt as t) * l
theorem cnr_bound {as : List Aff} {g : Rat} {t : Nat} {m l : Int} (h : StOk as g t m l) : (cnr as t l).natAbs < 2 ^ 1500 := by
  unfold cnr
  rw [Int.natAbs_mul]
  have h1 := bA_bound (h.sa _ (row_mem h.ht))
  have h2 := h.hl
  calc (bA (rowAt as t)).natAbs * l.natAbs ≤ (bA (rowAt as t)).natAbs * 1 := Nat.mul_le_mul (Nat.le_refl _) h2
    _ < _ := by omega
def isBrk (as : List Aff) (c m : Int) (i : Nat) : Bool := decide (bA (rowAt as i) * m < rA (rowAt as i) * c)
def brk (as : List Aff) (c m : Int) : Option Nat := (List.range as.length).find? (isBrk as c m)
def eOI : Option Nat → D
  | some i => .int (i : Int)
  | none => .non
abbrev R_corner (K : PySem.W.Frag) : Con := fun ds μ d μ' => ∃ (q p1 : Addr) (as : List Aff) (g : Rat) (t : Nat) (m l : Int), StOk as g t m l ∧ ds = [.ref q] ∧ μ = muS K q p1 as g t m l ∧ d = .lst [.int (cnr as t l)] ∧ μ' = muS K q p1 as g t m l
abbrev R_broken (K : PySem.W.Frag) : Con := fun ds μ d μ' => ∃ (q p1 : Addr) (as : List Aff) (g : Rat) (t : Nat) (m l : Int), StOk as g t m l ∧ ds = [.ref q] ∧ μ = muS K q p1 as g t m l ∧ d = eOI (brk as (cnr as t l) m) ∧ μ' = muS K q p1 as g t m l
abbrev R_leaving (K : PySem.W.Frag) : Con := fun ds μ d μ' => ∃ (q p1 : Addr) (as : List Aff) (g : Rat) (t : Nat) (m l pz : Int), StOk as g t m l ∧ ds = [.ref q, .lst [.int pz]] ∧ μ = muS K q p1 as g t m l ∧ d = (if 0 < pz then .int 0 else .non) ∧ μ' = muS K q p1 as g t m l
abbrev R_step (K : PySem.W.Frag) : Con := fun ds μ d μ' => ∃ (q p1 : Addr) (as : List Aff) (g : Rat) (t w : Nat) (m l pz : Int), StOk as g t m l ∧ ds = [.ref q, .int (w : Int), .lst [.int pz], .int 0] ∧ μ = muS K q p1 as g t m l ∧ d = .non ∧ μ' = muS K q p1 as g w pz l
/-- keys with their tops and bottoms -/
abbrev Wth := List (Nat × Int × Nat)
def lookW : Wth → Nat → Int × Nat
  | [], _ => (0, 1)
  | x :: r, i => if x.1 = i then x.2 else lookW r i
abbrev wkD (q : Addr) (ws : Wth) : Addr × Cell := (q, .dic (ws.map fun x => (x.1 : Int)) (ws.map fun x => .tup [.int x.2.1, .int (x.2.2 : Int)]))
def mulsOf (as : List Aff) (ws : Wth) : List Rat := (List.range as.length).map fun i => mkRat ((lookW ws i).1 * (fA (rowAt as i) : Int)) (lookW ws i).2
def WthOk (ws : Wth) : Prop := ∀ x ∈ ws, x.2.1.natAbs < 2 ^ 4000 ∧ x.2.2 < 2 ^ 4000 ∧ x.2.2 ≠ 0
abbrev R_multiples_of (K : PySem.W.Frag) : Con := fun ds μ d μ' => ∃ (q p1 qw : Addr) (as : List Aff) (g : Rat) (t : Nat) (m l : Int) (ws : Wth), (StOk as g t m l ∧ WthOk ws) ∧ ds = [.ref q, .ref qw] ∧ μ = muS K q p1 as g t m l ++ [wkD qw ws] ∧ d = eR (mulsOf as ws) ∧ μ' = muS K q p1 as g t m l ++ [wkD qw ws]
theorem look_W {ws : Wth} {i : Nat} : (lookD (ws.map fun x => (x.1 : Int)) (ws.map fun x => .tup [.int x.2.1, .int (x.2.2 : Int)]) (i : Int)).getD (eF 0) = .tup [.int (lookW ws i).1, .int ((lookW ws i).2 : Int)] := by
  induction ws with
  | nil => rfl
  | cons x r ih =>
    simp only [List.map_cons, lookD, lookW]
    by_cases h : x.1 = i
    · have : ((x.1 : Int)) = (i : Int) := by omega
      simp [h]
    · have : ¬ ((x.1 : Int)) = (i : Int) := by omega
      rw [if_neg this, if_neg h]
      exact ih
theorem look_ok {ws : Wth} (h : WthOk ws) (i : Nat) : (lookW ws i).1.natAbs < 2 ^ 4000 ∧ (lookW ws i).2 < 2 ^ 4000 ∧ (lookW ws i).2 ≠ 0 := by
  induction ws with
  | nil => exact ⟨Nat.pow_pos (by decide), Nat.lt_of_lt_of_le (by decide : 1 < 2 ^ 1) (Nat.pow_le_pow_right (by decide) (by decide)), Nat.one_ne_zero⟩
  | cons x r ih =>
    simp only [lookW]
    split
    · exact h x (by simp)
    · exact ih fun y hy => h y (by simp [hy])

theorem m_Steps_corner (h : Hd P w K mg base) : MO P w K mg base 2 ("Steps", some "corner") 1 (R_corner K) := by
  refine mk_mo (N := ["self", "found", "wish", "line", "one", "more"]) (ps := ["self"]) (V := [2, 3, 2, 3, 0, 0]) (Gs := ["zip"]) (k := 1) (d := dd_Steps_corner) h 61 rfl  rfl (by decide +kernel) rfl (fun _ _ _ _ _ _ us hl => match us, hl with | [_], _ => rfl) fun X Z ds μ r μ' C hR hx hl => ?_
  obtain ⟨q, p1, as, g, t, m, l, hs, rfl, rfl, rfl, rfl⟩ := hR
  show DB K X Z [some (.ref q), none, none, none, none, none] (muS K q p1 as g t m l) (defBody (inClass (top 89) 1)) _
  refine db_set 1 C rfl rfl (de_is (de_lst (dl_rep (n := 1) (de_lst (dl_lst (da_cons de_int da_nil))) (de_fldO 0 0 C (h.cls 5 _ _ rfl) (de_var 0 C rfl rfl rfl) rfl rfl rfl) (by decide) (by decide))) (by exact (rfl : _ = D.lst [.int 0]))) ?_
  refine db_forK (l := p1) (ns := [(t : Int)]) (S := Int) [()] (fun _ => .tup [.int (t : Int), .lst [.int l]]) (fun c r => c = (if r.isEmpty then cnr as t l else 0) ∧ r.length ≤ 1) (fun c => [some (.ref q), some (.lst [.int c]), none, none, none, none]) (fun _ => muS K q p1 as g t m l) 0 C (dik_is (di_zipK 0 C rfl (h.free 14 _ rfl) (de_fldO 0 6 C (h.cls 5 _ _ rfl) (de_var 0 C rfl rfl rfl) rfl rfl rfl) (de_fldO 0 8 C (h.cls 5 _ _ rfl) (de_var 0 C rfl rfl rfl) rfl rfl rfl) (by simp) rfl rfl rfl) (by rfl)) rfl (.some (.some (.none (.none (.none (.none .nil)))))) (by exact ⟨rfl, by simp⟩) (fun _ => by simp) (fun c a r hJ ha => ?_) (fun c hJ => ?_)
  · obtain ⟨h1, h2⟩ := hJ
    have hr : r = [] := List.eq_nil_of_length_eq_zero (by simpa using h2)
    have hc : c = 0 := by simpa using h1
    subst hr hc
    refine ⟨_, _, _, (dg_tup C (dgs_cons (dg_name 2 C rfl rfl) (dgs_cons (dg_name 3 C rfl rfl) dgs_nil)) rfl), ?_⟩
    refine db_setDcF (V' := [1, 0, 1, 0, 3, 3]) (Gs' := []) (own := [("one", 4), ("more", 5)]) 1 C (by decide +kernel) rfl rfl (by simp) (dc_map [()] (fun _ => .tup [.int 0, .int l]) (fun _ => .int (0 + bA (rowAt as t) * l)) [1, 0, 1, 0, 3, 3] [] [("one", 4), ("more", 5)] C (by decide +kernel) (by decide +kernel) (di_is (di_zip 0 C rfl (h.free 14 _ rfl) (de_var 1 C rfl rfl rfl) (de_var 3 C rfl rfl rfl) rfl rfl) (by rfl)) (by first | rfl | assumption | omega | decide | simp) fun a ha => ⟨_, _, (by decide), fun _ C' => ⟨(dg_tup C' (dgs_cons (dg_name 4 C' rfl rfl) (dgs_cons (dg_name 5 C' rfl rfl) dgs_nil)) rfl), (de_add (de_var 4 C' rfl rfl rfl) (de_mul (de_ixL C' (de_fldO 0 2 C' (h.cls 5 _ _ rfl) (de_var 0 C' rfl rfl rfl) rfl rfl rfl) (de_var 2 C' rfl rfl rfl) (by exact at_row _ hs.ht)) (de_var 5 C' rfl rfl rfl) (by exact smul (lt9 (bA_bound (hs.sa _ (row_mem hs.ht))) (by decide)) (Nat.lt_of_le_of_lt hs.hl (Nat.one_lt_two_pow (by decide))))))⟩⟩) ?_
    refine db_nil ⟨cnr as t l, ⟨rfl, by simp⟩, ?_, rfl⟩
    have e : 0 + bA (rowAt as t) * l = cnr as t l := Int.zero_add _
    rw [show D.lst ([()].map fun _ => D.int (0 + bA (rowAt as t) * l)) = .lst [.int (0 + bA (rowAt as t) * l)] from rfl, e]
    exact (.some (.some (.none (.none (.none (.none .nil))))))
  · have hc : c = cnr as t l := by simpa using hJ.1
    subst hc
    exact db_ret (de_var 1 C rfl rfl rfl) ⟨(by rfl), (by first | exact ⟨[], rfl⟩ | exact ⟨[_], rfl⟩ | exact ⟨[_, _], rfl⟩ | exact ⟨[], by simp⟩)⟩

theorem find_cons {P : Nat → Bool} {a : Nat} {r : List Nat} : (a :: r).find? P = if P a = true then some a else r.find? P := by
  rw [List.find?_cons]
  cases P a <;> rfl
theorem range_lt {n i : Nat} (h : i ∈ List.range n) : i < n := by simpa using h
theorem sq9 {a : Int} (h : a.natAbs < 2 ^ 1500) : a.natAbs < 2 ^ 9000 := lt9 h (by decide)
theorem StOk.m9 {as : List Aff} {g : Rat} {t : Nat} {m l : Int} (h : StOk as g t m l) : m.natAbs < 2 ^ 9000 := lt9 h.hm (by decide)

theorem m_Steps_broken (h : Hd P w K mg base) : MO P w K mg base 3 ("Steps", some "broken") 1 (R_broken K) := by
  refine mk_mo (N := ["self", "corner", "at"]) (ps := ["self"]) (V := [3, 3, 3]) (Gs := ["range", "len", "summed"]) (k := 2) (d := dd_Steps_broken) h 62 rfl  rfl (by decide +kernel) rfl (fun _ _ _ _ _ _ us hl => match us, hl with | [_], _ => rfl) fun X Z ds μ r μ' C hR hx hl => ?_
  obtain ⟨q, p1, as, g, t, m, l, hs, rfl, rfl, rfl, rfl⟩ := hR
  show DB K X Z [some (.ref q), none, none] (muS K q p1 as g t m l) (defBody (inClass (top 89) 2)) _
  refine db_set 1 C rfl rfl (de_methC0 2 0 C (MO.mc (m_Steps_corner h) h 13 5 rfl rfl) (de_var 0 C rfl rfl rfl) rfl ⟨q, p1, as, g, t, m, l, hs, rfl, rfl, rfl, rfl⟩ rfl (by omega)) ?_
  refine db_forS (List.range as.length) (fun (i : Nat) => .int (i : Int)) (fun (_ : Unit) r => r.find? (isBrk as (cnr as t l) m) = brk as (cnr as t l) m ∧ ∀ i ∈ r, i < as.length) (fun _ => [some (.ref q), some (.lst [.int (cnr as t l)]), none]) (fun _ => muS K q p1 as g t m l) () C (di_is (di_range (n := as.length) 0 C rfl (h.free 16 _ rfl) (de_len 1 C rfl (h.free 0 _ rfl) (de_fldO 0 1 C (h.cls 5 _ _ rfl) (de_var 0 C rfl rfl rfl) rfl rfl rfl) rfl) (by exact congrArg (fun n : Nat => (n : Int)) (List.length_map _)) (by have := hs.sl; omega)) (by rfl)) rfl (.some (.some (.none .nil))) (by exact ⟨rfl, fun i hi => range_lt hi⟩) (fun s a r hJ ha => ?_) (fun s hJ => ?_)
  · obtain ⟨h1, h2⟩ := hJ
    have hi := h2 a (by simp)
    rw [find_cons] at h1
    refine ⟨_, _, _, (dg_name 2 C rfl rfl), ?_⟩
    refine db_if (dt_cp (de_callP 2 C (c_summed h) rfl (da_cons (de_ixL C (de_fldO 0 1 C (h.cls 5 _ _ rfl) (de_var 0 C rfl rfl rfl) rfl rfl rfl) (de_var 2 C rfl rfl rfl) (by exact at_row _ hi)) (da_cons (de_var 1 C rfl rfl rfl) da_nil)) ⟨_, _, ⟨sq9 (rA_bound (hs.sa _ (row_mem hi))), sq9 (cnr_bound hs)⟩, rfl, rfl⟩ rfl (by omega)) (de_mul (de_ixL C (de_fldO 0 2 C (h.cls 5 _ _ rfl) (de_var 0 C rfl rfl rfl) rfl rfl rfl) (de_var 2 C rfl rfl rfl) (by exact at_row _ hi)) (de_fldO 0 7 C (h.cls 5 _ _ rfl) (de_var 0 C rfl rfl rfl) rfl rfl rfl) (by exact smul (sq9 (bA_bound (hs.sa _ (row_mem hi)))) hs.m9)) cp_gt) (fun hc => ?_) (fun hc => ?_)
    · have hb : isBrk as (cnr as t l) m a = true := hc
      rw [if_pos hb] at h1
      rw [← h1]
      exact db_ret (de_var 2 C rfl rfl rfl) ⟨(by rfl), (by first | exact ⟨[], rfl⟩ | exact ⟨[_], rfl⟩ | exact ⟨[_, _], rfl⟩ | exact ⟨[], by simp⟩)⟩
    · have hb : ¬ isBrk as (cnr as t l) m a = true := by rw [show isBrk as (cnr as t l) m a = false from hc]; simp
      rw [if_neg hb] at h1
      exact db_nil (db_nil ⟨(), ⟨h1, fun i hi => h2 i (by simp [hi])⟩, (.some (.some (.none .nil))), rfl⟩)
  · have h1 : none = brk as (cnr as t l) m := hJ.1
    rw [← h1]
    exact db_ret de_non ⟨(by rfl), (by first | exact ⟨[], rfl⟩ | exact ⟨[_], rfl⟩ | exact ⟨[_, _], rfl⟩ | exact ⟨[], by simp⟩)⟩
theorem m_Steps_leaving (h : Hd P w K mg base) : MO P w K mg base 2 ("Steps", some "leaving") 2 (R_leaving K) := by
  refine mk_mo (N := ["self", "parts", "best", "at", "worth", "more"]) (ps := ["self", "parts"]) (V := [3, 3, 3, 3, 3, 3]) (Gs := ["range", "summed"]) (k := 1) (d := dd_Steps_leaving) h 63 rfl  rfl (by decide +kernel) rfl (fun _ _ _ _ _ _ us hl => match us, hl with | [_, _], _ => rfl) fun X Z ds μ r μ' C hR hx hl => ?_
  obtain ⟨q, p1, as, g, t, m, l, pz, hs, rfl, rfl, rfl, rfl⟩ := hR
  show DB K X Z [some (.ref q), some (.lst [.int pz]), none, none, none, none] (muS K q p1 as g t m l) (defBody (inClass (top 89) 3)) _
  refine db_set 2 C rfl rfl de_non ?_
  refine db_forS [0] (fun (i : Nat) => .int (i : Int)) (fun (s : D) r => s = (if r.isEmpty then (if 0 < pz then .tup [.int 0, .int (gN g * l)] else .non) else .non) ∧ r.length ≤ 1) (fun s => [some (.ref q), some (.lst [.int pz]), some s, none, none, none]) (fun _ => muS K q p1 as g t m l) .non C (di_is (di_range (n := 1) 0 C rfl (h.free 16 _ rfl) (de_fldO 0 0 C (h.cls 5 _ _ rfl) (de_var 0 C rfl rfl rfl) rfl rfl rfl) (by rfl) (by first | rfl | assumption | omega | decide | simp)) (by rfl)) rfl (.some (.some (.some (.none (.none (.none .nil)))))) (by exact ⟨rfl, by simp⟩) (fun s a r hJ ha => ?_) (fun s hJ => ?_)
  · obtain ⟨h1, h2⟩ := hJ
    have hr : r = [] := List.eq_nil_of_length_eq_zero (by simpa using h2)
    have h1 : s = .non := by simpa using h1
    have ha0 : a = 0 := by simpa using ha
    subst hr h1 ha0
    refine ⟨_, _, _, (dg_name 3 C rfl rfl), ?_⟩
    refine db_if (dt_cp (de_ixL C (de_var 1 C rfl rfl rfl) (de_var 3 C rfl rfl rfl) (by rfl)) de_int cp_gt) (fun hc => ?_) (fun hc => ?_)
    · have hp : 0 < pz := by simpa using hc
      refine db_set 4 C rfl rfl (de_callP 1 C (c_summed h) rfl (da_cons (de_fldO 0 4 C (h.cls 5 _ _ rfl) (de_var 0 C rfl rfl rfl) rfl rfl rfl) (da_cons (de_ixL C (de_fldO 0 8 C (h.cls 5 _ _ rfl) (de_var 0 C rfl rfl rfl) rfl rfl rfl) (de_var 3 C rfl rfl rfl) (by rfl)) da_nil)) ⟨_, _, ⟨sq9 (gN_bound hs.sg), Nat.lt_of_le_of_lt hs.hl (Nat.one_lt_two_pow (by decide))⟩, rfl, rfl⟩ rfl (by omega)) ?_
      refine db_if1 (dt_is (dt_cp (de_var 2 C rfl rfl rfl) de_non cp_isN) (by rfl)) ?_
      refine db_set 2 C rfl rfl (de_tup (da_cons (de_var 3 C rfl rfl rfl) (da_cons (de_var 4 C rfl rfl rfl) da_nil))) ?_
      refine db_nil ?_
      exact db_nil (db_nil ⟨_, ⟨by rw [if_pos hp]; rfl, by simp⟩, (.some (.some (.some (.none (.none (.none .nil)))))), rfl⟩)
    · have hp : ¬ 0 < pz := by simpa using hc
      exact db_nil (db_nil ⟨_, ⟨by rw [if_neg hp]; rfl, by simp⟩, (.some (.some (.some (.none (.none (.none .nil)))))), rfl⟩)
  · have h1 : s = (if 0 < pz then .tup [.int 0, .int (gN g * l)] else .non) := hJ.1
    by_cases hp : 0 < pz
    · rw [if_pos hp] at h1 ⊢
      subst h1
      exact db_ret (de_ifE (u := false) (dt_is (dt_cp (de_var 2 C rfl rfl rfl) de_non cp_isN) (by rfl)) (fun z => by cases z) (fun _ => (de_ixT C (de_var 2 C rfl rfl rfl) de_int rfl))) ⟨rfl, [], rfl⟩
    · rw [if_neg hp] at h1 ⊢
      subst h1
      exact db_ret (de_ifE (u := true) (dt_is (dt_cp (de_var 2 C rfl rfl rfl) de_non cp_isN) (by rfl)) (fun _ => de_non) (fun z => by cases z)) ⟨rfl, [], rfl⟩
theorem m_Steps_step (h : Hd P w K mg base) : MO P w K mg base 1 ("Steps", some "step") 4 (R_step K) := by
  refine mk_mo (N := ["self", "wish", "parts", "place", "kept", "at", "turned", "one", "two"]) (ps := ["self", "wish", "parts", "place"]) (V := [2, 3, 2, 2, 3, 2, 3, 0, 0]) (Gs := ["range", "zip"]) (k := 0) (d := dd_Steps_step) h 64 rfl  rfl (by decide +kernel) rfl (fun _ _ _ _ _ _ us hl => match us, hl with | [_, _, _, _], _ => rfl) fun X Z ds μ r μ' C hR hx hl => ?_
  obtain ⟨q, p1, as, g, t, w, m, l, pz, hs, rfl, rfl, rfl, rfl⟩ := hR
  show DB K X Z [some (.ref q), some (.int (w : Int)), some (.lst [.int pz]), some (.int 0), none, none, none, none, none] (muS K q p1 as g t m l) (defBody (inClass (top 89) 4)) _
  refine db_set 4 C rfl rfl (de_ixL C (de_fldO 0 8 C (h.cls 5 _ _ rfl) (de_var 0 C rfl rfl rfl) rfl rfl rfl) (de_var 3 C rfl rfl rfl) (by rfl)) ?_
  refine db_forS [0] (fun (i : Nat) => .int (i : Int)) (fun (_ : Unit) r => True) (fun _ => [some (.ref q), some (.int (w : Int)), some (.lst [.int pz]), some (.int 0), some (.lst [.int l]), none, none, none, none]) (fun _ => muS K q p1 as g t m l) () C (di_is (di_range (n := 1) 0 C rfl (h.free 16 _ rfl) (de_fldO 0 0 C (h.cls 5 _ _ rfl) (de_var 0 C rfl rfl rfl) rfl rfl rfl) (by rfl) (by first | rfl | assumption | omega | decide | simp)) (by rfl)) rfl (.some (.some (.some (.some (.some (.none (.none (.none (.none .nil))))))))) trivial (fun s a r hJ ha => ?_) (fun s hJ => ?_)
  · have ha0 : a = 0 := by simpa using ha
    subst ha0
    refine ⟨_, _, _, (dg_name 5 C rfl rfl), ?_⟩
    refine db_skip (dt_is (dt_cp (de_var 5 C rfl rfl rfl) (de_var 3 C rfl rfl rfl) cp_ne) (by rfl)) ?_
    exact db_nil ⟨(), trivial, (.some (.some (.some (.some (.some (.none (.none (.none (.none .nil))))))))), rfl⟩
  · skip
    refine db_asg (de_var 1 C rfl rfl rfl) (dg_setix 1 (de_fldO 0 6 C (h.cls 5 _ _ rfl) (de_var 0 C rfl rfl rfl) rfl rfl rfl) (de_var 3 C rfl rfl rfl) rfl (by rfl)) ?_
    refine db_fldW 0 7 C (h.cls 5 _ _ rfl) (de_ixL C (de_var 2 C rfl rfl rfl) (de_var 3 C rfl rfl rfl) (by rfl)) (de_var 0 C rfl rfl rfl) rfl rfl ?_
    exact db_nil ⟨rfl, [], rfl⟩
theorem m_Steps_multiples_of (h : Hd P w K mg base) : MO P w K mg base 3 ("Steps", some "multiples_of") 2 (R_multiples_of K) := by
  refine mk_mo (N := ["self", "worths", "found", "at", "top", "bottom"]) (ps := ["self", "worths"]) (V := [3, 3, 3, 3, 3, 3]) (Gs := ["range", "len", "NOUGHT_numbers", "fraction_of", "tuple"]) (k := 2) (d := dd_Steps_multiples_of) h 65 rfl  rfl (by decide +kernel) rfl (fun _ _ _ _ _ _ us hl => match us, hl with | [_, _], _ => rfl) fun X Z ds μ r μ' C hR hx hl => ?_
  obtain ⟨q, p1, qw, as, g, t, m, l, ws, ⟨hs, hws⟩, rfl, rfl, rfl, rfl⟩ := hR
  show DB K X Z [some (.ref q), some (.ref qw), none, none, none, none] ((muS K q p1 as g t m l ++ [wkD qw ws])) (defBody (inClass (top 89) 5)) _
  refine db_own 2 C rfl rfl (dl_lst da_nil) (fun q3 hq3 => ?_)
  refine db_forS (List.range as.length) (fun (i : Nat) => .int (i : Int)) (fun (s : List Rat) r => s ++ r.map (fun i => mkRat ((lookW ws i).1 * (fA (rowAt as i) : Int)) (lookW ws i).2) = mulsOf as ws ∧ ∀ i ∈ r, i < as.length) (fun _ => [some (.ref q), some (.ref qw), some (.ref q3), none, none, none]) (fun s => [(q, .ins (He.ga K "Steps") nsS (stD as g p1 m l)), (p1, .lst [.int (t : Int)]), wkD qw ws, (q3, .lst (s.map eF))]) [] C (di_is (di_range (n := as.length) 0 C rfl (h.free 16 _ rfl) (de_len 1 C rfl (h.free 0 _ rfl) (de_fldO 0 1 C (h.cls 5 _ _ rfl) (de_var 0 C rfl rfl rfl) rfl rfl rfl) rfl) (by exact congrArg (fun n : Nat => (n : Int)) (List.length_map _)) (by have := hs.sl; omega)) (by rfl)) rfl (.some (.some (.some (.none (.none (.none .nil)))))) (by exact ⟨rfl, fun i hi => range_lt hi⟩) (fun s a r hJ ha => ?_) (fun s hJ => ?_)
  · obtain ⟨h1, h2⟩ := hJ
    have hi := h2 a (by simp)
    have hw := look_ok hws a
    have hl : s.length < 100000 := by
      have h3 := congrArg List.length h1
      have h4 := hs.sl
      simp only [mulsOf, List.length_append, List.length_map, List.length_range] at h3
      omega
    refine ⟨_, _, _, (dg_name 3 C rfl rfl), ?_⟩
    refine db_asg (de_is (de_dget2 2 C (de_var 1 C rfl rfl rfl) (de_var 3 C rfl rfl rfl) (de_is (de_glo 2 C rfl (h.cT 0 rfl)) (by rfl : _ = eF (0))) rfl) look_W) (dg_tup C (dgs_cons (dg_name 4 C rfl rfl) (dgs_cons (dg_name 5 C rfl rfl) dgs_nil)) rfl) ?_
    refine db_app 3 C (de_var 2 C rfl rfl rfl) rfl (de_callP 3 C (c_fraction_of h) rfl (da_cons (de_mul (de_var 4 C rfl rfl rfl) (de_ixL C (de_fldO 0 3 C (h.cls 5 _ _ rfl) (de_var 0 C rfl rfl rfl) rfl rfl rfl) (de_var 3 C rfl rfl rfl) (by exact at_row _ hi)) (by refine smul (lt9 hw.1 (by decide)) ?_; rw [Int.natAbs_natCast]; exact le9 (fA_bound (hs.sa _ (row_mem hi))).2 (by decide))) (da_cons (de_var 5 C rfl rfl rfl) da_nil)) ⟨_, (lookW ws a).2, hw.2.2, lt9 hw.2.1 (by decide), rfl, rfl⟩ rfl (by omega)) rfl (by simpa using hl) ?_
    refine db_nil ⟨s ++ [mkRat ((lookW ws a).1 * (fA (rowAt as a) : Int)) (lookW ws a).2], ⟨by rw [← h1]; simp, fun i hi => h2 i (by simp [hi])⟩, (.some (.some (.some (.none (.none (.none .nil)))))), ?_⟩
    simp [Rat.normalize_eq_mkRat]
  · have h1 : s = mulsOf as ws := by simpa using hJ.1
    subst h1
    exact db_ret (de_tupleO 3 4 C rfl (h.free 12 _ rfl) (de_var 2 C rfl rfl rfl) rfl) ⟨(by rfl), (by first | exact ⟨[], rfl⟩ | exact ⟨[_], rfl⟩ | exact ⟨[_, _], rfl⟩ | exact ⟨[], by simp⟩)⟩
end
end NC

set_option Elab.async false
set_option linter.all false
set_option autoImplicit false
set_option maxRecDepth 100000
set_option maxHeartbeats 4000000
namespace NC
open PySem PySem.Spec PyProof.Rows L2

/-! printed by spec6.py: settle. -/
section
variable {P : Program} {w : World} {K : PySem.W.Frag} {mg : Str → Option Value} {base : Heap}


theorem dl_is {X : Cx} {Z : Zed} {ρ : Rho} {μ μ1 : Mu} {e : Expr} {c c' : Cell} (h : DL K X Z ρ μ e c μ1) (q : c = c') : DL K X Z ρ μ e c' μ1 := q ▸ h
structure InOk (as : List Aff) (g : Rat) (t0 : Nat) (m0 l0 : Int) : Prop where
  sa : ∀ a ∈ as, SkA a
  sl : as.length ≤ 100
  sg : Sk g
  ht : t0 < as.length
  h0 : t0 = (if 0 ≤ gN g then 0 else 1)
  hr : rA (rowAt as t0) ≠ 0
  hm : m0 = 1 * ((rA (rowAt as t0)).natAbs : Int)
  hl : l0 = m0.fdiv (rA (rowAt as t0))
abbrev R_Steps_init (ds : List D) (dz : Addr → List D) (t : List D) : Prop := ∃ (as : List Aff) (g : Rat) (t0 : Nat) (m0 l0 : Int), InOk as g t0 m0 l0 ∧ ds = [eAs as, .tup [eF g]] ∧ dz = (fun p1 => stD as g p1 m0 l0) ∧ t = [.int (t0 : Int)]

theorem n_Steps_init (h : Hd P w K mg base) : KN P w K mg base 3 "Steps" (He.ga K "Steps") 3 nsS R_Steps_init := by
  obtain ⟨fd, F⟩ := h.sD 60 dd_Steps_init rfl
  refine ⟨⟨_, fd, ["self", "wishes", "aim"], h.glo 101 _ rfl, h.mkr 5 _ _ rfl, F.bindsN (fun _ _ _ _ _ _ us hl => match us, hl with | [_, _, _], _ => rfl), ?_⟩⟩
  refine fn_okN (N := ["self", "wishes", "aim", "both", "at", "size", "row", "number", "whole", "by", "place"]) (V := [2, 3, 3, 3, 2, 2, 0, 0, 0, 0, 0]) (Gs := ["len", "whole_row", "range", "abs"]) (k := 2) F (by decide +kernel) rfl fun X Z q ds dz t C hR hx hl => ?_
  obtain ⟨as, g, t0, m0, l0, hs, rfl, rfl, rfl⟩ := hR
  show DB K X Z [some (.ref q), some (eAs as), some (.tup [eF g]), none, none, none, none, none, none, none, none] [(q, .ins (He.ga K "Steps") [] [])] (defBody (inClass (top 89) 0)) _
  refine db_fldN 0 C (ClsD.part (ns := ["many"]) (ms := ["rows", "bounds", "factors", "goal", "goal_factor", "tight", "measure", "lines"]) (h.cls 5 _ _ rfl)) (de_len 0 C rfl (h.free 0 _ rfl) (de_var 2 C rfl rfl rfl) rfl) (de_var 0 C rfl rfl rfl) rfl ?_
  refine db_setDcF (V' := [0, 0, 0, 0, 0, 0, 3, 3, 0, 0, 0]) (Gs' := ["whole_row"]) (own := [("row", 6), ("number", 7)]) 3 C (by decide +kernel) rfl rfl (by simp) (dc_map as eA (fun a => .tup [.lst [.int (rA a), .int (bA a)], .int (fA a : Int)]) [0, 0, 0, 0, 0, 0, 3, 3, 0, 0, 0] ["whole_row"] [("row", 6), ("number", 7)] C (by decide +kernel) (by decide +kernel) (di_list C (de_var 1 C rfl rfl rfl)) (by have := hs.sl; omega) fun a ha => ⟨_, _, (by decide), fun _ C' => ⟨(dg_tup C' (dgs_cons (dg_name 6 C' rfl rfl) (dgs_cons (dg_name 7 C' rfl rfl) dgs_nil)) rfl), (de_callP 0 C' (c_whole_row h) rfl (da_cons (de_catT C' (de_var 6 C' rfl rfl rfl) (de_tup (da_cons (de_var 7 C' rfl rfl rfl) da_nil)) (by simp) (by simp) (by simp)) da_nil) ⟨[a.1, a.2], ⟨by simp, by intro q hq; simp at hq; rcases hq with rfl | rfl; exact (hs.sa a ha).1; exact (hs.sa a ha).2⟩, rfl, rfl⟩ rfl (by omega))⟩⟩) ?_
  refine db_fldN 0 C (ClsD.part (ns := ["many", "rows"]) (ms := ["bounds", "factors", "goal", "goal_factor", "tight", "measure", "lines"]) (h.cls 5 _ _ rfl)) (de_lst (dl_of_dc (V' := [0, 0, 0, 0, 0, 0, 0, 0, 3, 3, 0]) (Gs' := []) (own := [("whole", 8), ("by", 9)]) C (by decide +kernel) (dc_map as (fun a => .tup [.lst [.int (rA a), .int (bA a)], .int (fA a : Int)]) (fun a => .lst [.int (rA a)]) [0, 0, 0, 0, 0, 0, 0, 0, 3, 3, 0] [] [("whole", 8), ("by", 9)] C (by decide +kernel) (by decide +kernel) (di_list C (de_var 3 C rfl rfl rfl)) (by have := hs.sl; omega) fun a ha => ⟨_, _, (by decide), fun _ C' => ⟨(dg_tup C' (dgs_cons (dg_name 8 C' rfl rfl) (dgs_cons (dg_name 9 C' rfl rfl) dgs_nil)) rfl), (de_is (de_lst (dl_slice C' (de_var 8 C' rfl rfl rfl) .none (.some (de_neg de_int)))) (by rfl))⟩⟩))) (de_var 0 C rfl rfl rfl) rfl ?_
  refine db_fldN 0 C (ClsD.part (ns := ["many", "rows", "bounds"]) (ms := ["factors", "goal", "goal_factor", "tight", "measure", "lines"]) (h.cls 5 _ _ rfl)) (de_lst (dl_of_dc (V' := [0, 0, 0, 0, 0, 0, 0, 0, 3, 3, 0]) (Gs' := []) (own := [("whole", 8), ("by", 9)]) C (by decide +kernel) (dc_map as (fun a => .tup [.lst [.int (rA a), .int (bA a)], .int (fA a : Int)]) (fun a => .int (bA a)) [0, 0, 0, 0, 0, 0, 0, 0, 3, 3, 0] [] [("whole", 8), ("by", 9)] C (by decide +kernel) (by decide +kernel) (di_list C (de_var 3 C rfl rfl rfl)) (by have := hs.sl; omega) fun a ha => ⟨_, _, (by decide), fun _ C' => ⟨(dg_tup C' (dgs_cons (dg_name 8 C' rfl rfl) (dgs_cons (dg_name 9 C' rfl rfl) dgs_nil)) rfl), (de_ixL C' (de_var 8 C' rfl rfl rfl) (de_neg de_int) (by first | rfl | assumption | omega | decide | simp))⟩⟩))) (de_var 0 C rfl rfl rfl) rfl ?_
  refine db_fldN 0 C (ClsD.part (ns := ["many", "rows", "bounds", "factors"]) (ms := ["goal", "goal_factor", "tight", "measure", "lines"]) (h.cls 5 _ _ rfl)) (de_lst (dl_of_dc (V' := [0, 0, 0, 0, 0, 0, 0, 0, 3, 3, 0]) (Gs' := []) (own := [("whole", 8), ("by", 9)]) C (by decide +kernel) (dc_map as (fun a => .tup [.lst [.int (rA a), .int (bA a)], .int (fA a : Int)]) (fun a => .int (fA a : Int)) [0, 0, 0, 0, 0, 0, 0, 0, 3, 3, 0] [] [("whole", 8), ("by", 9)] C (by decide +kernel) (by decide +kernel) (di_list C (de_var 3 C rfl rfl rfl)) (by have := hs.sl; omega) fun a ha => ⟨_, _, (by decide), fun _ C' => ⟨(dg_tup C' (dgs_cons (dg_name 8 C' rfl rfl) (dgs_cons (dg_name 9 C' rfl rfl) dgs_nil)) rfl), (de_var 9 C' rfl rfl rfl)⟩⟩))) (de_var 0 C rfl rfl rfl) rfl ?_
  refine db_asg (de_callP 1 C (c_whole_row h) rfl (da_cons (de_var 2 C rfl rfl rfl) da_nil) ⟨[g], ⟨by simp, by intro q hq; simp at hq; rw [hq]; exact hs.sg⟩, rfl, rfl⟩ rfl (by omega)) (dg_tup C (dgs_cons (dg_fldN 0 C (ClsD.part (ns := ["many", "rows", "bounds", "factors", "goal"]) (ms := ["goal_factor", "tight", "measure", "lines"]) (h.cls 5 _ _ rfl)) (de_var 0 C rfl rfl rfl) rfl) (dgs_cons (dg_fldN 0 C (ClsD.part (ns := ["many", "rows", "bounds", "factors", "goal", "goal_factor"]) (ms := ["tight", "measure", "lines"]) (h.cls 5 _ _ rfl)) (de_var 0 C rfl rfl rfl) rfl) dgs_nil)) rfl) ?_
  refine db_fldNO 0 C (ClsD.part (ns := ["many", "rows", "bounds", "factors", "goal", "goal_factor", "tight"]) (ms := ["measure", "lines"]) (h.cls 5 _ _ rfl)) (dl_is (c' := .lst [.int (t0 : Int)]) (dl_of_dc (V' := [1, 0, 0, 0, 3, 0, 0, 0, 0, 0, 0]) (Gs' := []) (own := [("at", 4)]) C (by decide +kernel) (dc_map [0] (fun (i : Nat) => .int (i : Int)) (fun (i : Nat) => if decide (0 ≤ gN g) = true then .int (i : Int) else .int ((i : Int) + 1)) [1, 0, 0, 0, 3, 0, 0, 0, 0, 0, 0] [] [("at", 4)] C (by decide +kernel) (by decide +kernel) (di_is (di_range (n := 1) 2 C rfl (h.free 16 _ rfl) (de_fldO 0 0 C (ClsD.part (ns := ["many", "rows", "bounds", "factors", "goal", "goal_factor"]) (ms := ["tight", "measure", "lines"]) (h.cls 5 _ _ rfl)) (de_var 0 C rfl rfl rfl) rfl rfl rfl) (by first | rfl | assumption | omega | decide | simp) (by first | rfl | assumption | omega | decide | simp)) (by rfl)) (by first | rfl | assumption | omega | decide | simp) fun a ha => ⟨_, _, (by decide), fun _ C' => ⟨(dg_name 4 C' rfl rfl), (de_ite (dt_cp (de_ixL C' (de_fldO 0 4 C' (ClsD.part (ns := ["many", "rows", "bounds", "factors", "goal", "goal_factor"]) (ms := ["tight", "measure", "lines"]) (h.cls 5 _ _ rfl)) (de_var 0 C' rfl rfl rfl) rfl rfl rfl) (de_var 4 C' rfl rfl rfl) (by rw [List.mem_singleton.mp ha]; rfl)) de_int cp_ge) (de_var 4 C' rfl rfl rfl) (de_add (de_var 4 C' rfl rfl rfl) (de_fldO 0 0 C' (ClsD.part (ns := ["many", "rows", "bounds", "factors", "goal", "goal_factor"]) (ms := ["tight", "measure", "lines"]) (h.cls 5 _ _ rfl)) (de_var 0 C' rfl rfl rfl) rfl rfl rfl)))⟩⟩)) (by rw [hs.h0]; show Cell.lst [if decide (0 ≤ gN g) = true then D.int 0 else .int (0 + 1)] = _; by_cases hg : 0 ≤ gN g <;> simp [hg])) (fun l => (de_var 0 C rfl rfl rfl)) rfl (fun q1 hq1 => ?_)
  refine db_fldN 0 C (ClsD.part (ns := ["many", "rows", "bounds", "factors", "goal", "goal_factor", "tight", "measure"]) (ms := ["lines"]) (h.cls 5 _ _ rfl)) de_int (de_var 0 C rfl rfl rfl) rfl ?_
  refine db_forS [0] (fun (i : Nat) => .int (i : Int)) (fun (s : Int) r => s = (if r.isEmpty then m0 else 1) ∧ r.length ≤ 1) (fun _ => [some (.ref q), some (eAs as), some (.tup [eF g]), none, none, none, none, none, none, none, none]) (fun (m : Int) => [(q, .ins (He.ga K "Steps") ["many", "rows", "bounds", "factors", "goal", "goal_factor", "tight", "measure"] [.int 1, eRows as, eBnds as, eFacs as, .lst [.int (gN g)], .int (gD g : Int), .ref q1, .int m]), (q1, .lst [.int (t0 : Int)])]) 1 C (di_is (di_range (n := 1) 2 C rfl (h.free 16 _ rfl) (de_fldO 0 0 C (ClsD.part (ns := ["many", "rows", "bounds", "factors", "goal", "goal_factor", "tight", "measure"]) (ms := ["lines"]) (h.cls 5 _ _ rfl)) (de_var 0 C rfl rfl rfl) rfl rfl rfl) (by rfl) (by first | rfl | assumption | omega | decide | simp)) (by rfl)) rfl (.some (.some (.some (.none (.none (.none (.none (.none (.none (.none (.none .nil))))))))))) (by exact ⟨rfl, by simp⟩) (fun s a r hJ ha => ?_) (fun s hJ => ?_)
  · obtain ⟨h1, h2⟩ := hJ
    have hr : r = [] := List.eq_nil_of_length_eq_zero (by simpa using h2)
    replace h1 : s = 1 := by simpa using h1
    have ha0 : a = 0 := by simpa using ha
    subst hr h1 ha0
    refine ⟨_, _, _, (dg_name 4 C rfl rfl), ?_⟩
    refine db_fldW 0 7 C (ClsD.part (ns := ["many", "rows", "bounds", "factors", "goal", "goal_factor", "tight", "measure"]) (ms := ["lines"]) (h.cls 5 _ _ rfl)) (de_mul (de_fldO 0 7 C (ClsD.part (ns := ["many", "rows", "bounds", "factors", "goal", "goal_factor", "tight", "measure"]) (ms := ["lines"]) (h.cls 5 _ _ rfl)) (de_var 0 C rfl rfl rfl) rfl rfl rfl) (de_abs 3 C rfl (h.free 1 _ rfl) (de_ixL C (de_ixL C (de_fldO 0 1 C (ClsD.part (ns := ["many", "rows", "bounds", "factors", "goal", "goal_factor", "tight", "measure"]) (ms := ["lines"]) (h.cls 5 _ _ rfl)) (de_var 0 C rfl rfl rfl) rfl rfl rfl) (de_ixO 1 C (de_fldO 0 6 C (ClsD.part (ns := ["many", "rows", "bounds", "factors", "goal", "goal_factor", "tight", "measure"]) (ms := ["lines"]) (h.cls 5 _ _ rfl)) (de_var 0 C rfl rfl rfl) rfl rfl rfl) (de_var 4 C rfl rfl rfl) rfl (by rfl)) (by exact at_row _ hs.ht)) (de_var 4 C rfl rfl rfl) (by rfl))) (by refine smul (lt9 (k := 1) (by decide) (by decide)) ?_; rw [Int.natAbs_natCast]; exact sq9 (rA_bound (hs.sa _ (row_mem hs.ht))))) (de_var 0 C rfl rfl rfl) rfl rfl ?_
    refine db_nil ⟨m0, ⟨rfl, by simp⟩, (.some (.some (.some (.none (.none (.none (.none (.none (.none (.none (.none .nil))))))))))), ?_⟩
    rw [hs.hm]; rfl
  have h1 : s = m0 := by simpa using hJ.1
  subst h1
  refine db_fldNO 0 C (h.cls 5 _ _ rfl) (dl_lst da_nil) (fun l => (de_var 0 C rfl rfl rfl)) rfl (fun q2 hq2 => ?_)
  refine db_forS [0] (fun (i : Nat) => .int (i : Int)) (fun (x : Bool) r => x = r.isEmpty ∧ r.length ≤ 1) (fun _ => [some (.ref q), some (eAs as), some (.tup [eF g]), none, none, none, none, none, none, none, none]) (fun (x : Bool) => [(q, .ins (He.ga K "Steps") nsS [.int 1, eRows as, eBnds as, eFacs as, .lst [.int (gN g)], .int (gD g : Int), .ref q1, .int s, .ref q2]), (q1, .lst [.int (t0 : Int)]), (q2, .lst (bif x then [.lst [.int l0]] else []))]) false C (di_is (di_range (n := 1) 2 C rfl (h.free 16 _ rfl) (de_fldO 0 0 C (h.cls 5 _ _ rfl) (de_var 0 C rfl rfl rfl) rfl rfl rfl) (by rfl) (by first | rfl | assumption | omega | decide | simp)) (by rfl)) rfl (.some (.some (.some (.none (.none (.none (.none (.none (.none (.none (.none .nil))))))))))) (by exact ⟨rfl, by simp⟩) (fun x a r hJ ha => ?_) (fun x hJ => ?_)
  · obtain ⟨h1, h2⟩ := hJ
    have hr : r = [] := List.eq_nil_of_length_eq_zero (by simpa using h2)
    replace h1 : x = false := by simpa using h1
    have ha0 : a = 0 := by simpa using ha
    subst hr h1 ha0
    refine ⟨_, _, _, (dg_name 4 C rfl rfl), ?_⟩
    refine db_set 5 C rfl rfl (de_is (de_fdivN (de_fldO 0 7 C (h.cls 5 _ _ rfl) (de_var 0 C rfl rfl rfl) rfl rfl rfl) (de_ixL C (de_ixL C (de_fldO 0 1 C (h.cls 5 _ _ rfl) (de_var 0 C rfl rfl rfl) rfl rfl rfl) (de_ixO 1 C (de_fldO 0 6 C (h.cls 5 _ _ rfl) (de_var 0 C rfl rfl rfl) rfl rfl rfl) (de_var 4 C rfl rfl rfl) rfl (by rfl)) (by exact at_row _ hs.ht)) (de_var 4 C rfl rfl rfl) (by rfl)) hs.hr (sq9 (rA_bound (hs.sa _ (row_mem hs.ht))))) (congrArg D.int hs.hl.symm)) ?_
    refine db_app 2 C (de_fldO 0 8 C (h.cls 5 _ _ rfl) (de_var 0 C rfl rfl rfl) rfl rfl rfl) rfl (de_lst (dl_of_dc (V' := [0, 0, 0, 0, 1, 1, 0, 0, 0, 0, 3]) (Gs' := []) (own := [("place", 10)]) C (by decide +kernel) (dc_map [0] (fun (i : Nat) => .int (i : Int)) (fun (i : Nat) => if decide ((i : Int) = 0) = true then .int l0 else .int 0) [0, 0, 0, 0, 1, 1, 0, 0, 0, 0, 3] [] [("place", 10)] C (by decide +kernel) (by decide +kernel) (di_is (di_range (n := 1) 2 C rfl (h.free 16 _ rfl) (de_fldO 0 0 C (h.cls 5 _ _ rfl) (de_var 0 C rfl rfl rfl) rfl rfl rfl) (by first | rfl | assumption | omega | decide | simp) (by first | rfl | assumption | omega | decide | simp)) (by rfl)) (by first | rfl | assumption | omega | decide | simp) fun a ha => ⟨_, _, (by decide), fun _ C' => ⟨(dg_name 10 C' rfl rfl), (de_ite (dt_cp (de_var 10 C' rfl rfl rfl) (de_var 4 C' rfl rfl rfl) cp_eq) (de_var 5 C' rfl rfl rfl) de_int)⟩⟩))) rfl (by simp) ?_
    exact db_nil ⟨true, ⟨rfl, by simp⟩, (.some (.some (.some (.none (.none (.none (.none (.none (.none (.none (.none .nil))))))))))), rfl⟩
  have h1 : x = true := by simpa using hJ.1
  subst h1
  show DB K X Z _ [(q, .ins (He.ga K "Steps") nsS [.int 1, eRows as, eBnds as, eFacs as, .lst [.int (gN g)], .int (gD g : Int), .ref q1, .int s, .ref q2]), (q1, .lst [.int (t0 : Int)]), (q2, .lst [.lst [.int l0]])] _ _
  refine db_freezeF 8 0 2 rfl rfl rfl hq2 (by decide) ?_
  exact db_nil ⟨q1, [], hq1, rfl⟩
end
end NC

set_option Elab.async false
set_option linter.all false
set_option autoImplicit false
set_option maxRecDepth 100000
set_option maxHeartbeats 4000000
namespace NC
open PySem PySem.Spec PyProof.Rows L2

/-! printed by spec7.py: settled, settle. -/
section
variable {P : Program} {w : World} {K : PySem.W.Frag} {mg : Str → Option Value} {base : Heap}


inductive Res where
  | most (x : Rat) (ys : List Rat)
  | empty (ys : List Rat)
def eRes (K : PySem.W.Frag) : Res → D
  | .most x ys => .ins (He.ga K "Most") ["spot", "multiples"] [.tup [eF x], eR ys]
  | .empty ys => .ins (He.ga K "Empty") ["multiples"] [eR ys]
def runS (as : List Aff) (g : Rat) (l : Int) : Nat → Nat → Int → Option (Res × Nat × Int)
  | 0, _, _ => none
  | n + 1, t, m => match brk as (cnr as t l) m with
    | none => some (.most (mkRat (cnr as t l) m.toNat) (mulsOf as [(t, gN g * l, (m * gD g).toNat)]), t, m)
    | some w => if 0 < rA (rowAt as w) * l then runS as g l n w (rA (rowAt as w) * l) else some (.empty (mulsOf as [(t, 0 - rA (rowAt as w) * l, m.toNat), (w, 1, 1)]), t, m)
theorem brk_some {as : List Aff} {c m : Int} {w : Nat} (h : brk as c m = some w) : w < as.length ∧ bA (rowAt as w) * m < rA (rowAt as w) * c := by
  unfold brk at h
  have h2 : isBrk as c m w = true := List.find?_some h
  exact ⟨range_lt (List.mem_of_find?_eq_some h), of_decide_eq_true h2⟩
theorem brk_ne {as : List Aff} {t w : Nat} {m l : Int} (hm : m = rA (rowAt as t) * l) (h : brk as (cnr as t l) m = some w) : w ≠ t := by
  rintro rfl
  have := (brk_some h).2
  rw [hm] at this
  unfold cnr at this
  have e : bA (rowAt as w) * (rA (rowAt as w) * l) = rA (rowAt as w) * (bA (rowAt as w) * l) := Int.mul_left_comm _ _ _
  omega
structure RunOk (as : List Aff) (g : Rat) (l : Int) (n t : Nat) (m : Int) (z : Res × Nat × Int) : Prop where
  st : StOk as g t m l
  hm : m = rA (rowAt as t) * l
  run : runS as g l n t m = some z
abbrev R_settled (K : PySem.W.Frag) : Con := fun ds μ d μ' => ∃ (q p1 : Addr) (as : List Aff) (g : Rat) (t : Nat) (m l : Int) (n : Nat) (z : Res × Nat × Int), RunOk as g l n t m z ∧ ds = [.ref q] ∧ μ = muS K q p1 as g t m l ∧ d = eRes K z.1 ∧ μ' = muS K q p1 as g z.2.1 z.2.2 l
theorem pz_bound {as : List Aff} {g : Rat} {t : Nat} {m l : Int} (h : StOk as g t m l) {w : Nat} (hw : w < as.length) : (rA (rowAt as w) * l).natAbs < 2 ^ 1500 := by
  rw [Int.natAbs_mul]
  have h1 := rA_bound (h.sa _ (row_mem hw))
  have h2 := h.hl
  calc _ ≤ (rA (rowAt as w)).natAbs * 1 := Nat.mul_le_mul (Nat.le_refl _) h2
    _ < _ := by omega
theorem StOk.next {as : List Aff} {g : Rat} {t : Nat} {m l : Int} (h : StOk as g t m l) {w : Nat} (hw : w < as.length) (hp : 0 < rA (rowAt as w) * l) : StOk as g w (rA (rowAt as w) * l) l :=
  ⟨h.sa, h.sl, h.sg, hw, pz_bound h hw, hp, h.hl⟩
theorem lt4 {a k : Nat} (h : a < 2 ^ k) (hk : k ≤ 4000) : a < 2 ^ 4000 := Nat.lt_of_lt_of_le h (Nat.pow_le_pow_right (by decide) hk)
theorem wth_empty {as : List Aff} {g : Rat} {t w : Nat} {m l pz : Int} (h : StOk as g t m l) (hp : pz.natAbs < 2 ^ 1500) : WthOk [(t, 0 - pz, m.toNat), (w, 1, 1)] := by
  intro x hx
  have hm := h.hm
  have h0 := h.m0
  have one4 : 1 < 2 ^ 4000 := Nat.one_lt_two_pow (by decide)
  rcases List.mem_cons.mp hx with e | hx
  · rw [e]
    refine ⟨lt4 (k := 1500) (by show (0 - pz).natAbs < _; rw [Int.zero_sub, Int.natAbs_neg]; exact hp) (by decide), lt4 (k := 1500) (by show m.toNat < _; omega) (by decide), by show m.toNat ≠ 0; omega⟩
  · rw [List.mem_singleton.mp hx]
    exact ⟨one4, one4, Nat.one_ne_zero⟩
theorem mg_bound {as : List Aff} {g : Rat} {t : Nat} {m l : Int} (h : StOk as g t m l) : (m * (gD g : Int)).natAbs < 2 ^ 4000 ∧ 0 < m * (gD g : Int) := by
  have h1 := gD_bound h.sg
  constructor
  · rw [Int.natAbs_mul, Int.natAbs_natCast]
    have e : (2 : Nat) ^ 4000 = 2 ^ 1500 * 2 ^ 2500 := by rw [← Nat.pow_add]
    rw [e]
    exact Nat.mul_lt_mul_of_lt_of_le h.hm (Nat.le_trans h1.2 (Nat.pow_le_pow_right (by decide) (by decide))) (Nat.pow_pos (by decide))
  · exact Int.mul_pos h.m0 (by omega)
theorem wth_most {as : List Aff} {g : Rat} {t : Nat} {m l : Int} (h : StOk as g t m l) : WthOk [(t, gN g * l, (m * (gD g : Int)).toNat)] := by
  intro x hx
  simp at hx
  subst hx
  have h1 := mg_bound h
  have h2 := h.hl
  refine ⟨lt4 (k := 1500) ?_ (by decide), by show (m * (gD g : Int)).toNat < _; omega, by show (m * (gD g : Int)).toNat ≠ 0; omega⟩
  show (gN g * l).natAbs < _
  rw [Int.natAbs_mul]
  have h3 := gN_bound h.sg
  calc _ ≤ (gN g).natAbs * 1 := Nat.mul_le_mul (Nat.le_refl _) h2
    _ < _ := by omega
theorem l9 {as : List Aff} {g : Rat} {t : Nat} {m l : Int} (h : StOk as g t m l) : l.natAbs < 2 ^ 9000 := Nat.lt_of_le_of_lt h.hl (Nat.one_lt_two_pow (by decide))

theorem m_Steps_settled (h : Hd P w K mg base) : MO P w K mg base 4 ("Steps", some "settled") 1 (R_settled K) := by
  refine mk_mo (N := ["self", "wish", "parts", "place", "worths", "spot", "other", "line", "one", "part"]) (ps := ["self"]) (V := [2, 2, 3, 3, 3, 3, 3, 3, 0, 0]) (Gs := ["dict", "zip", "ONE_numbers", "Empty", "tuple", "summed", "Most"]) (k := 3) (d := dd_Steps_settled) h 66 rfl  rfl (by decide +kernel) rfl (fun _ _ _ _ _ _ us hl => match us, hl with | [_], _ => rfl) fun X Z ds μ r μ' C hR hx hl => ?_
  obtain ⟨q, p1, as, g, t, m, l, n, z, hz, rfl, rfl, rfl, rfl⟩ := hR
  show DB K X Z [some (.ref q), none, none, none, none, none, none, none, none, none] (muS K q p1 as g t m l) (defBody (inClass (top 89) 6)) _
  refine db_set 1 C rfl rfl (de_methC0 2 0 C (MO.mc (m_Steps_broken h) h 14 5 rfl rfl) (de_var 0 C rfl rfl rfl) rfl ⟨q, p1, as, g, t, m, l, hz.st, rfl, rfl, rfl, rfl⟩ rfl (by omega)) ?_
  refine db_whileS (S := Nat × Int) (fun s n => RunOk as g l n s.1 s.2 z) (fun s => [some (.ref q), some (eOI (brk as (cnr as s.1 l) s.2)), none, none, none, none, none, none, none, none]) (fun s => muS K q p1 as g s.1 s.2 l) (t, m) n C rfl (.some (.some (.none (.none (.none (.none (.none (.none (.none (.none .nil)))))))))) hz (fun s n hJ => ⟨_, (dt_cp (de_var 1 C rfl rfl rfl) de_non cp_notN), fun hu => ?_, fun hu => ?_⟩)
  · obtain ⟨t, m⟩ := s
    have hs := hJ.st
    have hr := hJ.run
    simp only at hs hr hu ⊢
    cases n with
    | zero => cases hr
    | succ n =>
      cases hw : brk as (cnr as t l) m with
      | none => rw [hw] at hu; cases hu
      | some w =>
        have hwl := (brk_some hw).1
        have hwt := brk_ne hJ.hm hw
        have hpz := pz_bound hs hwl
        have hmn : ((m.toNat : Nat) : Int) = m := Int.toNat_of_nonneg (by have := hs.m0; omega)
        rw [runS, hw] at hr
        simp only at hr
        show DB K X Z [some (.ref q), some (.int (w : Int)), none, none, none, none, none, none, none, none] (muS K q p1 as g t m l) _ _
        refine db_setDcF (V' := [1, 1, 0, 0, 0, 0, 0, 3, 0, 0]) (Gs' := ["summed"]) (own := [("line", 7)]) 2 C (by decide +kernel) rfl rfl (by simp) (dc_map [()] (fun _ => .lst [.int l]) (fun _ => .int (rA (rowAt as w) * l)) [1, 1, 0, 0, 0, 0, 0, 3, 0, 0] ["summed"] [("line", 7)] C (by decide +kernel) (by decide +kernel) (di_list C (de_fldO 0 8 C (h.cls 5 _ _ rfl) (de_var 0 C rfl rfl rfl) rfl rfl rfl)) (by first | rfl | assumption | omega | decide | simp) fun a ha => ⟨_, _, (by decide), fun _ C' => ⟨(dg_name 7 C' rfl rfl), (de_callP 0 C' (c_summed h) rfl (da_cons (de_ixL C' (de_fldO 0 1 C' (h.cls 5 _ _ rfl) (de_var 0 C' rfl rfl rfl) rfl rfl rfl) (de_var 1 C' rfl rfl rfl) (by exact at_row _ hwl)) (da_cons (de_var 7 C' rfl rfl rfl) da_nil)) ⟨_, _, ⟨sq9 (rA_bound (hs.sa _ (row_mem hwl))), l9 hs⟩, rfl, rfl⟩ rfl (by omega))⟩⟩) ?_
        refine db_set 3 C rfl rfl (de_methC 2 0 C (MO.mc (m_Steps_leaving h) h 15 5 rfl rfl) (de_var 0 C rfl rfl rfl) rfl (da_cons (de_var 2 C rfl rfl rfl) da_nil) ⟨q, p1, as, g, t, m, l, _, hs, rfl, rfl, rfl, rfl⟩ rfl (by omega)) ?_
        by_cases hp : 0 < rA (rowAt as w) * l
        · rw [if_pos hp] at hr ⊢
          refine db_skip (dt_is (dt_cp (de_var 3 C rfl rfl rfl) de_non cp_isN) (by rfl)) ?_
          refine db_expr (de_methC 2 0 C (MO.mc (m_Steps_step h) h 16 5 rfl rfl) (de_var 0 C rfl rfl rfl) rfl (da_cons (de_var 1 C rfl rfl rfl) (da_cons (de_var 2 C rfl rfl rfl) (da_cons (de_var 3 C rfl rfl rfl) da_nil))) ⟨q, p1, as, g, t, w, m, l, _, hs, rfl, rfl, rfl, rfl⟩ rfl (by omega)) ?_
          refine db_set 1 C rfl rfl (de_methC0 2 0 C (MO.mc (m_Steps_broken h) h 14 5 rfl rfl) (de_var 0 C rfl rfl rfl) rfl ⟨q, p1, as, g, w, _, l, hs.next hwl hp, rfl, rfl, rfl, rfl⟩ rfl (by omega)) ?_
          exact db_nil ⟨(w, rA (rowAt as w) * l), n, Nat.lt_succ_self n, ⟨hs.next hwl hp, rfl, hr⟩, (.some (.some (.none (.none (.none (.none (.none (.none (.none (.none .nil)))))))))), rfl⟩
        · rw [if_neg hp] at hr ⊢
          have hz1 := Option.some.inj hr
          subst hz1
          refine db_if1 (dt_is (dt_cp (de_var 3 C rfl rfl rfl) de_non cp_isN) (by rfl)) ?_
          refine db_own 4 C rfl rfl (dl_dict1 (i := (t : Int)) (d := .tup [.int (0 - rA (rowAt as w) * l), .int m]) 0 C rfl (h.free 13 _ rfl) (de_is (de_lst (dl_of_dc (V' := [1, 0, 0, 0, 0, 0, 3, 0, 0, 3]) (Gs' := []) (own := [("other", 6), ("part", 9)]) C (by decide +kernel) (dc_mapK (l := p1) (ns := [(t : Int)]) [()] (fun _ => .tup [.int (t : Int), .int (rA (rowAt as w) * l)]) (fun _ => .tup [.int (t : Int), .tup [.int (0 - rA (rowAt as w) * l), .int m]]) [1, 0, 0, 0, 0, 0, 3, 0, 0, 3] [] [("other", 6), ("part", 9)] C (by decide +kernel) (by decide +kernel) (dik_is (di_zipK 1 C rfl (h.free 14 _ rfl) (de_fldO 0 6 C (h.cls 5 _ _ rfl) (de_var 0 C rfl rfl rfl) rfl rfl rfl) (de_var 2 C rfl rfl rfl) (by simp) rfl rfl rfl) (by rfl)) (by first | rfl | assumption | omega | decide | simp) (by simp) fun a ha => ⟨_, _, (by decide), fun _ C' => ⟨(dg_tup C' (dgs_cons (dg_name 6 C' rfl rfl) (dgs_cons (dg_name 9 C' rfl rfl) dgs_nil)) rfl), (de_tup (da_cons (de_var 6 C' rfl rfl rfl) (da_cons (de_tup (da_cons (de_sub de_int (de_var 9 C' rfl rfl rfl)) (da_cons (de_fldO 0 7 C' (h.cls 5 _ _ rfl) (de_var 0 C' rfl rfl rfl) rfl rfl rfl) da_nil))) da_nil)))⟩⟩))) (by rfl))) (fun q3 hq3 => ?_)
          refine db_dput 2 C (de_is (de_glo 2 C rfl (h.cT 1 rfl)) (by rfl : _ = eF (1))) (de_var 4 C rfl rfl rfl) (de_var 1 C rfl rfl rfl) rfl (by simp; omega) (by simp) ?_
          exact db_ret (de_insN (dl_make 3 C (MO.kc (m_Empty_init h) h 4 100 rfl rfl) rfl (da_cons (de_methC 3 0 C (MO.mc (m_Steps_multiples_of h) h 17 5 rfl rfl) (de_var 0 C rfl rfl rfl) rfl (da_cons (de_var 4 C rfl rfl rfl) da_nil) ⟨q, p1, q3, as, g, t, m, l, [(t, 0 - rA (rowAt as w) * l, m.toNat), (w, 1, 1)], ⟨hs, wth_empty hs hpz⟩, rfl, (by simp only [wkD, List.map_cons, List.map_nil, hmn]; rfl), rfl, rfl⟩ rfl (by omega)) da_nil) (fun q => ⟨q, _, trivial, rfl, rfl, rfl, rfl⟩) rfl (by omega))) ⟨(by rfl), (by first | exact ⟨[], rfl⟩ | exact ⟨[_], rfl⟩ | exact ⟨[_, _], rfl⟩ | exact ⟨[], by simp⟩)⟩
  · obtain ⟨t, m⟩ := s
    have hs := hJ.st
    have hr := hJ.run
    simp only at hs hr hu ⊢
    cases n with
    | zero => cases hr
    | succ n =>
      cases hw : brk as (cnr as t l) m with
      | some w => rw [hw] at hu; cases hu
      | none =>
        have hmn : ((m.toNat : Nat) : Int) = m := Int.toNat_of_nonneg (by have := hs.m0; omega)
        have hmg := mg_bound hs
        have hmn2 : (((m * (gD g : Int)).toNat : Nat) : Int) = m * (gD g : Int) := Int.toNat_of_nonneg (by omega)
        rw [runS, hw] at hr
        have hz1 := Option.some.inj hr
        subst hz1
        show DB K X Z [some (.ref q), some .non, none, none, none, none, none, none, none, none] (muS K q p1 as g t m l) _ _
        refine db_set 5 C rfl rfl (de_tupleL 4 C rfl (h.free 12 _ rfl) (de_lst (dl_of_dc (V' := [1, 0, 0, 0, 0, 0, 0, 0, 3, 0]) (Gs' := ["fraction_of"]) (own := [("one", 8)]) C (by decide +kernel) (dc_map [()] (fun _ => .int (cnr as t l)) (fun _ => eF (mkRat (cnr as t l) m.toNat)) [1, 0, 0, 0, 0, 0, 0, 0, 3, 0] ["fraction_of"] [("one", 8)] C (by decide +kernel) (by decide +kernel) (di_list C (de_methC0 2 0 C (MO.mc (m_Steps_corner h) h 13 5 rfl rfl) (de_var 0 C rfl rfl rfl) rfl ⟨q, p1, as, g, t, m, l, hs, rfl, rfl, rfl, rfl⟩ rfl (by omega))) (by first | rfl | assumption | omega | decide | simp) fun a ha => ⟨_, _, (by decide), fun _ C' => ⟨(dg_name 8 C' rfl rfl), (de_callP 0 C' (c_fraction_of h) rfl (da_cons (de_var 8 C' rfl rfl rfl) (da_cons (de_fldO 0 7 C' (h.cls 5 _ _ rfl) (de_var 0 C' rfl rfl rfl) rfl rfl rfl) da_nil)) ⟨cnr as t l, m.toNat, by have := hs.m0; omega, by have := hs.m9; omega, by rw [hmn], by rw [Rat.normalize_eq_mkRat]⟩ rfl (by omega))⟩⟩)))) ?_
        refine db_own 4 C rfl rfl dl_dict0 (fun q3 hq3 => ?_)
        refine db_forK (l := p1) (ns := [(t : Int)]) (S := Bool) [()] (fun _ => .tup [.int (t : Int), .lst [.int l]]) (fun x r => x = r.isEmpty ∧ r.length ≤ 1) (fun _ => [some (.ref q), none, none, none, some (.ref q3), some (.tup [eF (mkRat (cnr as t l) m.toNat)]), none, none, none, none]) (fun (x : Bool) => [(q, .ins (He.ga K "Steps") nsS (stD as g p1 m l)), (p1, .lst [.int (t : Int)]), (q3, .dic (bif x then [(t : Int)] else []) (bif x then [.tup [.int (gN g * l), .int (m * (gD g : Int))]] else []))]) false C (dik_is (di_zipK 1 C rfl (h.free 14 _ rfl) (de_fldO 0 6 C (h.cls 5 _ _ rfl) (de_var 0 C rfl rfl rfl) rfl rfl rfl) (de_fldO 0 8 C (h.cls 5 _ _ rfl) (de_var 0 C rfl rfl rfl) rfl rfl rfl) (by simp) rfl rfl rfl) (by rfl)) rfl (.some (.none (.none (.none (.some (.some (.none (.none (.none (.none .nil)))))))))) (by exact ⟨rfl, by simp⟩) (fun _ => by simp) (fun x a r hK ha => ?_) (fun x hK => ?_)
        · obtain ⟨h1, h2⟩ := hK
          have hr2 : r = [] := List.eq_nil_of_length_eq_zero (by simpa using h2)
          have hx0 : x = false := by simpa using h1
          subst hr2 hx0
          refine ⟨_, _, _, (dg_tup C (dgs_cons (dg_name 6 C rfl rfl) (dgs_cons (dg_name 7 C rfl rfl) dgs_nil)) rfl), ?_⟩
          show DB K X Z _ [(q, .ins (He.ga K "Steps") nsS (stD as g p1 m l)), (p1, .lst [.int (t : Int)]), (q3, .dic [] [])] _ _
          refine db_dput 2 C (de_tup (da_cons (de_callP 5 C (c_summed h) rfl (da_cons (de_fldO 0 4 C (h.cls 5 _ _ rfl) (de_var 0 C rfl rfl rfl) rfl rfl rfl) (da_cons (de_var 7 C rfl rfl rfl) da_nil)) ⟨_, _, ⟨sq9 (gN_bound hs.sg), l9 hs⟩, rfl, rfl⟩ rfl (by omega)) (da_cons (de_mul (de_fldO 0 7 C (h.cls 5 _ _ rfl) (de_var 0 C rfl rfl rfl) rfl rfl rfl) (de_fldO 0 5 C (h.cls 5 _ _ rfl) (de_var 0 C rfl rfl rfl) rfl rfl rfl) (by exact smul hs.m9 (by rw [Int.natAbs_natCast]; exact le9 (gD_bound hs.sg).2 (by decide)))) da_nil))) (de_var 4 C rfl rfl rfl) (de_var 6 C rfl rfl rfl) rfl (by simp) (by simp) ?_
          exact db_nil ⟨true, ⟨rfl, by simp⟩, (.some (.none (.none (.none (.some (.some (.none (.none (.none (.none .nil)))))))))), rfl⟩
        · have hx0 : x = true := by simpa using hK.1
          subst hx0
          show DB K X Z _ [(q, .ins (He.ga K "Steps") nsS (stD as g p1 m l)), (p1, .lst [.int (t : Int)]), (q3, .dic [(t : Int)] [.tup [.int (gN g * l), .int (m * (gD g : Int))]])] _ _
          exact db_ret (de_insN (dl_make 6 C (MO.kc (m_Most_init h) h 3 99 rfl rfl) rfl (da_cons (de_var 5 C rfl rfl rfl) (da_cons (de_methC 3 0 C (MO.mc (m_Steps_multiples_of h) h 17 5 rfl rfl) (de_var 0 C rfl rfl rfl) rfl (da_cons (de_var 4 C rfl rfl rfl) da_nil) ⟨q, p1, q3, as, g, t, m, l, [(t, gN g * l, (m * (gD g : Int)).toNat)], ⟨hs, wth_most hs⟩, rfl, (by simp only [wkD, List.map_cons, List.map_nil, hmn2]; rfl), rfl, rfl⟩ rfl (by omega)) da_nil)) (fun q => ⟨q, _, _, trivial, rfl, rfl, rfl, rfl⟩) rfl (by omega))) ⟨(by rfl), (by first | exact ⟨[], rfl⟩ | exact ⟨[_], rfl⟩ | exact ⟨[_, _], rfl⟩ | exact ⟨[], by simp⟩)⟩

def t0F (g : Rat) : Nat := if 0 ≤ gN g then 0 else 1
def m0F (as : List Aff) (g : Rat) : Int := 1 * ((rA (rowAt as (t0F g))).natAbs : Int)
def l0F (as : List Aff) (g : Rat) : Int := (m0F as g).fdiv (rA (rowAt as (t0F g)))
abbrev boxW (lo hi : Rat) (as : List Aff) : List Aff := (1, hi) :: (-1, 0 - lo) :: as
structure SetOk (lo hi : Rat) (as : List Aff) (g : Rat) : Prop where
  box : BoxOk lo hi
  lo : Sk lo
  hi : Sk hi
  len : as.length ≤ 16
  sa : ∀ a ∈ as, SkA a
  sg : Sk g
theorem skS {q : Rat} (h : q.num.natAbs < 1000) (h' : q.den < 1000) : Sk q := by
  have : 1000 < skL := by unfold skL; exact Nat.lt_of_lt_of_le (by decide : 1000 < 2 ^ 10) (Nat.pow_le_pow_right (by decide) (by decide))
  exact ⟨by omega, by omega⟩
theorem Sk.neg {q : Rat} (h : Sk q) : Sk (0 - q) := by
  have e : 0 - q = -q := by simp [Rat.sub_eq_add_neg, Rat.zero_add]
  rw [e]
  exact ⟨by rw [Rat.neg_num, Int.natAbs_neg]; exact h.1, by rw [Rat.neg_den]; exact h.2⟩
theorem SetOk.all {lo hi : Rat} {as : List Aff} {g : Rat} (h : SetOk lo hi as g) : ∀ a ∈ boxW lo hi as, SkA a := fun a ha => by
  rcases List.mem_cons.mp ha with rfl | ha
  · exact ⟨skS (q := 1) (by decide) (by decide), h.hi⟩
  rcases List.mem_cons.mp ha with rfl | ha
  · exact ⟨skS (q := -1) (by decide) (by decide), h.lo.neg⟩
  · exact h.sa a ha
theorem rA_one {b : Rat} : rA (1, b) = (fA (1, b) : Int) := by
  unfold rA rz
  show (1 : Int) * ((fA (1, b) / 1 : Nat) : Int) = _
  rw [Nat.div_one, Int.one_mul]
theorem rA_neg {b : Rat} : rA (-1, b) = -(fA (-1, b) : Int) := by
  unfold rA rz
  show (-1 : Int) * ((fA (-1, b) / 1 : Nat) : Int) = _
  rw [Nat.div_one]; omega
theorem fdiv_abs {r : Int} (h : r ≠ 0) : ((1 * (r.natAbs : Int)).fdiv r).natAbs ≤ 1 ∧ (1 * (r.natAbs : Int)) = r * ((1 * (r.natAbs : Int)).fdiv r) := by
  rw [Int.one_mul]
  rcases Int.natAbs_eq r with e | e
  · have h1 : ((r.natAbs : Int)).fdiv r = 1 := by rw [← e]; exact Int.fdiv_self h
    rw [h1]; omega
  · have h1 : ((r.natAbs : Int)).fdiv r = -1 := by
      have e2 : (r.natAbs : Int) = -r := by omega
      rw [e2, show -r = r * (-1) from by omega, Int.mul_fdiv_cancel_left _ h]
    rw [h1]; omega
theorem SetOk.init {lo hi : Rat} {as : List Aff} {g : Rat} (h : SetOk lo hi as g) : InOk (boxW lo hi as) g (t0F g) (m0F (boxW lo hi as) g) (l0F (boxW lo hi as) g) := by
  have hr : rA (rowAt (boxW lo hi as) (t0F g)) ≠ 0 := by
    unfold t0F
    split
    · have := (fA_bound (h.all (1, hi) (by simp))).1
      show rA (1, hi) ≠ 0
      rw [rA_one]; omega
    · have := (fA_bound (h.all (-1, 0 - lo) (by simp))).1
      show rA (-1, 0 - lo) ≠ 0
      rw [rA_neg]; omega
  refine ⟨h.all, by have := h.len; simp; omega, h.sg, by unfold t0F; split <;> simp, rfl, hr, rfl, rfl⟩
theorem InOk.st {as : List Aff} {g : Rat} {t0 : Nat} {m0 l0 : Int} (h : InOk as g t0 m0 l0) : StOk as g t0 m0 l0 ∧ m0 = rA (rowAt as t0) * l0 := by
  have h1 := fdiv_abs h.hr
  have h2 := rA_bound (h.sa _ (row_mem h.ht))
  rw [← h.hm] at h1
  rw [← h.hl] at h1
  exact ⟨⟨h.sa, h.sl, h.sg, h.ht, by rw [h.hm, Int.one_mul, Int.natAbs_natCast]; exact h2, by have := h.hr; rw [h.hm]; omega, h1.1⟩, h1.2⟩
abbrev R_settle (K : PySem.W.Frag) (ds : List D) (d : D) : Prop := ∃ (lo hi : Rat) (as : List Aff) (g : Rat) (n : Nat) (z : Res × Nat × Int), (SetOk lo hi as g ∧ runS (boxW lo hi as) g (l0F (boxW lo hi as) g) n (t0F g) (m0F (boxW lo hi as) g) = some z) ∧ ds = [eBox lo hi, eAs as, .tup [eF g]] ∧ d = eRes K z.1

theorem c_settle (h : Hd P w K mg base) : FC P w K mg base 8 "settle" 3 (Pu (R_settle K)) := by
  refine mk_fc (N := ["box", "wishes", "aim"]) (ps := ["box", "wishes", "aim"]) (V := [3, 3, 3]) (Gs := ["need_box_boxes", "need_wishes", "need_aim_settling", "Steps", "box_wishes", "list"]) (k := 7) (d := dd_settle) h 67 45 rfl rfl rfl (by decide +kernel) rfl (fun _ _ _ _ _ _ us hl => match us, hl with | [_, _, _], _ => rfl) fun X Z ds μ r μ' C hR hx hl => ?_
  obtain ⟨rfl, rfl, lo, hi, as, g, n, z, ⟨hs, hrun⟩, rfl, rfl⟩ := hR
  show DB K X Z [some (eBox lo hi), some (eAs as), some (.tup [eF g])] ([]) (defBody (top 90)) _
  refine db_expr (de_callP 0 C (c_need_box_boxes h) rfl (da_cons (de_var 0 C rfl rfl rfl) da_nil) ⟨lo, hi, hs.box, rfl, rfl⟩ rfl (by omega)) ?_
  refine db_expr (de_callP 1 C (c_need_wishes h) rfl (da_cons (de_var 0 C rfl rfl rfl) (da_cons (de_var 1 C rfl rfl rfl) da_nil)) ⟨lo, hi, as, hs.len, rfl, rfl⟩ rfl (by omega)) ?_
  refine db_expr (de_callP 2 C (c_need_aim_settling h) rfl (da_cons (de_var 0 C rfl rfl rfl) (da_cons (de_var 2 C rfl rfl rfl) da_nil)) ⟨lo, hi, g, trivial, rfl, rfl⟩ rfl (by omega)) ?_
  have hi0 := hs.init
  exact db_ret (de_methZ (j := 3) C (n_Steps_init h) (MO.mc (m_Steps_settled h) h 18 5 rfl rfl) rfl (da_cons (de_lst (dl_cat (de_lst (dl_callL 4 C (l_box_wishes h) rfl (da_cons (de_var 0 C rfl rfl rfl) da_nil) ⟨_, _, (by exact hs.box), rfl, rfl⟩ rfl (by omega))) (de_lst (dl_list 5 C rfl (h.free 11 _ rfl) (de_var 1 C rfl rfl rfl) rfl)) (by have := hs.len; simp; omega))) (da_cons (de_var 2 C rfl rfl rfl) da_nil)) ⟨boxW lo hi as, g, _, _, _, hi0, rfl, rfl, rfl⟩ (fun q p1 => ⟨_, ⟨q, p1, boxW lo hi as, g, _, _, _, n, z, ⟨hi0.st.1, hi0.st.2, hrun⟩, rfl, rfl, rfl, rfl⟩, rfl⟩) rfl (by omega) (by omega)) ⟨rfl, [], rfl⟩
end
end NC

set_option Elab.async false
set_option linter.all false
set_option autoImplicit false
set_option maxRecDepth 100000
set_option maxHeartbeats 4000000
/-! The steps end; settle as a function. -/
namespace NC
open PySem PySem.Spec PyProof.Rows L2
theorem filter_lt {α : Type} {P Q : α → Bool} (h : ∀ a, P a = true → Q a = true) : ∀ {l : List α} {w : α}, w ∈ l → Q w = true → P w = false → (l.filter P).length < (l.filter Q).length
  | [], w, hw, _, _ => by cases hw
  | a :: l, w, hw, hq, hp => by
    have le : ∀ l : List α, (l.filter P).length ≤ (l.filter Q).length := fun l => by
      induction l with
      | nil => simp
      | cons b l ih =>
        by_cases hb : P b = true
        · simp [hb, h b hb]; exact ih
        · by_cases hb2 : Q b = true
          · simp [hb, hb2]; omega
          · simp [hb, hb2]; exact ih
    rcases List.mem_cons.mp hw with rfl | hw
    · simp [hp, hq]
      have := le l
      omega
    · have ih := filter_lt h hw hq hp
      by_cases hb : P a = true
      · simp [hb, h a hb]; exact ih
      · by_cases hb2 : Q a = true
        · simp [hb, hb2]; omega
        · simp [hb, hb2]; exact ih
def better (as : List Aff) (l : Int) (t i : Nat) : Bool := decide (0 < rA (rowAt as i) * l) && decide (bA (rowAt as i) * (rA (rowAt as t) * l) < bA (rowAt as t) * (rA (rowAt as i) * l))
def cntB (as : List Aff) (l : Int) (t : Nat) : Nat := ((List.range as.length).filter (better as l t)).length
theorem cross {bi bw bt mi mw mt : Int} (hw : 0 < mw) (ht : 0 < mt) (hi : 0 < mi) (h1 : bi * mw < bw * mi) (h2 : bw * mt < bt * mw) : bi * mt < bt * mi := by
  have a : bi * mw * mt < bw * mi * mt := Int.mul_lt_mul_of_pos_right h1 ht
  have b : bw * mt * mi < bt * mw * mi := Int.mul_lt_mul_of_pos_right h2 hi
  have c : (bi * mt) * mw < (bt * mi) * mw := by
    have e1 : bi * mw * mt = (bi * mt) * mw := by rw [Int.mul_right_comm]
    have e2 : bw * mi * mt = bw * mt * mi := by rw [Int.mul_right_comm]
    have e3 : bt * mw * mi = (bt * mi) * mw := by rw [Int.mul_right_comm]
    omega
  exact Int.lt_of_mul_lt_mul_right c (Int.le_of_lt hw)
theorem run_ends (as : List Aff) (g : Rat) (l : Int) : ∀ (n t : Nat) (m : Int), m = rA (rowAt as t) * l → 0 < m → cntB as l t < n → ∃ z, runS as g l n t m = some z
  | 0, t, m, _, _, h => by omega
  | n + 1, t, m, hm, h0, h => by
    rw [runS]
    cases hb : brk as (cnr as t l) m with
    | none => exact ⟨_, rfl⟩
    | some w =>
      simp only
      by_cases hp : 0 < rA (rowAt as w) * l
      · rw [if_pos hp]
        obtain ⟨w1, w2⟩ := brk_some hb
        have w3 : bA (rowAt as w) * (rA (rowAt as t) * l) < bA (rowAt as t) * (rA (rowAt as w) * l) := by
          rw [← hm]
          unfold cnr at w2
          rw [show bA (rowAt as t) * (rA (rowAt as w) * l) = rA (rowAt as w) * (bA (rowAt as t) * l) from Int.mul_left_comm _ _ _]
          exact w2
        refine run_ends as g l n w _ rfl hp (Nat.lt_of_lt_of_le (filter_lt (fun i hi => ?_) (List.mem_range.mpr w1) ?_ ?_) (Nat.le_of_lt_succ h))
        · unfold better at hi ⊢
          rw [Bool.and_eq_true, decide_eq_true_iff, decide_eq_true_iff] at hi ⊢
          exact ⟨hi.1, cross hp (by rw [← hm]; exact h0) hi.1 hi.2 w3⟩
        · unfold better
          rw [Bool.and_eq_true, decide_eq_true_iff, decide_eq_true_iff]
          exact ⟨hp, w3⟩
        · unfold better
          rw [Bool.and_eq_false_iff]
          right
          exact decide_eq_false (by omega)
      · rw [if_neg hp]; exact ⟨_, rfl⟩
theorem cnt_le (as : List Aff) (l : Int) (t : Nat) : cntB as l t < as.length + 1 := by
  unfold cntB
  have := List.length_filter_le (better as l t) (List.range as.length)
  rw [List.length_range] at this
  omega
def settF (lo hi : Rat) (as : List Aff) (g : Rat) : Res := match runS (boxW lo hi as) g (l0F (boxW lo hi as) g) ((boxW lo hi as).length + 1) (t0F g) (m0F (boxW lo hi as) g) with
  | some z => z.1
  | none => .empty []
theorem sett_run {lo hi : Rat} {as : List Aff} {g : Rat} (h : SetOk lo hi as g) : ∃ z, runS (boxW lo hi as) g (l0F (boxW lo hi as) g) ((boxW lo hi as).length + 1) (t0F g) (m0F (boxW lo hi as) g) = some z ∧ z.1 = settF lo hi as g := by
  have hi0 := h.init.st
  obtain ⟨z, hz⟩ := run_ends (boxW lo hi as) g _ ((boxW lo hi as).length + 1) (t0F g) _ hi0.2 hi0.1.m0 (cnt_le _ _ _)
  refine ⟨z, hz, ?_⟩
  unfold settF
  rw [hz]
abbrev R_settleF (K : PySem.W.Frag) (ds : List D) (d : D) : Prop := ∃ (lo hi : Rat) (as : List Aff) (g : Rat), SetOk lo hi as g ∧ ds = [eBox lo hi, eAs as, .tup [eF g]] ∧ d = eRes K (settF lo hi as g)
theorem spC_imp {K : PySem.W.Frag} {n : Nat} {R R' : Con} (h : ∀ ds μ d μ', R' ds μ d μ' → R ds μ d μ') {vs : List L2.V} {H : Hp} {Q : VK} {E : XK} (q : spC K n R' vs H Q E) : spC K n R vs H Q E := by
  obtain ⟨G, ds, μ, d, μ', h1, h2, h3, h4, h5, h6, h7, h8⟩ := q
  exact ⟨G, ds, μ, d, μ', h1, h2, h3, h4, h5, h _ _ _ _ h6, h7, h8⟩
section
variable {P : Program} {w : World} {K : PySem.W.Frag} {mg : Str → Option Value} {base : Heap} {k n : Nat} {x : Str}
theorem FnOk.imp {f : Addr} {fd : FuncData} {ps : List Str} {sp sp' : Sp} (h : ∀ vs H Q E, sp' vs H Q E → sp vs H Q E) (F : FnOk P w K mg base CX0 k f fd ps sp) : FnOk P w K mg base CX0 k f fd ps sp' := by
  obtain ⟨h1, h2⟩ := F
  exact ⟨fun vs H Q E q => h1 vs H Q E (h _ _ _ _ q), fun A outer s H args us vs Q E a1 a2 a3 a4 q => h2 A outer s H args us vs Q E a1 a2 a3 a4 (h _ _ _ _ q)⟩
theorem FC.imp {R R' : Con} (F : FC P w K mg base k x n R) (h : ∀ ds μ d μ', R' ds μ d μ' → R ds μ d μ') : FC P w K mg base k x n R' := by
  obtain ⟨f, fd, ps, h1, h2, h3, h4⟩ := F.ex
  exact ⟨⟨f, fd, ps, h1, h2, h3, FnOk.imp (fun vs H Q E q => spC_imp h q) h4⟩⟩
theorem c_settleF (h : Hd P w K mg base) : FC P w K mg base 8 "settle" 3 (Pu (R_settleF K)) := (c_settle h).imp fun ds μ d μ' ⟨a, b, lo, hi, as, g, hs, e1, e2⟩ => by
  obtain ⟨z, z1, z2⟩ := sett_run hs
  exact ⟨a, b, lo, hi, as, g, _, z, ⟨hs, z1⟩, e1, by rw [z2]; exact e2⟩
end

/-! ### sizes by powers of two -/
def Bt (n : Nat) (q : Rat) : Prop := q.num.natAbs < 2 ^ n ∧ q.den < 2 ^ n
theorem Sk.bt {q : Rat} (h : Sk q) : Bt 500 q := h
theorem Bt.sm {n : Nat} {q : Rat} (h : Bt n q) (hn : n ≤ 4400) : Sm q := ⟨Nat.lt_of_lt_of_le h.1 (Nat.pow_le_pow_right (by decide) hn), Nat.lt_of_lt_of_le h.2 (Nat.pow_le_pow_right (by decide) hn)⟩
theorem Bt.le {n m : Nat} {q : Rat} (h : Bt n q) (hn : n ≤ m) : Bt m q := ⟨Nat.lt_of_lt_of_le h.1 (Nat.pow_le_pow_right (by decide) hn), Nat.lt_of_lt_of_le h.2 (Nat.pow_le_pow_right (by decide) hn)⟩
theorem norm_le {a : Int} {b : Nat} (h : b ≠ 0) : (Rat.normalize a b h).num.natAbs ≤ a.natAbs ∧ (Rat.normalize a b h).den ≤ b := by
  rw [Rat.normalize_eq]
  constructor
  · show (a / ((a.natAbs.gcd b : Nat) : Int)).natAbs ≤ a.natAbs
    have hg : 0 < a.natAbs.gcd b := Nat.gcd_pos_of_pos_right _ (Nat.pos_of_ne_zero h)
    have hd : ((a.natAbs.gcd b : Nat) : Int) ∣ a := Int.ofNat_dvd_left.mpr (Nat.gcd_dvd_left _ _)
    have e := congrArg Int.natAbs (Int.ediv_mul_cancel hd)
    rw [Int.natAbs_mul, Int.natAbs_natCast] at e
    calc (a / ((a.natAbs.gcd b : Nat) : Int)).natAbs ≤ (a / ((a.natAbs.gcd b : Nat) : Int)).natAbs * a.natAbs.gcd b := Nat.le_mul_of_pos_right _ hg
      _ = a.natAbs := e
  · exact Nat.div_le_self _ _
theorem Bt.mul {a b : Nat} {p q : Rat} (hp : Bt a p) (hq : Bt b q) : Bt (a + b) (p * q) := by
  rw [Rat.mul_def]
  have h := norm_le (a := p.num * q.num) (den_nz p q)
  refine ⟨Nat.lt_of_le_of_lt h.1 (mulB hp.1 hq.1), Nat.lt_of_le_of_lt h.2 ?_⟩
  rw [Nat.pow_add]
  exact Nat.mul_lt_mul'' hp.2 hq.2
theorem Bt.add {a b : Nat} {p q : Rat} (hp : Bt a p) (hq : Bt b q) : Bt (a + b + 1) (p + q) := by
  rw [Rat.add_def]
  have h := norm_le (a := p.num * q.den + q.num * p.den) (den_nz p q)
  have e : 2 ^ (a + b + 1) = 2 ^ (a + b) + 2 ^ (a + b) := by rw [Nat.pow_succ]; omega
  refine ⟨Nat.lt_of_le_of_lt h.1 ?_, Nat.lt_of_le_of_lt h.2 ?_⟩
  · have h1 := mulB (i := p.num) (j := (q.den : Int)) hp.1 (by rw [Int.natAbs_natCast]; exact hq.2)
    have h2 := mulB (i := q.num) (j := (p.den : Int)) hq.1 (by rw [Int.natAbs_natCast]; exact hp.2)
    rw [Nat.add_comm b a] at h2
    have := Int.natAbs_add_le (p.num * (q.den : Int)) (q.num * (p.den : Int))
    omega
  · have : p.den * q.den < 2 ^ (a + b) := by rw [Nat.pow_add]; exact Nat.mul_lt_mul'' hp.2 hq.2
    omega
theorem Bt.zero {n : Nat} (h : 0 < n) : Bt n 0 := ⟨Nat.pow_pos (by decide), Nat.one_lt_two_pow (by omega)⟩
theorem zero_add' (q : Rat) : 0 + q = q := Rat.zero_add q
theorem Bt.mk {n : Nat} {a : Int} {b : Nat} (ha : a.natAbs < 2 ^ n) (hb : b < 2 ^ n) (h0 : b ≠ 0) : Bt n (mkRat a b) := by
  rw [← Rat.normalize_eq_mkRat h0]
  have h := norm_le (a := a) h0
  exact ⟨Nat.lt_of_le_of_lt h.1 ha, Nat.lt_of_le_of_lt h.2 hb⟩
/-- the point that settle tells -/
theorem run_spot {as : List Aff} {g : Rat} {l : Int} : ∀ (n t : Nat) (m : Int) (x : Rat) (ys : List Rat) (z : Nat × Int), StOk as g t m l → runS as g l n t m = some (.most x ys, z) → Bt 1500 x
  | 0, t, m, x, ys, z, _, h => by cases h
  | n + 1, t, m, x, ys, z, hs, h => by
    rw [runS] at h
    cases hb : brk as (cnr as t l) m with
    | none =>
      rw [hb] at h
      simp only [Option.some.injEq, Prod.mk.injEq, Res.most.injEq] at h
      rw [← h.1.1]
      have h0 := hs.m0
      have hm := hs.hm
      exact Bt.mk (cnr_bound hs) (by omega) (by omega)
    | some w =>
      rw [hb] at h
      simp only at h
      by_cases hp : 0 < rA (rowAt as w) * l
      · rw [if_pos hp] at h
        exact run_spot n w _ x ys z (hs.next (brk_some hb).1 hp) h
      · rw [if_neg hp] at h
        simp at h
theorem sett_spot {lo hi : Rat} {as : List Aff} {g x : Rat} {ys : List Rat} (h : SetOk lo hi as g) (e : settF lo hi as g = .most x ys) : Bt 1500 x := by
  obtain ⟨z, h1, h2⟩ := sett_run h
  rw [e] at h2
  obtain ⟨r, z2⟩ := z
  simp only at h2
  subst h2
  exact run_spot _ _ _ _ _ _ h.init.st.1 h1
end NC

set_option Elab.async false
set_option linter.all false
set_option autoImplicit false
set_option maxRecDepth 100000
set_option maxHeartbeats 4000000
namespace NC
open PySem PySem.Spec PyProof.Rows L2

/-! printed by spec8.py: trees. -/
section
variable {P : Program} {w : World} {K : PySem.W.Frag} {mg : Str → Option Value} {base : Heap}


theorem de_clsC {N : List Str} {V : List Nat} {Gs : List Str} {k kf n : Nat} {X : Cx} {Z : Zed} {ρ : Rho} {μ μ1 μa' : Mu} {e : Expr} {es : List Expr} {d : D} {ds : List D} {pos p apos : Pos} {x m : Str} {R : Con} {pl : Sem Bool} (na j : Nat) {Cl : Addr} (C : Bc X P w K mg base N V Gs k) (F : BC P w K mg base kf x Cl m n R) (hG : Gs[j]? = some x) (ha : DA K X Z ρ μ (e :: es) ds μ1) (hR : R ds (μ1.take na) d μa') (hn : ds.length = n) (hk : kf ≤ k) (hm : μa'.map (·.1) = (μ1.take na).map (·.1) := by rfl)
    (hst : starEach (e :: es) X.env = (false, eval e X.env) :: starEach es X.env := by rfl) (hpl : (backTo pos (starEach es X.env)).any (·.1) = false := by rfl)
    (ht : eval (.Call (.Attribute (.Name x p) m apos) (e :: es) [] pos) X.env = (do
      let ov ← eval (.Name x p) X.env
      standAt apos.atName
      let (f, first) ← holding [ov] (getMethod ov m pl)
      callWith pos f first (backTo pos (starEach (e :: es) X.env)) (backToKw pos (keywordEach [] X.env))) := by rfl) : DE K X Z ρ μ (.Call (.Attribute (.Name x p) m apos) (e :: es) [] pos) d (μa' ++ μ1.drop na) :=
  de_clsCall (pl := pl) (μa := μ1.take na) (μr := μ1.drop na) j C F hG (by rw [List.take_append_drop]; exact ha) hR hn hk hm hst hpl ht

/-! ### trees, contracts -/
inductive Tr where
  | two (a b : Tr)
  | leaf (w : Str) (ys : List Rat)
def eTr : Tr → D
  | .two a b => .tup [.str "two", eTr a, eTr b]
  | .leaf w ys => .tup [.str w, eR ys]
def Tr.dep : Tr → Nat
  | .two a b => max a.dep b.dep + 1
  | .leaf _ _ => 0
abbrev R_need_small_trees (K : PySem.W.Frag) (ds : List D) (d : D) : Prop := ∃ (dn : D) (L : Lays) (ll : Lay), (dn.items = some [eNet K L ll] ∧ NetOk L ll ∧ hid L ≤ 8) ∧ ds = [dn] ∧ d = .non
abbrev R_need_aim_trees (K : PySem.W.Frag) (ds : List D) (d : D) : Prop := ∃ (dn : D) (L : Lays) (ll : Lay) (aim : List Rat), (dn.items = some [eNet K L ll] ∧ NetOk L ll ∧ aim.length = ll.length) ∧ ds = [dn, eR aim] ∧ d = .non
abbrev R_other_way (ds : List D) (d : D) : Prop := ∃ aim : List Rat, (aim.length < 100000 ∧ ∀ a ∈ aim, Sm a) ∧ ds = [eR aim] ∧ d = eR (aim.map fun a => -1 * a)
/-- the multiples close up: all sums on the way small -/
def MulOk (as : List Aff) (ys : List Rat) : Prop := ys.length = as.length ∧ as.length < 1000 ∧ (∀ y ∈ ys, 0 ≤ y) ∧ SmAff (0, 0) (ys.zip as)
abbrev R_taken_times (ds : List D) (d : D) : Prop := ∃ (a : Aff) (as : List Aff) (ys : List Rat), MulOk (a :: as) ys ∧ ds = [eAs (a :: as), eR ys] ∧ d = eA (affZ (0, 0) (ys.zip (a :: as)))
abbrev nsC : List Str := ["nets", "box", "aim", "all_many"]
abbrev caD (dn : D) (lo hi : Rat) (aim : List Rat) (L : Lays) : List D := [dn, eBox lo hi, eR aim, .int (hid L : Int)]
abbrev R_Cases_init (K : PySem.W.Frag) : Con := fun ds μ d μ' => ∃ (q Cl : Addr) (dn : D) (L : Lays) (ll : Lay) (lo hi : Rat) (aim : List Rat), (ClsD K Cl nsC ∧ dn.items = some [eNet K L ll] ∧ NetOk L ll) ∧ ds = [.ref q, dn, eBox lo hi, eR aim] ∧ μ = [(q, .ins Cl [] [])] ∧ d = .non ∧ μ' = [(q, .ins Cl nsC (caD dn lo hi aim L))]
abbrev R_Cases_wishes (K : PySem.W.Frag) : Con := fun ds μ d μ' => ∃ (q Cl : Addr) (ns' : List Str) (ds' : List D) (dn : D) (L : Lays) (ll : Lay) (lo hi : Rat) (aim : List Rat) (p m : Nat), (ClsD K Cl (nsC ++ ns') ∧ CaseOk K dn L ll p ∧ BoxOk lo hi) ∧ ds = [.ref q, .int (p : Int), .int (m : Int)] ∧ μ = [(q, .ins Cl (nsC ++ ns') (caD dn lo hi aim L ++ ds'))] ∧ d = eAs (caseW lo hi L p m) ∧ μ' = [(q, .ins Cl (nsC ++ ns') (caD dn lo hi aim L ++ ds'))]
/-- the aimed sum of a cell -/
def aimA (L : Lays) (ll : Lay) (aim : List Rat) (p : Nat) : Aff := nodeAff (aim, 0) (outA L ll p)
def AimOk (L : Lays) (ll : Lay) (aim : List Rat) (p : Nat) : Prop := SmAff (0, 0) (aim.zip (outA L ll p))
abbrev R_Cases_aimed (K : PySem.W.Frag) : Con := fun ds μ d μ' => ∃ (q Cl : Addr) (ns' : List Str) (ds' : List D) (dn : D) (L : Lays) (ll : Lay) (lo hi : Rat) (aim : List Rat) (p : Nat), (ClsD K Cl (nsC ++ ns') ∧ CaseOk K dn L ll p ∧ AimOk L ll aim p) ∧ ds = [.ref q, .int (p : Int)] ∧ μ = [(q, .ins Cl (nsC ++ ns') (caD dn lo hi aim L ++ ds'))] ∧ d = eA (aimA L ll aim p) ∧ μ' = [(q, .ins Cl (nsC ++ ns') (caD dn lo hi aim L ++ ds'))]

theorem c_need_small_trees (h : Hd P w K mg base) : FC P w K mg base 6 "need_small_trees" 1 (Pu (R_need_small_trees K)) := by
  refine mk_fc (N := ["nets"]) (ps := ["nets"]) (V := [3]) (Gs := ["all_hidden", "MOST_HIDDEN_trees", "Large"]) (k := 5) (d := dd_need_small_trees) h 68 46 rfl rfl rfl (by decide +kernel) rfl (fun _ _ _ _ _ _ us hl => match us, hl with | [_], _ => rfl) fun X Z ds μ r μ' C hR hx hl => ?_
  obtain ⟨rfl, rfl, dn, L, ll, ⟨hn, hs, h8⟩, rfl, rfl⟩ := hR
  show DB K X Z [some (dn)] ([]) (defBody (top 94)) _
  refine db_skip (dt_is (dt_cp (de_callP 0 C (c_all_hidden h) rfl (da_cons (de_var 0 C rfl rfl rfl) da_nil) ⟨dn, L, ll, ⟨hn, hs⟩, rfl, rfl⟩ rfl (by omega)) (de_glo 1 C rfl (h.cI 5 rfl)) cp_gt) (by simp; omega)) ?_
  exact db_nil ⟨rfl, [], rfl⟩
theorem c_need_aim_trees (h : Hd P w K mg base) : FC P w K mg base 4 "need_aim_trees" 2 (Pu (R_need_aim_trees K)) := by
  refine mk_fc (N := ["nets", "aim", "net"]) (ps := ["nets", "aim"]) (V := [3, 3, 0]) (Gs := ["is_row", "sum", "NoAim"]) (k := 3) (d := dd_need_aim_trees) h 69 47 rfl rfl rfl (by decide +kernel) rfl (fun _ _ _ _ _ _ us hl => match us, hl with | [_, _], _ => rfl) fun X Z ds μ r μ' C hR hx hl => ?_
  obtain ⟨rfl, rfl, dn, L, ll, aim, ⟨hn, hs, ha⟩, rfl, rfl⟩ := hR
  show DB K X Z [some (dn), some (eR aim), none] ([]) (defBody (top 96)) _
  refine db_skip (dt_is (dt_not (dt_val (de_callP 0 C (c_is_row h) rfl (da_cons (de_var 1 C rfl rfl rfl) (da_cons (de_sum 1 C rfl (h.free 7 _ rfl) (de_is (de_lst (dl_of_dc (V' := [0, 0, 3]) (Gs' := []) (own := [("net", 2)]) C (by decide +kernel) (dc_map [()] (fun _ => eNet K L ll) (fun _ => .int (ll.length : Int)) [0, 0, 3] [] [("net", 2)] C (by decide +kernel) (by decide +kernel) (di_Q C (de_var 0 C rfl rfl rfl) hn) (by first | rfl | assumption | omega | decide | simp) fun a ha => ⟨_, _, (by decide), fun _ C' => ⟨(dg_name 2 C' rfl rfl), (de_methP0 C' (MO.mc (m_Net_outs h) h 7 2 rfl rfl) (de_var 2 C' rfl rfl rfl) ⟨L, ll, trivial, rfl, rfl⟩ rfl (by omega))⟩⟩))) (mapI _ _))) da_nil)) ⟨aim, _, ⟨by simp [ha], by have := hs.ll; omega⟩, rfl, rfl⟩ rfl (by omega)))) (by rfl)) ?_
  exact db_nil ⟨rfl, [], rfl⟩
theorem c_other_way (h : Hd P w K mg base) : FC P w K mg base 4 "other_way" 1 (Pu (R_other_way)) := by
  refine mk_fc (N := ["row", "one"]) (ps := ["row"]) (V := [3, 0]) (Gs := ["tuple"]) (k := 3) (d := dd_other_way) h 70 48 rfl rfl rfl (by decide +kernel) rfl (fun _ _ _ _ _ _ us hl => match us, hl with | [_], _ => rfl) fun X Z ds μ r μ' C hR hx hl => ?_
  obtain ⟨rfl, rfl, aim, ⟨hl2, hs⟩, rfl, rfl⟩ := hR
  show DB K X Z [some (eR aim), none] ([]) (defBody (top 98)) _
  exact db_ret (de_tupleL 0 C rfl (h.free 12 _ rfl) (de_lst (dl_of_dc (V' := [0, 3]) (Gs' := ["times", "LESS_trees"]) (own := [("one", 1)]) C (by decide +kernel) (dc_map aim eF (fun a => eF (-1 * a)) [0, 3] ["times", "LESS_trees"] [("one", 1)] C (by decide +kernel) (by decide +kernel) (di_tup C (de_var 0 C rfl rfl rfl)) (by first | rfl | assumption | omega | decide | simp) fun a ha => ⟨_, _, (by decide), fun _ C' => ⟨(dg_name 1 C' rfl rfl), (de_callP 0 C' (c_times h) rfl (da_cons (de_is (de_glo 1 C' rfl (h.cT 6 rfl)) (by rfl : _ = eF (-1))) (da_cons (de_var 1 C' rfl rfl rfl) da_nil)) ⟨_, _, ⟨(by exact smN1), (by exact hs a ha)⟩, rfl, rfl⟩ rfl (by omega))⟩⟩)))) ⟨(by simp [Function.comp_def]), (by first | exact ⟨[], rfl⟩ | exact ⟨[_], rfl⟩ | exact ⟨[_, _], rfl⟩ | exact ⟨[], by simp⟩)⟩

theorem at_zero (d : D) (ds : List D) : atI (d :: ds) 0 = some d := by
  unfold atI ixN
  have : (0 : Int) < (ds.length : Int) + 1 := by omega
  simp [this]
theorem num_neg {q : Rat} (h : q < 0) : q.num < 0 := Int.not_le.mp fun z => Rat.not_le.mpr h (Rat.num_nonneg.mp z)
theorem num_nonneg {q : Rat} (h : 0 ≤ q) : 0 ≤ q.num := Rat.num_nonneg.mpr h
theorem all_ge {ys : List Rat} (h : ∀ y ∈ ys, 0 ≤ y) : (ys.map fun y => decide (0 ≤ y.num)).all id = true := by
  rw [List.all_map, List.all_eq_true]
  intro y hy
  exact decide_eq_true (num_nonneg (h y hy))

theorem c_taken_times (h : Hd P w K mg base) : FC P w K mg base 5 "taken_times" 2 (Pu (R_taken_times)) := by
  refine mk_fc (N := ["wishes", "multiples", "found", "by", "wish", "one"]) (ps := ["wishes", "multiples"]) (V := [3, 3, 3, 3, 3, 0]) (Gs := ["is_row", "len", "all", "flat_sum", "NOUGHT_handing", "zip", "sum_plus", "sum_times"]) (k := 4) (d := dd_taken_times) h 71 49 rfl rfl rfl (by decide +kernel) rfl (fun _ _ _ _ _ _ us hl => match us, hl with | [_, _], _ => rfl) fun X Z ds μ r μ' C hR hx hl => ?_
  obtain ⟨rfl, rfl, a0, as, ys, ⟨hl2, hlen, hy, hs⟩, rfl, rfl⟩ := hR
  show DB K X Z [some (eAs (a0 :: as)), some (eR ys), none, none, none, none] ([]) (defBody (top 99)) _
  refine db_skip (dt_is (dw_or (dt_not (dt_val (de_callP 0 C (c_is_row h) rfl (da_cons (de_var 1 C rfl rfl rfl) (da_cons (de_len 1 C rfl (h.free 0 _ rfl) (de_var 0 C rfl rfl rfl) rfl) da_nil)) ⟨ys, _, ⟨by simp [hl2], by omega⟩, rfl, rfl⟩ rfl (by omega)))) fun hc0 => (dw_or1 (dt_not (dt_val (de_all 2 C rfl (h.free 5 _ rfl) (de_is (de_lst (dl_of_dc (V' := [0, 0, 0, 0, 0, 3]) (Gs' := []) (own := [("one", 5)]) C (by decide +kernel) (dc_map ys eF (fun y => .bl (decide (0 ≤ y.num))) [0, 0, 0, 0, 0, 3] [] [("one", 5)] C (by decide +kernel) (by decide +kernel) (di_tup C (de_var 1 C rfl rfl rfl)) (by omega) fun a ha => ⟨_, _, (by decide), fun _ C' => ⟨(dg_name 5 C' rfl rfl), (de_cp (de_ixT C' (de_var 5 C' rfl rfl rfl) de_int rfl) de_int cp_ge)⟩⟩))) (mapB _ _))))))).dt (by simp; exact hy)) ?_
  refine db_set 2 C rfl rfl (de_is (de_callP 3 C (c_flat_sum h) rfl (da_cons (de_len 1 C rfl (h.free 0 _ rfl) (de_ixT C (de_ixL C (de_var 0 C rfl rfl rfl) de_int (by exact (at_zero _ _ : _ = some (eA a0)))) de_int rfl) rfl) (da_cons (de_is (de_glo 4 C rfl (h.cT 2 rfl)) (by rfl : _ = eF (0))) da_nil)) ⟨0, trivial, rfl, rfl⟩ rfl (by omega)) (by exact (rfl : _ = eA (0, 0)))) ?_
  refine db_forS (ys.zip (a0 :: as)) (fun q => .tup [eF q.1, eA q.2]) (fun (f : Aff) l => SmAff f l ∧ affZ f l = affZ (0, 0) (ys.zip (a0 :: as))) (fun f => [some (eAs (a0 :: as)), some (eR ys), some (eA f), none, none, none]) (fun _ => []) (0, 0) C (di_is (di_zip 5 C rfl (h.free 14 _ rfl) (de_var 1 C rfl rfl rfl) (de_var 0 C rfl rfl rfl) rfl rfl) (zip_map _ _ _ _)) rfl (.some (.some (.some (.none (.none (.none .nil)))))) (by exact ⟨hs, rfl⟩) (fun f a l hJ ha => ?_) (fun f hJ => ?_)
  · skip
    obtain ⟨⟨s1, s2, s3, s4, s5⟩, e⟩ := hJ
    refine ⟨_, _, _, (dg_tup C (dgs_cons (dg_name 3 C rfl rfl) (dgs_cons (dg_name 4 C rfl rfl) dgs_nil)) rfl), ?_⟩
    refine db_set 2 C rfl rfl (de_callP 6 C (c_sum_plus h) rfl (da_cons (de_var 2 C rfl rfl rfl) (da_cons (de_callP 7 C (c_sum_times h) rfl (da_cons (de_var 3 C rfl rfl rfl) (da_cons (de_var 4 C rfl rfl rfl) da_nil)) ⟨a.1, a.2, ⟨s2, s3⟩, rfl, rfl⟩ rfl (by omega)) da_nil)) ⟨f, (a.1 * a.2.1, a.1 * a.2.2), ⟨s1, s4⟩, rfl, rfl⟩ rfl (by omega)) ?_
    exact db_nil ⟨_, ⟨s5, e⟩, (.some (.some (.some (.none (.none (.none .nil)))))), rfl⟩
  exact db_ret (de_var 2 C rfl rfl rfl) ⟨(by rw [← hJ.2]; rfl), (by first | exact ⟨[], rfl⟩ | exact ⟨[_], rfl⟩ | exact ⟨[_, _], rfl⟩ | exact ⟨[], by simp⟩)⟩
theorem m_Cases_init (h : Hd P w K mg base) : MO P w K mg base 6 ("Cases", some "__init__") 4 (R_Cases_init K) := by
  refine mk_mo (N := ["self", "nets", "box", "aim"]) (ps := ["self", "nets", "box", "aim"]) (V := [3, 3, 3, 3]) (Gs := ["all_hidden"]) (k := 5) (d := dd_Cases_init) h 72 rfl  rfl (by decide +kernel) rfl (fun _ _ _ _ _ _ us hl => match us, hl with | [_, _, _, _], _ => rfl) fun X Z ds μ r μ' C hR hx hl => ?_
  obtain ⟨q, Cl, dn, L, ll, lo, hi, aim, ⟨T, hn, hs⟩, rfl, rfl, rfl, rfl⟩ := hR
  show DB K X Z [some (.ref q), some (dn), some (eBox lo hi), some (eR aim)] ([(q, .ins Cl [] [])]) (defBody (inClass (top 100) 0)) _
  refine db_fldN 0 C (ClsD.part (ns := ["nets"]) (ms := ["box", "aim", "all_many"]) T) (de_var 1 C rfl rfl rfl) (de_var 0 C rfl rfl rfl) rfl ?_
  refine db_fldN 0 C (ClsD.part (ns := ["nets", "box"]) (ms := ["aim", "all_many"]) T) (de_var 2 C rfl rfl rfl) (de_var 0 C rfl rfl rfl) rfl ?_
  refine db_fldN 0 C (ClsD.part (ns := ["nets", "box", "aim"]) (ms := ["all_many"]) T) (de_var 3 C rfl rfl rfl) (de_var 0 C rfl rfl rfl) rfl ?_
  refine db_fldN 0 C (T) (de_callP 0 C (c_all_hidden h) rfl (da_cons (de_var 1 C rfl rfl rfl) da_nil) ⟨dn, L, ll, ⟨hn, hs⟩, rfl, rfl⟩ rfl (by omega)) (de_var 0 C rfl rfl rfl) rfl ?_
  exact db_nil ⟨rfl, [], rfl⟩
theorem m_Cases_wishes (h : Hd P w K mg base) : MO P w K mg base 9 ("Cases", some "wishes") 3 (R_Cases_wishes K) := by
  refine mk_mo (N := ["self", "pattern", "many"]) (ps := ["self", "pattern", "many"]) (V := [3, 3, 3]) (Gs := ["case_wishes"]) (k := 8) (d := dd_Cases_wishes) h 73 rfl  rfl (by decide +kernel) rfl (fun _ _ _ _ _ _ us hl => match us, hl with | [_, _, _], _ => rfl) fun X Z ds μ r μ' C hR hx hl => ?_
  obtain ⟨q, Cl, ns', ds', dn, L, ll, lo, hi, aim, p, m, ⟨T, hc, hb⟩, rfl, rfl, rfl, rfl⟩ := hR
  have hn := hc.1
  show DB K X Z [some (.ref q), some (.int (p : Int)), some (.int (m : Int))] ([(q, .ins Cl (nsC ++ ns') (caD dn lo hi aim L ++ ds'))]) (defBody (inClass (top 100) 1)) _
  exact db_ret (de_callP 0 C (c_case_wishes h) rfl (da_cons (de_fldO 0 0 C (T) (de_var 0 C rfl rfl rfl) rfl rfl rfl) (da_cons (de_fldO 0 1 C (T) (de_var 0 C rfl rfl rfl) rfl rfl rfl) (da_cons (de_var 1 C rfl rfl rfl) (da_cons (de_var 2 C rfl rfl rfl) da_nil)))) ⟨dn, L, ll, lo, hi, p, m, ⟨hc, hb⟩, rfl, rfl⟩ rfl (by omega)) ⟨(by rfl), (by first | exact ⟨[], rfl⟩ | exact ⟨[_], rfl⟩ | exact ⟨[_, _], rfl⟩ | exact ⟨[], by simp⟩)⟩
theorem m_Cases_aimed (h : Hd P w K mg base) : MO P w K mg base 9 ("Cases", some "aimed") 2 (R_Cases_aimed K) := by
  refine mk_mo (N := ["self", "pattern"]) (ps := ["self", "pattern"]) (V := [3, 3]) (Gs := ["aimed_sum"]) (k := 8) (d := dd_Cases_aimed) h 74 rfl  rfl (by decide +kernel) rfl (fun _ _ _ _ _ _ us hl => match us, hl with | [_, _], _ => rfl) fun X Z ds μ r μ' C hR hx hl => ?_
  obtain ⟨q, Cl, ns', ds', dn, L, ll, lo, hi, aim, p, ⟨T, hc, ha⟩, rfl, rfl, rfl, rfl⟩ := hR
  have hn := hc.1
  show DB K X Z [some (.ref q), some (.int (p : Int))] ([(q, .ins Cl (nsC ++ ns') (caD dn lo hi aim L ++ ds'))]) (defBody (inClass (top 100) 2)) _
  exact db_ret (de_callP 0 C (c_aimed_sum h) rfl (da_cons (de_fldO 0 0 C (T) (de_var 0 C rfl rfl rfl) rfl rfl rfl) (da_cons (de_var 1 C rfl rfl rfl) (da_cons (de_fldO 0 2 C (T) (de_var 0 C rfl rfl rfl) rfl rfl rfl) da_nil))) ⟨dn, L, ll, p, aim, ⟨hc, ha⟩, rfl, rfl⟩ rfl (by omega)) ⟨(by rfl), (by first | exact ⟨[], rfl⟩ | exact ⟨[_], rfl⟩ | exact ⟨[_, _], rfl⟩ | exact ⟨[], by simp⟩)⟩

/-! ### a tree is let by -/
abbrev nsN : List Str := ["number"]
abbrev nsB : List Str := ["best", "best_spot"]
abbrev muCl (K : PySem.W.Frag) (q : Addr) (dn : D) (lo hi : Rat) (aim : List Rat) (L : Lays) (num : Rat) : Mu := [(q, .ins (He.ga K "Closing") (nsC ++ nsN) (caD dn lo hi aim L ++ [eF num]))]
abbrev R_Closing_init (K : PySem.W.Frag) : Con := fun ds μ d μ' => ∃ (q : Addr) (dn : D) (L : Lays) (ll : Lay) (lo hi : Rat) (aim : List Rat) (num : Rat), (dn.items = some [eNet K L ll] ∧ NetOk L ll) ∧ ds = [.ref q, dn, eBox lo hi, eR aim, eF num] ∧ μ = [(q, .ins (He.ga K "Closing") [] [])] ∧ d = .non ∧ μ' = muCl K q dn lo hi aim L num
def mulSum (as : List Aff) (ys : List Rat) : Aff := affZ (0, 0) (ys.zip as)
theorem MulOk.sm {as : List Aff} {ys : List Rat} (h : MulOk as ys) : SmA (mulSum as ys) := smAff_end _ _ h.2.2.2
theorem AimOk.sm {L : Lays} {ll : Lay} {aim : List Rat} {p : Nat} (h : AimOk L ll aim p) : SmA (aimA L ll aim p) := smAff_end _ _ h
abbrev R_is_most (K : PySem.W.Frag) : Con := fun ds μ d μ' => ∃ (q : Addr) (dn : D) (L : Lays) (ll : Lay) (lo hi : Rat) (aim : List Rat) (num : Rat) (p : Nat) (s : Aff), (CaseOk K dn L ll p ∧ AimOk L ll aim p ∧ SmA s ∧ Sm num ∧ Sm (s.2 + (aimA L ll aim p).2)) ∧ ds = [.ref q, .int (p : Int), eA s] ∧ μ = muCl K q dn lo hi aim L num ∧ d = .bl (decide ([s.1] = [(aimA L ll aim p).1]) && !decide (num < s.2 + (aimA L ll aim p).2)) ∧ μ' = muCl K q dn lo hi aim L num
def ClOk (K : PySem.W.Frag) (dn : D) (L : Lays) (ll : Lay) (lo hi : Rat) (aim : List Rat) (num : Rat) : Tr → Nat → Nat → Prop
  | .two a b, p, m => m < hid L ∧ p < 2 ^ m ∧ ClOk K dn L ll lo hi aim num a p (m + 1) ∧ ClOk K dn L ll lo hi aim num b (p + 2 ^ m) (m + 1)
  | .leaf w ys, p, m => CaseOk K dn L ll p ∧ MulOk (caseW lo hi L p m) ys ∧ ((w = "empty" ∧ (mulSum (caseW lo hi L p m) ys).1 = 0 ∧ (mulSum (caseW lo hi L p m) ys).2 < 0) ∨
      (w = "most" ∧ m = hid L ∧ AimOk L ll aim p ∧ Sm ((mulSum (caseW lo hi L p m) ys).2 + (aimA L ll aim p).2) ∧ (mulSum (caseW lo hi L p m) ys).1 = (aimA L ll aim p).1 ∧ ¬ num < (mulSum (caseW lo hi L p m) ys).2 + (aimA L ll aim p).2))
abbrev R_is_closed (K : PySem.W.Frag) (n : Nat) : Con := fun ds μ d μ' => ∃ (q : Addr) (dn : D) (L : Lays) (ll : Lay) (lo hi : Rat) (aim : List Rat) (num : Rat) (tr : Tr) (p m : Nat), (tr.dep ≤ n ∧ BoxOk lo hi ∧ hid L ≤ 8 ∧ Sm num ∧ ClOk K dn L ll lo hi aim num tr p m) ∧ ds = [.ref q, .int (p : Int), .int (m : Int), eTr tr] ∧ μ = muCl K q dn lo hi aim L num ∧ d = .bl true ∧ μ' = muCl K q dn lo hi aim L num
theorem or_pow {p m : Nat} (h : p < 2 ^ m) : Builtin.bitOr (p : Int) (1 * 2 ^ ((m : Int)).toNat) = ((p + 2 ^ m : Nat) : Int) := by
  rw [Int.toNat_natCast, Bits.bitOr_join (by omega) (by exact_mod_cast h) (by decide)]
  simp

theorem m_Closing_init (h : Hd P w K mg base) : MO P w K mg base 7 ("Closing", some "__init__") 5 (R_Closing_init K) := by
  refine mk_mo (N := ["self", "nets", "box", "aim", "number"]) (ps := ["self", "nets", "box", "aim", "number"]) (V := [3, 3, 3, 3, 3]) (Gs := ["Cases"]) (k := 6) (d := dd_Closing_init) h 75 rfl  rfl (by decide +kernel) rfl (fun _ _ _ _ _ _ us hl => match us, hl with | [_, _, _, _, _], _ => rfl) fun X Z ds μ r μ' C hR hx hl => ?_
  obtain ⟨q, dn, L, ll, lo, hi, aim, num, ⟨hn, hs⟩, rfl, rfl, rfl, rfl⟩ := hR
  show DB K X Z [some (.ref q), some (dn), some (eBox lo hi), some (eR aim), some (eF num)] ([(q, .ins (He.ga K "Closing") [] [])]) (defBody (inClass (top 101) 0)) _
  refine db_expr (de_clsC 1 0 C (MO.bc (m_Cases_init h) h 102 rfl) rfl (da_cons (de_var 0 C rfl rfl rfl) (da_cons (de_var 1 C rfl rfl rfl) (da_cons (de_var 2 C rfl rfl rfl) (da_cons (de_var 3 C rfl rfl rfl) da_nil)))) ⟨q, _, dn, L, ll, lo, hi, aim, ⟨ClsD.part (ns := nsC) (ms := nsN) (h.cls 6 _ _ rfl), hn, hs⟩, rfl, rfl, rfl, rfl⟩ rfl (by omega)) ?_
  refine db_fldN 0 C (h.cls 6 _ _ rfl) (de_var 4 C rfl rfl rfl) (de_var 0 C rfl rfl rfl) rfl ?_
  exact db_nil ⟨rfl, [], rfl⟩
theorem m_Closing_is_most (h : Hd P w K mg base) : MO P w K mg base 10 ("Closing", some "is_most") 3 (R_is_most K) := by
  refine mk_mo (N := ["self", "pattern", "summed", "due"]) (ps := ["self", "pattern", "summed"]) (V := [3, 3, 3, 3]) (Gs := ["is_less", "plus"]) (k := 9) (d := dd_Closing_is_most) h 77 rfl  rfl (by decide +kernel) rfl (fun _ _ _ _ _ _ us hl => match us, hl with | [_, _, _], _ => rfl) fun X Z ds μ r μ' C hR hx hl => ?_
  obtain ⟨q, dn, L, ll, lo, hi, aim, num, p, s, ⟨hc, ha, hs, hnum, hv⟩, rfl, rfl, rfl, rfl⟩ := hR
  show DB K X Z [some (.ref q), some (.int (p : Int)), some (eA s), none] (muCl K q dn lo hi aim L num) (defBody (inClass (top 101) 2)) _
  refine db_set 3 C rfl rfl (de_methC 1 0 C (MO.mc (m_Cases_aimed h) h 20 6 rfl rfl) (de_var 0 C rfl rfl rfl) rfl (da_cons (de_var 1 C rfl rfl rfl) da_nil) ⟨q, _, nsN, [eF num], dn, L, ll, lo, hi, aim, p, ⟨h.cls 6 _ _ rfl, hc, ha⟩, rfl, rfl, rfl, rfl⟩ rfl (by omega)) ?_
  exact db_ret (de_andv (de_cp (de_ixT C (de_var 2 C rfl rfl rfl) de_int rfl) (de_ixT C (de_var 3 C rfl rfl rfl) de_int rfl) (cp_eqR (xs := [s.1]) (ys := [(aimA L ll aim p).1]) C)) fun hc0 => (de_one (de_notv (de_callP 0 C (c_is_less h) rfl (da_cons (de_fldO 0 4 C (h.cls 6 _ _ rfl) (de_var 0 C rfl rfl rfl) rfl rfl rfl) (da_cons (de_callP 1 C (c_plus h) rfl (da_cons (de_ixT C (de_var 2 C rfl rfl rfl) de_int rfl) (da_cons (de_ixT C (de_var 3 C rfl rfl rfl) de_int rfl) da_nil)) ⟨_, _, ⟨(by exact hs.2), (by exact ha.sm.2)⟩, rfl, rfl⟩ rfl (by omega)) da_nil)) ⟨_, _, ⟨(by exact hnum), (by exact hv)⟩, rfl, rfl⟩ rfl (by omega))))) ⟨(by rfl), (by first | exact ⟨[], rfl⟩ | exact ⟨[_], rfl⟩ | exact ⟨[_, _], rfl⟩ | exact ⟨[], by simp⟩)⟩
theorem m_Closing_is_closed {n : Nat} (ih : ∀ n1, n = n1 + 1 → MO P w K mg base (10 + n1 + 1) ("Closing", some "is_closed") 4 (R_is_closed K n1)) (h : Hd P w K mg base) : MO P w K mg base (10 + n + 1) ("Closing", some "is_closed") 4 (R_is_closed K n) := by
  refine mk_mo (N := ["self", "pattern", "many", "tree", "summed", "one"]) (ps := ["self", "pattern", "many", "tree"]) (V := [3, 3, 3, 3, 3, 0]) (Gs := ["isinstance", "tuple", "len", "taken_times", "all"]) (k := (10 + n)) (d := dd_Closing_is_closed) h 76 rfl  rfl (by decide +kernel) rfl (fun _ _ _ _ _ _ us hl => match us, hl with | [_, _, _, _], _ => rfl) fun X Z ds μ r μ' C hR hx hl => ?_
  obtain ⟨q, dn, L, ll, lo, hi, aim, num, tr, p, m, ⟨hd, hb, h8, hnum, hcl⟩, rfl, rfl, rfl, rfl⟩ := hR
  show DB K X Z [some (.ref q), some (.int (p : Int)), some (.int (m : Int)), some (eTr tr), none, none] (muCl K q dn lo hi aim L num) (defBody (inClass (top 101) 1)) _
  cases tr with
  | two t1 t2 =>
    obtain ⟨hm, hp, h1, h2⟩ := hcl
    obtain ⟨n1, rfl⟩ : ∃ n1, n = n1 + 1 := by cases n with | zero => simp [Tr.dep] at hd | succ n1 => exact ⟨n1, rfl⟩
    have hd1 : t1.dep ≤ n1 := by simp only [Tr.dep] at hd; omega
    have hd2 : t2.dep ≤ n1 := by simp only [Tr.dep] at hd; omega
    have ih1 := ih n1 rfl
    show DB K X Z [some (.ref q), some (.int (p : Int)), some (.int (m : Int)), some (.tup [.str "two", eTr t1, eTr t2]), none, none] (muCl K q dn lo hi aim L num) _ _
    refine db_skip (dt_is (dw_or (dt_not (dt_val (de_isi 0 C rfl (h.free 4 _ rfl) (de_var 3 C rfl rfl rfl) (de_ty 1 C rfl (h.free 12 _ rfl) bt_tuple) (.tup _) ClsV_tuple (h.kit 2 _ _ _ rfl)))) fun hc0 => (dw_or1 (dt_cp (de_len 2 C rfl (h.free 0 _ rfl) (de_var 3 C rfl rfl rfl) rfl) (de_tup (da_cons de_int (da_cons de_int da_nil))) (cp_notin (zs := [.int 2, .int 3]) C rfl rfl rfl)))).dt (by rfl)) ?_
    refine db_if1 (dt_is (dt_cp (de_len 2 C rfl (h.free 0 _ rfl) (de_var 3 C rfl rfl rfl) rfl) de_int cp_eq) (by rfl)) ?_
    refine db_skip (dt_is (dw_or (dt_cp (de_ixT C (de_var 3 C rfl rfl rfl) de_int rfl) de_str cp_neS) fun hc0 => (dw_or1 (dt_cp (de_var 2 C rfl rfl rfl) (de_fldO 0 3 C (h.cls 6 _ _ rfl) (de_var 0 C rfl rfl rfl) rfl rfl rfl) cp_eq))).dt (by simp; omega)) ?_
    refine db_skip (dt_is (dt_not (dt_val (de_methC 1 0 C (MO.mc ih1 h 21 6 rfl rfl) (de_var 0 C rfl rfl rfl) rfl (da_cons (de_var 1 C rfl rfl rfl) (da_cons (de_add (de_var 2 C rfl rfl rfl) de_int) (da_cons (de_ixT C (de_var 3 C rfl rfl rfl) de_int rfl) da_nil))) ⟨q, dn, L, ll, lo, hi, aim, num, t1, p, m + 1, ⟨hd1, hb, h8, hnum, h1⟩, rfl, rfl, rfl, rfl⟩ rfl (by omega)))) (by rfl)) ?_
    exact db_ret (de_methC 1 0 C (MO.mc ih1 h 21 6 rfl rfl) (de_var 0 C rfl rfl rfl) rfl (da_cons (de_or (de_var 1 C rfl rfl rfl) (de_shl de_int (de_var 2 C rfl rfl rfl) (by exact cpow1 (by omega)))) (da_cons (de_add (de_var 2 C rfl rfl rfl) de_int) (da_cons (de_ixT C (de_var 3 C rfl rfl rfl) de_int rfl) da_nil))) ⟨q, dn, L, ll, lo, hi, aim, num, t2, p + 2 ^ m, m + 1, ⟨hd2, hb, h8, hnum, h2⟩, by rw [or_pow hp]; rfl, rfl, rfl, rfl⟩ rfl (by omega)) ⟨(by rfl), (by first | exact ⟨[], rfl⟩ | exact ⟨[_], rfl⟩ | exact ⟨[_, _], rfl⟩ | exact ⟨[], by simp⟩)⟩
  | leaf w ys =>
    obtain ⟨hc, hM, hw⟩ := hcl
    show DB K X Z [some (.ref q), some (.int (p : Int)), some (.int (m : Int)), some (.tup [.str w, eR ys]), none, none] (muCl K q dn lo hi aim L num) _ _
    refine db_skip (dt_is (dw_or (dt_not (dt_val (de_isi 0 C rfl (h.free 4 _ rfl) (de_var 3 C rfl rfl rfl) (de_ty 1 C rfl (h.free 12 _ rfl) bt_tuple) (.tup _) ClsV_tuple (h.kit 2 _ _ _ rfl)))) fun hc0 => (dw_or1 (dt_cp (de_len 2 C rfl (h.free 0 _ rfl) (de_var 3 C rfl rfl rfl) rfl) (de_tup (da_cons de_int (da_cons de_int da_nil))) (cp_notin (zs := [.int 2, .int 3]) C rfl rfl rfl)))).dt (by rfl)) ?_
    refine db_skip (dt_is (dt_cp (de_len 2 C rfl (h.free 0 _ rfl) (de_var 3 C rfl rfl rfl) rfl) de_int cp_eq) (by rfl)) ?_
    refine db_set 4 C rfl rfl (de_is (de_callP 3 C (c_taken_times h) rfl (da_cons (de_methC 1 0 C (MO.mc (m_Cases_wishes h) h 19 6 rfl rfl) (de_var 0 C rfl rfl rfl) rfl (da_cons (de_var 1 C rfl rfl rfl) (da_cons (de_var 2 C rfl rfl rfl) da_nil)) ⟨q, _, nsN, [eF num], dn, L, ll, lo, hi, aim, p, m, ⟨h.cls 6 _ _ rfl, hc, hb⟩, rfl, rfl, rfl, rfl⟩ rfl (by omega)) (da_cons (de_ixT C (de_var 3 C rfl rfl rfl) de_int rfl) da_nil)) ⟨(1, hi), (-1, 0 - lo) :: ownW L p m, ys, hM, rfl, rfl⟩ rfl (by omega)) (by exact (rfl : _ = eA (mulSum (caseW lo hi L p m) ys)))) ?_
    refine db_skip (dt_is (dt_cp (de_var 4 C rfl rfl rfl) de_non cp_isN) (by rfl)) ?_
    rcases hw with ⟨rfl, e1, e2⟩ | ⟨rfl, rfl, ha, hv, e1, e2⟩
    · skip
      refine db_if1 (dt_is (dt_cp (de_ixT C (de_var 3 C rfl rfl rfl) de_int rfl) de_str cp_eqS) (by rfl)) ?_
      exact db_ret (de_andv (de_all 4 C rfl (h.free 5 _ rfl) (de_is (de_lst (dl_of_dc (V' := [0, 0, 0, 0, 0, 3]) (Gs' := []) (own := [("one", 5)]) C (by decide +kernel) (dc_map [()] (fun _ => eF (mulSum (caseW lo hi L p m) ys).1) (fun _ => .bl (decide ((mulSum (caseW lo hi L p m) ys).1.num = 0))) [0, 0, 0, 0, 0, 3] [] [("one", 5)] C (by decide +kernel) (by decide +kernel) (di_tup C (de_ixT C (de_var 4 C rfl rfl rfl) de_int rfl)) (by first | rfl | assumption | omega | decide | simp) fun a ha => ⟨_, _, (by decide), fun _ C' => ⟨(dg_name 5 C' rfl rfl), (de_cp (de_ixT C' (de_var 5 C' rfl rfl rfl) de_int rfl) de_int cp_eq)⟩⟩))) (mapB _ _))) fun hc0 => (de_one (de_cp (de_ixT C (de_ixT C (de_var 4 C rfl rfl rfl) de_int rfl) de_int rfl) de_int cp_lt))) ⟨(by have e3 := num_neg e2; simp [e1]; exact e3), (by first | exact ⟨[], rfl⟩ | exact ⟨[_], rfl⟩ | exact ⟨[_, _], rfl⟩ | exact ⟨[], by simp⟩)⟩
    · skip
      refine db_skip (dt_is (dt_cp (de_ixT C (de_var 3 C rfl rfl rfl) de_int rfl) de_str cp_eqS) (by decide)) ?_
      exact db_ret (de_andv (de_cp (de_ixT C (de_var 3 C rfl rfl rfl) de_int rfl) de_str cp_eqS) fun hc0 => (de_andv (de_cp (de_var 2 C rfl rfl rfl) (de_fldO 0 3 C (h.cls 6 _ _ rfl) (de_var 0 C rfl rfl rfl) rfl rfl rfl) cp_eq) fun hc1 => (de_one (de_methC 1 0 C (MO.mc (m_Closing_is_most h) h 22 6 rfl rfl) (de_var 0 C rfl rfl rfl) rfl (da_cons (de_var 1 C rfl rfl rfl) (da_cons (de_var 4 C rfl rfl rfl) da_nil)) ⟨q, dn, L, ll, lo, hi, aim, num, p, _, ⟨hc, ha, hM.sm, hnum, hv⟩, rfl, rfl, rfl, rfl⟩ rfl (by omega))))) ⟨(by simp [e1]; exact e2), (by first | exact ⟨[], rfl⟩ | exact ⟨[_], rfl⟩ | exact ⟨[_, _], rfl⟩ | exact ⟨[], by simp⟩)⟩

theorem m_is_closed (h : Hd P w K mg base) : ∀ n : Nat, MO P w K mg base (10 + n + 1) ("Closing", some "is_closed") 4 (R_is_closed K n)
  | 0 => m_Closing_is_closed (n := 0) (fun n1 e => by cases e) h
  | n + 1 => m_Closing_is_closed (n := n + 1) (fun n1 e => by
    have e2 : n = n1 := by omega
    subst e2
    exact m_is_closed h n) h

end
end NC

set_option Elab.async false
set_option linter.all false
set_option autoImplicit false
set_option maxRecDepth 100000
set_option maxHeartbeats 4000000
namespace NC
open PySem PySem.Spec PyProof.Rows L2

/-! printed by spec9.py: trees grown. -/
section
variable {P : Program} {w : World} {K : PySem.W.Frag} {mg : Str → Option Value} {base : Heap}


/-! ### trees grown -/
abbrev Best := Option (Rat × Rat)
def bD : Best → D
  | none => .non
  | some b => eF b.1
def sD : Best → D
  | none => .non
  | some b => .tup [eF b.2]
def spotD : Option Rat → D
  | none => .non
  | some x => .tup [eF x]
abbrev muG (K : PySem.W.Frag) (q : Addr) (dn : D) (lo hi : Rat) (aim : List Rat) (L : Lays) (b : Best) : Mu := [(q, .ins (He.ga K "Growing") (nsC ++ nsB) (caD dn lo hi aim L ++ [bD b, sD b]))]
/-- all that is needed of a net, a box and an aim -/
structure GOk (K : PySem.W.Frag) (dn : D) (L : Lays) (ll : Lay) (lo hi : Rat) (aim : List Rat) : Prop where
  hn : dn.items = some [eNet K L ll]
  net : NetOk L ll
  h8 : hid L ≤ 8
  box : BoxOk lo hi
  blo : Sk lo
  bhi : Sk hi
  aiml : aim.length = ll.length
  case : ∀ p, p < 2 ^ hid L → CaseOk K dn L ll p
  aimo : ∀ p, p < 2 ^ hid L → AimOk L ll aim p
  own : ∀ p, p < 2 ^ hid L → ∀ a ∈ hidA L p, SkA a
  aima : ∀ p, p < 2 ^ hid L → SkA (aimA L ll aim p)
theorem Sk.nmul {q : Rat} (h : Sk q) : Sk (-1 * q) := by
  have e : -1 * q = -q := by rw [Rat.neg_mul, Rat.one_mul]
  rw [e]
  exact ⟨by rw [Rat.neg_num, Int.natAbs_neg]; exact h.1, by rw [Rat.neg_den]; exact h.2⟩
theorem GOk.wish {dn : D} {L : Lays} {ll : Lay} {lo hi : Rat} {aim : List Rat} (h : GOk K dn L ll lo hi aim) {p : Nat} (hp : p < 2 ^ hid L) (m : Nat) : ∀ a ∈ ownW L p m, SkA a := fun a ha => by
  obtain ⟨x, hx, rfl⟩ := List.mem_map.mp ha
  have h1 := h.own p hp x.1 (List.mem_of_mem_take (List.fst_mem_of_mem_zipIdx hx))
  unfold wsh
  split
  · exact ⟨h1.1.nmul, h1.2⟩
  · exact ⟨h1.1, h1.2.nmul⟩
theorem GOk.set {dn : D} {L : Lays} {ll : Lay} {lo hi : Rat} {aim : List Rat} (h : GOk K dn L ll lo hi aim) {p : Nat} (hp : p < 2 ^ hid L) (m : Nat) {g : Rat} (hg : Sk g) : SetOk lo hi (ownW L p m) g :=
  ⟨h.box, h.blo, h.bhi, by have := ownW_len L p m; have := h.h8; omega, h.wish hp m, hg⟩
theorem sk0 : Sk 0 := skS (by decide) (by decide)
theorem dot1 (g x : Rat) : dot [g] [x] = 0 + g * x := rfl
theorem dot1_bt {g x : Rat} (hg : Sk g) (hx : Bt 1500 x) : Bt 2000 (dot [g] [x]) := by
  rw [dot1, zero_add']
  exact hg.bt.mul hx
theorem dot1_ok {g x : Rat} (hg : Sk g) (hx : Bt 1500 x) : SmDot 0 ([g].zip [x]) :=
  ⟨sm0, hg.sm, hx.sm (by decide), (hg.bt.mul hx).sm (by decide), by
    show Sm (0 + g * x)
    rw [zero_add']
    exact (hg.bt.mul hx).sm (by decide)⟩
def upB (b : Best) (v x : Rat) : Best := match b with
  | none => some (v, x)
  | some c => if c.1 < v then some (v, x) else some c
def valA (L : Lays) (ll : Lay) (aim : List Rat) (p : Nat) (x : Rat) : Rat := dot [(aimA L ll aim p).1] [x] + (aimA L ll aim p).2
def endF (lo hi : Rat) (L : Lays) (ll : Lay) (aim : List Rat) (p : Nat) (b : Best) : Tr × Best := match settF lo hi (ownW L p (hid L)) (aimA L ll aim p).1 with
  | .empty ys => (.leaf "empty" ys, b)
  | .most x ys => (.leaf "most" ys, upB b (valA L ll aim p x) x)
def BestOk (b : Best) : Prop := ∀ c, b = some c → Sm c.1
def SpOk (s : Option Rat) : Prop := ∀ x, s = some x → Bt 1500 x
def lastW (L : Lays) (p m : Nat) : Aff := wsh p ((hidA L p).getD m (0, 0), m)
def keepS (L : Lays) (p m : Nat) (x : Rat) : Option Rat := if (lastW L p m).2 < dot [(lastW L p m).1] [x] then none else some x
def startS (lo hi : Rat) (L : Lays) (m p : Nat) (s : Option Rat) : Sum (List Rat) Rat := match s with
  | some x => .inr x
  | none => match settF lo hi (ownW L p m) 0 with
    | .empty ys => .inl ys
    | .most x _ => .inr x
def growF (lo hi : Rat) (L : Lays) (ll : Lay) (aim : List Rat) : Nat → Nat → Option Rat → Best → Tr × Best
  | 0, p, _, b => endF lo hi L ll aim p b
  | n + 1, p, s, b => match startS lo hi L (hid L - (n + 1)) p s with
    | .inl ys => (.leaf "empty" ys, b)
    | .inr x => let f := fun (i : Nat) (b : Best) => growF lo hi L ll aim n (p + i * 2 ^ (hid L - (n + 1))) (keepS L (p + i * 2 ^ (hid L - (n + 1))) (hid L - (n + 1)) x) b
      (.two (f 0 b).1 (f 1 (f 0 b).2).1, (f 1 (f 0 b).2).2)
theorem valA_sm {dn : D} {L : Lays} {ll : Lay} {lo hi : Rat} {aim : List Rat} (h : GOk K dn L ll lo hi aim) {p : Nat} (hp : p < 2 ^ hid L) {x : Rat} (hx : Bt 1500 x) : Sm (valA L ll aim p x) :=
  ((dot1_bt (h.aima p hp).1 hx).add (h.aima p hp).2.bt).sm (by decide)
theorem upB_ok {b : Best} {v x : Rat} (hb : BestOk b) (hv : Sm v) : BestOk (upB b v x) := by
  intro c hc
  cases b with
  | none => simp only [upB, Option.some.injEq] at hc; rw [← hc]; exact hv
  | some d =>
    simp only [upB] at hc
    split at hc
    · cases hc; exact hv
    · exact hb c hc
theorem endF_ok {dn : D} {L : Lays} {ll : Lay} {lo hi : Rat} {aim : List Rat} (h : GOk K dn L ll lo hi aim) {p : Nat} (hp : p < 2 ^ hid L) {b : Best} (hb : BestOk b) : BestOk (endF lo hi L ll aim p b).2 := by
  unfold endF
  cases e : settF lo hi (ownW L p (hid L)) (aimA L ll aim p).1 with
  | empty ys => exact hb
  | most x ys => exact upB_ok hb (valA_sm h hp (sett_spot (h.set hp _ (h.aima p hp).1) e))
theorem pw_lt {p n k a : Nat} (hp : p < 2 ^ (k - (n + 1))) (ha : a ≤ 1) (h : n + 1 ≤ k) : p + a * 2 ^ (k - (n + 1)) < 2 ^ (k - n) := by
  have e : 2 ^ (k - n) = 2 ^ (k - (n + 1)) + 2 ^ (k - (n + 1)) := by rw [show k - n = k - (n + 1) + 1 from by omega, Nat.pow_succ]; omega
  have : a * 2 ^ (k - (n + 1)) ≤ 1 * 2 ^ (k - (n + 1)) := Nat.mul_le_mul_right _ ha
  omega
theorem pw_up {p a b : Nat} (hp : p < 2 ^ a) (h : a ≤ b) : p < 2 ^ b := Nat.lt_of_lt_of_le hp (Nat.pow_le_pow_right (by decide) h)
theorem growF_ok {dn : D} {L : Lays} {ll : Lay} {lo hi : Rat} {aim : List Rat} (h : GOk K dn L ll lo hi aim) : ∀ (n p : Nat) (s : Option Rat) (b : Best), n ≤ hid L → p < 2 ^ (hid L - n) → BestOk b → BestOk (growF lo hi L ll aim n p s b).2
  | 0, p, s, b, hn, hp, hb => endF_ok h hp hb
  | n + 1, p, s, b, hn, hp, hb => by
    unfold growF
    cases startS lo hi L (hid L - (n + 1)) p s with
    | inl ys => exact hb
    | inr x => exact growF_ok h n _ _ _ (by omega) (pw_lt hp (by omega) hn) (growF_ok h n _ _ _ (by omega) (pw_lt hp (by omega) hn) hb)
theorem hidA_len (L : Lays) (p : Nat) : (hidA L p).length = hid L := sumsBy_flat L p [(1, 0)]
theorem caseW_succ {lo hi : Rat} {L : Lays} {p m : Nat} (h : m < hid L) : caseW lo hi L p (m + 1) = caseW lo hi L p m ++ [lastW L p m] := by
  unfold caseW ownW lastW
  have hm : m < (hidA L p).length := by rw [hidA_len]; exact h
  rw [List.take_succ, List.getElem?_eq_getElem hm, List.zipIdx_append, List.map_append, List.getD_eq_getElem?_getD, List.getElem?_eq_getElem hm, List.append_assoc]
  have h2 := hidA_len L p
  have h3 : (List.map List.length (sumsBy p [(1, 0)] L)).sum = hid L := by rw [← h2, List.length_flatten]
  simp
  rw [h3, Nat.min_eq_left (by omega)]
theorem or_bit {p m a : Nat} (h : p < 2 ^ m) (ha : a ≤ 1) : Builtin.bitOr (p : Int) ((a : Int) * 2 ^ ((m : Int)).toNat) = ((p + a * 2 ^ m : Nat) : Int) := by
  have : a = 0 ∨ a = 1 := by omega
  rcases this with rfl | rfl
  · rw [Int.toNat_natCast, Bits.bitOr_join (by omega) (by exact_mod_cast h) (by decide)]; simp
  · have := or_pow h
    rw [show ((1 : Nat) : Int) = 1 from rfl, this, Nat.one_mul]
abbrev R_Growing_init (K : PySem.W.Frag) : Con := fun ds μ d μ' => ∃ (q : Addr) (dn : D) (L : Lays) (ll : Lay) (lo hi : Rat) (aim : List Rat), (dn.items = some [eNet K L ll] ∧ NetOk L ll) ∧ ds = [.ref q, dn, eBox lo hi, eR aim] ∧ μ = [(q, .ins (He.ga K "Growing") [] [])] ∧ d = .non ∧ μ' = muG K q dn lo hi aim L none
abbrev R_own_wishes (K : PySem.W.Frag) : Con := fun ds μ d μ' => ∃ (q : Addr) (dn : D) (L : Lays) (ll : Lay) (lo hi : Rat) (aim : List Rat) (b : Best) (p m : Nat), (CaseOk K dn L ll p ∧ BoxOk lo hi) ∧ ds = [.ref q, .int (p : Int), .int (m : Int)] ∧ μ = muG K q dn lo hi aim L b ∧ d = eAs (ownW L p m) ∧ μ' = muG K q dn lo hi aim L b
abbrev R_ended (K : PySem.W.Frag) : Con := fun ds μ d μ' => ∃ (q : Addr) (dn : D) (L : Lays) (ll : Lay) (lo hi : Rat) (aim : List Rat) (b : Best) (p : Nat), (GOk K dn L ll lo hi aim ∧ p < 2 ^ hid L ∧ BestOk b) ∧ ds = [.ref q, .int (p : Int)] ∧ μ = muG K q dn lo hi aim L b ∧ d = eTr (endF lo hi L ll aim p b).1 ∧ μ' = muG K q dn lo hi aim L (endF lo hi L ll aim p b).2
abbrev R_grown (K : PySem.W.Frag) (n : Nat) : Con := fun ds μ d μ' => ∃ (q : Addr) (dn : D) (L : Lays) (ll : Lay) (lo hi : Rat) (aim : List Rat) (b : Best) (p m : Nat) (s : Option Rat), (GOk K dn L ll lo hi aim ∧ m = hid L - n ∧ n ≤ hid L ∧ p < 2 ^ m ∧ BestOk b ∧ SpOk s) ∧ ds = [.ref q, .int (p : Int), .int (m : Int), spotD s] ∧ μ = muG K q dn lo hi aim L b ∧ d = eTr (growF lo hi L ll aim n p s b).1 ∧ μ' = muG K q dn lo hi aim L (growF lo hi L ll aim n p s b).2

theorem m_Growing_init (h : Hd P w K mg base) : MO P w K mg base 7 ("Growing", some "__init__") 4 (R_Growing_init K) := by
  refine mk_mo (N := ["self", "nets", "box", "aim"]) (ps := ["self", "nets", "box", "aim"]) (V := [3, 3, 3, 3]) (Gs := ["Cases"]) (k := 6) (d := dd_Growing_init) h 78 rfl  rfl (by decide +kernel) rfl (fun _ _ _ _ _ _ us hl => match us, hl with | [_, _, _, _], _ => rfl) fun X Z ds μ r μ' C hR hx hl => ?_
  obtain ⟨q, dn, L, ll, lo, hi, aim, ⟨hn, hs⟩, rfl, rfl, rfl, rfl⟩ := hR
  show DB K X Z [some (.ref q), some (dn), some (eBox lo hi), some (eR aim)] ([(q, .ins (He.ga K "Growing") [] [])]) (defBody (inClass (top 102) 0)) _
  refine db_expr (de_clsC 1 0 C (MO.bc (m_Cases_init h) h 102 rfl) rfl (da_cons (de_var 0 C rfl rfl rfl) (da_cons (de_var 1 C rfl rfl rfl) (da_cons (de_var 2 C rfl rfl rfl) (da_cons (de_var 3 C rfl rfl rfl) da_nil)))) ⟨q, _, dn, L, ll, lo, hi, aim, ⟨ClsD.part (ns := nsC) (ms := nsB) (h.cls 7 _ _ rfl), hn, hs⟩, rfl, rfl, rfl, rfl⟩ rfl (by omega)) ?_
  refine db_fldN 0 C (ClsD.part (ns := nsC ++ (["best"] : List Str)) (ms := (["best_spot"] : List Str)) (h.cls 7 _ _ rfl)) de_non (de_var 0 C rfl rfl rfl) rfl ?_
  refine db_fldN 0 C (h.cls 7 _ _ rfl) de_non (de_var 0 C rfl rfl rfl) rfl ?_
  exact db_nil ⟨rfl, [], rfl⟩

theorem cut_drop2 {a b : D} {xs : List D} : cutD (a :: b :: xs) (some (2 * 1)) none = xs := by
  unfold cutD HT.sIx
  simp

theorem m_Growing_own_wishes (h : Hd P w K mg base) : MO P w K mg base 10 ("Growing", some "own_wishes") 3 (R_own_wishes K) := by
  refine mk_mo (N := ["self", "pattern", "many"]) (ps := ["self", "pattern", "many"]) (V := [3, 3, 3]) (Gs := ["len"]) (k := 9) (d := dd_Growing_own_wishes) h 79 rfl  rfl (by decide +kernel) rfl (fun _ _ _ _ _ _ us hl => match us, hl with | [_, _, _], _ => rfl) fun X Z ds μ r μ' C hR hx hl => ?_
  obtain ⟨q, dn, L, ll, lo, hi, aim, b, p, m, ⟨hc, hb⟩, rfl, rfl, rfl, rfl⟩ := hR
  show DB K X Z [some (.ref q), some (.int (p : Int)), some (.int (m : Int))] (muG K q dn lo hi aim L b) (defBody (inClass (top 102) 1)) _
  exact db_ret (de_lst (dl_slice C (de_methC 1 0 C (MO.mc (m_Cases_wishes h) h 23 7 rfl rfl) (de_var 0 C rfl rfl rfl) rfl (da_cons (de_var 1 C rfl rfl rfl) (da_cons (de_var 2 C rfl rfl rfl) da_nil)) ⟨q, _, nsB, _, dn, L, ll, lo, hi, aim, p, m, ⟨h.cls 7 _ _ rfl, hc, hb⟩, rfl, rfl, rfl, rfl⟩ rfl (by omega)) (.some (de_mul de_int (de_len 0 C rfl (h.free 0 _ rfl) (de_fldO 0 1 C (h.cls 7 _ _ rfl) (de_var 0 C rfl rfl rfl) rfl rfl rfl) rfl) (by exact smul (i := 2) (j := 1) (lt9 (k := 2) (by decide) (by decide)) (lt9 (k := 1) (by decide) (by decide))))) .none)) ⟨(by exact congrArg D.lst cut_drop2), (by first | exact ⟨[], rfl⟩ | exact ⟨[_], rfl⟩ | exact ⟨[_, _], rfl⟩ | exact ⟨[], by simp⟩)⟩
theorem m_Growing_ended (h : Hd P w K mg base) : MO P w K mg base 11 ("Growing", some "ended") 2 (R_ended K) := by
  refine mk_mo (N := ["self", "pattern", "row", "number", "answer", "found"]) (ps := ["self", "pattern"]) (V := [3, 3, 3, 3, 3, 3]) (Gs := ["settle", "isinstance", "Most", "plus", "weigh", "is_less"]) (k := 10) (d := dd_Growing_ended) h 81 rfl  rfl (by decide +kernel) rfl (fun _ _ _ _ _ _ us hl => match us, hl with | [_, _], _ => rfl) fun X Z ds μ r μ' C hR hx hl => ?_
  obtain ⟨q, dn, L, ll, lo, hi, aim, b, p, ⟨hg, hp, hb⟩, rfl, rfl, rfl, rfl⟩ := hR
  show DB K X Z [some (.ref q), some (.int (p : Int)), none, none, none, none] (muG K q dn lo hi aim L b) (defBody (inClass (top 102) 3)) _
  have hc := hg.case p hp
  have ha := hg.aimo p hp
  have hA := hg.aima p hp
  have hS := hg.set hp (hid L) hA.1
  refine db_asg (de_methC 1 0 C (MO.mc (m_Cases_aimed h) h 24 7 rfl rfl) (de_var 0 C rfl rfl rfl) rfl (da_cons (de_var 1 C rfl rfl rfl) da_nil) ⟨q, _, nsB, _, dn, L, ll, lo, hi, aim, p, ⟨h.cls 7 _ _ rfl, hc, ha⟩, rfl, rfl, rfl, rfl⟩ rfl (by omega)) (dg_tup C (dgs_cons (dg_name 2 C rfl rfl) (dgs_cons (dg_name 3 C rfl rfl) dgs_nil)) rfl) ?_
  refine db_set 4 C rfl rfl (de_callP 0 C (c_settleF h) rfl (da_cons (de_fldO 0 1 C (h.cls 7 _ _ rfl) (de_var 0 C rfl rfl rfl) rfl rfl rfl) (da_cons (de_methC 1 0 C (MO.mc (m_Growing_own_wishes h) h 25 7 rfl rfl) (de_var 0 C rfl rfl rfl) rfl (da_cons (de_var 1 C rfl rfl rfl) (da_cons (de_fldO 0 3 C (h.cls 7 _ _ rfl) (de_var 0 C rfl rfl rfl) rfl rfl rfl) da_nil)) ⟨q, dn, L, ll, lo, hi, aim, b, p, hid L, ⟨hc, hg.box⟩, rfl, rfl, rfl, rfl⟩ rfl (by omega)) (da_cons (de_var 2 C rfl rfl rfl) da_nil))) ⟨lo, hi, _, (aimA L ll aim p).1, hS, rfl, rfl⟩ rfl (by omega)) ?_
  cases hr : settF lo hi (ownW L p (hid L)) (aimA L ll aim p).1 with
  | empty ys =>
    have hE : endF lo hi L ll aim p b = (.leaf "empty" ys, b) := by unfold endF; rw [hr]
    rw [hE]
    show DB K X Z [some (.ref q), some (.int (p : Int)), some (.tup [eF (aimA L ll aim p).1]), some (eF (aimA L ll aim p).2), some (.ins (He.ga K "Empty") ["multiples"] [eR ys]), none] (muG K q dn lo hi aim L b) _ _
    refine db_if1 (dt_is (dt_not (dt_val (de_isi 1 C rfl (h.free 4 _ rfl) (de_var 4 C rfl rfl rfl) (de_glo 2 C rfl (h.cR 99 rfl)) (.ins (h.cls 4 _ _ rfl).cl (h.ins 2 _ _ _ rfl).2.1 (h.ins 2 _ _ _ rfl).2.2.1 (h.ins 2 _ _ _ rfl).2.2.2.1 (h.ins 2 _ _ _ rfl).2.2.2.2) (.own _) (h.ins 2 _ _ _ rfl).1))) (by rfl)) ?_
    exact db_ret (de_tup (da_cons de_str (da_cons (de_fld 0 C (h.cls 4 _ _ rfl) (de_var 4 C rfl rfl rfl) rfl rfl) da_nil))) ⟨(by rfl), (by first | exact ⟨[], rfl⟩ | exact ⟨[_], rfl⟩ | exact ⟨[_, _], rfl⟩ | exact ⟨[], by simp⟩)⟩
  | most x ys =>
    have hx := sett_spot hS hr
    have hv := valA_sm hg hp hx
    have hE : endF lo hi L ll aim p b = (.leaf "most" ys, upB b (valA L ll aim p x) x) := by unfold endF; rw [hr]
    rw [hE]
    show DB K X Z [some (.ref q), some (.int (p : Int)), some (.tup [eF (aimA L ll aim p).1]), some (eF (aimA L ll aim p).2), some (.ins (He.ga K "Most") ["spot", "multiples"] [.tup [eF x], eR ys]), none] (muG K q dn lo hi aim L b) _ _
    refine db_skip (dt_is (dt_not (dt_val (de_isi 1 C rfl (h.free 4 _ rfl) (de_var 4 C rfl rfl rfl) (de_glo 2 C rfl (h.cR 99 rfl)) (.ins (h.cls 3 _ _ rfl).cl (h.ins 1 _ _ _ rfl).2.1 (h.ins 1 _ _ _ rfl).2.2.1 (h.ins 1 _ _ _ rfl).2.2.2.1 (h.ins 1 _ _ _ rfl).2.2.2.2) (.own _) (h.ins 1 _ _ _ rfl).1))) (by rfl)) ?_
    refine db_set 5 C rfl rfl (de_callP 3 C (c_plus h) rfl (da_cons (de_callP 4 C (c_weigh h) rfl (da_cons (de_var 2 C rfl rfl rfl) (da_cons (de_fld 0 C (h.cls 3 _ _ rfl) (de_var 4 C rfl rfl rfl) rfl rfl) da_nil)) ⟨[(aimA L ll aim p).1], [x], dot1_ok hA.1 hx, rfl, rfl⟩ rfl (by omega)) (da_cons (de_var 3 C rfl rfl rfl) da_nil)) ⟨_, _, ⟨(dot1_bt hA.1 hx).sm (by decide), hA.2.sm⟩, rfl, rfl⟩ rfl (by omega)) ?_
    cases b with
    | none =>
      refine db_if1 (dt_is (dw_or (dt_cp (de_fldO 0 4 C (h.cls 7 _ _ rfl) (de_var 0 C rfl rfl rfl) rfl rfl rfl) de_non cp_isN) (v := true) (fun z => by cases z)).dt (by rfl)) ?_
      refine db_fldW 0 4 C (h.cls 7 _ _ rfl) (de_var 5 C rfl rfl rfl) (de_var 0 C rfl rfl rfl) rfl rfl ?_
      refine db_fldW 0 5 C (h.cls 7 _ _ rfl) (de_fld 0 C (h.cls 3 _ _ rfl) (de_var 4 C rfl rfl rfl) rfl rfl) (de_var 0 C rfl rfl rfl) rfl rfl ?_
      refine db_nil ?_
      exact db_ret (de_tup (da_cons de_str (da_cons (de_fld 1 C (h.cls 3 _ _ rfl) (de_var 4 C rfl rfl rfl) rfl rfl) da_nil))) ⟨(by rfl), (by first | exact ⟨[], rfl⟩ | exact ⟨[_], rfl⟩ | exact ⟨[_, _], rfl⟩ | exact ⟨[], by simp⟩)⟩
    | some c =>
      have hcs := hb c rfl
      by_cases hlt : c.1 < valA L ll aim p x
      · have e : upB (some c) (valA L ll aim p x) x = some (valA L ll aim p x, x) := if_pos hlt
        rw [e]
        refine db_if1 (dt_is (dw_or (dt_cp (de_fldO 0 4 C (h.cls 7 _ _ rfl) (de_var 0 C rfl rfl rfl) rfl rfl rfl) de_non cp_isN) fun hc0 => (dw_or1 (dt_val (de_callP 5 C (c_is_less h) rfl (da_cons (de_fldO 0 4 C (h.cls 7 _ _ rfl) (de_var 0 C rfl rfl rfl) rfl rfl rfl) (da_cons (de_var 5 C rfl rfl rfl) da_nil)) ⟨c.1, _, ⟨hcs, hv⟩, rfl, rfl⟩ rfl (by omega))))).dt (by simp [D.isNon, eF, bD]; exact hlt)) ?_
        refine db_fldW 0 4 C (h.cls 7 _ _ rfl) (de_var 5 C rfl rfl rfl) (de_var 0 C rfl rfl rfl) rfl rfl ?_
        refine db_fldW 0 5 C (h.cls 7 _ _ rfl) (de_fld 0 C (h.cls 3 _ _ rfl) (de_var 4 C rfl rfl rfl) rfl rfl) (de_var 0 C rfl rfl rfl) rfl rfl ?_
        refine db_nil ?_
        exact db_ret (de_tup (da_cons de_str (da_cons (de_fld 1 C (h.cls 3 _ _ rfl) (de_var 4 C rfl rfl rfl) rfl rfl) da_nil))) ⟨(by rfl), (by first | exact ⟨[], rfl⟩ | exact ⟨[_], rfl⟩ | exact ⟨[_, _], rfl⟩ | exact ⟨[], by simp⟩)⟩
      · have e : upB (some c) (valA L ll aim p x) x = some c := if_neg hlt
        rw [e]
        refine db_skip (dt_is (dw_or (dt_cp (de_fldO 0 4 C (h.cls 7 _ _ rfl) (de_var 0 C rfl rfl rfl) rfl rfl rfl) de_non cp_isN) fun hc0 => (dw_or1 (dt_val (de_callP 5 C (c_is_less h) rfl (da_cons (de_fldO 0 4 C (h.cls 7 _ _ rfl) (de_var 0 C rfl rfl rfl) rfl rfl rfl) (da_cons (de_var 5 C rfl rfl rfl) da_nil)) ⟨c.1, _, ⟨hcs, hv⟩, rfl, rfl⟩ rfl (by omega))))).dt (by simp [D.isNon, eF, bD]; exact hlt)) ?_
        exact db_ret (de_tup (da_cons de_str (da_cons (de_fld 1 C (h.cls 3 _ _ rfl) (de_var 4 C rfl rfl rfl) rfl rfl) da_nil))) ⟨(by rfl), (by first | exact ⟨[], rfl⟩ | exact ⟨[_], rfl⟩ | exact ⟨[_, _], rfl⟩ | exact ⟨[], by simp⟩)⟩

/-- the trees of the two bits so far, the best so far -/
def stG (f : Nat → Best → Tr × Best) (b : Best) (done : List Nat) : List Tr × Best := done.foldl (fun s i => (s.1 ++ [(f i s.2).1], (f i s.2).2)) ([], b)
theorem stG_snoc (f : Nat → Best → Tr × Best) (b : Best) (done : List Nat) (a : Nat) : stG f b (done ++ [a]) = ((stG f b done).1 ++ [(f a (stG f b done).2).1], (f a (stG f b done).2).2) := by
  unfold stG
  rw [List.foldl_append]
  rfl
theorem keepS_ok {L : Lays} {p m : Nat} {x : Rat} (h : Bt 1500 x) : SpOk (keepS L p m x) := by
  intro y hy
  unfold keepS at hy
  split at hy
  · cases hy
  · cases hy; exact h
theorem spotD_if {c : Prop} [Decidable c] {x : Rat} : (if decide c = true then D.non else .tup [eF x]) = spotD (if c then none else some x) := by
  by_cases h : c <;> simp [h, spotD]
theorem last_mem {L : Lays} {p m : Nat} (h : m < hid L) : lastW L p m ∈ ownW L p (m + 1) := by
  have e := caseW_succ (lo := 0) (hi := 0) (p := p) h
  unfold caseW at e
  rw [List.append_assoc] at e
  have e2 := List.append_cancel_left e
  rw [e2]; simp

theorem m_Growing_grown {n : Nat} (ih : ∀ n1, n = n1 + 1 → MO P w K mg base (11 + n1 + 1) ("Growing", some "grown") 4 (R_grown K n1)) (h : Hd P w K mg base) : MO P w K mg base (11 + n + 1) ("Growing", some "grown") 4 (R_grown K n) := by
  refine mk_mo (N := ["self", "pattern", "many", "spot", "answer", "trees", "bit", "case", "row", "number", "there"]) (ps := ["self", "pattern", "many", "spot"]) (V := [3, 3, 3, 3, 3, 3, 3, 3, 3, 3, 3]) (Gs := ["settle", "NOUGHT_handing", "len", "isinstance", "Most", "is_less", "weigh"]) (k := (11 + n)) (d := dd_Growing_grown) h 80 rfl  rfl (by decide +kernel) rfl (fun _ _ _ _ _ _ us hl => match us, hl with | [_, _, _, _], _ => rfl) fun X Z ds μ r μ' C hR hx hl => ?_
  obtain ⟨q, dn, L, ll, lo, hi, aim, b, p, m, s, ⟨hg, hm, hn, hp, hb, hs2⟩, rfl, rfl, rfl, rfl⟩ := hR
  show DB K X Z [some (.ref q), some (.int (p : Int)), some (.int (m : Int)), some (spotD s), none, none, none, none, none, none, none] (muG K q dn lo hi aim L b) (defBody (inClass (top 102) 2)) _
  have hpH : p < 2 ^ hid L := pw_up hp (by omega)
  cases n with
  | zero =>
    have hm0 : m = hid L := by omega
    subst hm0
    refine db_if1 (dt_is (dt_cp (de_var 2 C rfl rfl rfl) (de_fldO 0 3 C (h.cls 7 _ _ rfl) (de_var 0 C rfl rfl rfl) rfl rfl rfl) cp_eq) (by simp)) ?_
    exact db_ret (de_methC 1 0 C (MO.mc (m_Growing_ended h) h 27 7 rfl rfl) (de_var 0 C rfl rfl rfl) rfl (da_cons (de_var 1 C rfl rfl rfl) da_nil) ⟨q, dn, L, ll, lo, hi, aim, b, p, ⟨hg, hpH, hb⟩, rfl, rfl, rfl, rfl⟩ rfl (by omega)) ⟨(by rfl), (by first | exact ⟨[], rfl⟩ | exact ⟨[_], rfl⟩ | exact ⟨[_, _], rfl⟩ | exact ⟨[], by simp⟩)⟩
  | succ n =>
    have hmh : m < hid L := by omega
    have ih1 := ih n rfl
    refine db_skip (dt_is (dt_cp (de_var 2 C rfl rfl rfl) (de_fldO 0 3 C (h.cls 7 _ _ rfl) (de_var 0 C rfl rfl rfl) rfl rfl rfl) cp_eq) (by simp; omega)) ?_
    have rest : ∀ x, Bt 1500 x → startS lo hi L m p s = .inr x → DB K X Z [some (.ref q), some (.int (p : Int)), some (.int (m : Int)), some (.tup [eF x]), none, none, none, none, none, none, none] (muG K q dn lo hi aim L b) ((defBody (inClass (top 102) 2)).drop 2) (PF (eTr (growF lo hi L ll aim (n + 1) p s b).1) (muG K q dn lo hi aim L (growF lo hi L ll aim (n + 1) p s b).2)) := by
      intro x hx hst
      have hE : growF lo hi L ll aim (n + 1) p s b = (let f := fun (i : Nat) (b : Best) => growF lo hi L ll aim n (p + i * 2 ^ m) (keepS L (p + i * 2 ^ m) m x) b; (.two (f 0 b).1 (f 1 (f 0 b).2).1, (f 1 (f 0 b).2).2)) := by rw [growF, ← hm, hst]
      rw [hE]
      generalize hf : (fun (i : Nat) (b : Best) => growF lo hi L ll aim n (p + i * 2 ^ m) (keepS L (p + i * 2 ^ m) m x) b) = f
      show DB K X Z _ _ _ (PF (eTr (.two (f 0 b).1 (f 1 (f 0 b).2).1)) (muG K q dn lo hi aim L (f 1 (f 0 b).2).2))
      refine db_own 5 C rfl rfl (dl_lst da_nil) (fun q1 hq1 => ?_)
      refine db_forS (S := List Tr × Best) [0, 1] (fun (i : Nat) => .int (i : Int)) (fun st r => ∃ done, done ++ r = [0, 1] ∧ st = stG f b done ∧ BestOk st.2) (fun _ => [some (.ref q), some (.int (p : Int)), some (.int (m : Int)), some (.tup [eF x]), none, some (.ref q1), none, none, none, none, none]) (fun st => [(q, .ins (He.ga K "Growing") (nsC ++ nsB) (caD dn lo hi aim L ++ [bD st.2, sD st.2])), (q1, .lst (st.1.map eTr))]) ([], b) C (di_tup C (de_is (de_tup (da_cons de_int (da_cons de_int da_nil))) (by rfl : _ = eF (0)))) rfl (.some (.some (.some (.some (.none (.some (.none (.none (.none (.none (.none .nil))))))))))) (by exact ⟨[], rfl, rfl, hb⟩) (fun st a r hJ ha => ?_) (fun st hJ => ?_)
      · obtain ⟨done, d1, d2, d3⟩ := hJ
        have ha1 : a ≤ 1 := by simp at ha; omega
        have hl : st.1.length < 100000 := by
          have h1 := congrArg List.length d1
          have h2 : ∀ (b : Best) (l : List Nat), (stG f b l).1.length = l.length := by
            intro b l
            have : ∀ (l : List Nat) (s : List Tr × Best), (l.foldl (fun s i => (s.1 ++ [(f i s.2).1], (f i s.2).2)) s).1.length = s.1.length + l.length := by
              intro l
              induction l with
              | nil => intro s; rfl
              | cons c l ih => intro s; rw [List.foldl_cons, ih]; simp; omega
            have := this l ([], b)
            unfold stG
            simpa using this
          rw [d2, h2]
          simp at h1; omega
        have hp2 : p + a * 2 ^ m < 2 ^ (m + 1) := by
          have e : 2 ^ (m + 1) = 2 ^ m + 2 ^ m := by rw [Nat.pow_succ]; omega
          have : a * 2 ^ m ≤ 1 * 2 ^ m := Nat.mul_le_mul_right _ ha1
          omega
        have hpH2 : p + a * 2 ^ m < 2 ^ hid L := pw_up hp2 (by omega)
        have hw := hg.wish hpH2 (m + 1) _ (last_mem hmh)
        refine ⟨_, _, _, (dg_name 6 C rfl rfl), ?_⟩
        refine db_set 7 C rfl rfl (de_is (de_or (de_var 1 C rfl rfl rfl) (de_shl (de_var 6 C rfl rfl rfl) (de_var 2 C rfl rfl rfl) (by exact ⟨by omega, by have := hg.h8; omega, by simp at ha; rcases ha with rfl | rfl <;> decide⟩))) (by exact congrArg D.int (or_bit hp ha1))) ?_
        refine db_asg (de_ixL C (de_methC 1 0 C (MO.mc (m_Cases_wishes h) h 23 7 rfl rfl) (de_var 0 C rfl rfl rfl) rfl (da_cons (de_var 7 C rfl rfl rfl) (da_cons (de_add (de_var 2 C rfl rfl rfl) de_int) da_nil)) ⟨q, _, nsB, _, dn, L, ll, lo, hi, aim, p + a * 2 ^ m, m + 1, ⟨h.cls 7 _ _ rfl, hg.case _ hpH2, hg.box⟩, rfl, rfl, rfl, rfl⟩ rfl (by omega)) (de_neg de_int) (by rw [caseW_succ hmh]; exact at_last _ _ _)) (dg_tup C (dgs_cons (dg_name 8 C rfl rfl) (dgs_cons (dg_name 9 C rfl rfl) dgs_nil)) rfl) ?_
        refine db_set 10 C rfl rfl (de_is (de_ite (dt_val (de_callP 5 C (c_is_less h) rfl (da_cons (de_var 9 C rfl rfl rfl) (da_cons (de_callP 6 C (c_weigh h) rfl (da_cons (de_var 8 C rfl rfl rfl) (da_cons (de_var 3 C rfl rfl rfl) da_nil)) ⟨[(lastW L (p + a * 2 ^ m) m).1], [x], dot1_ok hw.1 hx, rfl, rfl⟩ rfl (by omega)) da_nil)) ⟨_, _, ⟨hw.2.sm, (dot1_bt hw.1 hx).sm (by decide)⟩, rfl, rfl⟩ rfl (by omega))) de_non (de_var 3 C rfl rfl rfl)) (by exact (spotD_if : _ = spotD (keepS L (p + a * 2 ^ m) m x)))) ?_
        refine db_app 1 C (de_var 5 C rfl rfl rfl) rfl (de_methC 1 0 C (MO.mc ih1 h 26 7 rfl rfl) (de_var 0 C rfl rfl rfl) rfl (da_cons (de_var 7 C rfl rfl rfl) (da_cons (de_add (de_var 2 C rfl rfl rfl) de_int) (da_cons (de_var 10 C rfl rfl rfl) da_nil))) ⟨q, dn, L, ll, lo, hi, aim, st.2, p + a * 2 ^ m, m + 1, keepS L (p + a * 2 ^ m) m x, ⟨hg, by omega, by omega, hp2, d3, keepS_ok hx⟩, rfl, rfl, rfl, rfl⟩ rfl (by omega)) rfl (by simpa using hl) ?_
        have hfa : growF lo hi L ll aim n (p + a * 2 ^ m) (keepS L (p + a * 2 ^ m) m x) st.2 = f a st.2 := by rw [← hf]
        rw [hfa]
        refine db_nil ⟨(st.1 ++ [(f a st.2).1], (f a st.2).2), ⟨done ++ [a], by rw [List.append_assoc]; exact d1, by rw [stG_snoc, ← d2], ?_⟩, (.some (.some (.some (.some (.none (.some (.none (.none (.none (.none (.none .nil))))))))))), by simp⟩
        rw [← hfa]
        exact growF_ok hg n _ _ _ (by omega) (by rw [show hid L - n = m + 1 from by omega]; exact hp2) d3
      · obtain ⟨done, d1, d2, d3⟩ := hJ
        have hd : done = [0, 1] := by simpa using d1
        subst hd
        subst d2
        exact db_ret (de_tup (da_cons de_str (da_cons (de_ixO 1 C (de_var 5 C rfl rfl rfl) de_int rfl (by rfl)) (da_cons (de_ixO 1 C (de_var 5 C rfl rfl rfl) de_int rfl (by rfl)) da_nil)))) ⟨(by rfl), (by first | exact ⟨[], rfl⟩ | exact ⟨[_], rfl⟩ | exact ⟨[_, _], rfl⟩ | exact ⟨[], by simp⟩)⟩
    cases s with
    | some x =>
      show DB K X Z [some (.ref q), some (.int (p : Int)), some (.int (m : Int)), some (.tup [eF x]), none, none, none, none, none, none, none] (muG K q dn lo hi aim L b) _ _
      refine db_skip (dt_is (dt_cp (de_var 3 C rfl rfl rfl) de_non cp_isN) (by rfl)) ?_
      exact rest x (hs2 x rfl) rfl
    | none =>
      have hS := hg.set hpH m sk0
      show DB K X Z [some (.ref q), some (.int (p : Int)), some (.int (m : Int)), some .non, none, none, none, none, none, none, none] (muG K q dn lo hi aim L b) _ _
      refine db_if1 (dt_is (dt_cp (de_var 3 C rfl rfl rfl) de_non cp_isN) (by rfl)) ?_
      refine db_set 4 C rfl rfl (de_callP 0 C (c_settleF h) rfl (da_cons (de_fldO 0 1 C (h.cls 7 _ _ rfl) (de_var 0 C rfl rfl rfl) rfl rfl rfl) (da_cons (de_methC 1 0 C (MO.mc (m_Growing_own_wishes h) h 25 7 rfl rfl) (de_var 0 C rfl rfl rfl) rfl (da_cons (de_var 1 C rfl rfl rfl) (da_cons (de_var 2 C rfl rfl rfl) da_nil)) ⟨q, dn, L, ll, lo, hi, aim, b, p, m, ⟨hg.case p hpH, hg.box⟩, rfl, rfl, rfl, rfl⟩ rfl (by omega)) (da_cons (de_rep1 C (de_tup (da_cons (de_is (de_glo 1 C rfl (h.cT 2 rfl)) (by rfl : _ = eF (0))) da_nil)) (de_is (de_len 2 C rfl (h.free 0 _ rfl) (de_fldO 0 1 C (h.cls 7 _ _ rfl) (de_var 0 C rfl rfl rfl) rfl rfl rfl) rfl) (by rfl))) da_nil))) ⟨lo, hi, _, 0, hS, rfl, rfl⟩ rfl (by omega)) ?_
      cases hr : settF lo hi (ownW L p m) 0 with
      | empty ys =>
        have hst : startS lo hi L m p none = .inl ys := by unfold startS; rw [hr]
        have hE : growF lo hi L ll aim (n + 1) p none b = (.leaf "empty" ys, b) := by rw [growF, ← hm, hst]
        rw [hE]
        show DB K X Z [some (.ref q), some (.int (p : Int)), some (.int (m : Int)), some .non, some (.ins (He.ga K "Empty") ["multiples"] [eR ys]), none, none, none, none, none, none] (muG K q dn lo hi aim L b) _ _
        refine db_if1 (dt_is (dt_not (dt_val (de_isi 3 C rfl (h.free 4 _ rfl) (de_var 4 C rfl rfl rfl) (de_glo 4 C rfl (h.cR 99 rfl)) (.ins (h.cls 4 _ _ rfl).cl (h.ins 2 _ _ _ rfl).2.1 (h.ins 2 _ _ _ rfl).2.2.1 (h.ins 2 _ _ _ rfl).2.2.2.1 (h.ins 2 _ _ _ rfl).2.2.2.2) (.own _) (h.ins 2 _ _ _ rfl).1))) (by rfl)) ?_
        exact db_ret (de_tup (da_cons de_str (da_cons (de_fld 0 C (h.cls 4 _ _ rfl) (de_var 4 C rfl rfl rfl) rfl rfl) da_nil))) ⟨(by rfl), (by first | exact ⟨[], rfl⟩ | exact ⟨[_], rfl⟩ | exact ⟨[_, _], rfl⟩ | exact ⟨[], by simp⟩)⟩
      | most x ys =>
        have hx := sett_spot hS hr
        have hst : startS lo hi L m p none = .inr x := by unfold startS; rw [hr]
        show DB K X Z [some (.ref q), some (.int (p : Int)), some (.int (m : Int)), some .non, some (.ins (He.ga K "Most") ["spot", "multiples"] [.tup [eF x], eR ys]), none, none, none, none, none, none] (muG K q dn lo hi aim L b) _ _
        refine db_skip (dt_is (dt_not (dt_val (de_isi 3 C rfl (h.free 4 _ rfl) (de_var 4 C rfl rfl rfl) (de_glo 4 C rfl (h.cR 99 rfl)) (.ins (h.cls 3 _ _ rfl).cl (h.ins 1 _ _ _ rfl).2.1 (h.ins 1 _ _ _ rfl).2.2.1 (h.ins 1 _ _ _ rfl).2.2.2.1 (h.ins 1 _ _ _ rfl).2.2.2.2) (.own _) (h.ins 1 _ _ _ rfl).1))) (by rfl)) ?_
        refine db_set 3 C rfl rfl (de_fld 0 C (h.cls 3 _ _ rfl) (de_var 4 C rfl rfl rfl) rfl rfl) ?_
        exact db_nil (db_weak (.some (.some (.some (.some (.none (.none (.none (.none (.none (.none (.none .nil))))))))))) (rest x hx hst))

theorem m_grown (h : Hd P w K mg base) : ∀ n : Nat, MO P w K mg base (11 + n + 1) ("Growing", some "grown") 4 (R_grown K n)
  | 0 => m_Growing_grown (n := 0) (fun n1 e => by cases e) h
  | n + 1 => m_Growing_grown (n := n + 1) (fun n1 e => by
    have e2 : n = n1 := by omega
    subst e2
    exact m_grown h n) h


def topF (lo hi : Rat) (L : Lays) (ll : Lay) (aim : List Rat) : Tr × Best := growF lo hi L ll aim (hid L) 0 (some lo) none
theorem bt_sk {q : Rat} (h : Sk q) : Bt 1500 q := h.bt.le (by decide)
theorem grow_dep (lo hi : Rat) (L : Lays) (ll : Lay) (aim : List Rat) : ∀ (n p : Nat) (s : Option Rat) (b : Best), (growF lo hi L ll aim n p s b).1.dep ≤ n
  | 0, p, s, b => by
    unfold growF endF
    split <;> simp [Tr.dep]
  | n + 1, p, s, b => by
    unfold growF
    split
    · simp [Tr.dep]
    · have h1 := grow_dep lo hi L ll aim n
      simp only [Tr.dep]
      exact Nat.succ_le_succ (Nat.max_le.mpr ⟨h1 _ _ _, h1 _ _ _⟩)
abbrev eTop (z : Tr × Best) : D := .tup [bD z.2, sD z.2, eTr z.1]
abbrev R_greatest_at (K : PySem.W.Frag) (ds : List D) (d : D) : Prop := ∃ (dn : D) (L : Lays) (ll : Lay) (lo hi : Rat) (aim : List Rat), GOk K dn L ll lo hi aim ∧ ds = [dn, eBox lo hi, eR aim] ∧ d = eTop (topF lo hi L ll aim)
abbrev R_least_at (K : PySem.W.Frag) (ds : List D) (d : D) : Prop := ∃ (dn : D) (L : Lays) (ll : Lay) (lo hi : Rat) (aim : List Rat) (v x : Rat) (t : Tr), (GOk K dn L ll lo hi (aim.map fun a => -1 * a) ∧ (∀ a ∈ aim, Sm a) ∧ topF lo hi L ll (aim.map fun a => -1 * a) = (t, some (v, x)) ∧ Sm v) ∧ ds = [dn, eBox lo hi, eR aim] ∧ d = .tup [eF (-1 * v), .tup [eF x], eTr t]
abbrev R_closes (K : PySem.W.Frag) (ds : List D) (d : D) : Prop := ∃ (dn : D) (L : Lays) (ll : Lay) (lo hi : Rat) (aim : List Rat) (num : Rat) (tr : Tr), (dn.items = some [eNet K L ll] ∧ NetOk L ll ∧ hid L ≤ 8 ∧ BoxOk lo hi ∧ aim.length = ll.length ∧ Sm num ∧ tr.dep ≤ 8 ∧ ClOk K dn L ll lo hi aim num tr 0 0) ∧ ds = [dn, eBox lo hi, eR aim, eF num, eTr tr] ∧ d = .bl true

theorem c_greatest_at (h : Hd P w K mg base) : FC P w K mg base 22 "greatest_at" 3 (Pu (R_greatest_at K)) := by
  refine mk_fc (N := ["nets", "box", "aim", "growing", "tree", "low", "high"]) (ps := ["nets", "box", "aim"]) (V := [3, 3, 3, 3, 3, 0, 0]) (Gs := ["need_nets", "need_box_handing", "need_aim_trees", "need_small_trees", "Growing", "tuple"]) (k := 21) (d := dd_greatest_at) h 82 50 rfl rfl rfl (by decide +kernel) rfl (fun _ _ _ _ _ _ us hl => match us, hl with | [_, _, _], _ => rfl) fun X Z ds μ r μ' C hR hx hl => ?_
  obtain ⟨rfl, rfl, dn, L, ll, lo, hi, aim, hg, rfl, rfl⟩ := hR
  have hn := hg.hn
  show DB K X Z [some (dn), some (eBox lo hi), some (eR aim), none, none, none, none] ([]) (defBody (top 103)) _
  refine db_expr (de_callP 0 C (c_need_nets h) rfl (da_cons (de_var 0 C rfl rfl rfl) da_nil) ⟨dn, L, ll, hn, rfl, rfl⟩ rfl (by omega)) ?_
  refine db_expr (de_callP 1 C (c_need_box_handing h) rfl (da_cons (de_var 1 C rfl rfl rfl) (da_cons (de_methP0 C (MO.mc (m_Net_ins h) h 6 2 rfl rfl) (de_ixQ C (de_var 0 C rfl rfl rfl) de_int hn rfl) ⟨L, ll, trivial, rfl, rfl⟩ rfl (by omega)) da_nil)) ⟨lo, hi, hg.box, rfl, rfl⟩ rfl (by omega)) ?_
  refine db_expr (de_callP 2 C (c_need_aim_trees h) rfl (da_cons (de_var 0 C rfl rfl rfl) (da_cons (de_var 2 C rfl rfl rfl) da_nil)) ⟨dn, L, ll, aim, ⟨hn, hg.net, hg.aiml⟩, rfl, rfl⟩ rfl (by omega)) ?_
  refine db_expr (de_callP 3 C (c_need_small_trees h) rfl (da_cons (de_var 0 C rfl rfl rfl) da_nil) ⟨dn, L, ll, ⟨hn, hg.net, hg.h8⟩, rfl, rfl⟩ rfl (by omega)) ?_
  refine db_own 3 C rfl rfl (dl_make 4 C (MO.kc (m_Growing_init h) h 7 104 rfl rfl) rfl (da_cons (de_var 0 C rfl rfl rfl) (da_cons (de_var 1 C rfl rfl rfl) (da_cons (de_var 2 C rfl rfl rfl) da_nil))) (fun q => ⟨q, dn, L, ll, lo, hi, aim, ⟨hn, hg.net⟩, rfl, rfl, rfl, rfl⟩) rfl (by omega)) (fun q0 hq0 => ?_)
  refine db_set 4 C rfl rfl (de_methC 1 0 C (MO.mc (m_grown h (hid L)) h 26 7 rfl rfl) (de_var 3 C rfl rfl rfl) rfl (da_cons de_int (da_cons de_int (da_cons (de_tupleL 5 C rfl (h.free 12 _ rfl) (de_lst (dl_of_dc (V' := [0, 0, 0, 0, 0, 3, 3]) (Gs' := []) (own := [("low", 5), ("high", 6)]) C (by decide +kernel) (dc_map [()] (fun _ => .tup [eF lo, eF hi]) (fun _ => eF lo) [0, 0, 0, 0, 0, 3, 3] [] [("low", 5), ("high", 6)] C (by decide +kernel) (by decide +kernel) (di_tup C (de_var 1 C rfl rfl rfl)) (by first | rfl | assumption | omega | decide | simp) fun a ha => ⟨_, _, (by decide), fun _ C' => ⟨(dg_tup C' (dgs_cons (dg_name 5 C' rfl rfl) (dgs_cons (dg_name 6 C' rfl rfl) dgs_nil)) rfl), (de_var 5 C' rfl rfl rfl)⟩⟩)))) da_nil))) ⟨q0, dn, L, ll, lo, hi, aim, none, 0, 0, some lo, ⟨hg, by omega, by omega, by decide, (fun c hc => by cases hc), (fun x hx => by cases hx; exact bt_sk hg.blo)⟩, rfl, rfl, rfl, rfl⟩ rfl (by have := hg.h8; omega)) ?_
  exact db_ret (de_tup (da_cons (de_fldO 0 4 C (h.cls 7 _ _ rfl) (de_var 3 C rfl rfl rfl) rfl rfl rfl) (da_cons (de_fldO 0 5 C (h.cls 7 _ _ rfl) (de_var 3 C rfl rfl rfl) rfl rfl rfl) (da_cons (de_var 4 C rfl rfl rfl) da_nil)))) ⟨(by rfl), (by first | exact ⟨[], rfl⟩ | exact ⟨[_], rfl⟩ | exact ⟨[_, _], rfl⟩ | exact ⟨[], by simp⟩)⟩
theorem c_least_at (h : Hd P w K mg base) : FC P w K mg base 23 "least_at" 3 (Pu (R_least_at K)) := by
  refine mk_fc (N := ["nets", "box", "aim", "number", "spot", "tree"]) (ps := ["nets", "box", "aim"]) (V := [3, 3, 3, 3, 3, 3]) (Gs := ["need_nets", "need_box_handing", "need_aim_trees", "greatest_at", "other_way", "times", "LESS_trees"]) (k := 22) (d := dd_least_at) h 83 51 rfl rfl rfl (by decide +kernel) rfl (fun _ _ _ _ _ _ us hl => match us, hl with | [_, _, _], _ => rfl) fun X Z ds μ r μ' C hR hx hl => ?_
  obtain ⟨rfl, rfl, dn, L, ll, lo, hi, aim, v, x, t, ⟨hg, ha, ht, hv⟩, rfl, rfl⟩ := hR
  have hn := hg.hn
  have hal : aim.length = ll.length := by simpa using hg.aiml
  show DB K X Z [some (dn), some (eBox lo hi), some (eR aim), none, none, none] ([]) (defBody (top 104)) _
  refine db_expr (de_callP 0 C (c_need_nets h) rfl (da_cons (de_var 0 C rfl rfl rfl) da_nil) ⟨dn, L, ll, hn, rfl, rfl⟩ rfl (by omega)) ?_
  refine db_expr (de_callP 1 C (c_need_box_handing h) rfl (da_cons (de_var 1 C rfl rfl rfl) (da_cons (de_methP0 C (MO.mc (m_Net_ins h) h 6 2 rfl rfl) (de_ixQ C (de_var 0 C rfl rfl rfl) de_int hn rfl) ⟨L, ll, trivial, rfl, rfl⟩ rfl (by omega)) da_nil)) ⟨lo, hi, hg.box, rfl, rfl⟩ rfl (by omega)) ?_
  refine db_expr (de_callP 2 C (c_need_aim_trees h) rfl (da_cons (de_var 0 C rfl rfl rfl) (da_cons (de_var 2 C rfl rfl rfl) da_nil)) ⟨dn, L, ll, aim, ⟨hn, hg.net, hal⟩, rfl, rfl⟩ rfl (by omega)) ?_
  refine db_asg (de_is (de_callP 3 C (c_greatest_at h) rfl (da_cons (de_var 0 C rfl rfl rfl) (da_cons (de_var 1 C rfl rfl rfl) (da_cons (de_callP 4 C (c_other_way h) rfl (da_cons (de_var 2 C rfl rfl rfl) da_nil) ⟨aim, ⟨by have := hg.net.ll; omega, ha⟩, rfl, rfl⟩ rfl (by omega)) da_nil))) ⟨dn, L, ll, lo, hi, _, hg, rfl, rfl⟩ rfl (by omega)) (by rw [ht])) (dg_tup C (dgs_cons (dg_name 3 C rfl rfl) (dgs_cons (dg_name 4 C rfl rfl) (dgs_cons (dg_name 5 C rfl rfl) dgs_nil))) rfl) ?_
  exact db_ret (de_tup (da_cons (de_callP 5 C (c_times h) rfl (da_cons (de_is (de_glo 6 C rfl (h.cT 6 rfl)) (by rfl : _ = eF (-1))) (da_cons (de_var 3 C rfl rfl rfl) da_nil)) ⟨-1, v, ⟨smN1, hv⟩, rfl, rfl⟩ rfl (by omega)) (da_cons (de_var 4 C rfl rfl rfl) (da_cons (de_var 5 C rfl rfl rfl) da_nil)))) ⟨(by rfl), (by first | exact ⟨[], rfl⟩ | exact ⟨[_], rfl⟩ | exact ⟨[_, _], rfl⟩ | exact ⟨[], by simp⟩)⟩
theorem c_closes (h : Hd P w K mg base) : FC P w K mg base 20 "closes" 5 (Pu (R_closes K)) := by
  refine mk_fc (N := ["nets", "box", "aim", "number", "tree"]) (ps := ["nets", "box", "aim", "number", "tree"]) (V := [3, 3, 3, 3, 3]) (Gs := ["need_nets", "need_box_handing", "need_aim_trees", "is_fraction", "NoNumber", "need_small_trees", "Closing"]) (k := 19) (d := dd_closes) h 84 52 rfl rfl rfl (by decide +kernel) rfl (fun _ _ _ _ _ _ us hl => match us, hl with | [_, _, _, _, _], _ => rfl) fun X Z ds μ r μ' C hR hx hl => ?_
  obtain ⟨rfl, rfl, dn, L, ll, lo, hi, aim, num, tr, ⟨hn, hs, h8, hb, hal, hnum, hd, hcl⟩, rfl, rfl⟩ := hR
  show DB K X Z [some (dn), some (eBox lo hi), some (eR aim), some (eF num), some (eTr tr)] ([]) (defBody (top 105)) _
  refine db_expr (de_callP 0 C (c_need_nets h) rfl (da_cons (de_var 0 C rfl rfl rfl) da_nil) ⟨dn, L, ll, hn, rfl, rfl⟩ rfl (by omega)) ?_
  refine db_expr (de_callP 1 C (c_need_box_handing h) rfl (da_cons (de_var 1 C rfl rfl rfl) (da_cons (de_methP0 C (MO.mc (m_Net_ins h) h 6 2 rfl rfl) (de_ixQ C (de_var 0 C rfl rfl rfl) de_int hn rfl) ⟨L, ll, trivial, rfl, rfl⟩ rfl (by omega)) da_nil)) ⟨lo, hi, hb, rfl, rfl⟩ rfl (by omega)) ?_
  refine db_expr (de_callP 2 C (c_need_aim_trees h) rfl (da_cons (de_var 0 C rfl rfl rfl) (da_cons (de_var 2 C rfl rfl rfl) da_nil)) ⟨dn, L, ll, aim, ⟨hn, hs, hal⟩, rfl, rfl⟩ rfl (by omega)) ?_
  refine db_skip (dt_is (dt_not (dt_val (de_callP 3 C (c_is_fraction h) rfl (da_cons (de_var 3 C rfl rfl rfl) da_nil) ⟨_, trivial, rfl, rfl⟩ rfl (by omega)))) (by rfl)) ?_
  refine db_expr (de_callP 5 C (c_need_small_trees h) rfl (da_cons (de_var 0 C rfl rfl rfl) da_nil) ⟨dn, L, ll, ⟨hn, hs, h8⟩, rfl, rfl⟩ rfl (by omega)) ?_
  exact db_ret (de_methN C (MO.mc (m_is_closed h 8) h 21 6 rfl rfl) (dl_make 6 C (MO.kc (m_Closing_init h) h 6 103 rfl rfl) rfl (da_cons (de_var 0 C rfl rfl rfl) (da_cons (de_var 1 C rfl rfl rfl) (da_cons (de_var 2 C rfl rfl rfl) (da_cons (de_var 3 C rfl rfl rfl) da_nil)))) (fun q => ⟨q, dn, L, ll, lo, hi, aim, num, ⟨hn, hs⟩, rfl, rfl, rfl, rfl⟩) rfl (by omega)) (fun q => (da_cons de_int (da_cons de_int (da_cons (de_var 4 C rfl rfl rfl) da_nil)))) (fun q => ⟨q, dn, L, ll, lo, hi, aim, num, tr, 0, 0, ⟨hd, hb, h8, hnum, hcl⟩, rfl, rfl, rfl, rfl⟩) rfl (by omega)) ⟨rfl, [], rfl⟩
end
end NC

set_option Elab.async false
set_option linter.all false
set_option autoImplicit false
set_option maxRecDepth 100000
set_option maxHeartbeats 4000000
namespace NC
open PySem PySem.Spec PyProof.Rows L2

/-! printed by spec10.py: wanted. -/
section
variable {P : Program} {w : World} {K : PySem.W.Frag} {mg : Str → Option Value} {base : Heap}


abbrev eNets (K : PySem.W.Frag) (L : Lays) (ll : Lay) : D := .lst [eNet K L ll]
abbrev R_need_box_wanted (K : PySem.W.Frag) (ds : List D) (d : D) : Prop := ∃ (L : Lays) (ll : Lay) (lo hi : Rat), BoxOk lo hi ∧ ds = [eNet K L ll, eBox lo hi] ∧ d = .non
abbrev R_need_wish (K : PySem.W.Frag) (ds : List D) (d : D) : Prop := ∃ (L : Lays) (ll : Lay) (w : Node), (w.1.length = ll.length ∧ ll.length ≤ 4) ∧ ds = [eNet K L ll, eSum w] ∧ d = .non
abbrev R_need_small_wanted (K : PySem.W.Frag) (ds : List D) (d : D) : Prop := ∃ (L : Lays) (ll : Lay), (NetOk L ll ∧ hid L ≤ 8) ∧ ds = [eNet K L ll] ∧ d = .non
abbrev eWs (ws : List Node) : D := .lst (ws.map eSum)
/-- wishes over the outs -/
def WsOk (ll : Lay) (ws : List Node) : Prop := ws.length ≤ 8 ∧ ∀ w ∈ ws, w.1.length = ll.length
abbrev R_need_all (K : PySem.W.Frag) (ds : List D) (d : D) : Prop := ∃ (L : Lays) (ll : Lay) (lo hi : Rat) (ws : List Node), (NetOk L ll ∧ hid L ≤ 8 ∧ BoxOk lo hi ∧ WsOk ll ws) ∧ ds = [eNet K L ll, eBox lo hi, eWs ws] ∧ d = .non
abbrev R_need_out (K : PySem.W.Frag) (ds : List D) (d : D) : Prop := ∃ (L : Lays) (ll : Lay) (lo hi : Rat) (o : Nat), (NetOk L ll ∧ hid L ≤ 8 ∧ BoxOk lo hi ∧ o < ll.length) ∧ ds = [eNet K L ll, eBox lo hi, .int (o : Int)] ∧ d = .non
/-- a wish at a point: all small -/
def KpOk (L : Lays) (ll : Lay) (x : Rat) (w : Node) : Prop := SmDot 0 (w.1.zip (outsAt L ll [x])) ∧ Sm (dot w.1 (outsAt L ll [x])) ∧ Sm w.2
abbrev R_keeps (K : PySem.W.Frag) (ds : List D) (d : D) : Prop := ∃ (L : Lays) (ll : Lay) (x : Rat) (w : Node), (SmZ [x] (stk L ll) ∧ KpOk L ll x w) ∧ ds = [eNet K L ll, eR [x], eSum w] ∧ d = .bl (!decide (w.2 < dot w.1 (outsAt L ll [x])))
abbrev R_is_said (ds : List D) (d : D) : Prop := ∃ (w word : Str) (ds' : List D) (m : Int), True ∧ ds = [.tup (.str w :: ds'), .str word, .int m] ∧ d = .bl (decide (((ds'.length + 1 : Nat) : Int) = m) && decide (w = word))

theorem c_need_box_wanted (h : Hd P w K mg base) : FC P w K mg base 6 "need_box_wanted" 2 (Pu (R_need_box_wanted K)) := by
  refine mk_fc (N := ["net", "box"]) (ps := ["net", "box"]) (V := [3, 3]) (Gs := ["is_box", "len", "NoBox"]) (k := 5) (d := dd_need_box_wanted) h 85 53 rfl rfl rfl (by decide +kernel) rfl (fun _ _ _ _ _ _ us hl => match us, hl with | [_, _], _ => rfl) fun X Z ds μ r μ' C hR hx hl => ?_
  obtain ⟨rfl, rfl, L, ll, lo, hi, hb, rfl, rfl⟩ := hR
  show DB K X Z [some (eNet K L ll), some (eBox lo hi)] ([]) (defBody (top 110)) _
  refine db_skip (dt_is (dw_or (dt_not (dt_val (de_callP 0 C (c_is_box h) rfl (da_cons (de_var 1 C rfl rfl rfl) da_nil) ⟨_, _, (by exact hb), rfl, rfl⟩ rfl (by omega)))) fun hc0 => (dw_or1 (dt_cp (de_len 1 C rfl (h.free 0 _ rfl) (de_var 1 C rfl rfl rfl) rfl) (de_methP0 C (MO.mc (m_Net_ins h) h 6 2 rfl rfl) (de_var 0 C rfl rfl rfl) ⟨L, ll, trivial, rfl, rfl⟩ rfl (by omega)) cp_ne))).dt (by rfl)) ?_
  exact db_nil ⟨rfl, [], rfl⟩
theorem c_need_wish (h : Hd P w K mg base) : FC P w K mg base 4 "need_wish" 2 (Pu (R_need_wish K)) := by
  refine mk_fc (N := ["net", "wish"]) (ps := ["net", "wish"]) (V := [3, 3]) (Gs := ["isinstance", "tuple", "len", "NoWish", "is_row", "is_fraction"]) (k := 3) (d := dd_need_wish) h 86 54 rfl rfl rfl (by decide +kernel) rfl (fun _ _ _ _ _ _ us hl => match us, hl with | [_, _], _ => rfl) fun X Z ds μ r μ' C hR hx hl => ?_
  obtain ⟨rfl, rfl, L, ll, w0, ⟨hl2, h4⟩, rfl, rfl⟩ := hR
  show DB K X Z [some (eNet K L ll), some (eSum w0)] ([]) (defBody (top 112)) _
  refine db_skip (dt_is (dw_or (dt_not (dt_val (de_isi 0 C rfl (h.free 4 _ rfl) (de_var 1 C rfl rfl rfl) (de_ty 1 C rfl (h.free 12 _ rfl) bt_tuple) (.tup _) ClsV_tuple (h.kit 2 _ _ _ rfl)))) fun hc0 => (dw_or1 (dt_cp (de_len 2 C rfl (h.free 0 _ rfl) (de_var 1 C rfl rfl rfl) rfl) de_int cp_ne))).dt (by rfl)) ?_
  refine db_skip (dt_is (dw_or (dt_not (dt_val (de_callP 4 C (c_is_row h) rfl (da_cons (de_ixT C (de_var 1 C rfl rfl rfl) de_int rfl) (da_cons (de_methP0 C (MO.mc (m_Net_outs h) h 7 2 rfl rfl) (de_var 0 C rfl rfl rfl) ⟨L, ll, trivial, rfl, rfl⟩ rfl (by omega)) da_nil)) ⟨w0.1, _, ⟨by rw [hl2], by omega⟩, rfl, rfl⟩ rfl (by omega)))) fun hc0 => (dw_or1 (dt_not (dt_val (de_callP 5 C (c_is_fraction h) rfl (da_cons (de_ixT C (de_var 1 C rfl rfl rfl) de_int rfl) da_nil) ⟨w0.2, trivial, rfl, rfl⟩ rfl (by omega)))))).dt (by rfl)) ?_
  exact db_nil ⟨rfl, [], rfl⟩
theorem c_need_small_wanted (h : Hd P w K mg base) : FC P w K mg base 5 "need_small_wanted" 1 (Pu (R_need_small_wanted K)) := by
  refine mk_fc (N := ["net"]) (ps := ["net"]) (V := [3]) (Gs := ["MOST_HIDDEN_wanted", "Large"]) (k := 4) (d := dd_need_small_wanted) h 87 55 rfl rfl rfl (by decide +kernel) rfl (fun _ _ _ _ _ _ us hl => match us, hl with | [_], _ => rfl) fun X Z ds μ r μ' C hR hx hl => ?_
  obtain ⟨rfl, rfl, L, ll, ⟨hs, h8⟩, rfl, rfl⟩ := hR
  show DB K X Z [some (eNet K L ll)] ([]) (defBody (top 113)) _
  refine db_skip (dt_is (dt_cp (de_methP0 C (MO.mc (m_Net_hidden h) h 8 2 rfl rfl) (de_var 0 C rfl rfl rfl) ⟨L, ll, hs, rfl, rfl⟩ rfl (by omega)) (de_glo 0 C rfl (h.cI 6 rfl)) cp_gt) (by simp; omega)) ?_
  exact db_nil ⟨rfl, [], rfl⟩
theorem c_need_all (h : Hd P w K mg base) : FC P w K mg base 7 "need_all" 3 (Pu (R_need_all K)) := by
  refine mk_fc (N := ["net", "box", "wishes", "wish"]) (ps := ["net", "box", "wishes"]) (V := [3, 3, 3, 3]) (Gs := ["need_box_wanted", "isinstance", "list", "tuple", "len", "MOST_WISHES_wanted", "NoWish", "need_wish", "need_small_wanted"]) (k := 6) (d := dd_need_all) h 88 56 rfl rfl rfl (by decide +kernel) rfl (fun _ _ _ _ _ _ us hl => match us, hl with | [_, _, _], _ => rfl) fun X Z ds μ r μ' C hR hx hl => ?_
  obtain ⟨rfl, rfl, L, ll, lo, hi, ws, ⟨hs, h8, hb, hw⟩, rfl, rfl⟩ := hR
  show DB K X Z [some (eNet K L ll), some (eBox lo hi), some (eWs ws), none] ([]) (defBody (top 115)) _
  refine db_expr (de_callP 0 C (c_need_box_wanted h) rfl (da_cons (de_var 0 C rfl rfl rfl) (da_cons (de_var 1 C rfl rfl rfl) da_nil)) ⟨L, ll, lo, hi, hb, rfl, rfl⟩ rfl (by omega)) ?_
  refine db_skip (dt_is (dw_or (dt_not (dt_val (de_isiT 1 C rfl (h.free 4 _ rfl) (de_var 2 C rfl rfl rfl) (de_ty 2 C rfl (h.free 11 _ rfl) bt_list) (de_ty 3 C rfl (h.free 12 _ rfl) bt_tuple) (.lst _) ClsV_list ClsV_tuple h.kitLT))) fun hc0 => (dw_or1 (dt_cp (de_len 4 C rfl (h.free 0 _ rfl) (de_var 2 C rfl rfl rfl) rfl) (de_glo 5 C rfl (h.cI 7 rfl)) cp_gt))).dt (by have := hw.1; simp; omega)) ?_
  refine db_forS ws eSum (fun (_ : Unit) r => ∀ w ∈ r, w.1.length = ll.length) (fun _ => [some (eNet K L ll), some (eBox lo hi), some (eWs ws), none]) (fun _ => []) () C (di_list C (de_var 2 C rfl rfl rfl)) rfl (.some (.some (.some (.none .nil)))) (by exact hw.2) (fun s a r hJ ha => ?_) (fun s hJ => ?_)
  · skip
    refine ⟨_, _, _, (dg_name 3 C rfl rfl), ?_⟩
    refine db_expr (de_callP 7 C (c_need_wish h) rfl (da_cons (de_var 0 C rfl rfl rfl) (da_cons (de_var 3 C rfl rfl rfl) da_nil)) ⟨L, ll, a, ⟨hJ a (by simp), hs.ll.2⟩, rfl, rfl⟩ rfl (by omega)) ?_
    exact db_nil ⟨(), fun w hw => hJ w (List.mem_cons_of_mem _ hw), (.some (.some (.some (.none .nil)))), rfl⟩
  refine db_expr (de_callP 8 C (c_need_small_wanted h) rfl (da_cons (de_var 0 C rfl rfl rfl) da_nil) ⟨L, ll, ⟨hs, h8⟩, rfl, rfl⟩ rfl (by omega)) ?_
  exact db_nil ⟨rfl, [], rfl⟩
theorem c_need_out (h : Hd P w K mg base) : FC P w K mg base 7 "need_out" 3 (Pu (R_need_out K)) := by
  refine mk_fc (N := ["net", "box", "out"]) (ps := ["net", "box", "out"]) (V := [3, 3, 3]) (Gs := ["need_box_wanted", "is_whole", "NoOut", "need_small_wanted"]) (k := 6) (d := dd_need_out) h 89 57 rfl rfl rfl (by decide +kernel) rfl (fun _ _ _ _ _ _ us hl => match us, hl with | [_, _, _], _ => rfl) fun X Z ds μ r μ' C hR hx hl => ?_
  obtain ⟨rfl, rfl, L, ll, lo, hi, o, ⟨hs, h8, hb, ho⟩, rfl, rfl⟩ := hR
  show DB K X Z [some (eNet K L ll), some (eBox lo hi), some (.int (o : Int))] ([]) (defBody (top 116)) _
  refine db_expr (de_callP 0 C (c_need_box_wanted h) rfl (da_cons (de_var 0 C rfl rfl rfl) (da_cons (de_var 1 C rfl rfl rfl) da_nil)) ⟨L, ll, lo, hi, hb, rfl, rfl⟩ rfl (by omega)) ?_
  refine db_skip (dt_is (dw_or (dt_not (dt_val (de_callP 1 C (c_is_whole h) rfl (da_cons (de_var 2 C rfl rfl rfl) da_nil) ⟨_, trivial, rfl, rfl⟩ rfl (by omega)))) fun hc0 => (dw_or1 (dt_not (dt_chain rfl de_int (de_var 2 C rfl rfl rfl) cp_le (de_methP0 C (MO.mc (m_Net_outs h) h 7 2 rfl rfl) (de_var 0 C rfl rfl rfl) ⟨L, ll, trivial, rfl, rfl⟩ rfl (by omega)) cp_lt)))).dt (by simp; omega)) ?_
  refine db_expr (de_callP 3 C (c_need_small_wanted h) rfl (da_cons (de_var 0 C rfl rfl rfl) da_nil) ⟨L, ll, ⟨hs, h8⟩, rfl, rfl⟩ rfl (by omega)) ?_
  exact db_nil ⟨rfl, [], rfl⟩
theorem c_keeps (h : Hd P w K mg base) : FC P w K mg base 9 "keeps" 3 (Pu (R_keeps K)) := by
  refine mk_fc (N := ["net", "spot", "wish"]) (ps := ["net", "spot", "wish"]) (V := [3, 3, 3]) (Gs := ["is_less", "weigh"]) (k := 8) (d := dd_keeps) h 90 58 rfl rfl rfl (by decide +kernel) rfl (fun _ _ _ _ _ _ us hl => match us, hl with | [_, _, _], _ => rfl) fun X Z ds μ r μ' C hR hx hl => ?_
  obtain ⟨rfl, rfl, L, ll, x, w0, ⟨hz, hk⟩, rfl, rfl⟩ := hR
  show DB K X Z [some (eNet K L ll), some (eR [x]), some (eSum w0)] ([]) (defBody (top 117)) _
  exact db_ret (de_notv (de_callP 0 C (c_is_less h) rfl (da_cons (de_ixT C (de_var 2 C rfl rfl rfl) de_int rfl) (da_cons (de_callP 1 C (c_weigh h) rfl (da_cons (de_ixT C (de_var 2 C rfl rfl rfl) de_int rfl) (da_cons (de_methP C (MO.mc (m_Net_outs_at h) h 12 2 rfl rfl) (de_var 0 C rfl rfl rfl) (da_cons (de_var 1 C rfl rfl rfl) da_nil) ⟨L, ll, x, hz, rfl, rfl⟩ rfl (by omega)) da_nil)) ⟨w0.1, _, hk.1, rfl, rfl⟩ rfl (by omega)) da_nil)) ⟨_, _, ⟨(by exact hk.2.2), (by exact hk.2.1)⟩, rfl, rfl⟩ rfl (by omega))) ⟨(by rfl), (by first | exact ⟨[], rfl⟩ | exact ⟨[_], rfl⟩ | exact ⟨[_, _], rfl⟩ | exact ⟨[], by simp⟩)⟩
theorem c_is_said (h : Hd P w K mg base) : FC P w K mg base 1 "is_said" 3 (Pu (R_is_said)) := by
  refine mk_fc (N := ["thing", "word", "many"]) (ps := ["thing", "word", "many"]) (V := [3, 3, 3]) (Gs := ["isinstance", "tuple", "len", "str"]) (k := 0) (d := dd_is_said) h 91 59 rfl rfl rfl (by decide +kernel) rfl (fun _ _ _ _ _ _ us hl => match us, hl with | [_, _, _], _ => rfl) fun X Z ds μ r μ' C hR hx hl => ?_
  obtain ⟨rfl, rfl, w0, word, ds, m, _, rfl, rfl⟩ := hR
  show DB K X Z [some (.tup (.str w0 :: ds)), some (.str word), some (.int m)] ([]) (defBody (top 118)) _
  exact db_ret (de_andv (de_isi 0 C rfl (h.free 4 _ rfl) (de_var 0 C rfl rfl rfl) (de_ty 1 C rfl (h.free 12 _ rfl) bt_tuple) (.tup _) ClsV_tuple (h.kit 2 _ _ _ rfl)) fun hc0 => (de_andv (de_cp (de_len 2 C rfl (h.free 0 _ rfl) (de_var 0 C rfl rfl rfl) rfl) (de_var 2 C rfl rfl rfl) cp_eq) fun hc1 => (de_andv (de_isi 0 C rfl (h.free 4 _ rfl) (de_ixT C (de_var 0 C rfl rfl rfl) de_int (at_zero _ _)) (de_ty 3 C rfl (h.free 10 _ rfl) bt_str) (.str _) ClsV_str (h.kit 3 _ _ _ rfl)) fun hc2 => (de_one (de_cp (de_ixT C (de_var 0 C rfl rfl rfl) de_int (at_zero _ _)) (de_var 1 C rfl rfl rfl) cp_eqS))))) ⟨(by simp), (by first | exact ⟨[], rfl⟩ | exact ⟨[_], rfl⟩ | exact ⟨[_, _], rfl⟩ | exact ⟨[], by simp⟩)⟩

def alwD (w : Node) (t : Tr) (v x : Rat) : D := if w.2 < v then .tup [.str "false", .tup [eF x]] else .tup [.str "true", eTr t]
abbrev R_always_holds (K : PySem.W.Frag) (ds : List D) (d : D) : Prop := ∃ (L : Lays) (ll : Lay) (lo hi : Rat) (w : Node) (t : Tr) (v x : Rat), (GOk K (eNets K L ll) L ll lo hi w.1 ∧ topF lo hi L ll w.1 = (t, some (v, x)) ∧ Sm v ∧ Sm w.2) ∧ ds = [eNet K L ll, eBox lo hi, eSum w] ∧ d = alwD w t v x
abbrev R_shows_always (K : PySem.W.Frag) (ds : List D) (d : D) : Prop := ∃ (L : Lays) (ll : Lay) (lo hi : Rat) (w : Node) (th : D), (NetOk L ll ∧ hid L ≤ 8 ∧ BoxOk lo hi ∧ w.1.length = ll.length ∧ Sm w.2 ∧
    ((∃ tr : Tr, th = .tup [.str "true", eTr tr] ∧ tr.dep ≤ 8 ∧ ClOk K (eNets K L ll) L ll lo hi w.1 w.2 tr 0 0) ∨ (∃ x : Rat, th = .tup [.str "false", .tup [eF x]] ∧ Sm x ∧ lo ≤ x ∧ x ≤ hi ∧ SmZ [x] (stk L ll) ∧ KpOk L ll x w ∧ w.2 < dot w.1 (outsAt L ll [x])))) ∧ ds = [eNet K L ll, eBox lo hi, eSum w, th] ∧ d = .bl true

theorem c_always_holds (h : Hd P w K mg base) : FC P w K mg base 23 "always_holds" 3 (Pu (R_always_holds K)) := by
  refine mk_fc (N := ["net", "box", "wish", "number", "spot", "tree"]) (ps := ["net", "box", "wish"]) (V := [3, 3, 3, 3, 3, 3]) (Gs := ["need_box_wanted", "need_wish", "need_small_wanted", "greatest_at", "is_less"]) (k := 22) (d := dd_always_holds) h 92 60 rfl rfl rfl (by decide +kernel) rfl (fun _ _ _ _ _ _ us hl => match us, hl with | [_, _, _], _ => rfl) fun X Z ds μ r μ' C hR hx hl => ?_
  obtain ⟨rfl, rfl, L, ll, lo, hi, w0, t, v, x, ⟨hg, ht, hv, hw⟩, rfl, rfl⟩ := hR
  show DB K X Z [some (eNet K L ll), some (eBox lo hi), some (eSum w0), none, none, none] ([]) (defBody (top 119)) _
  refine db_expr (de_callP 0 C (c_need_box_wanted h) rfl (da_cons (de_var 0 C rfl rfl rfl) (da_cons (de_var 1 C rfl rfl rfl) da_nil)) ⟨L, ll, lo, hi, hg.box, rfl, rfl⟩ rfl (by omega)) ?_
  refine db_expr (de_callP 1 C (c_need_wish h) rfl (da_cons (de_var 0 C rfl rfl rfl) (da_cons (de_var 2 C rfl rfl rfl) da_nil)) ⟨L, ll, w0, ⟨hg.aiml, hg.net.ll.2⟩, rfl, rfl⟩ rfl (by omega)) ?_
  refine db_expr (de_callP 2 C (c_need_small_wanted h) rfl (da_cons (de_var 0 C rfl rfl rfl) da_nil) ⟨L, ll, ⟨hg.net, hg.h8⟩, rfl, rfl⟩ rfl (by omega)) ?_
  refine db_asg (de_is (de_callP 3 C (c_greatest_at h) rfl (da_cons (de_lst (dl_lst (da_cons (de_var 0 C rfl rfl rfl) da_nil))) (da_cons (de_var 1 C rfl rfl rfl) (da_cons (de_ixT C (de_var 2 C rfl rfl rfl) de_int rfl) da_nil))) ⟨_, L, ll, lo, hi, w0.1, hg, rfl, rfl⟩ rfl (by omega)) (by rw [ht])) (dg_tup C (dgs_cons (dg_name 3 C rfl rfl) (dgs_cons (dg_name 4 C rfl rfl) (dgs_cons (dg_name 5 C rfl rfl) dgs_nil))) rfl) ?_
  refine db_if (dt_val (de_callP 4 C (c_is_less h) rfl (da_cons (de_ixT C (de_var 2 C rfl rfl rfl) de_int rfl) (da_cons (de_var 3 C rfl rfl rfl) da_nil)) ⟨w0.2, v, ⟨hw, hv⟩, rfl, rfl⟩ rfl (by omega))) (fun hc => ?_) (fun hc => ?_)
  · skip
    have hc2 := hc
    exact db_ret (de_tup (da_cons de_str (da_cons (de_var 4 C rfl rfl rfl) da_nil))) ⟨(by rw [alwD, if_pos (by simpa using hc)]; rfl), (by first | exact ⟨[], rfl⟩ | exact ⟨[_], rfl⟩ | exact ⟨[_, _], rfl⟩ | exact ⟨[], by simp⟩)⟩
  · skip
    have hc2 := hc
    refine db_nil ?_
    exact db_ret (de_tup (da_cons de_str (da_cons (de_var 5 C rfl rfl rfl) da_nil))) ⟨(by rw [alwD, if_neg (by simpa using hc)]), (by first | exact ⟨[], rfl⟩ | exact ⟨[_], rfl⟩ | exact ⟨[_, _], rfl⟩ | exact ⟨[], by simp⟩)⟩
theorem c_shows_always (h : Hd P w K mg base) : FC P w K mg base 21 "shows_always" 4 (Pu (R_shows_always K)) := by
  refine mk_fc (N := ["net", "box", "wish", "thing"]) (ps := ["net", "box", "wish", "thing"]) (V := [3, 3, 3, 3]) (Gs := ["need_box_wanted", "need_wish", "need_small_wanted", "is_said", "closes", "is_in", "keeps"]) (k := 20) (d := dd_shows_always) h 93 61 rfl rfl rfl (by decide +kernel) rfl (fun _ _ _ _ _ _ us hl => match us, hl with | [_, _, _, _], _ => rfl) fun X Z ds μ r μ' C hR hx hl => ?_
  obtain ⟨rfl, rfl, L, ll, lo, hi, w0, th, ⟨hs, h8, hb, hl2, hw2, hth⟩, rfl, rfl⟩ := hR
  show DB K X Z [some (eNet K L ll), some (eBox lo hi), some (eSum w0), some (th)] ([]) (defBody (top 120)) _
  refine db_expr (de_callP 0 C (c_need_box_wanted h) rfl (da_cons (de_var 0 C rfl rfl rfl) (da_cons (de_var 1 C rfl rfl rfl) da_nil)) ⟨L, ll, lo, hi, hb, rfl, rfl⟩ rfl (by omega)) ?_
  refine db_expr (de_callP 1 C (c_need_wish h) rfl (da_cons (de_var 0 C rfl rfl rfl) (da_cons (de_var 2 C rfl rfl rfl) da_nil)) ⟨L, ll, w0, ⟨hl2, hs.ll.2⟩, rfl, rfl⟩ rfl (by omega)) ?_
  refine db_expr (de_callP 2 C (c_need_small_wanted h) rfl (da_cons (de_var 0 C rfl rfl rfl) da_nil) ⟨L, ll, ⟨hs, h8⟩, rfl, rfl⟩ rfl (by omega)) ?_
  rcases hth with ⟨tr, rfl, hd, hcl⟩ | ⟨x, rfl, hx, hlo, hhi, hz, hk, hlt⟩
  · skip
    refine db_if1 (dt_is (dt_val (de_callP 3 C (c_is_said h) rfl (da_cons (de_var 3 C rfl rfl rfl) (da_cons de_str (da_cons de_int da_nil))) ⟨_, _, _, _, trivial, rfl, rfl⟩ rfl (by omega))) (by rfl)) ?_
    exact db_ret (de_callP 4 C (c_closes h) rfl (da_cons (de_lst (dl_lst (da_cons (de_var 0 C rfl rfl rfl) da_nil))) (da_cons (de_var 1 C rfl rfl rfl) (da_cons (de_ixT C (de_var 2 C rfl rfl rfl) de_int rfl) (da_cons (de_ixT C (de_var 2 C rfl rfl rfl) de_int rfl) (da_cons (de_ixT C (de_var 3 C rfl rfl rfl) de_int rfl) da_nil))))) ⟨_, L, ll, lo, hi, w0.1, w0.2, tr, ⟨rfl, hs, h8, hb, hl2, hw2, hd, hcl⟩, rfl, rfl⟩ rfl (by omega)) ⟨(by rfl), (by first | exact ⟨[], rfl⟩ | exact ⟨[_], rfl⟩ | exact ⟨[_, _], rfl⟩ | exact ⟨[], by simp⟩)⟩
  · skip
    refine db_skip (dt_is (dt_val (de_callP 3 C (c_is_said h) rfl (da_cons (de_var 3 C rfl rfl rfl) (da_cons de_str (da_cons de_int da_nil))) ⟨_, _, _, _, trivial, rfl, rfl⟩ rfl (by omega))) (by rfl)) ?_
    exact db_ret (de_andv (de_callP 3 C (c_is_said h) rfl (da_cons (de_var 3 C rfl rfl rfl) (da_cons de_str (da_cons de_int da_nil))) ⟨_, _, _, _, trivial, rfl, rfl⟩ rfl (by omega)) fun hc0 => (de_andv (de_callP 5 C (c_is_in h) rfl (da_cons (de_var 1 C rfl rfl rfl) (da_cons (de_ixT C (de_var 3 C rfl rfl rfl) de_int rfl) da_nil)) ⟨lo, hi, x, ⟨hb, hx⟩, rfl, rfl⟩ rfl (by omega)) fun hc1 => (de_one (de_notv (de_callP 6 C (c_keeps h) rfl (da_cons (de_var 0 C rfl rfl rfl) (da_cons (de_ixT C (de_var 3 C rfl rfl rfl) de_int rfl) (da_cons (de_var 2 C rfl rfl rfl) da_nil))) ⟨L, ll, x, w0, ⟨hz, hk⟩, rfl, rfl⟩ rfl (by omega)))))) ⟨(by simp [hlo, hhi, hlt]), (by first | exact ⟨[], rfl⟩ | exact ⟨[_], rfl⟩ | exact ⟨[_, _], rfl⟩ | exact ⟨[], by simp⟩)⟩
end
end NC

set_option Elab.async false
set_option linter.all false
set_option autoImplicit false
set_option maxRecDepth 100000
set_option maxHeartbeats 4000000
namespace NC
open PySem PySem.Spec PyProof.Rows L2

/-! printed by spec11.py: above all. -/
section
variable {P : Program} {w : World} {K : PySem.W.Frag} {mg : Str → Option Value} {base : Heap}


theorem eF_int {z : Int} : D.tup [.int z, .int 1] = eF ((z : Int) : Rat) := by unfold eF; simp
abbrev riseQ (o out k : Nat) : Rat := ((b2n (decide ((k : Int) = (o : Int))) - b2n (decide ((k : Int) = (out : Int))) : Int) : Rat)
def riseL (n o out : Nat) : List Rat := (List.range n).map (riseQ o out)
def othL (n out : Nat) : List Nat := (List.range n).filter fun k => !decide ((k : Int) = (out : Int))
abbrev R_rise_of (K : PySem.W.Frag) (ds : List D) (d : D) : Prop := ∃ (L : Lays) (ll : Lay) (o out : Nat), ll.length ≤ 4 ∧ ds = [eNet K L ll, .int (o : Int), .int (out : Int)] ∧ d = eR (riseL ll.length o out)
abbrev eNats (ns : List Nat) : D := .lst (ns.map fun (k : Nat) => .int (k : Int))
abbrev R_others_of (K : PySem.W.Frag) (ds : List D) (d : D) : Prop := ∃ (L : Lays) (ll : Lay) (out : Nat), ll.length ≤ 4 ∧ ds = [eNet K L ll, .int (out : Int)] ∧ d = eNats (othL ll.length out)
inductive Abv where
  | no (o : Nat) (x : Rat)
  | yes (ts : List Tr)
def eAb : Abv → D
  | .no o x => .tup [.str "false", .int (o : Int), .tup [eF x]]
  | .yes ts => .tup [.str "true", .tup (ts.map eTr)]
/-- by each other out's tree, greatest, point -/
def abF (tf : Nat → Tr × Rat × Rat) : List Nat → List Tr → Abv
  | [], acc => .yes acc
  | o :: r, acc => if 0 < (tf o).2.1 then .no o (tf o).2.2 else abF tf r (acc ++ [(tf o).1])
abbrev R_above_all (K : PySem.W.Frag) (ds : List D) (d : D) : Prop := ∃ (L : Lays) (ll : Lay) (lo hi : Rat) (out : Nat) (tf : Nat → Tr × Rat × Rat), (NetOk L ll ∧ hid L ≤ 8 ∧ BoxOk lo hi ∧ out < ll.length ∧ ∀ o ∈ othL ll.length out, GOk K (eNets K L ll) L ll lo hi (riseL ll.length o out) ∧ topF lo hi L ll (riseL ll.length o out) = ((tf o).1, some ((tf o).2.1, (tf o).2.2)) ∧ Sm (tf o).2.1) ∧ ds = [eNet K L ll, eBox lo hi, .int (out : Int)] ∧ d = eAb (abF tf (othL ll.length out) [])
theorem oth_len (n out : Nat) : (othL n out).length ≤ n := by
  have := List.length_filter_le (fun k : Nat => !decide ((k : Int) = (out : Int))) (List.range n)
  rw [List.length_range] at this
  exact this
theorem oth_lt {n out o : Nat} (h : o ∈ othL n out) : o < n ∧ o ≠ out := by
  have := List.mem_filter.mp h
  simp at this
  omega

theorem c_rise_of (h : Hd P w K mg base) : FC P w K mg base 3 "rise_of" 3 (Pu (R_rise_of K)) := by
  refine mk_fc (N := ["net", "other", "out", "k"]) (ps := ["net", "other", "out"]) (V := [3, 2, 2, 0]) (Gs := ["tuple", "range"]) (k := 2) (d := dd_rise_of) h 94 62 rfl rfl rfl (by decide +kernel) rfl (fun _ _ _ _ _ _ us hl => match us, hl with | [_, _, _], _ => rfl) fun X Z ds μ r μ' C hR hx hl => ?_
  obtain ⟨rfl, rfl, L, ll, o, out, h4, rfl, rfl⟩ := hR
  show DB K X Z [some (eNet K L ll), some (.int (o : Int)), some (.int (out : Int)), none] ([]) (defBody (top 121)) _
  exact db_ret (de_tupleL 0 C rfl (h.free 12 _ rfl) (de_lst (dl_of_dc (V' := [0, 1, 1, 3]) (Gs' := ["int"]) (own := [("k", 3)]) C (by decide +kernel) (dc_map (List.range ll.length) (fun (i : Nat) => .int (i : Int)) (fun k => eF (riseQ o out k)) [0, 1, 1, 3] ["int"] [("k", 3)] C (by decide +kernel) (by decide +kernel) (di_is (di_range (n := ll.length) 1 C rfl (h.free 16 _ rfl) (de_methP0 C (MO.mc (m_Net_outs h) h 7 2 rfl rfl) (de_var 0 C rfl rfl rfl) ⟨L, ll, trivial, rfl, rfl⟩ rfl (by omega)) (by rfl) (by first | rfl | assumption | omega | decide | simp)) (by rfl)) (by simp; omega) fun a ha => ⟨_, _, (by decide), fun _ C' => ⟨(dg_name 3 C' rfl rfl), (de_is (de_tup (da_cons (de_sub (de_intB 0 C' rfl (h.free 8 _ rfl) (de_cp (de_var 3 C' rfl rfl rfl) (de_var 1 C' rfl rfl rfl) cp_eq)) (de_intB 0 C' rfl (h.free 8 _ rfl) (de_cp (de_var 3 C' rfl rfl rfl) (de_var 2 C' rfl rfl rfl) cp_eq))) (da_cons de_int da_nil))) eF_int)⟩⟩)))) ⟨(by simp [riseL, Function.comp_def]), (by first | exact ⟨[], rfl⟩ | exact ⟨[_], rfl⟩ | exact ⟨[_, _], rfl⟩ | exact ⟨[], by simp⟩)⟩
theorem c_others_of (h : Hd P w K mg base) : FC P w K mg base 3 "others_of" 2 (Pu (R_others_of K)) := by
  refine mk_fc (N := ["net", "out", "other"]) (ps := ["net", "out"]) (V := [3, 2, 0]) (Gs := ["range"]) (k := 2) (d := dd_others_of) h 95 63 rfl rfl rfl (by decide +kernel) rfl (fun _ _ _ _ _ _ us hl => match us, hl with | [_, _], _ => rfl) fun X Z ds μ r μ' C hR hx hl => ?_
  obtain ⟨rfl, rfl, L, ll, out, h4, rfl, rfl⟩ := hR
  show DB K X Z [some (eNet K L ll), some (.int (out : Int)), none] ([]) (defBody (top 122)) _
  exact db_ret (de_lst (dl_of_dc (V' := [0, 1, 3]) (Gs' := []) (own := [("other", 2)]) C (by decide +kernel) (dc_filter (List.range ll.length) (fun (i : Nat) => .int (i : Int)) (fun (k : Nat) => .int (k : Int)) (fun (k : Nat) => !decide ((k : Int) = (out : Int))) [0, 1, 3] [] [("other", 2)] C  (by decide +kernel) (by decide +kernel) (di_is (di_range (n := ll.length) 0 C rfl (h.free 16 _ rfl) (de_methP0 C (MO.mc (m_Net_outs h) h 7 2 rfl rfl) (de_var 0 C rfl rfl rfl) ⟨L, ll, trivial, rfl, rfl⟩ rfl (by omega)) (by rfl) (by first | rfl | assumption | omega | decide | simp)) (by rfl)) (by simp; omega) fun a ha => ⟨_, _, (by decide), fun _ C' => ⟨(dg_name 2 C' rfl rfl), (dt_cp (de_var 2 C' rfl rfl rfl) (de_var 1 C' rfl rfl rfl) cp_ne), fun hf => (de_var 2 C' rfl rfl rfl)⟩⟩))) ⟨(by rfl), (by first | exact ⟨[], rfl⟩ | exact ⟨[_], rfl⟩ | exact ⟨[_, _], rfl⟩ | exact ⟨[], by simp⟩)⟩
theorem c_above_all (h : Hd P w K mg base) : FC P w K mg base 23 "above_all" 3 (Pu (R_above_all K)) := by
  refine mk_fc (N := ["net", "box", "out", "trees", "other", "number", "spot", "tree"]) (ps := ["net", "box", "out"]) (V := [3, 3, 3, 3, 3, 3, 3, 3]) (Gs := ["need_out", "others_of", "greatest_at", "rise_of", "is_less", "NOUGHT_wanted", "tuple"]) (k := 22) (d := dd_above_all) h 96 64 rfl rfl rfl (by decide +kernel) rfl (fun _ _ _ _ _ _ us hl => match us, hl with | [_, _, _], _ => rfl) fun X Z ds μ r μ' C hR hx hl => ?_
  obtain ⟨rfl, rfl, L, ll, lo, hi, out, tf, ⟨hs, h8, hb, ho, hall⟩, rfl, rfl⟩ := hR
  have h4 := hs.ll.2
  show DB K X Z [some (eNet K L ll), some (eBox lo hi), some (.int (out : Int)), none, none, none, none, none] ([]) (defBody (top 123)) _
  refine db_expr (de_callP 0 C (c_need_out h) rfl (da_cons (de_var 0 C rfl rfl rfl) (da_cons (de_var 1 C rfl rfl rfl) (da_cons (de_var 2 C rfl rfl rfl) da_nil))) ⟨L, ll, lo, hi, out, ⟨hs, h8, hb, ho⟩, rfl, rfl⟩ rfl (by omega)) ?_
  refine db_own 3 C rfl rfl (dl_lst da_nil) (fun q0 hq0 => ?_)
  refine db_forS (S := List Tr) (othL ll.length out) (fun (k : Nat) => .int (k : Int)) (fun acc r => abF tf r acc = abF tf (othL ll.length out) [] ∧ acc.length + r.length ≤ 4 ∧ ∀ o ∈ r, o ∈ othL ll.length out) (fun _ => [some (eNet K L ll), some (eBox lo hi), some (.int (out : Int)), some (.ref q0), none, none, none, none]) (fun acc => [(q0, .lst (acc.map eTr))]) [] C (di_list C (de_callP 1 C (c_others_of h) rfl (da_cons (de_var 0 C rfl rfl rfl) (da_cons (de_var 2 C rfl rfl rfl) da_nil)) ⟨L, ll, out, h4, rfl, rfl⟩ rfl (by omega))) rfl (.some (.some (.some (.some (.none (.none (.none (.none .nil)))))))) (by refine ⟨rfl, ?_, fun o ho => ho⟩; have := oth_len ll.length out; simp; omega) (fun acc a r hJ ha => ?_) (fun acc hJ => ?_)
  · obtain ⟨h1, h2, h3⟩ := hJ
    obtain ⟨hg, ht, hv⟩ := hall a (h3 a (by simp))
    refine ⟨_, _, _, (dg_name 4 C rfl rfl), ?_⟩
    refine db_asg (de_is (de_callP 2 C (c_greatest_at h) rfl (da_cons (de_lst (dl_lst (da_cons (de_var 0 C rfl rfl rfl) da_nil))) (da_cons (de_var 1 C rfl rfl rfl) (da_cons (de_callP 3 C (c_rise_of h) rfl (da_cons (de_var 0 C rfl rfl rfl) (da_cons (de_var 4 C rfl rfl rfl) (da_cons (de_var 2 C rfl rfl rfl) da_nil))) ⟨L, ll, a, out, h4, rfl, rfl⟩ rfl (by omega)) da_nil))) ⟨_, L, ll, lo, hi, _, hg, rfl, rfl⟩ rfl (by omega)) (by rw [ht])) (dg_tup C (dgs_cons (dg_name 5 C rfl rfl) (dgs_cons (dg_name 6 C rfl rfl) (dgs_cons (dg_name 7 C rfl rfl) dgs_nil))) rfl) ?_
    refine db_if (dt_val (de_callP 4 C (c_is_less h) rfl (da_cons (de_is (de_glo 5 C rfl (h.cT 7 rfl)) (by rfl : _ = eF (0))) (da_cons (de_var 5 C rfl rfl rfl) da_nil)) ⟨0, _, ⟨sm0, hv⟩, rfl, rfl⟩ rfl (by omega))) (fun hc => ?_) (fun hc => ?_)
    · have hp : 0 < (tf a).2.1 := by simpa using hc
      rw [abF, if_pos hp] at h1
      rw [← h1]
      exact db_ret (de_tup (da_cons de_str (da_cons (de_var 4 C rfl rfl rfl) (da_cons (de_var 6 C rfl rfl rfl) da_nil)))) ⟨(by rfl), (by first | exact ⟨[], rfl⟩ | exact ⟨[_], rfl⟩ | exact ⟨[_, _], rfl⟩ | exact ⟨[], by simp⟩)⟩
    · have hp : ¬ 0 < (tf a).2.1 := by simpa using hc
      rw [abF, if_neg hp] at h1
      refine db_nil ?_
      refine db_app 0 C (de_var 3 C rfl rfl rfl) rfl (de_var 7 C rfl rfl rfl) rfl (by simp at h2 ⊢; omega) ?_
      exact db_nil ⟨acc ++ [(tf a).1], ⟨h1, by simp at h2 ⊢; omega, fun o ho => h3 o (by simp [ho])⟩, (.some (.some (.some (.some (.none (.none (.none (.none .nil)))))))), by simp⟩
  · have h1 : Abv.yes acc = _ := hJ.1
    rw [← h1]
    exact db_ret (de_tup (da_cons de_str (da_cons (de_tupleO 0 6 C rfl (h.free 12 _ rfl) (de_var 3 C rfl rfl rfl) rfl) da_nil))) ⟨(by rfl), (by first | exact ⟨[], rfl⟩ | exact ⟨[_], rfl⟩ | exact ⟨[_, _], rfl⟩ | exact ⟨[], by simp⟩)⟩

theorem pass_len (b : Bool) (l : Lay) (xs : List Rat) : (pass b l xs).length = l.length := by simp [pass]
theorem outs_len (L : Lays) (ll : Lay) (xs : List Rat) : (outsAt L ll xs).length = ll.length := by
  unfold outsAt outsZ stk
  rw [List.foldl_append]
  exact pass_len false ll _
theorem at_getD {xs : List Rat} {i : Nat} (h : i < xs.length) : atI (xs.map eF) (i : Int) = some (eF (xs.getD i 0)) := by
  unfold atI ixN
  have h1 : (0 : Int) ≤ (i : Int) := by omega
  have e : xs[i]? = some xs[i] := List.getElem?_eq_getElem h
  simp [h]
/-- what is told of an out above all others is let by -/
def AbOk (K : PySem.W.Frag) (L : Lays) (ll : Lay) (lo hi : Rat) (out : Nat) : Abv → Prop
  | .yes ts => ts.length = (othL ll.length out).length ∧ ∀ q ∈ (othL ll.length out).zip ts, q.2.dep ≤ 8 ∧ ClOk K (eNets K L ll) L ll lo hi (riseL ll.length q.1 out) 0 q.2 0 0
  | .no o x => o ∈ othL ll.length out ∧ Sm x ∧ lo ≤ x ∧ x ≤ hi ∧ SmZ [x] (stk L ll) ∧ Sm ((outsAt L ll [x]).getD out 0) ∧ Sm ((outsAt L ll [x]).getD o 0) ∧ (outsAt L ll [x]).getD out 0 < (outsAt L ll [x]).getD o 0
abbrev R_shows_above (K : PySem.W.Frag) (ds : List D) (d : D) : Prop := ∃ (L : Lays) (ll : Lay) (lo hi : Rat) (out : Nat) (z : Abv), (NetOk L ll ∧ hid L ≤ 8 ∧ BoxOk lo hi ∧ out < ll.length ∧ AbOk K L ll lo hi out z) ∧ ds = [eNet K L ll, eBox lo hi, .int (out : Int), eAb z] ∧ d = .bl true
theorem in_nats {os : List Nat} {o : Nat} (h : o ∈ os) : inV (.int (o : Int)) (os.map fun (k : Nat) => L2.V.int (k : Int)) = true := by
  unfold inV
  rw [List.any_eq_true]
  exact ⟨.int (o : Int), List.mem_map.mpr ⟨o, h, rfl⟩, by simp [eqV]⟩
theorem zs_items {os : List Nat} : (eNats os).items = some ((os.map fun (k : Nat) => L2.V.int (k : Int)).map D.v) := by
  show some _ = some _
  rw [List.map_map]; rfl

theorem c_shows_above (h : Hd P w K mg base) : FC P w K mg base 21 "shows_above" 4 (Pu (R_shows_above K)) := by
  refine mk_fc (N := ["net", "box", "out", "thing", "others", "rises", "found", "other", "rise", "tree"]) (ps := ["net", "box", "out", "thing"]) (V := [2, 2, 2, 3, 3, 3, 3, 0, 0, 0]) (Gs := ["need_out", "others_of", "is_said", "isinstance", "tuple", "len", "all", "zip", "is_whole", "is_in", "is_less"]) (k := 20) (d := dd_shows_above) h 97 65 rfl rfl rfl (by decide +kernel) rfl (fun _ _ _ _ _ _ us hl => match us, hl with | [_, _, _, _], _ => rfl) fun X Z ds μ r μ' C hR hx hl => ?_
  obtain ⟨rfl, rfl, L, ll, lo, hi, out, z, ⟨hs, h8, hb, ho, hz⟩, rfl, rfl⟩ := hR
  have h4 := hs.ll.2
  show DB K X Z [some (eNet K L ll), some (eBox lo hi), some (.int (out : Int)), some (eAb z), none, none, none, none, none, none] ([]) (defBody (top 124)) _
  refine db_expr (de_callP 0 C (c_need_out h) rfl (da_cons (de_var 0 C rfl rfl rfl) (da_cons (de_var 1 C rfl rfl rfl) (da_cons (de_var 2 C rfl rfl rfl) da_nil))) ⟨L, ll, lo, hi, out, ⟨hs, h8, hb, ho⟩, rfl, rfl⟩ rfl (by omega)) ?_
  refine db_set 4 C rfl rfl (de_callP 1 C (c_others_of h) rfl (da_cons (de_var 0 C rfl rfl rfl) (da_cons (de_var 2 C rfl rfl rfl) da_nil)) ⟨L, ll, out, h4, rfl, rfl⟩ rfl (by omega)) ?_
  cases z with
  | yes ts =>
    obtain ⟨hl2, hq⟩ := hz
    show DB K X Z [some (eNet K L ll), some (eBox lo hi), some (.int (out : Int)), some (.tup [.str "true", .tup (ts.map eTr)]), some (eNats (othL ll.length out)), none, none, none, none, none] [] _ _
    refine db_if1 (dt_is (dt_val (de_callP 2 C (c_is_said h) rfl (da_cons (de_var 3 C rfl rfl rfl) (da_cons de_str (da_cons de_int da_nil))) ⟨_, _, _, _, trivial, rfl, rfl⟩ rfl (by omega))) (by rfl)) ?_
    refine db_skip (dt_is (dw_or (dt_not (dt_val (de_isi 3 C rfl (h.free 4 _ rfl) (de_ixT C (de_var 3 C rfl rfl rfl) de_int rfl) (de_ty 4 C rfl (h.free 12 _ rfl) bt_tuple) (.tup _) ClsV_tuple (h.kit 2 _ _ _ rfl)))) fun hc0 => (dw_or1 (dt_cp (de_len 5 C rfl (h.free 0 _ rfl) (de_ixT C (de_var 3 C rfl rfl rfl) de_int rfl) rfl) (de_len 5 C rfl (h.free 0 _ rfl) (de_var 4 C rfl rfl rfl) rfl) cp_ne))).dt (by simp [hl2])) ?_
    refine db_setDcF (V' := [1, 0, 1, 0, 0, 0, 0, 3, 0, 0]) (Gs' := ["rise_of"]) (own := [("other", 7)]) 5 C (by decide +kernel) rfl rfl (by simp) (dc_map (othL ll.length out) (fun (k : Nat) => .int (k : Int)) (fun k => eR (riseL ll.length k out)) [1, 0, 1, 0, 0, 0, 0, 3, 0, 0] ["rise_of"] [("other", 7)] C (by decide +kernel) (by decide +kernel) (di_list C (de_var 4 C rfl rfl rfl)) (by have := oth_len ll.length out; omega) fun a ha => ⟨_, _, (by decide), fun _ C' => ⟨(dg_name 7 C' rfl rfl), (de_callP 0 C' (c_rise_of h) rfl (da_cons (de_var 0 C' rfl rfl rfl) (da_cons (de_var 7 C' rfl rfl rfl) (da_cons (de_var 2 C' rfl rfl rfl) da_nil))) ⟨L, ll, a, out, h4, rfl, rfl⟩ rfl (by omega))⟩⟩) ?_
    exact db_ret (de_all 6 C rfl (h.free 5 _ rfl) (de_is (de_lst (dl_of_dc (V' := [1, 1, 0, 0, 0, 0, 0, 0, 3, 3]) (Gs' := ["closes", "NOUGHT_wanted"]) (own := [("rise", 8), ("tree", 9)]) C (by decide +kernel) (dc_map ((othL ll.length out).zip ts) (fun q => .tup [eR (riseL ll.length q.1 out), eTr q.2]) (fun _ => .bl true) [1, 1, 0, 0, 0, 0, 0, 0, 3, 3] ["closes", "NOUGHT_wanted"] [("rise", 8), ("tree", 9)] C (by decide +kernel) (by decide +kernel) (di_is (di_zip 7 C rfl (h.free 14 _ rfl) (de_var 5 C rfl rfl rfl) (de_ixT C (de_var 3 C rfl rfl rfl) de_int rfl) rfl rfl) (zip_map _ _ _ _)) (by have := oth_len ll.length out; simp; omega) fun a ha => ⟨_, _, (by decide), fun _ C' => ⟨(dg_tup C' (dgs_cons (dg_name 8 C' rfl rfl) (dgs_cons (dg_name 9 C' rfl rfl) dgs_nil)) rfl), (de_callP 0 C' (c_closes h) rfl (da_cons (de_lst (dl_lst (da_cons (de_var 0 C' rfl rfl rfl) da_nil))) (da_cons (de_var 1 C' rfl rfl rfl) (da_cons (de_var 8 C' rfl rfl rfl) (da_cons (de_is (de_glo 1 C' rfl (h.cT 7 rfl)) (by rfl : _ = eF (0))) (da_cons (de_var 9 C' rfl rfl rfl) da_nil))))) ⟨_, L, ll, lo, hi, riseL ll.length a.1 out, 0, a.2, ⟨rfl, hs, h8, hb, by simp [riseL], sm0, (hq a ha).1, (hq a ha).2⟩, rfl, rfl⟩ rfl (by omega))⟩⟩))) (mapB _ _))) ⟨(by simp), (by first | exact ⟨[], rfl⟩ | exact ⟨[_], rfl⟩ | exact ⟨[_, _], rfl⟩ | exact ⟨[], by simp⟩)⟩
  | no o x =>
    obtain ⟨ho2, hx, hlo, hhi, hsz, s1, s2, hlt⟩ := hz
    have hol := outs_len L ll [x]
    show DB K X Z [some (eNet K L ll), some (eBox lo hi), some (.int (out : Int)), some (.tup [.str "false", .int (o : Int), .tup [eF x]]), some (eNats (othL ll.length out)), none, none, none, none, none] [] _ _
    refine db_skip (dt_is (dt_val (de_callP 2 C (c_is_said h) rfl (da_cons (de_var 3 C rfl rfl rfl) (da_cons de_str (da_cons de_int da_nil))) ⟨_, _, _, _, trivial, rfl, rfl⟩ rfl (by omega))) (by rfl)) ?_
    refine db_skip (dt_is (dw_or (dt_not (dt_val (de_callP 2 C (c_is_said h) rfl (da_cons (de_var 3 C rfl rfl rfl) (da_cons de_str (da_cons de_int da_nil))) ⟨_, _, _, _, trivial, rfl, rfl⟩ rfl (by omega)))) fun hc0 => (dw_or (dt_not (dt_val (de_callP 8 C (c_is_whole h) rfl (da_cons (de_ixT C (de_var 3 C rfl rfl rfl) de_int rfl) da_nil) ⟨_, trivial, rfl, rfl⟩ rfl (by omega)))) fun hc1 => (dw_or1 (dt_cp (de_ixT C (de_var 3 C rfl rfl rfl) de_int rfl) (de_var 4 C rfl rfl rfl) (cp_notin (zs := ((othL ll.length out).map fun (k : Nat) => L2.V.int (k : Int))) C (by exact zs_items) rfl (by rw [List.all_map]; simp [flatV])))))).dt (by rw [in_nats ho2]; rfl)) ?_
    refine db_skip (dt_is (dt_not (dt_val (de_callP 9 C (c_is_in h) rfl (da_cons (de_var 1 C rfl rfl rfl) (da_cons (de_ixT C (de_var 3 C rfl rfl rfl) de_int rfl) da_nil)) ⟨lo, hi, x, ⟨hb, hx⟩, rfl, rfl⟩ rfl (by omega)))) (by simp [hlo, hhi])) ?_
    refine db_set 6 C rfl rfl (de_methP C (MO.mc (m_Net_outs_at h) h 12 2 rfl rfl) (de_var 0 C rfl rfl rfl) (da_cons (de_ixT C (de_var 3 C rfl rfl rfl) de_int rfl) da_nil) ⟨L, ll, x, hsz, rfl, rfl⟩ rfl (by omega)) ?_
    exact db_ret (de_callP 10 C (c_is_less h) rfl (da_cons (de_ixT C (de_var 6 C rfl rfl rfl) (de_var 2 C rfl rfl rfl) (by exact at_getD (by omega))) (da_cons (de_ixT C (de_var 6 C rfl rfl rfl) (de_ixT C (de_var 3 C rfl rfl rfl) de_int rfl) (by exact at_getD (by have := oth_lt ho2; omega))) da_nil)) ⟨_, _, ⟨s1, s2⟩, rfl, rfl⟩ rfl (by omega)) ⟨(by rw [decide_eq_true hlt]), (by first | exact ⟨[], rfl⟩ | exact ⟨[_], rfl⟩ | exact ⟨[_, _], rfl⟩ | exact ⟨[], by simp⟩)⟩
end
end NC

set_option Elab.async false
set_option linter.all false
set_option autoImplicit false
set_option maxRecDepth 100000
set_option maxHeartbeats 4000000
namespace NC
open PySem PySem.Spec PyProof.Rows L2

/-! printed by spec12.py: the search. -/
section
variable {P : Program} {w : World} {K : PySem.W.Frag} {mg : Str → Option Value} {base : Heap}


abbrev nsH : List Str := ["net", "bounds", "desired"]
abbrev eSea (K : PySem.W.Frag) (L : Lays) (ll : Lay) (lo hi : Rat) (ws : List Node) : D := .ins (He.ga K "Search") nsH [eNet K L ll, eBox lo hi, eWs ws]
/-- a wish over the outs as one over the ins -/
def ledZ (f : Aff) (l : List (Rat × Aff)) : Aff := l.foldl (fun f p => (f.1 + p.1 * p.2.1, f.2 - p.1 * p.2.2)) f
def ledW (as : List Aff) (w : Node) : Aff := ledZ (0, w.2) (w.1.zip as)
def SmLed : Aff → List (Rat × Aff) → Prop
  | f, [] => SmA f
  | f, (w, a) :: l => SmA f ∧ Sm w ∧ SmA a ∧ SmA (w * a.1, w * a.2) ∧ SmLed (f.1 + w * a.1, f.2 - w * a.2) l
def ledL (L : Lays) (ll : Lay) (ws : List Node) (p : Nat) : List Aff := ws.map (ledW (outA L ll p))
/-- all that is needed of a net, a box, wishes -/
structure SOk (K : PySem.W.Frag) (L : Lays) (ll : Lay) (lo hi : Rat) (ws : List Node) : Prop where
  net : NetOk L ll
  h8 : hid L ≤ 8
  box : BoxOk lo hi
  blo : Sk lo
  bhi : Sk hi
  wsl : WsOk ll ws
  case : ∀ p, p < 2 ^ hid L → CaseOk K (eNets K L ll) L ll p
  own : ∀ p, p < 2 ^ hid L → ∀ a ∈ hidA L p, SkA a
  led : ∀ p, p < 2 ^ hid L → ∀ w ∈ ws, SmLed (0, w.2) (w.1.zip (outA L ll p)) ∧ SkA (ledW (outA L ll p) w)
abbrev R_Search_init (K : PySem.W.Frag) : Con := fun ds μ d μ' => ∃ (q : Addr) (L : Lays) (ll : Lay) (lo hi : Rat) (ws : List Node), (NetOk L ll ∧ hid L ≤ 8 ∧ BoxOk lo hi ∧ WsOk ll ws) ∧ ds = [.ref q, eNet K L ll, eBox lo hi, eWs ws] ∧ μ = [(q, .ins (He.ga K "Search") [] [])] ∧ d = .non ∧ μ' = [(q, .ins (He.ga K "Search") nsH [eNet K L ll, eBox lo hi, eWs ws])]
abbrev R_led_in (K : PySem.W.Frag) (ds : List D) (d : D) : Prop := ∃ (L : Lays) (ll : Lay) (lo hi : Rat) (ws : List Node) (p : Nat), (SOk K L ll lo hi ws ∧ p < 2 ^ hid L) ∧ ds = [eSea K L ll lo hi ws, .int (p : Int)] ∧ d = eAs (ledL L ll ws p)
def scase (lo hi : Rat) (L : Lays) (ll : Lay) (ws : List Node) (p m : Nat) : List Aff := if m = hid L then caseW lo hi L p m ++ ledL L ll ws p else caseW lo hi L p m
abbrev R_case (K : PySem.W.Frag) (ds : List D) (d : D) : Prop := ∃ (L : Lays) (ll : Lay) (lo hi : Rat) (ws : List Node) (p m : Nat), (SOk K L ll lo hi ws ∧ p < 2 ^ hid L ∧ m ≤ hid L) ∧ ds = [eSea K L ll lo hi ws, .int (p : Int), .int (m : Int)] ∧ d = eAs (scase lo hi L ll ws p m)

theorem m_Search_init (h : Hd P w K mg base) : MO P w K mg base 8 ("Search", some "__init__") 4 (R_Search_init K) := by
  refine mk_mo (N := ["self", "net", "box", "wishes"]) (ps := ["self", "net", "box", "wishes"]) (V := [3, 3, 3, 3]) (Gs := ["need_all", "list"]) (k := 7) (d := dd_Search_init) h 98 rfl  rfl (by decide +kernel) rfl (fun _ _ _ _ _ _ us hl => match us, hl with | [_, _, _, _], _ => rfl) fun X Z ds μ r μ' C hR hx hl => ?_
  obtain ⟨q, L, ll, lo, hi, ws, ⟨hs, h8, hb, hw⟩, rfl, rfl, rfl, rfl⟩ := hR
  show DB K X Z [some (.ref q), some (eNet K L ll), some (eBox lo hi), some (eWs ws)] ([(q, .ins (He.ga K "Search") [] [])]) (defBody (inClass (top 125) 0)) _
  refine db_expr (de_callP 0 C (c_need_all h) rfl (da_cons (de_var 1 C rfl rfl rfl) (da_cons (de_var 2 C rfl rfl rfl) (da_cons (de_var 3 C rfl rfl rfl) da_nil))) ⟨L, ll, lo, hi, ws, ⟨hs, h8, hb, hw⟩, rfl, rfl⟩ rfl (by omega)) ?_
  refine db_fldN 0 C (ClsD.part (ns := (["net"] : List Str)) (ms := (["bounds", "desired"] : List Str)) (h.cls 8 _ _ rfl)) (de_var 1 C rfl rfl rfl) (de_var 0 C rfl rfl rfl) rfl ?_
  refine db_fldN 0 C (ClsD.part (ns := (["net", "bounds"] : List Str)) (ms := (["desired"] : List Str)) (h.cls 8 _ _ rfl)) (de_var 2 C rfl rfl rfl) (de_var 0 C rfl rfl rfl) rfl ?_
  refine db_fldN 0 C (h.cls 8 _ _ rfl) (de_lst (dl_list 1 C rfl (h.free 11 _ rfl) (de_var 3 C rfl rfl rfl) rfl)) (de_var 0 C rfl rfl rfl) rfl ?_
  exact db_nil ⟨rfl, [], rfl⟩
theorem m_Search_led_in (h : Hd P w K mg base) : MO P w K mg base 7 ("Search", some "led_in") 2 (Pu (R_led_in K)) := by
  refine mk_mo (N := ["self", "pattern", "tops", "found", "weights", "number", "row", "by", "more", "beyond", "here", "there"]) (ps := ["self", "pattern"]) (V := [3, 3, 3, 3, 3, 3, 3, 2, 3, 3, 0, 0]) (Gs := ["sums_by", "NOUGHT_wanted", "len", "zip", "minus", "times", "tuple"]) (k := 6) (d := dd_Search_led_in) h 99 rfl  rfl (by decide +kernel) rfl (fun _ _ _ _ _ _ us hl => match us, hl with | [_, _], _ => rfl) fun X Z ds μ r μ' C hR hx hl => ?_
  obtain ⟨rfl, rfl, L, ll, lo, hi, ws, p, ⟨hs, hp⟩, rfl, rfl⟩ := hR
  have hc := hs.case p hp
  show DB K X Z [some (eSea K L ll lo hi ws), some (.int (p : Int)), none, none, none, none, none, none, none, none, none, none] ([]) (defBody (inClass (top 125) 1)) _
  refine db_set 2 C rfl rfl (de_ixL C (de_callP 0 C (c_sums_by h) rfl (da_cons (de_fld 0 C (h.cls 8 _ _ rfl) (de_var 0 C rfl rfl rfl) rfl rfl) (da_cons (de_var 1 C rfl rfl rfl) da_nil)) ⟨L, ll, p, ⟨hs.net, hp, hc.2.2.2⟩, rfl, rfl⟩ rfl (by omega)) (de_neg de_int) (by rw [sumsBy_app]; exact at_last _ _ _)) ?_
  refine db_own 3 C rfl rfl (dl_lst da_nil) (fun q0 hq0 => ?_)
  refine db_forS (S := List Aff) ws eSum (fun acc r => acc ++ r.map (ledW (outA L ll p)) = ledL L ll ws p ∧ (∀ w ∈ r, w ∈ ws) ∧ acc.length + r.length ≤ 8) (fun _ => [some (eSea K L ll lo hi ws), some (.int (p : Int)), some (eAs (outA L ll p)), some (.ref q0), none, none, none, none, none, none, none, none]) (fun acc => [(q0, .lst (acc.map eA))]) [] C (di_list C (de_fld 2 C (h.cls 8 _ _ rfl) (de_var 0 C rfl rfl rfl) rfl rfl)) rfl (.some (.some (.some (.some (.none (.none (.none (.none (.none (.none (.none (.none .nil)))))))))))) (by exact ⟨rfl, fun w hw => hw, by have := hs.wsl.1; simp; omega⟩) (fun acc w r hJ ha => ?_) (fun acc hJ => ?_)
  · obtain ⟨h1, h2, h3⟩ := hJ
    have hw := hs.led p hp w (h2 w (by simp))
    refine ⟨_, _, _, (dg_tup C (dgs_cons (dg_name 4 C rfl rfl) (dgs_cons (dg_name 5 C rfl rfl) dgs_nil)) rfl), ?_⟩
    refine db_set 6 C rfl rfl (de_lst (dl_rep (n := 1) (de_lst (dl_lst (da_cons (de_is (de_glo 1 C rfl (h.cT 7 rfl)) (by rfl : _ = eF (0))) da_nil))) (de_len 2 C rfl (h.free 0 _ rfl) (de_fld 1 C (h.cls 8 _ _ rfl) (de_var 0 C rfl rfl rfl) rfl rfl) rfl) (by first | rfl | assumption | omega | decide | simp) (by first | rfl | assumption | omega | decide | simp))) ?_
    refine db_forS (S := Aff) (w.1.zip (outA L ll p)) (fun q => .tup [eF q.1, eA q.2]) (fun f l => SmLed f l ∧ ledZ f l = ledW (outA L ll p) w) (fun f => [some (eSea K L ll lo hi ws), some (.int (p : Int)), some (eAs (outA L ll p)), some (.ref q0), some (eR w.1), some (eF f.2), some (.lst [eF f.1]), none, none, none, none, none]) (fun _ => [(q0, .lst (acc.map eA))]) (0, w.2) C (di_is (di_zip 3 C rfl (h.free 14 _ rfl) (de_var 4 C rfl rfl rfl) (de_var 2 C rfl rfl rfl) rfl rfl) (zip_map _ _ _ _)) rfl (.some (.some (.some (.some (.some (.some (.some (.none (.none (.none (.none (.none .nil)))))))))))) (by exact ⟨hw.1, rfl⟩) (fun f z l hK ha2 => ?_) (fun f hK => ?_)
    · obtain ⟨⟨k1, k2, k3, k4, k5⟩, e⟩ := hK
      refine ⟨_, _, _, (dg_tup C (dgs_cons (dg_name 7 C rfl rfl) (dgs_cons (dg_tup C (dgs_cons (dg_name 8 C rfl rfl) (dgs_cons (dg_name 9 C rfl rfl) dgs_nil)) rfl) dgs_nil)) rfl), ?_⟩
      refine db_setDcF (V' := [0, 0, 0, 0, 0, 0, 0, 1, 0, 0, 3, 3]) (Gs' := ["plus", "times"]) (own := [("here", 10), ("there", 11)]) 6 C (by decide +kernel) rfl rfl (by simp) (dc_map [()] (fun _ => .tup [eF f.1, eF z.2.1]) (fun _ => eF (f.1 + z.1 * z.2.1)) [0, 0, 0, 0, 0, 0, 0, 1, 0, 0, 3, 3] ["plus", "times"] [("here", 10), ("there", 11)] C (by decide +kernel) (by decide +kernel) (di_is (di_zip 3 C rfl (h.free 14 _ rfl) (de_var 6 C rfl rfl rfl) (de_var 8 C rfl rfl rfl) rfl rfl) (by rfl)) (by first | rfl | assumption | omega | decide | simp) fun a ha => ⟨_, _, (by decide), fun _ C' => ⟨(dg_tup C' (dgs_cons (dg_name 10 C' rfl rfl) (dgs_cons (dg_name 11 C' rfl rfl) dgs_nil)) rfl), (de_callP 0 C' (c_plus h) rfl (da_cons (de_var 10 C' rfl rfl rfl) (da_cons (de_callP 1 C' (c_times h) rfl (da_cons (de_var 7 C' rfl rfl rfl) (da_cons (de_var 11 C' rfl rfl rfl) da_nil)) ⟨z.1, z.2.1, ⟨k2, k3.1⟩, rfl, rfl⟩ rfl (by omega)) da_nil)) ⟨f.1, z.1 * z.2.1, ⟨k1.1, k4.1⟩, rfl, rfl⟩ rfl (by omega))⟩⟩) ?_
      refine db_set 5 C rfl rfl (de_callP 4 C (c_minus h) rfl (da_cons (de_var 5 C rfl rfl rfl) (da_cons (de_callP 5 C (c_times h) rfl (da_cons (de_var 7 C rfl rfl rfl) (da_cons (de_var 9 C rfl rfl rfl) da_nil)) ⟨z.1, z.2.2, ⟨k2, k3.2⟩, rfl, rfl⟩ rfl (by omega)) da_nil)) ⟨f.2, z.1 * z.2.2, ⟨k1.2, k4.2⟩, rfl, rfl⟩ rfl (by omega)) ?_
      exact db_nil ⟨(f.1 + z.1 * z.2.1, f.2 - z.1 * z.2.2), ⟨k5, e⟩, (.some (.some (.some (.some (.some (.some (.some (.none (.none (.none (.none (.none .nil)))))))))))), rfl⟩
    · have hf : f = ledW (outA L ll p) w := hK.2
      refine db_app 0 C (de_var 3 C rfl rfl rfl) rfl (de_tup (da_cons (de_tupleL 6 C rfl (h.free 12 _ rfl) (de_var 6 C rfl rfl rfl)) (da_cons (de_var 5 C rfl rfl rfl) da_nil))) rfl (by simp; omega) ?_
      exact db_nil ⟨acc ++ [f], ⟨by rw [← h1, hf]; simp, fun w hw => h2 w (by simp [hw]), by simp at h3 ⊢; omega⟩, (.some (.some (.some (.some (.none (.none (.none (.none (.none (.none (.none (.none .nil)))))))))))), by simp⟩
  · have h1 : acc = ledL L ll ws p := by simpa using hJ.1
    refine db_freeze (xs := acc.map eA) 3 0 rfl rfl hq0 ?_
    rw [h1]
    exact db_ret (de_var 3 C rfl rfl rfl) ⟨(by rfl), (by first | exact ⟨[], rfl⟩ | exact ⟨[_], rfl⟩ | exact ⟨[_, _], rfl⟩ | exact ⟨[], by simp⟩)⟩
theorem m_Search_case (h : Hd P w K mg base) : MO P w K mg base 10 ("Search", some "case") 3 (Pu (R_case K)) := by
  refine mk_mo (N := ["self", "pattern", "decided", "found"]) (ps := ["self", "pattern", "decided"]) (V := [3, 3, 3, 3]) (Gs := ["wishes_by"]) (k := 9) (d := dd_Search_case) h 100 rfl  rfl (by decide +kernel) rfl (fun _ _ _ _ _ _ us hl => match us, hl with | [_, _, _], _ => rfl) fun X Z ds μ r μ' C hR hx hl => ?_
  obtain ⟨rfl, rfl, L, ll, lo, hi, ws, p, m, ⟨hs, hp, hm⟩, rfl, rfl⟩ := hR
  have hc := hs.case p hp
  show DB K X Z [some (eSea K L ll lo hi ws), some (.int (p : Int)), some (.int (m : Int)), none] ([]) (defBody (inClass (top 125) 2)) _
  refine db_set 3 C rfl rfl (de_callP 0 C (c_wishes_by h) rfl (da_cons (de_lst (dl_lst (da_cons (de_fld 0 C (h.cls 8 _ _ rfl) (de_var 0 C rfl rfl rfl) rfl rfl) da_nil))) (da_cons (de_fld 1 C (h.cls 8 _ _ rfl) (de_var 0 C rfl rfl rfl) rfl rfl) (da_cons (de_var 1 C rfl rfl rfl) (da_cons (de_var 2 C rfl rfl rfl) da_nil)))) ⟨_, L, ll, lo, hi, p, m, ⟨hc, hs.box, hm⟩, rfl, rfl⟩ rfl (by omega)) ?_
  by_cases hm2 : m = hid L
  · rw [scase, if_pos hm2]
    refine db_if1 (dt_is (dt_cp (de_var 2 C rfl rfl rfl) (de_methP0 C (MO.mc (m_Net_hidden h) h 8 2 rfl rfl) (de_fld 0 C (h.cls 8 _ _ rfl) (de_var 0 C rfl rfl rfl) rfl rfl) ⟨L, ll, hs.net, rfl, rfl⟩ rfl (by omega)) cp_eq) (by simp [hm2])) ?_
    refine db_set 3 C rfl rfl (de_lst (dl_cat (de_var 3 C rfl rfl rfl) (de_methP C (MO.mc (m_Search_led_in h) h 28 8 rfl rfl) (de_var 0 C rfl rfl rfl) (da_cons (de_var 1 C rfl rfl rfl) da_nil) ⟨L, ll, lo, hi, ws, p, ⟨hs, hp⟩, rfl, rfl⟩ rfl (by omega)) (by have h1 := ownW_len L p m; have h2 := hs.h8; have h3 := hs.wsl.1; simp [caseW, ledL]; omega))) ?_
    refine db_nil ?_
    exact db_ret (de_var 3 C rfl rfl rfl) ⟨(by exact congrArg D.lst (List.map_append).symm), (by first | exact ⟨[], rfl⟩ | exact ⟨[_], rfl⟩ | exact ⟨[_, _], rfl⟩ | exact ⟨[], by simp⟩)⟩
  · rw [scase, if_neg hm2]
    refine db_skip (dt_is (dt_cp (de_var 2 C rfl rfl rfl) (de_methP0 C (MO.mc (m_Net_hidden h) h 8 2 rfl rfl) (de_fld 0 C (h.cls 8 _ _ rfl) (de_var 0 C rfl rfl rfl) rfl rfl) ⟨L, ll, hs.net, rfl, rfl⟩ rfl (by omega)) cp_eq) (by simp; omega)) ?_
    exact db_ret (de_var 3 C rfl rfl rfl) ⟨(by rfl), (by first | exact ⟨[], rfl⟩ | exact ⟨[_], rfl⟩ | exact ⟨[_, _], rfl⟩ | exact ⟨[], by simp⟩)⟩

/-! ### grown -/
inductive Fnd where
  | found (x : Rat)
  | tree (t : Tr)
def eFnd : Fnd → D
  | .found x => .tup [.str "found", .tup [eF x]]
  | .tree t => eTr t
def sgrow (lo hi : Rat) (L : Lays) (ll : Lay) (ws : List Node) : Nat → Nat → Fnd
  | 0, p => match settF lo hi (ownW L p (hid L)) 0 with
    | .empty ys => .tree (.leaf "empty" ys)
    | .most _ _ => match settF lo hi (ownW L p (hid L) ++ ledL L ll ws p) 0 with
      | .most x _ => .found x
      | .empty ys => .tree (.leaf "against" ys)
  | n + 1, p => match settF lo hi (ownW L p (hid L - (n + 1))) 0 with
    | .empty ys => .tree (.leaf "empty" ys)
    | .most _ _ => match sgrow lo hi L ll ws n p with
      | .found x => .found x
      | .tree a => match sgrow lo hi L ll ws n (p + 2 ^ (hid L - (n + 1))) with
        | .found x => .found x
        | .tree b => .tree (.two a b)
def NoF : Tr → Prop
  | .two _ _ => True
  | .leaf w _ => w ≠ "found"
theorem sgrow_nof (lo hi : Rat) (L : Lays) (ll : Lay) (ws : List Node) : ∀ (n p : Nat) (t : Tr), sgrow lo hi L ll ws n p = .tree t → NoF t
  | 0, p, t, h => by
    unfold sgrow at h
    split at h
    · cases h; show ("empty" : Str) ≠ "found"; decide
    · split at h
      · cases h
      · cases h; show ("against" : Str) ≠ "found"; decide
  | n + 1, p, t, h => by
    unfold sgrow at h
    split at h
    · cases h; show ("empty" : Str) ≠ "found"; decide
    · split at h
      · cases h
      · split at h
        · cases h
        · cases h; trivial
theorem SOk.wish {L : Lays} {ll : Lay} {lo hi : Rat} {ws : List Node} (h : SOk K L ll lo hi ws) {p : Nat} (hp : p < 2 ^ hid L) (m : Nat) : ∀ a ∈ ownW L p m, SkA a := fun a ha => by
  obtain ⟨x, hx, rfl⟩ := List.mem_map.mp ha
  have h1 := h.own p hp x.1 (List.mem_of_mem_take (List.fst_mem_of_mem_zipIdx hx))
  unfold wsh
  split
  · exact ⟨h1.1.nmul, h1.2⟩
  · exact ⟨h1.1, h1.2.nmul⟩
theorem SOk.set {L : Lays} {ll : Lay} {lo hi : Rat} {ws : List Node} (h : SOk K L ll lo hi ws) {p : Nat} (hp : p < 2 ^ hid L) (m : Nat) : SetOk lo hi (ownW L p m) 0 :=
  ⟨h.box, h.blo, h.bhi, by have := ownW_len L p m; have := h.h8; omega, h.wish hp m, sk0⟩
theorem SOk.set2 {L : Lays} {ll : Lay} {lo hi : Rat} {ws : List Node} (h : SOk K L ll lo hi ws) {p : Nat} (hp : p < 2 ^ hid L) (m : Nat) : SetOk lo hi (ownW L p m ++ ledL L ll ws p) 0 :=
  ⟨h.box, h.blo, h.bhi, by have := ownW_len L p m; have := h.h8; have := h.wsl.1; simp [ledL]; omega, fun a ha => by
    rcases List.mem_append.mp ha with ha | ha
    · exact h.wish hp m a ha
    · obtain ⟨w, hw, rfl⟩ := List.mem_map.mp ha
      exact (h.led p hp w hw).2, sk0⟩
abbrev R_sgrown (K : PySem.W.Frag) (n : Nat) (ds : List D) (d : D) : Prop := ∃ (L : Lays) (ll : Lay) (lo hi : Rat) (ws : List Node) (p m : Nat), (SOk K L ll lo hi ws ∧ m = hid L - n ∧ n ≤ hid L ∧ p < 2 ^ m) ∧ ds = [eSea K L ll lo hi ws, .int (p : Int), .int (m : Int)] ∧ d = eFnd (sgrow lo hi L ll ws n p)

theorem m_Search_grown {n : Nat} (ih : ∀ n1, n = n1 + 1 → MO P w K mg base (10 + n1 + 1) ("Search", some "grown") 3 (Pu (R_sgrown K n1))) (h : Hd P w K mg base) : MO P w K mg base (10 + n + 1) ("Search", some "grown") 3 (Pu (R_sgrown K n)) := by
  refine mk_mo (N := ["self", "pattern", "decided", "here", "flat", "answer", "cut", "kept"]) (ps := ["self", "pattern", "decided"]) (V := [3, 3, 3, 3, 3, 3, 3, 3]) (Gs := ["wishes_by", "len", "NOUGHT_wanted", "settle", "isinstance", "Most"]) (k := (10 + n)) (d := dd_Search_grown) h 101 rfl  rfl (by decide +kernel) rfl (fun _ _ _ _ _ _ us hl => match us, hl with | [_, _, _], _ => rfl) fun X Z ds μ r μ' C hR hx hl => ?_
  obtain ⟨rfl, rfl, L, ll, lo, hi, ws, p, m, ⟨hs, hm, hn, hp⟩, rfl, rfl⟩ := hR
  show DB K X Z [some (eSea K L ll lo hi ws), some (.int (p : Int)), some (.int (m : Int)), none, none, none, none, none] ([]) (defBody (inClass (top 125) 3)) _
  have hpH : p < 2 ^ hid L := pw_up hp (by omega)
  have hc := hs.case p hpH
  have hS := hs.set hpH m
  refine db_set 3 C rfl rfl (de_is (de_lst (dl_slice C (de_callP 0 C (c_wishes_by h) rfl (da_cons (de_lst (dl_lst (da_cons (de_fld 0 C (h.cls 8 _ _ rfl) (de_var 0 C rfl rfl rfl) rfl rfl) da_nil))) (da_cons (de_fld 1 C (h.cls 8 _ _ rfl) (de_var 0 C rfl rfl rfl) rfl rfl) (da_cons (de_var 1 C rfl rfl rfl) (da_cons (de_var 2 C rfl rfl rfl) da_nil)))) ⟨_, L, ll, lo, hi, p, m, ⟨hc, hs.box, by omega⟩, rfl, rfl⟩ rfl (by omega)) (.some (de_mul de_int (de_len 1 C rfl (h.free 0 _ rfl) (de_fld 1 C (h.cls 8 _ _ rfl) (de_var 0 C rfl rfl rfl) rfl rfl) rfl) (by exact smul (i := 2) (j := 1) (lt9 (k := 2) (by decide) (by decide)) (lt9 (k := 1) (by decide) (by decide))))) .none)) (by exact (congrArg D.lst cut_drop2 : _ = eAs (ownW L p m)))) ?_
  refine db_set 4 C rfl rfl (de_rep1 C (de_tup (da_cons (de_is (de_glo 2 C rfl (h.cT 7 rfl)) (by rfl : _ = eF (0))) da_nil)) (de_is (de_len 1 C rfl (h.free 0 _ rfl) (de_fld 1 C (h.cls 8 _ _ rfl) (de_var 0 C rfl rfl rfl) rfl rfl) rfl) (by rfl))) ?_
  refine db_set 5 C rfl rfl (de_callP 3 C (c_settleF h) rfl (da_cons (de_fld 1 C (h.cls 8 _ _ rfl) (de_var 0 C rfl rfl rfl) rfl rfl) (da_cons (de_var 3 C rfl rfl rfl) (da_cons (de_var 4 C rfl rfl rfl) da_nil))) ⟨lo, hi, _, 0, hS, rfl, rfl⟩ rfl (by omega)) ?_
  cases n with
  | zero =>
    have hm0 : m = hid L := by omega
    subst hm0
    cases hr : settF lo hi (ownW L p (hid L)) 0 with
    | empty ys =>
      have hE : sgrow lo hi L ll ws 0 p = .tree (.leaf "empty" ys) := by unfold sgrow; rw [hr]
      rw [hE]
      show DB K X Z [some (eSea K L ll lo hi ws), some (.int (p : Int)), some (.int (hid L : Int)), some (eAs (ownW L p (hid L))), some (.tup [eF 0]), some (.ins (He.ga K "Empty") ["multiples"] [eR ys]), none, none] [] _ _
      refine db_if1 (dt_is (dt_not (dt_val (de_isi 4 C rfl (h.free 4 _ rfl) (de_var 5 C rfl rfl rfl) (de_glo 5 C rfl (h.cR 99 rfl)) (.ins (h.cls 4 _ _ rfl).cl (h.ins 2 _ _ _ rfl).2.1 (h.ins 2 _ _ _ rfl).2.2.1 (h.ins 2 _ _ _ rfl).2.2.2.1 (h.ins 2 _ _ _ rfl).2.2.2.2) (.own _) (h.ins 2 _ _ _ rfl).1))) (by rfl)) ?_
      exact db_ret (de_tup (da_cons de_str (da_cons (de_fld 0 C (h.cls 4 _ _ rfl) (de_var 5 C rfl rfl rfl) rfl rfl) da_nil))) ⟨(by rfl), (by first | exact ⟨[], rfl⟩ | exact ⟨[_], rfl⟩ | exact ⟨[_, _], rfl⟩ | exact ⟨[], by simp⟩)⟩
    | most x ys =>
      show DB K X Z [some (eSea K L ll lo hi ws), some (.int (p : Int)), some (.int (hid L : Int)), some (eAs (ownW L p (hid L))), some (.tup [eF 0]), some (.ins (He.ga K "Most") ["spot", "multiples"] [.tup [eF x], eR ys]), none, none] [] _ _
      refine db_skip (dt_is (dt_not (dt_val (de_isi 4 C rfl (h.free 4 _ rfl) (de_var 5 C rfl rfl rfl) (de_glo 5 C rfl (h.cR 99 rfl)) (.ins (h.cls 3 _ _ rfl).cl (h.ins 1 _ _ _ rfl).2.1 (h.ins 1 _ _ _ rfl).2.2.1 (h.ins 1 _ _ _ rfl).2.2.2.1 (h.ins 1 _ _ _ rfl).2.2.2.2) (.own _) (h.ins 1 _ _ _ rfl).1))) (by rfl)) ?_
      refine db_if1 (dt_is (dt_cp (de_var 2 C rfl rfl rfl) (de_methP0 C (MO.mc (m_Net_hidden h) h 8 2 rfl rfl) (de_fld 0 C (h.cls 8 _ _ rfl) (de_var 0 C rfl rfl rfl) rfl rfl) ⟨L, ll, hs.net, rfl, rfl⟩ rfl (by omega)) cp_eq) (by simp)) ?_
      refine db_set 5 C rfl rfl (de_callP 3 C (c_settleF h) rfl (da_cons (de_fld 1 C (h.cls 8 _ _ rfl) (de_var 0 C rfl rfl rfl) rfl rfl) (da_cons (de_lst (dl_cat (de_var 3 C rfl rfl rfl) (de_methP C (MO.mc (m_Search_led_in h) h 28 8 rfl rfl) (de_var 0 C rfl rfl rfl) (da_cons (de_var 1 C rfl rfl rfl) da_nil) ⟨L, ll, lo, hi, ws, p, ⟨hs, hpH⟩, rfl, rfl⟩ rfl (by omega)) (by have h1 := ownW_len L p (hid L); have h2 := hs.h8; have h3 := hs.wsl.1; simp [ledL]; omega))) (da_cons (de_var 4 C rfl rfl rfl) da_nil))) ⟨lo, hi, ownW L p (hid L) ++ ledL L ll ws p, 0, hs.set2 hpH _, by simp, rfl⟩ rfl (by omega)) ?_
      cases hr2 : settF lo hi (ownW L p (hid L) ++ ledL L ll ws p) 0 with
      | empty zs =>
        have hE : sgrow lo hi L ll ws 0 p = .tree (.leaf "against" zs) := by unfold sgrow; rw [hr]; simp only; rw [hr2]
        rw [hE]
        show DB K X Z [some (eSea K L ll lo hi ws), some (.int (p : Int)), some (.int (hid L : Int)), some (eAs (ownW L p (hid L))), some (.tup [eF 0]), some (.ins (He.ga K "Empty") ["multiples"] [eR zs]), none, none] [] _ _
        refine db_skip (dt_is (dt_val (de_isi 4 C rfl (h.free 4 _ rfl) (de_var 5 C rfl rfl rfl) (de_glo 5 C rfl (h.cR 99 rfl)) (.ins (h.cls 4 _ _ rfl).cl (h.ins 2 _ _ _ rfl).2.1 (h.ins 2 _ _ _ rfl).2.2.1 (h.ins 2 _ _ _ rfl).2.2.2.1 (h.ins 2 _ _ _ rfl).2.2.2.2) (.own _) (h.ins 2 _ _ _ rfl).1)) (by rfl)) ?_
        exact db_ret (de_tup (da_cons de_str (da_cons (de_fld 0 C (h.cls 4 _ _ rfl) (de_var 5 C rfl rfl rfl) rfl rfl) da_nil))) ⟨(by rfl), (by first | exact ⟨[], rfl⟩ | exact ⟨[_], rfl⟩ | exact ⟨[_, _], rfl⟩ | exact ⟨[], by simp⟩)⟩
      | most y zs =>
        have hE : sgrow lo hi L ll ws 0 p = .found y := by unfold sgrow; rw [hr]; simp only; rw [hr2]
        rw [hE]
        show DB K X Z [some (eSea K L ll lo hi ws), some (.int (p : Int)), some (.int (hid L : Int)), some (eAs (ownW L p (hid L))), some (.tup [eF 0]), some (.ins (He.ga K "Most") ["spot", "multiples"] [.tup [eF y], eR zs]), none, none] [] _ _
        refine db_if1 (dt_is (dt_val (de_isi 4 C rfl (h.free 4 _ rfl) (de_var 5 C rfl rfl rfl) (de_glo 5 C rfl (h.cR 99 rfl)) (.ins (h.cls 3 _ _ rfl).cl (h.ins 1 _ _ _ rfl).2.1 (h.ins 1 _ _ _ rfl).2.2.1 (h.ins 1 _ _ _ rfl).2.2.2.1 (h.ins 1 _ _ _ rfl).2.2.2.2) (.own _) (h.ins 1 _ _ _ rfl).1)) (by rfl)) ?_
        exact db_ret (de_tup (da_cons de_str (da_cons (de_fld 0 C (h.cls 3 _ _ rfl) (de_var 5 C rfl rfl rfl) rfl rfl) da_nil))) ⟨(by rfl), (by first | exact ⟨[], rfl⟩ | exact ⟨[_], rfl⟩ | exact ⟨[_, _], rfl⟩ | exact ⟨[], by simp⟩)⟩
  | succ n =>
    have ih1 := ih n rfl
    have hmh : m < hid L := by omega
    cases hr : settF lo hi (ownW L p m) 0 with
    | empty ys =>
      have hE : sgrow lo hi L ll ws (n + 1) p = .tree (.leaf "empty" ys) := by unfold sgrow; rw [← hm, hr]
      rw [hE]
      show DB K X Z [some (eSea K L ll lo hi ws), some (.int (p : Int)), some (.int (m : Int)), some (eAs (ownW L p m)), some (.tup [eF 0]), some (.ins (He.ga K "Empty") ["multiples"] [eR ys]), none, none] [] _ _
      refine db_if1 (dt_is (dt_not (dt_val (de_isi 4 C rfl (h.free 4 _ rfl) (de_var 5 C rfl rfl rfl) (de_glo 5 C rfl (h.cR 99 rfl)) (.ins (h.cls 4 _ _ rfl).cl (h.ins 2 _ _ _ rfl).2.1 (h.ins 2 _ _ _ rfl).2.2.1 (h.ins 2 _ _ _ rfl).2.2.2.1 (h.ins 2 _ _ _ rfl).2.2.2.2) (.own _) (h.ins 2 _ _ _ rfl).1))) (by rfl)) ?_
      exact db_ret (de_tup (da_cons de_str (da_cons (de_fld 0 C (h.cls 4 _ _ rfl) (de_var 5 C rfl rfl rfl) rfl rfl) da_nil))) ⟨(by rfl), (by first | exact ⟨[], rfl⟩ | exact ⟨[_], rfl⟩ | exact ⟨[_, _], rfl⟩ | exact ⟨[], by simp⟩)⟩
    | most x ys =>
      show DB K X Z [some (eSea K L ll lo hi ws), some (.int (p : Int)), some (.int (m : Int)), some (eAs (ownW L p m)), some (.tup [eF 0]), some (.ins (He.ga K "Most") ["spot", "multiples"] [.tup [eF x], eR ys]), none, none] [] _ _
      refine db_skip (dt_is (dt_not (dt_val (de_isi 4 C rfl (h.free 4 _ rfl) (de_var 5 C rfl rfl rfl) (de_glo 5 C rfl (h.cR 99 rfl)) (.ins (h.cls 3 _ _ rfl).cl (h.ins 1 _ _ _ rfl).2.1 (h.ins 1 _ _ _ rfl).2.2.1 (h.ins 1 _ _ _ rfl).2.2.2.1 (h.ins 1 _ _ _ rfl).2.2.2.2) (.own _) (h.ins 1 _ _ _ rfl).1))) (by rfl)) ?_
      refine db_skip (dt_is (dt_cp (de_var 2 C rfl rfl rfl) (de_methP0 C (MO.mc (m_Net_hidden h) h 8 2 rfl rfl) (de_fld 0 C (h.cls 8 _ _ rfl) (de_var 0 C rfl rfl rfl) rfl rfl) ⟨L, ll, hs.net, rfl, rfl⟩ rfl (by omega)) cp_eq) (by simp; omega)) ?_
      have hp1 : p < 2 ^ (m + 1) := pw_up hp (by omega)
      have hp2 : p + 2 ^ m < 2 ^ (m + 1) := by rw [Nat.pow_succ]; omega
      refine db_set 6 C rfl rfl (de_methP C (MO.mc ih1 h 30 8 rfl rfl) (de_var 0 C rfl rfl rfl) (da_cons (de_var 1 C rfl rfl rfl) (da_cons (de_add (de_var 2 C rfl rfl rfl) de_int) da_nil)) ⟨L, ll, lo, hi, ws, p, m + 1, ⟨hs, by omega, by omega, hp1⟩, rfl, rfl⟩ rfl (by omega)) ?_
      cases hg1 : sgrow lo hi L ll ws n p with
      | found y =>
        have hE : sgrow lo hi L ll ws (n + 1) p = .found y := by unfold sgrow; rw [← hm, hr]; simp only; rw [hg1]
        rw [hE]
        show DB K X Z [some (eSea K L ll lo hi ws), some (.int (p : Int)), some (.int (m : Int)), some (eAs (ownW L p m)), some (.tup [eF 0]), some (.ins (He.ga K "Most") ["spot", "multiples"] [.tup [eF x], eR ys]), some (.tup [.str "found", .tup [eF y]]), none] [] _ _
        refine db_if1 (dt_is (dt_cp (de_ixT C (de_var 6 C rfl rfl rfl) de_int rfl) de_str cp_eqS) (by rfl)) ?_
        exact db_ret (de_var 6 C rfl rfl rfl) ⟨(by rfl), (by first | exact ⟨[], rfl⟩ | exact ⟨[_], rfl⟩ | exact ⟨[_, _], rfl⟩ | exact ⟨[], by simp⟩)⟩
      | tree t1 =>
        have n1 := sgrow_nof lo hi L ll ws n p t1 hg1
        obtain ⟨w1, r1, e1, q1⟩ : ∃ w1 r1, eTr t1 = .tup (.str w1 :: r1) ∧ w1 ≠ "found" := by cases t1 with | two a b => exact ⟨_, _, rfl, by decide⟩ | leaf w ys => exact ⟨_, _, rfl, n1⟩
        show DB K X Z [some (eSea K L ll lo hi ws), some (.int (p : Int)), some (.int (m : Int)), some (eAs (ownW L p m)), some (.tup [eF 0]), some (.ins (He.ga K "Most") ["spot", "multiples"] [.tup [eF x], eR ys]), some (eTr t1), none] [] _ _
        refine db_skip (dt_is (dt_cp (de_ixT C (de_is (de_var 6 C rfl rfl rfl) e1) de_int (at_zero _ _)) de_str cp_eqS) (by simp [q1])) ?_
        refine db_set 7 C rfl rfl (de_methP C (MO.mc ih1 h 30 8 rfl rfl) (de_var 0 C rfl rfl rfl) (da_cons (de_or (de_var 1 C rfl rfl rfl) (de_shl de_int (de_var 2 C rfl rfl rfl) (by exact cpow1 (by have := hs.h8; omega)))) (da_cons (de_add (de_var 2 C rfl rfl rfl) de_int) da_nil)) ⟨L, ll, lo, hi, ws, p + 2 ^ m, m + 1, ⟨hs, by omega, by omega, hp2⟩, by rw [or_pow hp]; rfl, rfl⟩ rfl (by omega)) ?_
        cases hg2 : sgrow lo hi L ll ws n (p + 2 ^ m) with
        | found y =>
          have hE : sgrow lo hi L ll ws (n + 1) p = .found y := by unfold sgrow; rw [← hm, hr]; simp only; rw [hg1]; simp only; rw [hg2]
          rw [hE]
          show DB K X Z [some (eSea K L ll lo hi ws), some (.int (p : Int)), some (.int (m : Int)), some (eAs (ownW L p m)), some (.tup [eF 0]), some (.ins (He.ga K "Most") ["spot", "multiples"] [.tup [eF x], eR ys]), some (eTr t1), some (.tup [.str "found", .tup [eF y]])] [] _ _
          refine db_if1 (dt_is (dt_cp (de_ixT C (de_var 7 C rfl rfl rfl) de_int rfl) de_str cp_eqS) (by rfl)) ?_
          exact db_ret (de_var 7 C rfl rfl rfl) ⟨(by rfl), (by first | exact ⟨[], rfl⟩ | exact ⟨[_], rfl⟩ | exact ⟨[_, _], rfl⟩ | exact ⟨[], by simp⟩)⟩
        | tree t2 =>
          have hE : sgrow lo hi L ll ws (n + 1) p = .tree (.two t1 t2) := by unfold sgrow; rw [← hm, hr]; simp only; rw [hg1]; simp only; rw [hg2]
          rw [hE]
          have n2 := sgrow_nof lo hi L ll ws n _ t2 hg2
          obtain ⟨w2, r2, e2, q2⟩ : ∃ w2 r2, eTr t2 = .tup (.str w2 :: r2) ∧ w2 ≠ "found" := by cases t2 with | two a b => exact ⟨_, _, rfl, by decide⟩ | leaf w ys => exact ⟨_, _, rfl, n2⟩
          show DB K X Z [some (eSea K L ll lo hi ws), some (.int (p : Int)), some (.int (m : Int)), some (eAs (ownW L p m)), some (.tup [eF 0]), some (.ins (He.ga K "Most") ["spot", "multiples"] [.tup [eF x], eR ys]), some (eTr t1), some (eTr t2)] [] _ _
          refine db_skip (dt_is (dt_cp (de_ixT C (de_is (de_var 7 C rfl rfl rfl) e2) de_int (at_zero _ _)) de_str cp_eqS) (by simp [q2])) ?_
          exact db_ret (de_tup (da_cons de_str (da_cons (de_var 6 C rfl rfl rfl) (da_cons (de_var 7 C rfl rfl rfl) da_nil)))) ⟨(by rfl), (by first | exact ⟨[], rfl⟩ | exact ⟨[_], rfl⟩ | exact ⟨[_, _], rfl⟩ | exact ⟨[], by simp⟩)⟩

theorem m_sgrown (h : Hd P w K mg base) : ∀ n : Nat, MO P w K mg base (10 + n + 1) ("Search", some "grown") 3 (Pu (R_sgrown K n))
  | 0 => m_Search_grown (n := 0) (fun n1 e => by cases e) h
  | n + 1 => m_Search_grown (n := n + 1) (fun n1 e => by
    have e2 : n = n1 := by omega
    subst e2
    exact m_sgrown h n) h


/-! ### a search's tree is let by -/
theorem zip_sw {α β : Type} : ∀ (xs : List α) (ys : List β), (xs.zip ys).map (fun q => (q.2, q.1)) = ys.zip xs
  | [], ys => by simp
  | x :: xs, [] => by simp
  | x :: xs, y :: ys => by simp [zip_sw xs ys]
abbrev R_come (K : PySem.W.Frag) (ds : List D) (d : D) : Prop := ∃ (L : Lays) (ll : Lay) (lo hi : Rat) (ws : List Node) (as : List Aff) (ys : List Rat), (MulOk as ys ∧ (∀ y ∈ ys, Sm y) ∧ (mulSum as ys).1 = 0 ∧ (mulSum as ys).2 < 0) ∧ ds = [eSea K L ll lo hi ws, eAs as, eR ys] ∧ d = .bl true
def HdOk (lo hi : Rat) (L : Lays) (ll : Lay) (ws : List Node) : Tr → Nat → Nat → Prop
  | .two a b, p, m => m < hid L ∧ p < 2 ^ m ∧ HdOk lo hi L ll ws a p (m + 1) ∧ HdOk lo hi L ll ws b (p + 2 ^ m) (m + 1)
  | .leaf w ys, p, m => p < 2 ^ hid L ∧ m ≤ hid L ∧ (∀ y ∈ ys, Sm y) ∧ ((w = "empty" ∧ MulOk (caseW lo hi L p m) ys ∧ (mulSum (caseW lo hi L p m) ys).1 = 0 ∧ (mulSum (caseW lo hi L p m) ys).2 < 0) ∨
      (w = "against" ∧ m = hid L ∧ MulOk (scase lo hi L ll ws p m) ys ∧ (mulSum (scase lo hi L ll ws p m) ys).1 = 0 ∧ (mulSum (scase lo hi L ll ws p m) ys).2 < 0))
abbrev R_holds (K : PySem.W.Frag) (n : Nat) (ds : List D) (d : D) : Prop := ∃ (L : Lays) (ll : Lay) (lo hi : Rat) (ws : List Node) (tr : Tr) (p m : Nat), (SOk K L ll lo hi ws ∧ tr.dep ≤ n ∧ HdOk lo hi L ll ws tr p m) ∧ ds = [eSea K L ll lo hi ws, eTr tr, .int (p : Int), .int (m : Int)] ∧ d = .bl true

theorem m_Search_come_to_less (h : Hd P w K mg base) : MO P w K mg base 5 ("Search", some "come_to_less") 3 (Pu (R_come K)) := by
  refine mk_mo (N := ["self", "wishes", "multiples", "row", "number", "wish", "by", "here", "more", "one"]) (ps := ["self", "wishes", "multiples"]) (V := [3, 3, 3, 3, 3, 3, 2, 0, 0, 0]) (Gs := ["is_row", "len", "any", "NOUGHT_wanted", "zip", "plus", "times", "is_less"]) (k := 4) (d := dd_Search_come_to_less) h 102 rfl  rfl (by decide +kernel) rfl (fun _ _ _ _ _ _ us hl => match us, hl with | [_, _, _], _ => rfl) fun X Z ds μ r μ' C hR hx hl => ?_
  obtain ⟨rfl, rfl, L, ll, lo, hi, ws, as, ys, ⟨hM, hys, e1, e2⟩, rfl, rfl⟩ := hR
  show DB K X Z [some (eSea K L ll lo hi ws), some (eAs as), some (eR ys), none, none, none, none, none, none, none] ([]) (defBody (inClass (top 125) 4)) _
  refine db_skip (dt_is (dw_or (dt_not (dt_val (de_callP 0 C (c_is_row h) rfl (da_cons (de_var 2 C rfl rfl rfl) (da_cons (de_len 1 C rfl (h.free 0 _ rfl) (de_var 1 C rfl rfl rfl) rfl) da_nil)) ⟨ys, _, ⟨by simp [hM.1], by have := hM.1; have := hM.2.1; omega⟩, rfl, rfl⟩ rfl (by omega)))) fun hc0 => (dw_or1 (dt_val (de_any 2 C rfl (h.free 6 _ rfl) (de_is (de_lst (dl_of_dc (V' := [0, 0, 0, 0, 0, 0, 0, 0, 0, 3]) (Gs' := ["is_less", "NOUGHT_wanted"]) (own := [("one", 9)]) C (by decide +kernel) (dc_map ys eF (fun y => .bl (decide (y < 0))) [0, 0, 0, 0, 0, 0, 0, 0, 0, 3] ["is_less", "NOUGHT_wanted"] [("one", 9)] C (by decide +kernel) (by decide +kernel) (di_tup C (de_var 2 C rfl rfl rfl)) (by have := hM.1; have := hM.2.1; omega) fun a ha => ⟨_, _, (by decide), fun _ C' => ⟨(dg_name 9 C' rfl rfl), (de_callP 0 C' (c_is_less h) rfl (da_cons (de_var 9 C' rfl rfl rfl) (da_cons (de_is (de_glo 1 C' rfl (h.cT 7 rfl)) (by rfl : _ = eF (0))) da_nil)) ⟨a, 0, ⟨hys a ha, sm0⟩, rfl, rfl⟩ rfl (by omega))⟩⟩))) (mapB _ _)))))).dt (by simp; exact fun y hy => Rat.not_lt.mpr (hM.2.2.1 y hy))) ?_
  refine db_set 3 C rfl rfl (de_lst (dl_rep (n := 1) (de_lst (dl_lst (da_cons (de_is (de_glo 3 C rfl (h.cT 7 rfl)) (by rfl : _ = eF (0))) da_nil))) (de_len 1 C rfl (h.free 0 _ rfl) (de_fld 1 C (h.cls 8 _ _ rfl) (de_var 0 C rfl rfl rfl) rfl rfl) rfl) (by first | rfl | assumption | omega | decide | simp) (by first | rfl | assumption | omega | decide | simp))) ?_
  refine db_set 4 C rfl rfl (de_is (de_glo 3 C rfl (h.cT 7 rfl)) (by rfl : _ = eF (0))) ?_
  refine db_forS (S := Aff) (as.zip ys) (fun q => .tup [eA q.1, eF q.2]) (fun f l => SmAff f (l.map fun q => (q.2, q.1)) ∧ affZ f (l.map fun q => (q.2, q.1)) = mulSum as ys) (fun f => [some (eSea K L ll lo hi ws), some (eAs as), some (eR ys), some (.lst [eF f.1]), some (eF f.2), none, none, none, none, none]) (fun _ => []) (0, 0) C (di_is (di_zip 4 C rfl (h.free 14 _ rfl) (de_var 1 C rfl rfl rfl) (de_var 2 C rfl rfl rfl) rfl rfl) (zip_map _ _ _ _)) rfl (.some (.some (.some (.some (.some (.none (.none (.none (.none (.none .nil)))))))))) (by rw [zip_sw]; exact ⟨hM.2.2.2, rfl⟩) (fun f z l hK ha2 => ?_) (fun f hK => ?_)
  · obtain ⟨⟨k1, k2, k3, k4, k5⟩, e⟩ := hK
    refine ⟨_, _, _, (dg_tup C (dgs_cons (dg_name 5 C rfl rfl) (dgs_cons (dg_name 6 C rfl rfl) dgs_nil)) rfl), ?_⟩
    refine db_setDcF (V' := [0, 0, 0, 0, 0, 0, 1, 3, 3, 0]) (Gs' := ["plus", "times"]) (own := [("here", 7), ("more", 8)]) 3 C (by decide +kernel) rfl rfl (by simp) (dc_map [()] (fun _ => .tup [eF f.1, eF z.1.1]) (fun _ => eF (f.1 + z.2 * z.1.1)) [0, 0, 0, 0, 0, 0, 1, 3, 3, 0] ["plus", "times"] [("here", 7), ("more", 8)] C (by decide +kernel) (by decide +kernel) (di_is (di_zip 4 C rfl (h.free 14 _ rfl) (de_var 3 C rfl rfl rfl) (de_ixT C (de_var 5 C rfl rfl rfl) de_int rfl) rfl rfl) (by rfl)) (by first | rfl | assumption | omega | decide | simp) fun a ha => ⟨_, _, (by decide), fun _ C' => ⟨(dg_tup C' (dgs_cons (dg_name 7 C' rfl rfl) (dgs_cons (dg_name 8 C' rfl rfl) dgs_nil)) rfl), (de_callP 0 C' (c_plus h) rfl (da_cons (de_var 7 C' rfl rfl rfl) (da_cons (de_callP 1 C' (c_times h) rfl (da_cons (de_var 6 C' rfl rfl rfl) (da_cons (de_var 8 C' rfl rfl rfl) da_nil)) ⟨z.2, z.1.1, ⟨k2, k3.1⟩, rfl, rfl⟩ rfl (by omega)) da_nil)) ⟨f.1, z.2 * z.1.1, ⟨k1.1, k4.1⟩, rfl, rfl⟩ rfl (by omega))⟩⟩) ?_
    refine db_set 4 C rfl rfl (de_callP 5 C (c_plus h) rfl (da_cons (de_var 4 C rfl rfl rfl) (da_cons (de_callP 6 C (c_times h) rfl (da_cons (de_var 6 C rfl rfl rfl) (da_cons (de_ixT C (de_var 5 C rfl rfl rfl) de_int rfl) da_nil)) ⟨z.2, z.1.2, ⟨k2, k3.2⟩, rfl, rfl⟩ rfl (by omega)) da_nil)) ⟨f.2, z.2 * z.1.2, ⟨k1.2, k4.2⟩, rfl, rfl⟩ rfl (by omega)) ?_
    exact db_nil ⟨(f.1 + z.2 * z.1.1, f.2 + z.2 * z.1.2), ⟨k5, e⟩, (.some (.some (.some (.some (.some (.none (.none (.none (.none (.none .nil)))))))))), rfl⟩
  · have hf : f = mulSum as ys := hK.2
    have hsm := hM.sm
    subst hf
    exact db_ret (de_andv (de_cp (de_var 3 C rfl rfl rfl) (de_lst (dl_rep (n := 1) (de_lst (dl_lst (da_cons (de_is (de_glo 3 C rfl (h.cT 7 rfl)) (by rfl : _ = eF (0))) da_nil))) (de_len 1 C rfl (h.free 0 _ rfl) (de_fld 1 C (h.cls 8 _ _ rfl) (de_var 0 C rfl rfl rfl) rfl rfl) rfl) (by first | rfl | assumption | omega | decide | simp) (by first | rfl | assumption | omega | decide | simp))) (cp_eqL (xs := [(mulSum as ys).1]) (ys := [0]) C)) fun hc0 => (de_one (de_callP 7 C (c_is_less h) rfl (da_cons (de_var 4 C rfl rfl rfl) (da_cons (de_is (de_glo 3 C rfl (h.cT 7 rfl)) (by rfl : _ = eF (0))) da_nil)) ⟨_, 0, ⟨hsm.2, sm0⟩, rfl, rfl⟩ rfl (by omega)))) ⟨(by simp [e1, e2]), (by first | exact ⟨[], rfl⟩ | exact ⟨[_], rfl⟩ | exact ⟨[_, _], rfl⟩ | exact ⟨[], by simp⟩)⟩
theorem m_Search_holds {n : Nat} (ih : ∀ n1, n = n1 + 1 → MO P w K mg base (10 + n1 + 1) ("Search", some "holds") 4 (Pu (R_holds K n1))) (h : Hd P w K mg base) : MO P w K mg base (10 + n + 1) ("Search", some "holds") 4 (Pu (R_holds K n)) := by
  refine mk_mo (N := ["self", "tree", "pattern", "decided"]) (ps := ["self", "tree", "pattern", "decided"]) (V := [3, 3, 3, 3]) (Gs := ["is_said", "wishes_by"]) (k := (10 + n)) (d := dd_Search_holds) h 103 rfl  rfl (by decide +kernel) rfl (fun _ _ _ _ _ _ us hl => match us, hl with | [_, _, _, _], _ => rfl) fun X Z ds μ r μ' C hR hx hl => ?_
  obtain ⟨rfl, rfl, L, ll, lo, hi, ws, tr, p, m, ⟨hs, hd, hh⟩, rfl, rfl⟩ := hR
  show DB K X Z [some (eSea K L ll lo hi ws), some (eTr tr), some (.int (p : Int)), some (.int (m : Int))] ([]) (defBody (inClass (top 125) 5)) _
  cases tr with
  | two t1 t2 =>
    obtain ⟨hm, hp, h1, h2⟩ := hh
    obtain ⟨n1, rfl⟩ : ∃ n1, n = n1 + 1 := by cases n with | zero => simp [Tr.dep] at hd | succ n1 => exact ⟨n1, rfl⟩
    have hd1 : t1.dep ≤ n1 := by simp only [Tr.dep] at hd; omega
    have hd2 : t2.dep ≤ n1 := by simp only [Tr.dep] at hd; omega
    have ih1 := ih n1 rfl
    show DB K X Z [some (eSea K L ll lo hi ws), some (.tup [.str "two", eTr t1, eTr t2]), some (.int (p : Int)), some (.int (m : Int))] [] _ _
    refine db_if1 (dt_is (dw_and (dt_val (de_callP 0 C (c_is_said h) rfl (da_cons (de_var 1 C rfl rfl rfl) (da_cons de_str (da_cons de_int da_nil))) ⟨_, _, _, _, trivial, rfl, rfl⟩ rfl (by omega))) fun hc0 => (dw_and1 (dt_cp (de_var 3 C rfl rfl rfl) (de_methP0 C (MO.mc (m_Net_hidden h) h 8 2 rfl rfl) (de_fld 0 C (h.cls 8 _ _ rfl) (de_var 0 C rfl rfl rfl) rfl rfl) ⟨L, ll, hs.net, rfl, rfl⟩ rfl (by omega)) cp_lt))).dt (by simp; omega)) ?_
    refine db_skip (dt_is (dt_not (dt_val (de_methP C (MO.mc ih1 h 32 8 rfl rfl) (de_var 0 C rfl rfl rfl) (da_cons (de_ixT C (de_var 1 C rfl rfl rfl) de_int rfl) (da_cons (de_var 2 C rfl rfl rfl) (da_cons (de_add (de_var 3 C rfl rfl rfl) de_int) da_nil))) ⟨L, ll, lo, hi, ws, t1, p, m + 1, ⟨hs, hd1, h1⟩, rfl, rfl⟩ rfl (by omega)))) (by rfl)) ?_
    exact db_ret (de_methP C (MO.mc ih1 h 32 8 rfl rfl) (de_var 0 C rfl rfl rfl) (da_cons (de_ixT C (de_var 1 C rfl rfl rfl) de_int rfl) (da_cons (de_or (de_var 2 C rfl rfl rfl) (de_shl de_int (de_var 3 C rfl rfl rfl) (by exact cpow1 (by have := hs.h8; omega)))) (da_cons (de_add (de_var 3 C rfl rfl rfl) de_int) da_nil))) ⟨L, ll, lo, hi, ws, t2, p + 2 ^ m, m + 1, ⟨hs, hd2, h2⟩, by rw [or_pow hp]; rfl, rfl⟩ rfl (by omega)) ⟨(by rfl), (by first | exact ⟨[], rfl⟩ | exact ⟨[_], rfl⟩ | exact ⟨[_, _], rfl⟩ | exact ⟨[], by simp⟩)⟩
  | leaf w ys =>
    obtain ⟨hp, hm, hys, hw⟩ := hh
    have hc := hs.case p hp
    show DB K X Z [some (eSea K L ll lo hi ws), some (.tup [.str w, eR ys]), some (.int (p : Int)), some (.int (m : Int))] [] _ _
    refine db_skip (dt_is (dw_and (dt_val (de_callP 0 C (c_is_said h) rfl (da_cons (de_var 1 C rfl rfl rfl) (da_cons de_str (da_cons de_int da_nil))) ⟨_, _, _, _, trivial, rfl, rfl⟩ rfl (by omega))) fun hc0 => (dw_and1 (dt_cp (de_var 3 C rfl rfl rfl) (de_methP0 C (MO.mc (m_Net_hidden h) h 8 2 rfl rfl) (de_fld 0 C (h.cls 8 _ _ rfl) (de_var 0 C rfl rfl rfl) rfl rfl) ⟨L, ll, hs.net, rfl, rfl⟩ rfl (by omega)) cp_lt))).dt (by rfl)) ?_
    rcases hw with ⟨rfl, hM, e1, e2⟩ | ⟨rfl, hm2, hM, e1, e2⟩
    · skip
      refine db_if1 (dt_is (dt_val (de_callP 0 C (c_is_said h) rfl (da_cons (de_var 1 C rfl rfl rfl) (da_cons de_str (da_cons de_int da_nil))) ⟨_, _, _, _, trivial, rfl, rfl⟩ rfl (by omega))) (by rfl)) ?_
      exact db_ret (de_methP C (MO.mc (m_Search_come_to_less h) h 31 8 rfl rfl) (de_var 0 C rfl rfl rfl) (da_cons (de_callP 1 C (c_wishes_by h) rfl (da_cons (de_lst (dl_lst (da_cons (de_fld 0 C (h.cls 8 _ _ rfl) (de_var 0 C rfl rfl rfl) rfl rfl) da_nil))) (da_cons (de_fld 1 C (h.cls 8 _ _ rfl) (de_var 0 C rfl rfl rfl) rfl rfl) (da_cons (de_var 2 C rfl rfl rfl) (da_cons (de_var 3 C rfl rfl rfl) da_nil)))) ⟨_, L, ll, lo, hi, p, m, ⟨hc, hs.box, hm⟩, rfl, rfl⟩ rfl (by omega)) (da_cons (de_ixT C (de_var 1 C rfl rfl rfl) de_int rfl) da_nil)) ⟨L, ll, lo, hi, ws, _, ys, ⟨hM, hys, e1, e2⟩, rfl, rfl⟩ rfl (by omega)) ⟨(by rfl), (by first | exact ⟨[], rfl⟩ | exact ⟨[_], rfl⟩ | exact ⟨[_, _], rfl⟩ | exact ⟨[], by simp⟩)⟩
    · skip
      refine db_skip (dt_is (dt_val (de_callP 0 C (c_is_said h) rfl (da_cons (de_var 1 C rfl rfl rfl) (da_cons de_str (da_cons de_int da_nil))) ⟨_, _, _, _, trivial, rfl, rfl⟩ rfl (by omega))) (by rfl)) ?_
      refine db_skip (dt_is (dw_or (dt_not (dt_val (de_callP 0 C (c_is_said h) rfl (da_cons (de_var 1 C rfl rfl rfl) (da_cons de_str (da_cons de_int da_nil))) ⟨_, _, _, _, trivial, rfl, rfl⟩ rfl (by omega)))) fun hc0 => (dw_or1 (dt_cp (de_var 3 C rfl rfl rfl) (de_methP0 C (MO.mc (m_Net_hidden h) h 8 2 rfl rfl) (de_fld 0 C (h.cls 8 _ _ rfl) (de_var 0 C rfl rfl rfl) rfl rfl) ⟨L, ll, hs.net, rfl, rfl⟩ rfl (by omega)) cp_lt))).dt (by simp; omega)) ?_
      exact db_ret (de_methP C (MO.mc (m_Search_come_to_less h) h 31 8 rfl rfl) (de_var 0 C rfl rfl rfl) (da_cons (de_methP C (MO.mc (m_Search_case h) h 29 8 rfl rfl) (de_var 0 C rfl rfl rfl) (da_cons (de_var 2 C rfl rfl rfl) (da_cons (de_var 3 C rfl rfl rfl) da_nil)) ⟨L, ll, lo, hi, ws, p, m, ⟨hs, hp, hm⟩, rfl, rfl⟩ rfl (by omega)) (da_cons (de_ixT C (de_var 1 C rfl rfl rfl) de_int rfl) da_nil)) ⟨L, ll, lo, hi, ws, _, ys, ⟨hM, hys, e1, e2⟩, rfl, rfl⟩ rfl (by omega)) ⟨(by rfl), (by first | exact ⟨[], rfl⟩ | exact ⟨[_], rfl⟩ | exact ⟨[_, _], rfl⟩ | exact ⟨[], by simp⟩)⟩

theorem m_holds (h : Hd P w K mg base) : ∀ n : Nat, MO P w K mg base (10 + n + 1) ("Search", some "holds") 4 (Pu (R_holds K n))
  | 0 => m_Search_holds (n := 0) (fun n1 e => by cases e) h
  | n + 1 => m_Search_holds (n := n + 1) (fun n1 e => by
    have e2 : n = n1 := by omega
    subst e2
    exact m_holds h n) h
def eFS : Fnd → D
  | .found x => .tup [.str "found", .tup [eF x]]
  | .tree t => .tup [.str "none", eTr t]
abbrev R_find_spot (K : PySem.W.Frag) (ds : List D) (d : D) : Prop := ∃ (L : Lays) (ll : Lay) (lo hi : Rat) (ws : List Node), SOk K L ll lo hi ws ∧ ds = [eNet K L ll, eBox lo hi, eWs ws] ∧ d = eFS (sgrow lo hi L ll ws (hid L) 0)
def FsOk (L : Lays) (ll : Lay) (lo hi : Rat) (ws : List Node) : Fnd → Prop
  | .found x => Sm x ∧ lo ≤ x ∧ x ≤ hi ∧ SmZ [x] (stk L ll) ∧ ∀ w ∈ ws, KpOk L ll x w ∧ ¬ w.2 < dot w.1 (outsAt L ll [x])
  | .tree t => t.dep ≤ 8 ∧ HdOk lo hi L ll ws t 0 0
abbrev R_shows_found (K : PySem.W.Frag) (ds : List D) (d : D) : Prop := ∃ (L : Lays) (ll : Lay) (lo hi : Rat) (ws : List Node) (z : Fnd), (SOk K L ll lo hi ws ∧ FsOk L ll lo hi ws z) ∧ ds = [eNet K L ll, eBox lo hi, eWs ws, eFS z] ∧ d = .bl true

theorem c_find_spot (h : Hd P w K mg base) : FC P w K mg base 20 "find_spot" 3 (Pu (R_find_spot K)) := by
  refine mk_fc (N := ["net", "box", "wishes", "found"]) (ps := ["net", "box", "wishes"]) (V := [3, 3, 3, 3]) (Gs := ["Search"]) (k := 19) (d := dd_find_spot) h 104 66 rfl rfl rfl (by decide +kernel) rfl (fun _ _ _ _ _ _ us hl => match us, hl with | [_, _, _], _ => rfl) fun X Z ds μ r μ' C hR hx hl => ?_
  obtain ⟨rfl, rfl, L, ll, lo, hi, ws, hs, rfl, rfl⟩ := hR
  show DB K X Z [some (eNet K L ll), some (eBox lo hi), some (eWs ws), none] ([]) (defBody (top 126)) _
  refine db_set 3 C rfl rfl (de_methP C (MO.mc (m_sgrown h (hid L)) h 30 8 rfl rfl) (de_insN (dl_make 0 C (MO.kc (m_Search_init h) h 8 105 rfl rfl) rfl (da_cons (de_var 0 C rfl rfl rfl) (da_cons (de_var 1 C rfl rfl rfl) (da_cons (de_var 2 C rfl rfl rfl) da_nil))) (fun q => ⟨q, L, ll, lo, hi, ws, ⟨hs.net, hs.h8, hs.box, hs.wsl⟩, rfl, rfl, rfl, rfl⟩) rfl (by omega))) (da_cons de_int (da_cons de_int da_nil)) ⟨L, ll, lo, hi, ws, 0, 0, ⟨hs, by omega, by omega, by decide⟩, rfl, rfl⟩ rfl (by have := hs.h8; omega)) ?_
  cases hg1 : sgrow lo hi L ll ws (hid L) 0 with
  | found y =>
    show DB K X Z [some (eNet K L ll), some (eBox lo hi), some (eWs ws), some (.tup [.str "found", .tup [eF y]])] [] _ _
    refine db_if1 (dt_is (dt_cp (de_ixT C (de_var 3 C rfl rfl rfl) de_int rfl) de_str cp_eqS) (by rfl)) ?_
    exact db_ret (de_var 3 C rfl rfl rfl) ⟨(by rfl), (by first | exact ⟨[], rfl⟩ | exact ⟨[_], rfl⟩ | exact ⟨[_, _], rfl⟩ | exact ⟨[], by simp⟩)⟩
  | tree t1 =>
    have n1 := sgrow_nof lo hi L ll ws _ _ t1 hg1
    obtain ⟨w1, r1, e1, q1⟩ : ∃ w1 r1, eTr t1 = .tup (.str w1 :: r1) ∧ w1 ≠ "found" := by cases t1 with | two a b => exact ⟨_, _, rfl, by decide⟩ | leaf w ys => exact ⟨_, _, rfl, n1⟩
    show DB K X Z [some (eNet K L ll), some (eBox lo hi), some (eWs ws), some (eTr t1)] [] _ _
    refine db_skip (dt_is (dt_cp (de_ixT C (de_is (de_var 3 C rfl rfl rfl) e1) de_int (at_zero _ _)) de_str cp_eqS) (by simp [q1])) ?_
    exact db_ret (de_tup (da_cons de_str (da_cons (de_var 3 C rfl rfl rfl) da_nil))) ⟨(by rfl), (by first | exact ⟨[], rfl⟩ | exact ⟨[_], rfl⟩ | exact ⟨[_, _], rfl⟩ | exact ⟨[], by simp⟩)⟩
theorem c_shows_found (h : Hd P w K mg base) : FC P w K mg base 20 "shows_found" 4 (Pu (R_shows_found K)) := by
  refine mk_fc (N := ["net", "box", "wishes", "thing", "search", "wish"]) (ps := ["net", "box", "wishes", "thing"]) (V := [2, 3, 3, 2, 3, 0]) (Gs := ["Search", "is_said", "is_in", "all"]) (k := 19) (d := dd_shows_found) h 105 67 rfl rfl rfl (by decide +kernel) rfl (fun _ _ _ _ _ _ us hl => match us, hl with | [_, _, _, _], _ => rfl) fun X Z ds μ r μ' C hR hx hl => ?_
  obtain ⟨rfl, rfl, L, ll, lo, hi, ws, z, ⟨hs, hz⟩, rfl, rfl⟩ := hR
  show DB K X Z [some (eNet K L ll), some (eBox lo hi), some (eWs ws), some (eFS z), none, none] ([]) (defBody (top 127)) _
  refine db_set 4 C rfl rfl (de_insN (dl_make 0 C (MO.kc (m_Search_init h) h 8 105 rfl rfl) rfl (da_cons (de_var 0 C rfl rfl rfl) (da_cons (de_var 1 C rfl rfl rfl) (da_cons (de_var 2 C rfl rfl rfl) da_nil))) (fun q => ⟨q, L, ll, lo, hi, ws, ⟨hs.net, hs.h8, hs.box, hs.wsl⟩, rfl, rfl, rfl, rfl⟩) rfl (by omega))) ?_
  cases z with
  | found x =>
    obtain ⟨hx, hlo, hhi, hz2, hk⟩ := hz
    show DB K X Z [some (eNet K L ll), some (eBox lo hi), some (eWs ws), some (.tup [.str "found", .tup [eF x]]), some (eSea K L ll lo hi ws), none] [] _ _
    refine db_if1 (dt_is (dt_val (de_callP 1 C (c_is_said h) rfl (da_cons (de_var 3 C rfl rfl rfl) (da_cons de_str (da_cons de_int da_nil))) ⟨_, _, _, _, trivial, rfl, rfl⟩ rfl (by omega))) (by rfl)) ?_
    exact db_ret (de_andv (de_callP 2 C (c_is_in h) rfl (da_cons (de_var 1 C rfl rfl rfl) (da_cons (de_ixT C (de_var 3 C rfl rfl rfl) de_int rfl) da_nil)) ⟨lo, hi, x, ⟨hs.box, hx⟩, rfl, rfl⟩ rfl (by omega)) fun hc0 => (de_one (de_all 3 C rfl (h.free 5 _ rfl) (de_is (de_lst (dl_of_dc (V' := [1, 0, 0, 1, 0, 3]) (Gs' := ["keeps"]) (own := [("wish", 5)]) C (by decide +kernel) (dc_map ws eSum (fun w => .bl (!decide (w.2 < dot w.1 (outsAt L ll [x])))) [1, 0, 0, 1, 0, 3] ["keeps"] [("wish", 5)] C (by decide +kernel) (by decide +kernel) (di_list C (de_var 2 C rfl rfl rfl)) (by have := hs.wsl.1; omega) fun a ha => ⟨_, _, (by decide), fun _ C' => ⟨(dg_name 5 C' rfl rfl), (de_callP 0 C' (c_keeps h) rfl (da_cons (de_var 0 C' rfl rfl rfl) (da_cons (de_ixT C' (de_var 3 C' rfl rfl rfl) de_int rfl) (da_cons (de_var 5 C' rfl rfl rfl) da_nil))) ⟨L, ll, x, a, ⟨hz2, (hk a ha).1⟩, rfl, rfl⟩ rfl (by omega))⟩⟩))) (mapB _ _))))) ⟨(by simp [hlo, hhi]; intro a b hab; exact (hk (a, b) hab).2), (by first | exact ⟨[], rfl⟩ | exact ⟨[_], rfl⟩ | exact ⟨[_, _], rfl⟩ | exact ⟨[], by simp⟩)⟩
  | tree t =>
    show DB K X Z [some (eNet K L ll), some (eBox lo hi), some (eWs ws), some (.tup [.str "none", eTr t]), some (eSea K L ll lo hi ws), none] [] _ _
    refine db_skip (dt_is (dt_val (de_callP 1 C (c_is_said h) rfl (da_cons (de_var 3 C rfl rfl rfl) (da_cons de_str (da_cons de_int da_nil))) ⟨_, _, _, _, trivial, rfl, rfl⟩ rfl (by omega))) (by rfl)) ?_
    exact db_ret (de_andv (de_callP 1 C (c_is_said h) rfl (da_cons (de_var 3 C rfl rfl rfl) (da_cons de_str (da_cons de_int da_nil))) ⟨_, _, _, _, trivial, rfl, rfl⟩ rfl (by omega)) fun hc0 => (de_one (de_methP C (MO.mc (m_holds h 8) h 32 8 rfl rfl) (de_var 4 C rfl rfl rfl) (da_cons (de_ixT C (de_var 3 C rfl rfl rfl) de_int rfl) (da_cons de_int (da_cons de_int da_nil))) ⟨L, ll, lo, hi, ws, t, 0, 0, ⟨hs, hz.1, hz.2⟩, rfl, rfl⟩ rfl (by omega)))) ⟨(by rfl), (by first | exact ⟨[], rfl⟩ | exact ⟨[_], rfl⟩ | exact ⟨[_, _], rfl⟩ | exact ⟨[], by simp⟩)⟩
end
end NC

set_option Elab.async false
set_option linter.all false
set_option autoImplicit false
set_option maxRecDepth 100000
set_option maxHeartbeats 4000000
namespace NC
open PySem PySem.Spec PyProof.Rows L2

/-! printed by spec13.py: the law's numbers. -/
section
variable {P : Program} {w : World} {K : PySem.W.Frag} {mg : Str → Option Value} {base : Heap}


/-! ### the stream -/
abbrev S3 := Nat × Nat × Nat
abbrev ceT (q : Addr) (s : S3) : Addr × Cell := (q, .lst [.int (s.1 : Int), .int (s.2.1 : Int), .int (s.2.2 : Int)])
def n1F (s : S3) : Nat := ((s.2.1 + 6113 * (s.2.2 + 1)) * 69621 + 271) % 2147483647
def n2F (s : S3) : Nat := n1F s * n1F s % 2147483587
def nextF (s : S3) : Nat := (n2F s * n2F s + 7907 * (s.2.2 + 1)) % 2147483563 / 16
def takeF (m : Nat) (s : S3) : Nat × S3 := if 0 < s.1 then (s.1 % m, (s.1 / m, s.2)) else (nextF s % m, (s.1, s.2.1, s.2.2 + 1))
/-- room for k takes -/
def TkOk (k : Nat) (s : S3) : Prop := s.2.1 < 2147483629 ∧ s.2.2 + k ≤ 1000000
theorem TkOk.le {k j : Nat} {s : S3} (h : TkOk k s) (hj : j ≤ k) : TkOk j s := ⟨h.1, by have := h.2; omega⟩
theorem TkOk.take {k m : Nat} {s : S3} (h : TkOk (k + 1) s) : TkOk k (takeF m s).2 := by
  unfold takeF TkOk at *
  split
  · exact ⟨h.1, by have := h.2; show s.2.2 + k ≤ 1000000; omega⟩
  · exact ⟨h.1, by have := h.2; show s.2.2 + 1 + k ≤ 1000000; omega⟩
theorem takeF_lt {m : Nat} {s : S3} (h : 0 < m) : (takeF m s).1 < m := by
  unfold takeF
  split
  · exact Nat.mod_lt _ h
  · exact Nat.mod_lt _ h
abbrev R_law_stream (ds : List D) (c : Cell) : Prop := ∃ z : Int, True ∧ ds = [.int z] ∧ c = .lst [.int ((max 0 (z - 1000000000000000000)).toNat : Int), .int ((z % 2147483629).toNat : Int), .int 0]
abbrev R_law_take : Con := fun ds μ d μ' => ∃ (q : Addr) (s : S3) (m : Nat), (TkOk 1 s ∧ 0 < m ∧ m < 1000000) ∧ ds = [.ref q, .int (m : Int)] ∧ μ = [ceT q s] ∧ d = .int ((takeF m s).1 : Int) ∧ μ' = [ceT q (takeF m s).2]
abbrev R_law_made (ds : List D) (d : D) : Prop := ∃ (a : Int) (b : Nat) (hb : b ≠ 0), b < 2 ^ 9000 ∧ ds = [.int a, .int (b : Int)] ∧ d = eF (Rat.normalize a b hb)
abbrev R_law_weigh (ds : List D) (d : D) : Prop := ∃ (xs ys : List Rat) (dy : D), (dy.items = some (ys.map eF) ∧ SmDot 0 (xs.zip ys)) ∧ ds = [eR xs, dy] ∧ d = eF (dot xs ys)
abbrev R_law_cut (ds : List D) (d : D) : Prop := ∃ v : Rat, True ∧ ds = [eF v] ∧ d = eF (cut0 v)
theorem smallMul {i j : Int} (hi : i.natAbs < 2 ^ 100) (hj : j.natAbs < 2 ^ 100) : CMulX i j := smul (lt9 hi (by decide)) (lt9 hj (by decide))
theorem n1_cast (s : S3) : (((s.2.1 : Int) + 6113 * ((s.2.2 : Int) + 1)) * 69621 + 271) % 2147483647 = ((n1F s : Nat) : Int) := by
  unfold n1F; omega
theorem n2_cast (s : S3) : ((n1F s : Nat) : Int) * ((n1F s : Nat) : Int) % 2147483587 = ((n2F s : Nat) : Int) := by
  unfold n2F; rw [Int.natCast_emod, Int.natCast_mul]; rfl
theorem n3_cast (s : S3) : (((n2F s : Nat) : Int) * ((n2F s : Nat) : Int) + 7907 * ((s.2.2 : Int) + 1)) % 2147483563 / 16 = ((nextF s : Nat) : Int) := by
  unfold nextF
  have e : ((n2F s : Nat) : Int) * ((n2F s : Nat) : Int) = ((n2F s * n2F s : Nat) : Int) := by rw [Int.natCast_mul]
  rw [e]; omega
theorem n1_lt (s : S3) : n1F s < 2147483647 := Nat.mod_lt _ (by decide)
theorem n2_lt (s : S3) : n2F s < 2147483587 := Nat.mod_lt _ (by decide)
theorem sml {a : Int} (h : a.natAbs < 2147483648) : a.natAbs < 2 ^ 100 := Nat.lt_trans h (by decide)

theorem c__law_take (h : Hd P w K mg base) : FC P w K mg base 1 "_law_take" 2 (R_law_take) := by
  refine mk_fc (N := ["_law_stream_here", "_law_many", "_law_digit", "_law_number"]) (ps := ["_law_stream_here", "_law_many"]) (V := [3, 3, 3, 3]) (Gs := []) (k := 0) (d := dd__law_take) h 108 70 rfl rfl rfl (by decide +kernel) rfl (fun _ _ _ _ _ _ us hl => match us, hl with | [_, _], _ => rfl) fun X Z ds μ r μ' C hR hx hl => ?_
  obtain ⟨q, s, m, ⟨ht, hm, hm2⟩, rfl, rfl, rfl, rfl⟩ := hR
  show DB K X Z [some (.ref q), some (.int (m : Int)), none, none] ([ceT q s]) (defBody (top 131)) _
  by_cases hp : 0 < s.1
  · have hE : takeF m s = (s.1 % m, (s.1 / m, s.2)) := if_pos hp
    rw [hE]
    refine db_if1 (dt_is (dt_cp (de_ixO 0 C (de_var 0 C rfl rfl rfl) de_int rfl (by rfl)) de_int cp_gt) (by simp; omega)) ?_
    refine db_set 2 C rfl rfl (de_mod (de_ixO 0 C (de_var 0 C rfl rfl rfl) de_int rfl (by rfl)) (de_var 1 C rfl rfl rfl) (by omega)) ?_
    refine db_asg (de_fdiv (de_ixO 0 C (de_var 0 C rfl rfl rfl) de_int rfl (by rfl)) (de_var 1 C rfl rfl rfl) (by exact wide_div (b := 9000) (by omega) (by rw [Int.natAbs_natCast]; exact Nat.lt_trans hm2 (Nat.lt_of_lt_of_le (by decide : 1000000 < 2 ^ 20) (Nat.pow_le_pow_right (by decide) (by decide)))) (by decide) (by decide))) (dg_setix 0 (de_var 0 C rfl rfl rfl) de_int rfl (by rfl)) ?_
    exact db_ret (de_var 2 C rfl rfl rfl) ⟨(by exact congrArg D.int (Int.natCast_emod s.1 m).symm), (by first | exact ⟨[], rfl⟩ | exact ⟨[_], rfl⟩ | exact ⟨[_, _], rfl⟩ | exact ⟨[], by simp⟩)⟩
  · have hE : takeF m s = (nextF s % m, (s.1, s.2.1, s.2.2 + 1)) := if_neg hp
    rw [hE]
    have h1 := ht.1
    have h2 := ht.2
    refine db_skip (dt_is (dt_cp (de_ixO 0 C (de_var 0 C rfl rfl rfl) de_int rfl (by rfl)) de_int cp_gt) (by simp; omega)) ?_
    refine db_asg (de_add (de_ixO 0 C (de_var 0 C rfl rfl rfl) de_int rfl (by rfl)) de_int) (dg_setix 0 (de_var 0 C rfl rfl rfl) de_int rfl (by rfl)) ?_
    show DB K X Z _ [(q, .lst [.int (s.1 : Int), .int (s.2.1 : Int), .int ((s.2.2 : Int) + 1)])] _ _
    refine db_set 3 C rfl rfl (de_is (de_mod (de_add (de_mul (de_add (de_ixO 0 C (de_var 0 C rfl rfl rfl) de_int rfl (by rfl)) (de_mul de_int (de_ixO 0 C (de_var 0 C rfl rfl rfl) de_int rfl (by rfl)) (by exact smallMul (by decide) (sml (by omega))))) de_int (by exact smul (lt9 (k := 60) (by have e : (2 : Nat) ^ 60 = 1152921504606846976 := rfl; omega) (by decide)) (lt9 (k := 60) (by decide) (by decide)))) de_int) de_int (by omega)) (by exact congrArg D.int (n1_cast s))) ?_
    have b1 := n1_lt s
    have b2 := n2_lt s
    refine db_set 3 C rfl rfl (de_is (de_mod (de_mul (de_var 3 C rfl rfl rfl) (de_var 3 C rfl rfl rfl) (by exact smallMul (sml (by omega)) (sml (by omega)))) de_int (by omega)) (by exact congrArg D.int (n2_cast s))) ?_
    exact db_ret (de_mod (de_fdiv (de_mod (de_add (de_mul (de_var 3 C rfl rfl rfl) (de_var 3 C rfl rfl rfl) (by exact smallMul (sml (by omega)) (sml (by omega)))) (de_mul de_int (de_ixO 0 C (de_var 0 C rfl rfl rfl) de_int rfl (by rfl)) (by exact smallMul (by decide) (sml (by omega))))) de_int (by omega)) de_int (by exact wide_div (b := 9000) (by decide) (lt9 (k := 5) (by decide) (by decide)) (by decide) (by decide))) (de_var 1 C rfl rfl rfl) (by omega)) ⟨(by rw [n3_cast, Int.natCast_emod]), (by first | exact ⟨[], rfl⟩ | exact ⟨[_], rfl⟩ | exact ⟨[_, _], rfl⟩ | exact ⟨[], by simp⟩)⟩
theorem c__law_made (h : Hd P w K mg base) : FC P w K mg base 1 "_law_made" 2 (Pu (R_law_made)) := by
  refine mk_fc (N := ["_law_top", "_law_bottom", "_law_one", "_law_other"]) (ps := ["_law_top", "_law_bottom"]) (V := [3, 3, 3, 3]) (Gs := ["abs"]) (k := 0) (d := dd__law_made) h 109 71 rfl rfl rfl (by decide +kernel) rfl (fun _ _ _ _ _ _ us hl => match us, hl with | [_, _], _ => rfl) fun X Z ds μ r μ' C hR hx hl => ?_
  obtain ⟨rfl, rfl, a, b, hz, hb, rfl, rfl⟩ := hR
  show DB K X Z [some (.int a), some (.int (b : Int)), none, none] ([]) (defBody (top 132)) _
  refine db_pr 2 3 C rfl rfl rfl rfl (da_cons (de_abs 0 C rfl (h.free 1 _ rfl) (de_var 0 C rfl rfl rfl)) (da_cons (de_var 1 C rfl rfl rfl) da_nil)) ?_
  refine db_whileS (S := Nat × Nat) (fun s n => s.1.gcd s.2 = a.natAbs.gcd b ∧ n = s.2) (fun s => [some (.int a), some (.int (b : Int)), some (.int (s.1 : Int)), some (.int (s.2 : Int))]) (fun _ => []) (a.natAbs, b) b C rfl (Le.refl _) ⟨rfl, rfl⟩ (fun s n hJ => ⟨_, (dt_cp (de_var 3 C rfl rfl rfl) de_int cp_gt), fun hu => ?_, fun hu => ?_⟩)
  · have hb2 : s.2 ≠ 0 := by simp at hu; omega
    refine db_pr 2 3 C rfl rfl rfl rfl (da_cons (de_var 3 C rfl rfl rfl) (da_cons (de_mod (de_var 2 C rfl rfl rfl) (de_var 3 C rfl rfl rfl) (by omega)) da_nil)) ?_
    exact db_nil ⟨(s.2, s.1 % s.2), s.1 % s.2, by rw [hJ.2]; exact Nat.mod_lt _ (Nat.pos_of_ne_zero hb2), ⟨by rw [← hJ.1]; show s.2.gcd (s.1 % s.2) = _; rw [Nat.gcd_comm, ← Nat.gcd_rec, Nat.gcd_comm], rfl⟩, Le.refl _, rfl⟩
  · have hb2 : s.2 = 0 := by simp at hu; omega
    have e : a.natAbs.gcd b = s.1 := by rw [← hJ.1, hb2, Nat.gcd_zero_right]
    exact db_ret (de_tup (da_cons (de_fdiv (de_var 0 C rfl rfl rfl) (de_var 2 C rfl rfl rfl) (by rw [← e]; exact gcd_div hz hb)) (da_cons (de_fdiv (de_var 1 C rfl rfl rfl) (de_var 2 C rfl rfl rfl) (by rw [← e]; exact gcd_div hz hb)) da_nil))) ⟨(by rw [← e]; exact (eF_normalize hz).symm), (by first | exact ⟨[], rfl⟩ | exact ⟨[_], rfl⟩ | exact ⟨[_, _], rfl⟩ | exact ⟨[], by simp⟩)⟩
theorem c__law_plus (h : Hd P w K mg base) : FC P w K mg base 2 "_law_plus" 2 (Pu (R_plus)) := by
  refine mk_fc (N := ["_law_one", "_law_other"]) (ps := ["_law_one", "_law_other"]) (V := [3, 3]) (Gs := ["_law_made"]) (k := 1) (d := dd__law_plus) h 110 72 rfl rfl rfl (by decide +kernel) rfl (fun _ _ _ _ _ _ us hl => match us, hl with | [_, _], _ => rfl) fun X Z ds μ r μ' C hR hx hl => ?_
  obtain ⟨rfl, rfl, p, q, ⟨hp, hq⟩, rfl, rfl⟩ := hR
  show DB K X Z [some (eF p), some (eF q)] ([]) (defBody (top 133)) _
  exact db_ret (de_callP 0 C (c__law_made h) rfl (da_cons (de_add (de_mul (de_ixT C (de_var 0 C rfl rfl rfl) de_int rfl) (de_ixT C (de_var 1 C rfl rfl rfl) de_int rfl) (by exact sm_nd hp hq)) (de_mul (de_ixT C (de_var 1 C rfl rfl rfl) de_int rfl) (de_ixT C (de_var 0 C rfl rfl rfl) de_int rfl) (by exact sm_nd hq hp))) (da_cons (de_mul (de_ixT C (de_var 0 C rfl rfl rfl) de_int rfl) (de_ixT C (de_var 1 C rfl rfl rfl) de_int rfl) (by exact sm_dd hp hq)) da_nil)) ⟨_, p.den * q.den, den_nz p q, sm_den hp hq, by rw [Int.natCast_mul], rfl⟩ rfl (by omega)) ⟨(by exact congrArg eF (Rat.add_def p q).symm), (by first | exact ⟨[], rfl⟩ | exact ⟨[_], rfl⟩ | exact ⟨[_, _], rfl⟩ | exact ⟨[], by simp⟩)⟩
theorem c__law_times (h : Hd P w K mg base) : FC P w K mg base 2 "_law_times" 2 (Pu (R_times)) := by
  refine mk_fc (N := ["_law_one", "_law_other"]) (ps := ["_law_one", "_law_other"]) (V := [3, 3]) (Gs := ["_law_made"]) (k := 1) (d := dd__law_times) h 111 73 rfl rfl rfl (by decide +kernel) rfl (fun _ _ _ _ _ _ us hl => match us, hl with | [_, _], _ => rfl) fun X Z ds μ r μ' C hR hx hl => ?_
  obtain ⟨rfl, rfl, p, q, ⟨hp, hq⟩, rfl, rfl⟩ := hR
  show DB K X Z [some (eF p), some (eF q)] ([]) (defBody (top 134)) _
  exact db_ret (de_callP 0 C (c__law_made h) rfl (da_cons (de_mul (de_ixT C (de_var 0 C rfl rfl rfl) de_int rfl) (de_ixT C (de_var 1 C rfl rfl rfl) de_int rfl) (by exact sm_nn hp hq)) (da_cons (de_mul (de_ixT C (de_var 0 C rfl rfl rfl) de_int rfl) (de_ixT C (de_var 1 C rfl rfl rfl) de_int rfl) (by exact sm_dd hp hq)) da_nil)) ⟨_, p.den * q.den, den_nz p q, sm_den hp hq, by rw [Int.natCast_mul], rfl⟩ rfl (by omega)) ⟨(by exact congrArg eF (Rat.mul_def p q).symm), (by first | exact ⟨[], rfl⟩ | exact ⟨[_], rfl⟩ | exact ⟨[_, _], rfl⟩ | exact ⟨[], by simp⟩)⟩
theorem c__law_less (h : Hd P w K mg base) : FC P w K mg base 1 "_law_less" 2 (Pu (R_is_less)) := by
  refine mk_fc (N := ["_law_one", "_law_other"]) (ps := ["_law_one", "_law_other"]) (V := [3, 3]) (Gs := []) (k := 0) (d := dd__law_less) h 112 74 rfl rfl rfl (by decide +kernel) rfl (fun _ _ _ _ _ _ us hl => match us, hl with | [_, _], _ => rfl) fun X Z ds μ r μ' C hR hx hl => ?_
  obtain ⟨rfl, rfl, p, q, ⟨hp, hq⟩, rfl, rfl⟩ := hR
  show DB K X Z [some (eF p), some (eF q)] ([]) (defBody (top 135)) _
  exact db_ret (de_cp (de_mul (de_ixT C (de_var 0 C rfl rfl rfl) de_int rfl) (de_ixT C (de_var 1 C rfl rfl rfl) de_int rfl) (by exact sm_nd hp hq)) (de_mul (de_ixT C (de_var 1 C rfl rfl rfl) de_int rfl) (de_ixT C (de_var 0 C rfl rfl rfl) de_int rfl) (by exact sm_nd hq hp)) cp_lt) ⟨(by simp [Rat.lt_iff]), (by first | exact ⟨[], rfl⟩ | exact ⟨[_], rfl⟩ | exact ⟨[_, _], rfl⟩ | exact ⟨[], by simp⟩)⟩

theorem zip_items {α β : Type} (f : α → D) (g : β → D) {xs : List α} {ys : List β} {zs : List D} (h : zs = ys.map g) : zipD (xs.map f) zs = (xs.zip ys).map fun q => .tup [f q.1, g q.2] := by rw [h, zip_map]

theorem c__law_weigh (h : Hd P w K mg base) : FC P w K mg base 3 "_law_weigh" 2 (Pu (R_law_weigh)) := by
  refine mk_fc (N := ["_law_row", "_law_other", "_law_found", "_law_one", "_law_two"]) (ps := ["_law_row", "_law_other"]) (V := [3, 3, 3, 3, 3]) (Gs := ["zip", "_law_plus", "_law_times"]) (k := 2) (d := dd__law_weigh) h 113 75 rfl rfl rfl (by decide +kernel) rfl (fun _ _ _ _ _ _ us hl => match us, hl with | [_, _], _ => rfl) fun X Z ds μ r μ' C hR hx hl => ?_
  obtain ⟨rfl, rfl, xs, ys, dy, ⟨hy, hs⟩, rfl, rfl⟩ := hR
  show DB K X Z [some (eR xs), some (dy), none, none, none] ([]) (defBody (top 136)) _
  refine db_set 2 C rfl rfl (de_is (de_is (de_tup (da_cons de_int (da_cons de_int da_nil))) (by rfl : _ = eF (0))) (by exact (rfl : _ = eF 0))) ?_
  refine db_forS (xs.zip ys) (fun q => .tup [eF q.1, eF q.2]) (fun (f : Rat) l => SmDot f l ∧ dotZ f l = dot xs ys) (fun f => [some (eR xs), some dy, some (eF f), none, none]) (fun _ => []) 0 C (di_is (di_zip 0 C rfl (h.free 14 _ rfl) (de_var 0 C rfl rfl rfl) (de_var 1 C rfl rfl rfl) rfl hy) (zip_map _ _ _ _)) rfl (.some (.some (.some (.none (.none .nil))))) (by exact ⟨hs, rfl⟩) (fun f a l hJ ha => ?_) (fun f hJ => ?_)
  · skip
    obtain ⟨⟨s1, s2, s3, s4, s5⟩, e⟩ := hJ
    refine ⟨_, _, _, (dg_tup C (dgs_cons (dg_name 3 C rfl rfl) (dgs_cons (dg_name 4 C rfl rfl) dgs_nil)) rfl), ?_⟩
    refine db_set 2 C rfl rfl (de_callP 1 C (c__law_plus h) rfl (da_cons (de_var 2 C rfl rfl rfl) (da_cons (de_callP 2 C (c__law_times h) rfl (da_cons (de_var 3 C rfl rfl rfl) (da_cons (de_var 4 C rfl rfl rfl) da_nil)) ⟨_, _, ⟨(by first | rfl | assumption | omega | decide | simp), (by first | rfl | assumption | omega | decide | simp)⟩, rfl, rfl⟩ rfl (by omega)) da_nil)) ⟨_, _, ⟨(by first | rfl | assumption | omega | decide | simp), (by first | rfl | assumption | omega | decide | simp)⟩, rfl, rfl⟩ rfl (by omega)) ?_
    exact db_nil ⟨_, ⟨s5, e⟩, (.some (.some (.some (.none (.none .nil))))), rfl⟩
  exact db_ret (de_var 2 C rfl rfl rfl) ⟨(by rw [← hJ.2]; rfl), (by first | exact ⟨[], rfl⟩ | exact ⟨[_], rfl⟩ | exact ⟨[_, _], rfl⟩ | exact ⟨[], by simp⟩)⟩

theorem num_neg_iff {q : Rat} : q.num < 0 ↔ q < 0 := ⟨fun h => Rat.not_le.mp fun z => Int.not_le.mpr h (num_nonneg z), num_neg⟩
theorem cut_ite {v : Rat} : (if decide (v.num < 0) = true then eF 0 else eF v) = eF (cut0 v) := by
  unfold cut0
  by_cases h : v < 0
  · have := num_neg h
    simp [h, this]
  · have : ¬ v.num < 0 := fun z => h (num_neg_iff.mp z)
    simp [h, this]

theorem c__law_cut (h : Hd P w K mg base) : FC P w K mg base 1 "_law_cut" 1 (Pu (R_law_cut)) := by
  refine mk_fc (N := ["_law_one"]) (ps := ["_law_one"]) (V := [3]) (Gs := []) (k := 0) (d := dd__law_cut) h 114 76 rfl rfl rfl (by decide +kernel) rfl (fun _ _ _ _ _ _ us hl => match us, hl with | [_], _ => rfl) fun X Z ds μ r μ' C hR hx hl => ?_
  obtain ⟨rfl, rfl, v, _, rfl, rfl⟩ := hR
  show DB K X Z [some (eF v)] ([]) (defBody (top 137)) _
  exact db_ret (de_ite (dt_cp (de_ixT C (de_var 0 C rfl rfl rfl) de_int rfl) de_int cp_lt) (de_is (de_tup (da_cons de_int (da_cons de_int da_nil))) (by rfl : _ = eF (0))) (de_var 0 C rfl rfl rfl)) ⟨(by exact cut_ite), (by first | exact ⟨[], rfl⟩ | exact ⟨[_], rfl⟩ | exact ⟨[_, _], rfl⟩ | exact ⟨[], by simp⟩)⟩

theorem de_to {X : Cx} {Z : Zed} {ρ : Rho} {μ μ1 μ2 : Mu} {e : Expr} {d d' : D} (h : DE K X Z ρ μ e d μ1) (q : d = d') (q2 : μ1 = μ2) : DE K X Z ρ μ e d' μ2 := by subst q q2; exact h
def strF (z : Int) : S3 := ((z - 1000000000000000000).toNat, (z % 2147483629).toNat, 0)
abbrev R_law_stream2 (ds : List D) (c : Cell) : Prop := ∃ z : Int, True ∧ ds = [.int z] ∧ c = .lst [.int ((strF z).1 : Int), .int ((strF z).2.1 : Int), .int ((strF z).2.2 : Int)]
def shareF (s : S3) : Rat × S3 := let a := takeF 9 s
  let b := takeF 3 a.2
  (mkRat ((a.1 : Int) - 4) (1 + b.1), b.2)
def sharesF : List Nat → S3 → List Rat × S3
  | [], s => ([], s)
  | _ :: r, s => let x := shareF s
    let y := sharesF r x.2
    (x.1 :: y.1, y.2)
theorem sharesF_snoc (a : Nat) : ∀ (l : List Nat) (s : S3), sharesF (l ++ [a]) s = ((sharesF l s).1 ++ [(shareF (sharesF l s).2).1], (shareF (sharesF l s).2).2)
  | [], s => rfl
  | b :: l, s => by
    show (_ :: (sharesF (l ++ [a]) _).1, (sharesF (l ++ [a]) _).2) = _
    rw [sharesF_snoc a l]
    rfl
theorem shareF_ok {k : Nat} {s : S3} (h : TkOk (k + 2) s) : TkOk k (shareF s).2 := (TkOk.take (TkOk.take (k := k + 1) h))
theorem sharesF_ok : ∀ (l : List Nat) {k : Nat} {s : S3}, TkOk (k + 2 * l.length) s → TkOk k (sharesF l s).2
  | [], k, s, h => h
  | b :: l, k, s, h => sharesF_ok l (shareF_ok (k := k + 2 * l.length) (by rw [show k + 2 * l.length + 2 = k + 2 * (b :: l).length from by simp; omega]; exact h))
theorem sharesF_len : ∀ (l : List Nat) (s : S3), (sharesF l s).1.length = l.length
  | [], s => rfl
  | b :: l, s => by show ((_ :: (sharesF l _).1).length) = _; simp [sharesF_len l]
def nodeF (n : Nat) (s : S3) : Node × S3 := let r := sharesF (List.range n) s
  let x := shareF r.2
  ((r.1, x.1), x.2)
theorem nodeF_ok {n k : Nat} {s : S3} (h : TkOk (k + 2 * n + 2) s) : TkOk k (nodeF n s).2 := shareF_ok (sharesF_ok (List.range n) (k := k + 2) (by rw [List.length_range]; rw [show k + 2 + 2 * n = k + 2 * n + 2 from by omega]; exact h))
abbrev R_law_share : Con := fun ds μ d μ' => ∃ (q : Addr) (s : S3), TkOk 2 s ∧ ds = [.ref q] ∧ μ = [ceT q s] ∧ d = eF (shareF s).1 ∧ μ' = [ceT q (shareF s).2]
abbrev R_law_node : Con := fun ds μ d μ' => ∃ (q : Addr) (s : S3) (n : Nat), (TkOk (2 * n + 2) s ∧ n ≤ 100) ∧ ds = [.ref q, .int (n : Int)] ∧ μ = [ceT q s] ∧ d = eSum (nodeF n s).1 ∧ μ' = [ceT q (nodeF n s).2]
theorem norm_mk {a : Int} {b : Nat} (h : b ≠ 0) : eF (Rat.normalize a b h) = eF (mkRat a b) := by rw [Rat.normalize_eq_mkRat]
theorem sm9 {b : Nat} (h : b < 1000000) : b < 2 ^ 9000 := Nat.lt_trans h (Nat.lt_of_lt_of_le (by decide : 1000000 < 2 ^ 20) (Nat.pow_le_pow_right (by decide) (by decide)))

theorem l__law_stream (h : Hd P w K mg base) : FL P w K mg base 1 "_law_stream" 1 (R_law_stream2) := by
  refine mk_fl (N := ["_law_cell_here"]) (ps := ["_law_cell_here"]) (V := [3]) (Gs := ["max"]) (k := 0) (d := dd__law_stream) h 107 69 rfl rfl rfl (by decide +kernel) rfl (fun _ _ _ _ _ _ us hl => match us, hl with | [_], _ => rfl) fun X Z ds c C hR hx hl => ?_
  obtain ⟨z, _, rfl, rfl⟩ := hR
  show DB K X Z [some (.int z)] ([]) (defBody (top 130)) _
  exact db_retL (dl_is (c' := .lst [.int ((strF z).1 : Int), .int ((strF z).2.1 : Int), .int ((strF z).2.2 : Int)]) (dl_lst (da_cons (de_max 0 C rfl (h.free 2 _ rfl) de_int (de_sub (de_var 0 C rfl rfl rfl) (de_pow de_int de_int (by exact ⟨by decide, by decide, by decide⟩)))) (da_cons (de_mod (de_var 0 C rfl rfl rfl) de_int (by exact (by decide : (0 : Int) < 2147483629))) (da_cons de_int da_nil)))) (by show Cell.lst [.int (max 0 (z - 10 ^ ((18 : Int)).toNat)), .int (z % 2147483629), .int 0] = _; rw [show (10 : Int) ^ ((18 : Int)).toNat = 1000000000000000000 from rfl, show max 0 (z - 1000000000000000000) = (((strF z).1 : Nat) : Int) from by simp only [strF]; omega, show z % 2147483629 = (((strF z).2.1 : Nat) : Int) from by simp only [strF]; omega]; rfl)) fun q hq => ⟨q, rfl, hq, (by simp)⟩
theorem c__law_share (h : Hd P w K mg base) : FC P w K mg base 2 "_law_share" 1 (R_law_share) := by
  refine mk_fc (N := ["_law_stream_here"]) (ps := ["_law_stream_here"]) (V := [3]) (Gs := ["_law_made", "_law_take"]) (k := 1) (d := dd__law_share) h 115 77 rfl rfl rfl (by decide +kernel) rfl (fun _ _ _ _ _ _ us hl => match us, hl with | [_], _ => rfl) fun X Z ds μ r μ' C hR hx hl => ?_
  obtain ⟨q, s, ht, rfl, rfl, rfl, rfl⟩ := hR
  show DB K X Z [some (.ref q)] ([ceT q s]) (defBody (top 138)) _
  exact db_ret (de_callP 0 C (c__law_made h) rfl (da_cons (de_sub (de_callC (hm := (Eq.refl [q] : [q] = [q])) 1 1 C (c__law_take h) rfl (da_cons (de_var 0 C rfl rfl rfl) (da_cons de_int da_nil)) ⟨q, s, 9, ⟨ht.le (by decide), by decide, by decide⟩, rfl, rfl, rfl, rfl⟩ rfl (by omega)) de_int) (da_cons (de_add de_int (de_callC (hm := (Eq.refl [q] : [q] = [q])) 1 1 C (c__law_take h) rfl (da_cons (de_var 0 C rfl rfl rfl) (da_cons de_int da_nil)) ⟨q, (takeF 9 s).2, 3, ⟨ht.take, by decide, by decide⟩, rfl, rfl, rfl, rfl⟩ rfl (by omega))) da_nil)) ⟨((takeF 9 s).1 : Int) - 4, 1 + (takeF 3 (takeF 9 s).2).1, by omega, sm9 (by have := takeF_lt (m := 3) (s := (takeF 9 s).2) (by decide); omega), (by simp), (norm_mk _).symm⟩ rfl (by omega)) ⟨(by rfl), (by first | exact ⟨[], rfl⟩ | exact ⟨[_], rfl⟩ | exact ⟨[_, _], rfl⟩ | exact ⟨[], by simp⟩)⟩
theorem c__law_node (h : Hd P w K mg base) : FC P w K mg base 3 "_law_node" 2 (R_law_node) := by
  refine mk_fc (N := ["_law_stream_here", "_law_many", "_law_k"]) (ps := ["_law_stream_here", "_law_many"]) (V := [2, 3, 0]) (Gs := ["tuple", "range", "_law_share"]) (k := 2) (d := dd__law_node) h 116 78 rfl rfl rfl (by decide +kernel) rfl (fun _ _ _ _ _ _ us hl => match us, hl with | [_, _], _ => rfl) fun X Z ds μ r μ' C hR hx hl => ?_
  obtain ⟨q, s, n, ⟨ht, hn⟩, rfl, rfl, rfl, rfl⟩ := hR
  show DB K X Z [some (.ref q), some (.int (n : Int)), none] ([ceT q s]) (defBody (top 139)) _
  exact db_ret (de_tup (da_cons (de_tupleL 0 C rfl (h.free 12 _ rfl) (de_lst (dl_of_dc (V' := [1, 0, 3]) (Gs' := ["_law_share"]) (own := [("_law_k", 2)]) C (by decide +kernel) (dc_mapM (List.range n) (fun (i : Nat) => .int (i : Int)) (fun l _ => eF (shareF (sharesF l s).2).1) (fun _ => true) (fun l => [ceT q (sharesF l s).2]) (fun l => (sharesF l s).1.map eF) [1, 0, 3] ["_law_share"] [("_law_k", 2)] C (by decide +kernel) (by decide +kernel) (di_is (di_range (n := n) 1 C rfl (h.free 16 _ rfl) (de_var 1 C rfl rfl rfl) (by rfl) (by first | rfl | assumption | omega | decide | simp)) (by rfl)) (by simp; omega) rfl (fun l a _ => by rw [sharesF_snoc]; simp) (fun l a e => by cases e) fun l a r e => ⟨_, _, (by decide), (fun z => by cases z), fun _ C' => ⟨(dg_name 2 C' rfl rfl), dts_nil, fun _ => de_to (de_callC (hm := (Eq.refl [q] : [q] = [q])) 1 0 C' (c__law_share h) rfl (da_cons (de_var 0 C' rfl rfl rfl) da_nil) ⟨q, _, sharesF_ok l (k := 2) (ht.le (by have h1 := congrArg List.length e; simp at h1; omega)), rfl, rfl, rfl, rfl⟩ rfl (by omega)) (by rfl) (by rw [sharesF_snoc]; rfl)⟩⟩)))) (da_cons (de_callC (hm := (Eq.refl [q] : [q] = [q])) 1 2 C (c__law_share h) rfl (da_cons (de_var 0 C rfl rfl rfl) da_nil) ⟨q, _, sharesF_ok (List.range n) (k := 2) (ht.le (by simp; omega)), rfl, rfl, rfl, rfl⟩ rfl (by omega)) da_nil))) ⟨rfl, [], rfl⟩
end
end NC

set_option Elab.async false
set_option linter.all false
set_option autoImplicit false
set_option maxRecDepth 100000
set_option maxHeartbeats 4000000
namespace NC
open PySem PySem.Spec PyProof.Rows L2

/-! printed by spec14.py: the law's values. -/
section
variable {P : Program} {w : World} {K : PySem.W.Frag} {mg : Str → Option Value} {base : Heap}


/-! ### a list grows by a tuple -/
theorem extT_meets (l : Addr) (xs : Array Value) (n : Nat) (b : Addr) (ys : Array Value) (n2 : Nat) (dd : Option Addr) (sl : Array (Option Value)) (h0 : ¬(!xs.isEmpty && Builtin.List.listTooLong (xs.size + ys.size)) = true) (h1 : xs.size ≤ sizeLine) (h2 : xs.size + ys.size ≤ sizeLine + 1) :
    Meets (Builtin.«list.extend» ⟨[.ref l, .ref b], []⟩) (fun _ R s => s.heap.get? l = some { cls := .type "list", dict := none, data := .seq xs n, slots := #[] } ∧ s.heap.get? b = some { cls := .type "tuple", dict := dd, data := .seq ys n2, slots := sl } ∧ R (.ok (.ret Value.none)) { s with heap := s.heap.update l (Obj.mapSeq fun x => x ++ ys), toks := s.toks }) :=
  .of_wp fun prog w A R s q => by
    obtain ⟨hp, g, d, tk, os⟩ := s
    obtain ⟨q1, q2, q3⟩ := q
    have f1 := PySem.AutoSeq1.idx_int; have f2 := PySem.AutoSeq1.sub_tuple_tuple; have f3 := PySem.AutoSeq1.sub_list_list; have f4 := PySem.AutoSeq1.sub_tuple_list; have f5 := PySem.AutoSeq1.sub_list_tuple
    have z : (xs ++ ys).size ≤ sizeLine + 1 := by rw [Array.size_append]; exact h2
    wp_walk using (wpAny_updateSeq q1 rfl (hz := h1) (_hz' := z)), wpAny_loadPart' q1, wpAny_loadPart' q2
    exact ⟨_, rfl, q3⟩
def rExtT (K : PySem.W.Frag) : L2.V → List L2.V → Hp → VK → Prop := fun x vs H Q => ∃ l b xs zs, x = .ref l ∧ vs = [.ref b] ∧ H l = some (.lst xs) ∧ SqT K H b zs ∧ xs.length + zs.length ≤ sizeLine ∧ Q .non (upd H l (.lst (xs ++ zs)))
theorem mt_extT {X : Cx} : MtM X "list.extend" (rExtT X.K) := by
  intro pins s σ H x vs v us Q I rx rv h
  obtain ⟨l, b, xs, zs, rfl, rfl, hH, hB, hz, q⟩ := h
  cases rx
  obtain ⟨u, rfl, ru⟩ := rv.one
  cases ru
  obtain ⟨z, its, n, r, hl, e⟩ := I.lstM hH
  obtain ⟨its2, r2, ⟨⟨cls, dd, data, sl⟩, ho, hc, n2, hd⟩, hs⟩ := I.tuple hB
  simp only at hc hd
  subst hc hd
  have hl2 := r2.length
  have hsz : its.toArray.size + its2.toArray.size ≤ sizeLine := by rw [List.size_toArray, List.size_toArray]; omega
  refine call_meets PySem.F.slot_list_extend ⟨_, e, rfl⟩ PySem.F.entry_list_extend (PySem.F.args_list_extend_2 _ _) (extT_meets l its.toArray n b its2.toArray n2 dd sl (by rw [notLongL hsz, Bool.and_false]; exact Bool.false_ne_true) (by rw [List.size_toArray]; omega) (by omega)) ⟨e, ho, ?_⟩
  refine ⟨.non, _, I.lset (its' := its ++ its2) hH e (by simp) (r.append r2) ?_, rfl, q⟩
  rw [List.length_append]
  omega
theorem db_extT {N : List Str} {V : List Nat} {Gs : List Str} {k : Nat} {X : Cx} {Z : Zed} {ρ : Rho} {μ μ1 μ2 : Mu} {o e : Expr} {rest : List Stmt} {Φ : Post} {pos pos' apos : Pos} {xs ys zs : List D} (j : Nat) {q : Addr} (C : Bc X P w K mg base N V Gs k) (ho : DE K X Z ρ μ o (.ref q) μ1) (hj1 : μ1[j]? = some (q, .lst zs)) (he : DE K X Z ρ μ1 e (.tup ys) μ2) (hj : μ2[j]? = some (q, .lst xs)) (hl : xs.length + ys.length ≤ 100000) (hr : DB K X Z ρ (μ2.set j (q, .lst (xs ++ ys))) rest Φ)
    (hbase : attributeBase o "extend" X.env (eval o X.env) = eval o X.env := by rfl)
    (hfew : ((backTo pos' (starEach [e] X.env)).all (fun x => !x.1) && (backToKw pos' (keywordEach [] X.env)).all (fun x => x.1.isSome)
      && decide ([e].length + ([] : List Keyword).length + (if ([] : List Keyword).isEmpty then 0 else 1) < 30)) = true := by rfl)
    (hline : (apos.endLine == pos'.line) = true := by rfl) (hs : starEach [e] X.env = [(false, eval e X.env)] := by rfl) (hplain : (backTo pos' (starEach [] X.env)).any (·.1) = false := by rfl)
    (hsw : swapsWith (.Call (.Attribute o "extend" apos) [e] [] pos') none pos.line X.env = pure false := by rfl) : DB K X Z ρ μ (.Expr (.Call (.Attribute o "extend" apos) [e] [] pos') pos :: rest) Φ := fun σ G H S D q1 q2 => by
  refine wss_cons (ps_expr (pe_bm PySem.F.plainAttrs_list PySem.F.slot_list_extend PySem.F.type_list_extend mt_extT pe_we (pa_cons pe_we pa_nil hs) hbase hfew hline hs hplain) hsw) ?_
  refine ho.at0 S fun v G1 H1 e1 S1 r1 => ?_
  have hv := rep_v.mp r1
  subst hv
  obtain ⟨vs0, g1, _⟩ := cell_in S1 hj1
  rw [C.eK]
  refine ⟨tyV_lst g1, he.at0 S1 fun u G2 H2 e2 S2 r2 => ?_⟩
  obtain ⟨vs, g2, g3⟩ := cell_in S2 hj
  obtain ⟨l, us, rfl, g4, g5⟩ := rep_tup.mp r2
  refine ⟨q, l, vs, us, rfl, rfl, g2, S2.gh.t g4, by rw [← g3.length, ← g5.length]; exact sz100 hl, ?_⟩
  have S3 := S2.write (o := .lst (vs ++ us)) (c' := .lst (xs ++ ys)) hj ⟨vs ++ us, upd_same, g3.app g5⟩
  exact hr σ G2 _ S3 D (fun ρ' μ' σ' G' H' z e3 => q1 ρ' μ' σ' G' H' z ((e1.trans e2).trans e3)) fun d μ' v ρ' σ' G' H' z e3 => q2 d μ' v ρ' σ' G' H' z ((e1.trans e2).trans e3)

/-! ### all layers' values at a point -/
def valsZ : Lays → List Rat → List (List Rat)
  | [], _ => []
  | l :: M, xs => l.map (fun n => val n xs) :: valsZ M ((l.map fun n => val n xs).map cut0)
def SmV : Lays → List Rat → Prop
  | [], _ => True
  | l :: M, xs => (∀ n ∈ l, SmAt n xs) ∧ l.length < 1000 ∧ SmV M ((l.map fun n => val n xs).map cut0)
abbrev eRs (vs : List (List Rat)) : D := .lst (vs.map eR)
abbrev R_law_values (ds : List D) (d : D) : Prop := ∃ (M : Lays) (xs : List Rat) (dx : D), (dx.items = some (xs.map eF) ∧ SmV M xs ∧ M.length ≤ 100) ∧ ds = [eLays M, dx] ∧ d = eRs (valsZ M xs)


theorem mapF {α : Type} (l : List α) (f : α → Rat) : D.lst (l.map fun n => eF (f n)) = D.lst ((l.map f).map eF) := by rw [List.map_map]; rfl

theorem c__law_values (h : Hd P w K mg base) : FC P w K mg base 4 "_law_values" 2 (Pu (R_law_values)) := by
  refine mk_fc (N := ["_law_layers_here", "_law_spot", "_law_found", "_law_ahead", "_law_layer", "_law_one", "_law_row", "_law_number"]) (ps := ["_law_layers_here", "_law_spot"]) (V := [3, 3, 3, 2, 3, 0, 0, 0]) (Gs := ["tuple"]) (k := 3) (d := dd__law_values) h 119 81 rfl rfl rfl (by decide +kernel) rfl (fun _ _ _ _ _ _ us hl => match us, hl with | [_, _], _ => rfl) fun X Z ds μ r μ' C hR hx hl => ?_
  obtain ⟨rfl, rfl, M, xs, dx, ⟨hx2, hs, hM⟩, rfl, rfl⟩ := hR
  show DB K X Z [some (eLays M), some (dx), none, none, none, none, none, none] ([]) (defBody (top 142)) _
  refine db_own 2 C rfl rfl (dl_lst da_nil) (fun q0 hq0 => ?_)
  refine db_set 3 C rfl rfl (de_var 1 C rfl rfl rfl) ?_
  refine db_forS (S := List (List Rat) × List Rat × D) M eLayL (fun s r => SmV r s.2.1 ∧ s.1 ++ valsZ r s.2.1 = valsZ M xs ∧ s.2.2.items = some (s.2.1.map eF) ∧ s.1.length + r.length ≤ 100) (fun s => [some (eLays M), some dx, some (.ref q0), some s.2.2, none, none, none, none]) (fun s => [(q0, .lst (s.1.map eR))]) ([], xs, dx) C (di_list C (de_var 0 C rfl rfl rfl)) rfl (.some (.some (.some (.some (.none (.none (.none (.none .nil)))))))) (by exact ⟨hs, rfl, hx2, by simpa using hM⟩) (fun s l r hJ ha => ?_) (fun s hJ => ?_)
  · obtain ⟨acc, ys, dy⟩ := s
    obtain ⟨⟨h1, h2, h3⟩, h4, h5, h6⟩ := hJ
    simp only at h1 h2 h3 h4 h5 h6
    refine ⟨_, _, _, (dg_name 4 C rfl rfl), ?_⟩
    refine db_app 0 C (de_var 2 C rfl rfl rfl) rfl (de_tupleL 0 C rfl (h.free 12 _ rfl) (de_is (de_lst (dl_of_dc (V' := [0, 0, 0, 1, 0, 0, 3, 3]) (Gs' := ["_law_plus", "_law_weigh"]) (own := [("_law_row", 6), ("_law_number", 7)]) C (by decide +kernel) (dc_map l eSum (fun n => eF (val n ys)) [0, 0, 0, 1, 0, 0, 3, 3] ["_law_plus", "_law_weigh"] [("_law_row", 6), ("_law_number", 7)] C (by decide +kernel) (by decide +kernel) (di_list C (de_var 4 C rfl rfl rfl)) (by omega) fun a ha => ⟨_, _, (by decide), fun _ C' => ⟨(dg_tup C' (dgs_cons (dg_name 6 C' rfl rfl) (dgs_cons (dg_name 7 C' rfl rfl) dgs_nil)) rfl), (de_callP 0 C' (c__law_plus h) rfl (da_cons (de_callP 1 C' (c__law_weigh h) rfl (da_cons (de_var 6 C' rfl rfl rfl) (da_cons (de_var 3 C' rfl rfl rfl) da_nil)) ⟨a.1, ys, dy, ⟨h5, (h1 a ha).1⟩, rfl, rfl⟩ rfl (by omega)) (da_cons (de_var 7 C' rfl rfl rfl) da_nil)) ⟨dot a.1 ys, a.2, ⟨(h1 a ha).2.1, (h1 a ha).2.2.1⟩, rfl, rfl⟩ rfl (by omega))⟩⟩))) (by exact mapF l _))) rfl (by simp at h6 ⊢; omega) ?_
    refine db_setV2 3 C rfl rfl (de_lst (dl_of_dc (V' := [0, 0, 0, 0, 0, 3, 0, 0]) (Gs' := ["_law_cut"]) (own := [("_law_one", 5)]) C (by decide +kernel) (dc_map (l.map fun n => val n ys) eF (fun v => eF (cut0 v)) [0, 0, 0, 0, 0, 3, 0, 0] ["_law_cut"] [("_law_one", 5)] C (by decide +kernel) (by decide +kernel) (di_tup C (de_ixO 0 C (de_var 2 C rfl rfl rfl) (de_neg de_int) rfl (by show atI (acc.map eR ++ [eR (l.map fun n => val n ys)]) (-1) = some (eR (l.map fun n => val n ys)); have e := at_last acc (l.map fun n => val n ys) eR; simpa using e))) (by simp; omega) fun a ha => ⟨_, _, (by decide), fun _ C' => ⟨(dg_name 5 C' rfl rfl), (de_callP 0 C' (c__law_cut h) rfl (da_cons (de_var 5 C' rfl rfl rfl) da_nil) ⟨_, trivial, rfl, rfl⟩ rfl (by omega))⟩⟩))) ?_
    refine db_nil ⟨(acc ++ [l.map fun n => val n ys], (l.map fun n => val n ys).map cut0, .lst ((l.map fun n => val n ys).map fun v => eF (cut0 v))), ⟨h3, by rw [← h4, List.append_assoc]; rfl, ?_, by simp at h6 ⊢; omega⟩, (.some (.some (.some (.some (.none (.none (.none (.none .nil)))))))), by simp⟩
    show some _ = some _
    simp [Function.comp_def]
  · obtain ⟨h1, h4, h5, h6⟩ := hJ
    have e : s.1 = valsZ M xs := by simpa [valsZ] using h4
    refine db_freeze (xs := s.1.map eR) 2 0 rfl rfl hq0 ?_
    rw [e]
    exact db_ret (de_var 2 C rfl rfl rfl) ⟨(by rfl), (by first | exact ⟨[], rfl⟩ | exact ⟨[_], rfl⟩ | exact ⟨[_, _], rfl⟩ | exact ⟨[], by simp⟩)⟩

theorem pass_cut (l : Lay) (xs : List Rat) : pass true l xs = (l.map fun n => val n xs).map cut0 := by simp [pass, Function.comp_def]
theorem outsAt_cons (l : Lay) (L : Lays) (ll : Lay) (xs : List Rat) : outsAt (l :: L) ll xs = outsAt L ll ((l.map fun n => val n xs).map cut0) := by rw [← pass_cut]; rfl
theorem valsZ_app : ∀ (L : Lays) (ll : Lay) (xs : List Rat), valsZ (L ++ [ll]) xs = valsZ L xs ++ [outsAt L ll xs]
  | [], ll, xs => by simp [valsZ, outsAt, outsZ, pass]
  | l :: L, ll, xs => by
    rw [outsAt_cons]
    show _ :: valsZ (L ++ [ll]) _ = _
    rw [valsZ_app L]
    rfl
/-- a net's values at a point, all small -/
def PtOk (L : Lays) (ll : Lay) (x : Rat) : Prop := SmV (L ++ [ll]) [x] ∧ L.length ≤ 3 ∧ ll.length ≤ 4
abbrev eLN (L : Lays) (ll : Lay) : D := .lst [eLays (L ++ [ll])]
abbrev R_law_outs (ds : List D) (d : D) : Prop := ∃ (L : Lays) (ll : Lay) (x : Rat), PtOk L ll x ∧ ds = [eLN L ll, eF x] ∧ d = .lst ((outsAt L ll [x]).map eF)
def DotOk (L : Lays) (ll : Lay) (aim : List Rat) (x : Rat) : Prop := PtOk L ll x ∧ SmDot 0 (aim.zip (outsAt L ll [x])) ∧ Sm (dot aim (outsAt L ll [x]))
def mostZ (L : Lays) (ll : Lay) (aim : List Rat) : Rat → List Rat → Rat
  | f, [] => f
  | f, p :: ps => mostZ L ll aim (if f < dot aim (outsAt L ll [p]) then dot aim (outsAt L ll [p]) else f) ps
def mostF (L : Lays) (ll : Lay) (aim : List Rat) (pts : List Rat) : Rat := mostZ L ll aim (dot aim (outsAt L ll [pts.headD 0])) (pts.drop 1)
abbrev R_law_most (ds : List D) (d : D) : Prop := ∃ (L : Lays) (ll : Lay) (p0 : Rat) (ps aim : List Rat), (∀ p ∈ p0 :: ps, DotOk L ll aim p) ∧ ds = [eLN L ll, .lst ((p0 :: ps).map eF), eR aim] ∧ d = eF (mostF L ll aim (p0 :: ps))

theorem c__law_outs (h : Hd P w K mg base) : FC P w K mg base 5 "_law_outs" 2 (Pu (R_law_outs)) := by
  refine mk_fc (N := ["_law_nets", "_law_point", "_law_outs_here", "_law_layers_here"]) (ps := ["_law_nets", "_law_point"]) (V := [3, 3, 3, 3]) (Gs := ["_law_values"]) (k := 4) (d := dd__law_outs) h 122 84 rfl rfl rfl (by decide +kernel) rfl (fun _ _ _ _ _ _ us hl => match us, hl with | [_, _], _ => rfl) fun X Z ds μ r μ' C hR hx hl => ?_
  obtain ⟨rfl, rfl, L, ll, x, hp, rfl, rfl⟩ := hR
  show DB K X Z [some (eLN L ll), some (eF x), none, none] ([]) (defBody (top 145)) _
  refine db_own 2 C rfl rfl (dl_lst da_nil) (fun q0 hq0 => ?_)
  refine db_forS (S := Bool) [()] (fun _ => eLays (L ++ [ll])) (fun z r => z = r.isEmpty ∧ r.length ≤ 1) (fun _ => [some (eLN L ll), some (eF x), some (.ref q0), none]) (fun z => [(q0, .lst (bif z then (outsAt L ll [x]).map eF else []))]) false C (di_list C (de_var 0 C rfl rfl rfl)) rfl (.some (.some (.some (.none .nil)))) (by exact ⟨rfl, by simp⟩) (fun z a r hJ ha => ?_) (fun z hJ => ?_)
  · obtain ⟨h1, h2⟩ := hJ
    have hr : r = [] := List.eq_nil_of_length_eq_zero (by simpa using h2)
    have hz0 : z = false := by simpa using h1
    subst hr hz0
    refine ⟨_, _, _, (dg_name 3 C rfl rfl), ?_⟩
    show DB K X Z _ [(q0, .lst [])] _ _
    refine db_extT 0 C (de_var 2 C rfl rfl rfl) rfl (de_ixL C (de_callP 0 C (c__law_values h) rfl (da_cons (de_var 3 C rfl rfl rfl) (da_cons (de_tup (da_cons (de_var 1 C rfl rfl rfl) da_nil)) da_nil)) ⟨L ++ [ll], [x], .tup [eF x], ⟨rfl, hp.1, by have := hp.2.1; simp; omega⟩, rfl, rfl⟩ rfl (by omega)) (de_neg de_int) (by rw [valsZ_app]; exact at_last _ _ _)) rfl (by have := hp.2.2; simp [outs_len]; omega) ?_
    exact db_nil ⟨true, ⟨rfl, by simp⟩, (.some (.some (.some (.none .nil)))), rfl⟩
  · have hz0 : z = true := by simpa using hJ.1
    subst hz0
    show DB K X Z _ [(q0, .lst ((outsAt L ll [x]).map eF))] _ _
    refine db_freeze (xs := (outsAt L ll [x]).map eF) 2 0 rfl rfl hq0 ?_
    exact db_ret (de_var 2 C rfl rfl rfl) ⟨(by rfl), (by first | exact ⟨[], rfl⟩ | exact ⟨[_], rfl⟩ | exact ⟨[_, _], rfl⟩ | exact ⟨[], by simp⟩)⟩

theorem cut_1 {d : D} {xs : List D} : cutD (d :: xs) (some 1) none = xs := by
  unfold cutD HT.sIx
  simp

theorem c__law_most (h : Hd P w K mg base) : FC P w K mg base 6 "_law_most" 3 (Pu (R_law_most)) := by
  refine mk_fc (N := ["_law_nets", "_law_points_here", "_law_aim", "_law_found", "_law_point", "_law_value"]) (ps := ["_law_nets", "_law_points_here", "_law_aim"]) (V := [3, 3, 3, 3, 3, 3]) (Gs := ["_law_weigh", "_law_outs", "_law_less"]) (k := 5) (d := dd__law_most) h 123 85 rfl rfl rfl (by decide +kernel) rfl (fun _ _ _ _ _ _ us hl => match us, hl with | [_, _, _], _ => rfl) fun X Z ds μ r μ' C hR hx hl => ?_
  obtain ⟨rfl, rfl, L, ll, p0, ps, aim, hp, rfl, rfl⟩ := hR
  show DB K X Z [some (eLN L ll), some (.lst ((p0 :: ps).map eF)), some (eR aim), none, none, none] ([]) (defBody (top 146)) _
  refine db_set 3 C rfl rfl (de_callP 0 C (c__law_weigh h) rfl (da_cons (de_var 2 C rfl rfl rfl) (da_cons (de_callP 1 C (c__law_outs h) rfl (da_cons (de_var 0 C rfl rfl rfl) (da_cons (de_ixL C (de_var 1 C rfl rfl rfl) de_int (by exact at_zero _ _)) da_nil)) ⟨L, ll, p0, (hp p0 (by simp)).1, rfl, rfl⟩ rfl (by omega)) da_nil)) ⟨aim, outsAt L ll [p0], _, ⟨rfl, (hp p0 (by simp)).2.1⟩, rfl, rfl⟩ rfl (by omega)) ?_
  refine db_forS (S := Rat) ps eF (fun f r => mostZ L ll aim f r = mostF L ll aim (p0 :: ps) ∧ Sm f ∧ ∀ p ∈ r, DotOk L ll aim p) (fun f => [some (eLN L ll), some (.lst ((p0 :: ps).map eF)), some (eR aim), some (eF f), none, none]) (fun _ => []) (dot aim (outsAt L ll [p0])) C (di_is (di_list C (de_lst (dl_slice C (de_var 1 C rfl rfl rfl) (.some de_int) .none))) cut_1) rfl (.some (.some (.some (.some (.none (.none .nil)))))) (by exact ⟨rfl, (hp p0 (by simp)).2.2, fun p h => hp p (by simp [h])⟩) (fun f a r hJ ha => ?_) (fun f hJ => ?_)
  · obtain ⟨e, sf, h3⟩ := hJ
    have ha2 := h3 a (by simp)
    rw [mostZ] at e
    refine ⟨_, _, _, (dg_name 4 C rfl rfl), ?_⟩
    refine db_set 5 C rfl rfl (de_callP 0 C (c__law_weigh h) rfl (da_cons (de_var 2 C rfl rfl rfl) (da_cons (de_callP 1 C (c__law_outs h) rfl (da_cons (de_var 0 C rfl rfl rfl) (da_cons (de_var 4 C rfl rfl rfl) da_nil)) ⟨L, ll, a, ha2.1, rfl, rfl⟩ rfl (by omega)) da_nil)) ⟨aim, outsAt L ll [a], _, ⟨rfl, ha2.2.1⟩, rfl, rfl⟩ rfl (by omega)) ?_
    by_cases hlt : f < dot aim (outsAt L ll [a])
    · rw [if_pos hlt] at e
      refine db_if1 (dt_is (dt_val (de_callP 2 C (c__law_less h) rfl (da_cons (de_var 3 C rfl rfl rfl) (da_cons (de_var 5 C rfl rfl rfl) da_nil)) ⟨f, _, ⟨sf, ha2.2.2⟩, rfl, rfl⟩ rfl (by omega))) (by simp; exact hlt)) ?_
      refine db_set 3 C rfl rfl (de_var 5 C rfl rfl rfl) ?_
      exact db_nil (db_nil ⟨_, ⟨e, ha2.2.2, fun p h => h3 p (by simp [h])⟩, (.some (.some (.some (.some (.none (.none .nil)))))), rfl⟩)
    · rw [if_neg hlt] at e
      refine db_skip (dt_is (dt_val (de_callP 2 C (c__law_less h) rfl (da_cons (de_var 3 C rfl rfl rfl) (da_cons (de_var 5 C rfl rfl rfl) da_nil)) ⟨f, _, ⟨sf, ha2.2.2⟩, rfl, rfl⟩ rfl (by omega))) (by simp; exact hlt)) ?_
      exact db_nil ⟨_, ⟨e, sf, fun p h => h3 p (by simp [h])⟩, (.some (.some (.some (.some (.none (.none .nil)))))), rfl⟩
  · have e : f = mostF L ll aim (p0 :: ps) := hJ.1
    rw [← e]
    exact db_ret (de_var 3 C rfl rfl rfl) ⟨(by rfl), (by first | exact ⟨[], rfl⟩ | exact ⟨[_], rfl⟩ | exact ⟨[_, _], rfl⟩ | exact ⟨[], by simp⟩)⟩

def overF (L : Lays) (ll : Lay) (w : Node) (x : Rat) : Rat := dot w.1 (outsAt L ll [x]) + -w.2
theorem eF_negl {q : Rat} : D.tup [.int (0 - q.num), .int (q.den : Int)] = eF (-q) := by
  unfold eF
  rw [Rat.neg_num, Rat.neg_den, Int.zero_sub]
abbrev R_law_over (ds : List D) (d : D) : Prop := ∃ (L : Lays) (ll : Lay) (w : Node) (x : Rat), (DotOk L ll w.1 x ∧ Sm w.2) ∧ ds = [eLays (L ++ [ll]), eSum w, eF x] ∧ d = eF (overF L ll w x)
theorem Sm.neg {q : Rat} (h : Sm q) : Sm (-q) := ⟨by rw [Rat.neg_num, Int.natAbs_neg]; exact h.1, by rw [Rat.neg_den]; exact h.2⟩

theorem c__law_over (h : Hd P w K mg base) : FC P w K mg base 6 "_law_over" 3 (Pu (R_law_over)) := by
  refine mk_fc (N := ["_law_layers_here", "_law_wish_here", "_law_point", "_law_value"]) (ps := ["_law_layers_here", "_law_wish_here", "_law_point"]) (V := [3, 3, 3, 3]) (Gs := ["_law_weigh", "_law_outs", "_law_plus"]) (k := 5) (d := dd__law_over) h 126 88 rfl rfl rfl (by decide +kernel) rfl (fun _ _ _ _ _ _ us hl => match us, hl with | [_, _, _], _ => rfl) fun X Z ds μ r μ' C hR hx hl => ?_
  obtain ⟨rfl, rfl, L, ll, w0, x, ⟨hp, hw⟩, rfl, rfl⟩ := hR
  show DB K X Z [some (eLays (L ++ [ll])), some (eSum w0), some (eF x), none] ([]) (defBody (top 149)) _
  refine db_set 3 C rfl rfl (de_callP 0 C (c__law_weigh h) rfl (da_cons (de_ixT C (de_var 1 C rfl rfl rfl) de_int rfl) (da_cons (de_callP 1 C (c__law_outs h) rfl (da_cons (de_lst (dl_lst (da_cons (de_var 0 C rfl rfl rfl) da_nil))) (da_cons (de_var 2 C rfl rfl rfl) da_nil)) ⟨L, ll, x, hp.1, rfl, rfl⟩ rfl (by omega)) da_nil)) ⟨w0.1, outsAt L ll [x], _, ⟨rfl, hp.2.1⟩, rfl, rfl⟩ rfl (by omega)) ?_
  exact db_ret (de_callP 2 C (c__law_plus h) rfl (da_cons (de_var 3 C rfl rfl rfl) (da_cons (de_is (de_tup (da_cons (de_sub de_int (de_ixT C (de_ixT C (de_var 1 C rfl rfl rfl) de_int rfl) de_int rfl)) (da_cons (de_ixT C (de_ixT C (de_var 1 C rfl rfl rfl) de_int rfl) de_int rfl) da_nil))) eF_negl) da_nil)) ⟨_, _, ⟨hp.2.2, hw.neg⟩, rfl, rfl⟩ rfl (by omega)) ⟨(by rfl), (by first | exact ⟨[], rfl⟩ | exact ⟨[_], rfl⟩ | exact ⟨[_, _], rfl⟩ | exact ⟨[], by simp⟩)⟩
end
end NC

set_option Elab.async false
set_option linter.all false
set_option autoImplicit false
set_option maxRecDepth 100000
set_option maxHeartbeats 4000000
namespace NC
open PySem PySem.Spec PyProof.Rows L2

/-! printed by spec15.py: the law's box, shape. -/
section
variable {P : Program} {w : World} {K : PySem.W.Frag} {mg : Str → Option Value} {base : Heap}


theorem at3N {a b c : Nat} {i : Nat} (h : i < 3) : atI [D.int (a : Int), D.int (b : Int), D.int (c : Int)] (i : Int) = some (.int (([a, b, c].getD i 0 : Nat) : Int)) := by
  have : i = 0 ∨ i = 1 ∨ i = 2 := by omega
  rcases this with rfl | rfl | rfl <;> rfl
def boxF (s : S3) : (Rat × Rat) × S3 :=
  let a1 := takeF 19 s
  let a2 := takeF 3 a1.2
  let a3 := takeF 7 a2.2
  let a4 := takeF 12 a3.2
  let a5 := takeF 3 a4.2
  let a6 := takeF 3 a5.2
  let lo := mkRat ((a1.1 : Int) - 9) (1 + a2.1)
  ((lo, lo + mkRat (([0, a3.1, 1 + a4.1].getD a5.1 0 : Nat) : Int) (1 + a6.1)), a6.2)
abbrev R_law_box : Con := fun ds μ d μ' => ∃ (q : Addr) (s : S3), TkOk 6 s ∧ ds = [.ref q] ∧ μ = [ceT q s] ∧ d = eBox (boxF s).1.1 (boxF s).1.2 ∧ μ' = [ceT q (boxF s).2]
theorem mk_sm {a : Int} {b : Nat} (ha : a.natAbs < 1000) (hb : b < 1000) (h : b ≠ 0) : Sm (mkRat a b) := (Bt.mk (n := 10) (Nat.lt_of_lt_of_le ha (by decide)) (Nat.lt_of_lt_of_le hb (by decide)) h).sm (by decide)

theorem c__law_box (h : Hd P w K mg base) : FC P w K mg base 3 "_law_box" 1 (R_law_box) := by
  refine mk_fc (N := ["_law_stream_here", "_law_low", "_law_wide"]) (ps := ["_law_stream_here"]) (V := [3, 3, 3]) (Gs := ["_law_made", "_law_take", "_law_plus"]) (k := 2) (d := dd__law_box) h 118 80 rfl rfl rfl (by decide +kernel) rfl (fun _ _ _ _ _ _ us hl => match us, hl with | [_], _ => rfl) fun X Z ds μ r μ' C hR hx hl => ?_
  obtain ⟨q, s, ht, rfl, rfl, rfl, rfl⟩ := hR
  show DB K X Z [some (.ref q), none, none] ([ceT q s]) (defBody (top 141)) _
  obtain ⟨a1, h1⟩ : ∃ a1, a1 = takeF 19 s := ⟨_, rfl⟩
  obtain ⟨a2, h2⟩ : ∃ a2, a2 = takeF 3 a1.2 := ⟨_, rfl⟩
  obtain ⟨a3, h3⟩ : ∃ a3, a3 = takeF 7 a2.2 := ⟨_, rfl⟩
  obtain ⟨a4, h4⟩ : ∃ a4, a4 = takeF 12 a3.2 := ⟨_, rfl⟩
  obtain ⟨a5, h5⟩ : ∃ a5, a5 = takeF 3 a4.2 := ⟨_, rfl⟩
  obtain ⟨a6, h6⟩ : ∃ a6, a6 = takeF 3 a5.2 := ⟨_, rfl⟩
  have hE : boxF s = ((mkRat ((a1.1 : Int) - 9) (1 + a2.1), mkRat ((a1.1 : Int) - 9) (1 + a2.1) + mkRat (([0, a3.1, 1 + a4.1].getD a5.1 0 : Nat) : Int) (1 + a6.1)), a6.2) := by subst h6 h5 h4 h3 h2 h1; rfl
  rw [hE]
  have l1 : a1.1 < 19 := by rw [h1]; exact takeF_lt (by decide)
  have t1 : TkOk 5 a1.2 := by rw [h1]; exact TkOk.take (k := 5) ht
  have l2 : a2.1 < 3 := by rw [h2]; exact takeF_lt (by decide)
  have t2 : TkOk 4 a2.2 := by rw [h2]; exact TkOk.take (k := 4) t1
  have l3 : a3.1 < 7 := by rw [h3]; exact takeF_lt (by decide)
  have t3 : TkOk 3 a3.2 := by rw [h3]; exact TkOk.take (k := 3) t2
  have l4 : a4.1 < 12 := by rw [h4]; exact takeF_lt (by decide)
  have t4 : TkOk 2 a4.2 := by rw [h4]; exact TkOk.take (k := 2) t3
  have l5 : a5.1 < 3 := by rw [h5]; exact takeF_lt (by decide)
  have t5 : TkOk 1 a5.2 := by rw [h5]; exact TkOk.take (k := 1) t4
  have l6 : a6.1 < 3 := by rw [h6]; exact takeF_lt (by decide)
  have t6 : TkOk 0 a6.2 := by rw [h6]; exact TkOk.take (k := 0) t5
  refine db_set 1 C rfl rfl (de_callP 0 C (c__law_made h) rfl (da_cons (de_sub (de_callC (hm := (Eq.refl [q] : [q] = [q])) 1 1 C (c__law_take h) rfl (da_cons (de_var 0 C rfl rfl rfl) (da_cons de_int da_nil)) (show R_law_take [.ref q, .int ((19 : Nat) : Int)] [ceT q s] (.int (a1.1 : Int)) [ceT q a1.2] from ⟨q, s, 19, ⟨(ht).le (by decide), by decide, by decide⟩, rfl, rfl, by rw [h1], by rw [h1]⟩) rfl (by omega)) de_int) (da_cons (de_add de_int (de_callC (hm := (Eq.refl [q] : [q] = [q])) 1 1 C (c__law_take h) rfl (da_cons (de_var 0 C rfl rfl rfl) (da_cons de_int da_nil)) (show R_law_take [.ref q, .int ((3 : Nat) : Int)] [ceT q a1.2] (.int (a2.1 : Int)) [ceT q a2.2] from ⟨q, a1.2, 3, ⟨(t1).le (by decide), by decide, by decide⟩, rfl, rfl, by rw [h2], by rw [h2]⟩) rfl (by omega))) da_nil)) ⟨(a1.1 : Int) - 9, 1 + a2.1, by omega, sm9 (by omega), by simp, (norm_mk _).symm⟩ rfl (by omega)) ?_
  refine db_set 2 C rfl rfl (de_ixL C (de_lst (dl_lst (da_cons de_int (da_cons (de_callC (hm := (Eq.refl [q] : [q] = [q])) 1 1 C (c__law_take h) rfl (da_cons (de_var 0 C rfl rfl rfl) (da_cons de_int da_nil)) (show R_law_take [.ref q, .int ((7 : Nat) : Int)] [ceT q a2.2] (.int (a3.1 : Int)) [ceT q a3.2] from ⟨q, a2.2, 7, ⟨(t2).le (by decide), by decide, by decide⟩, rfl, rfl, by rw [h3], by rw [h3]⟩) rfl (by omega)) (da_cons (de_add de_int (de_callC (hm := (Eq.refl [q] : [q] = [q])) 1 1 C (c__law_take h) rfl (da_cons (de_var 0 C rfl rfl rfl) (da_cons de_int da_nil)) (show R_law_take [.ref q, .int ((12 : Nat) : Int)] [ceT q a3.2] (.int (a4.1 : Int)) [ceT q a4.2] from ⟨q, a3.2, 12, ⟨(t3).le (by decide), by decide, by decide⟩, rfl, rfl, by rw [h4], by rw [h4]⟩) rfl (by omega))) da_nil))))) (de_callC (hm := (Eq.refl [q] : [q] = [q])) 1 1 C (c__law_take h) rfl (da_cons (de_var 0 C rfl rfl rfl) (da_cons de_int da_nil)) (show R_law_take [.ref q, .int ((3 : Nat) : Int)] [ceT q a4.2] (.int (a5.1 : Int)) [ceT q a5.2] from ⟨q, a4.2, 3, ⟨(t4).le (by decide), by decide, by decide⟩, rfl, rfl, by rw [h5], by rw [h5]⟩) rfl (by omega)) (by exact (at3N (a := 0) (b := a3.1) (c := 1 + a4.1) l5))) ?_
  have hw : ([0, a3.1, 1 + a4.1].getD a5.1 0) < 20 := by
    have h5 : a5.1 = 0 ∨ a5.1 = 1 ∨ a5.1 = 2 := by omega
    rcases h5 with e | e | e <;> rw [e] <;> simp <;> omega
  exact db_ret (de_tup (da_cons (de_tup (da_cons (de_var 1 C rfl rfl rfl) (da_cons (de_callP 2 C (c__law_plus h) rfl (da_cons (de_var 1 C rfl rfl rfl) (da_cons (de_callP 0 C (c__law_made h) rfl (da_cons (de_var 2 C rfl rfl rfl) (da_cons (de_add de_int (de_callC (hm := (Eq.refl [q] : [q] = [q])) 1 1 C (c__law_take h) rfl (da_cons (de_var 0 C rfl rfl rfl) (da_cons de_int da_nil)) (show R_law_take [.ref q, .int ((3 : Nat) : Int)] [ceT q a5.2] (.int (a6.1 : Int)) [ceT q a6.2] from ⟨q, a5.2, 3, ⟨(t5).le (by decide), by decide, by decide⟩, rfl, rfl, by rw [h6], by rw [h6]⟩) rfl (by omega))) da_nil)) ⟨(([0, a3.1, 1 + a4.1].getD a5.1 0 : Nat) : Int), 1 + a6.1, by omega, sm9 (by omega), by simp, (norm_mk _).symm⟩ rfl (by omega)) da_nil)) ⟨_, _, ⟨mk_sm (by omega) (by omega) (by omega), mk_sm (by omega) (by omega) (by omega)⟩, rfl, rfl⟩ rfl (by omega)) da_nil))) da_nil)) ⟨(by rfl), (by first | exact ⟨[], rfl⟩ | exact ⟨[_], rfl⟩ | exact ⟨[_, _], rfl⟩ | exact ⟨[], by simp⟩)⟩
end
end NC

set_option Elab.async false
set_option linter.all false
set_option autoImplicit false
set_option maxRecDepth 100000
set_option maxHeartbeats 4000000
namespace NC
open PySem PySem.Spec PyProof.Rows L2

/-! printed by spec16.py: the law's shape. -/
section
variable {P : Program} {w : World} {K : PySem.W.Frag} {mg : Str → Option Value} {base : Heap}


theorem star_list {es r : List Expr} {p : Pos} {env : Env} : starEach (.List es p :: r) env = (false, eval (.List es p) env) :: starEach r env := by rfl
theorem star_const {c : Const} {j : Nat} {r : List Expr} {p : Pos} {env : Env} : starEach (.Constant c j p :: r) env = (false, eval (.Constant c j p) env) :: starEach r env := by rfl
theorem da_consL {X : Cx} {Z : Zed} {ρ : Rho} {μ μ1 μ2 : Mu} {es es' : List Expr} {p : Pos} {d : D} {ds : List D} (h : DE K X Z ρ μ (.List es' p) d μ1) (h' : DA K X Z ρ μ1 es ds μ2) : DA K X Z ρ μ (.List es' p :: es) (d :: ds) μ2 := da_cons h h' star_list
/-- a display of whole numbers -/
def natsOf : List Expr → Option (List Int)
  | [] => some []
  | .Constant (.int i) _ _ :: r => (natsOf r).map (i :: ·)
  | _ :: _ => none
def natsOf2 : List Expr → Option (List (List Int))
  | [] => some []
  | .List es _ :: r => (natsOf es).bind fun x => (natsOf2 r).map (x :: ·)
  | _ :: _ => none
abbrev toI (ns : List Nat) : List Int := ns.map fun (k : Nat) => (k : Int)
theorem da_nats {X : Cx} {Z : Zed} {ρ : Rho} {μ : Mu} : ∀ (es : List Expr) (is : List Int), natsOf es = some is → DA K X Z ρ μ es (is.map D.int) μ
  | [], is, h => by cases h; exact da_nil
  | e :: es, is, h => by
    unfold natsOf at h
    split at h
    · rename_i e1
      cases e1
    · rename_i i j p r e1
      cases e1
      cases hr : natsOf es with
      | none => rw [hr] at h; cases h
      | some js =>
        rw [hr] at h
        cases h
        exact da_cons de_int (da_nats es js hr) star_const
    · cases h
theorem de_nats {X : Cx} {Z : Zed} {ρ : Rho} {μ : Mu} {es : List Expr} {p : Pos} (ns : List Nat) (h : natsOf es = some (toI ns)) (hl : ns.length ≤ 100 := by decide) : DE K X Z ρ μ (.List es p) (eNats ns) μ := by
  have h1 := da_nats (K := K) (X := X) (Z := Z) (ρ := ρ) (μ := μ) es _ h
  have h2 := de_lst (dl_lst (pos := p) h1 (by simp [toI]; omega))
  have e : (toI ns).map D.int = ns.map fun (k : Nat) => D.int (k : Int) := by simp [toI]
  rw [e] at h2
  exact h2
theorem da_nats2 {X : Cx} {Z : Zed} {ρ : Rho} {μ : Mu} : ∀ (es : List Expr) (T : List (List Nat)), natsOf2 es = some (T.map toI) → (∀ l ∈ T, l.length ≤ 100) → DA K X Z ρ μ es (T.map eNats) μ
  | [], T, h, hl => by
    cases T with
    | nil => exact da_nil
    | cons a b => cases h
  | e :: es, T, h, hl => by
    unfold natsOf2 at h
    split at h
    · rename_i e1
      cases e1
    · rename_i es' p r e1
      cases e1
      cases h1 : natsOf es' with
      | none => rw [h1] at h; cases h
      | some is =>
        cases h2 : natsOf2 es with
        | none => rw [h1, h2] at h; cases h
        | some js =>
          rw [h1, h2] at h
          cases T with
          | nil => cases h
          | cons ns T =>
            simp only [Option.bind_some, Option.map_some, List.map_cons, Option.some.injEq, List.cons.injEq] at h
            rw [h.1] at h1
            rw [h.2] at h2
            exact da_consL (de_nats ns h1 (hl ns (by simp))) (da_nats2 es T h2 fun l hl2 => hl l (by simp [hl2]))
    · cases h
theorem de_nats2 {X : Cx} {Z : Zed} {ρ : Rho} {μ : Mu} {es : List Expr} {p : Pos} (T : List (List Nat)) (h : natsOf2 es = some (T.map toI)) (hl : T.all (fun l => decide (l.length ≤ 100)) = true := by decide) (hl2 : T.length ≤ 100 := by decide) : DE K X Z ρ μ (.List es p) (.lst (T.map eNats)) μ :=
  de_lst (dl_lst (da_nats2 es T h fun l hm => of_decide_eq_true (List.all_eq_true.mp hl l hm)) (by simp; omega))
theorem at_nats {Ls : List (List Nat)} {i : Nat} (h : i < Ls.length) : atI (Ls.map eNats) (i : Int) = some (eNats (Ls.getD i [])) := by
  unfold atI ixN
  have h1 : (0 : Int) ≤ (i : Int) := by omega
  simp [h]
def smT : List (List Nat) := [[], [1], [2], [1, 1], [3], [2, 1], [1, 2], [1, 1, 1]]
def moT : List (List Nat) := [[4, 1], [3, 2], [2, 3], [2, 2, 1], [1, 4]]
def shapeF (s : S3) : List Nat × S3 :=
  let a1 := takeF 16 s
  let a2 := takeF 8 a1.2
  let a3 := takeF 5 a2.2
  let a4 := takeF 3 a3.2
  (([[4, 4], moT.getD a3.1 []] ++ List.replicate 14 (smT.getD a2.1 [])).getD a1.1 [] ++ [1 + a4.1], a4.2)
abbrev R_law_shape : Con := fun ds μ d μ' => ∃ (q : Addr) (s : S3), TkOk 4 s ∧ ds = [.ref q] ∧ μ = [ceT q s] ∧ d = eNats (shapeF s).1 ∧ μ' = [ceT q (shapeF s).2]
theorem sm_all : smT.all (fun l => decide (l.length ≤ 3)) = true ∧ moT.all (fun l => decide (l.length ≤ 3)) = true := by decide
theorem getD_len {T : List (List Nat)} (h : T.all (fun l => decide (l.length ≤ 3)) = true) (i : Nat) : (T.getD i []).length ≤ 3 := by
  rw [List.getD_eq_getElem?_getD]
  cases e : T[i]? with
  | none => simp
  | some l => exact of_decide_eq_true (List.all_eq_true.mp h l (List.mem_of_getElem? e))
theorem mapRep {n : Nat} {l : List Nat} {Ls : List (List Nat)} : Ls.map eNats ++ List.replicate n (eNats l) = (Ls ++ List.replicate n l).map eNats := by simp
theorem map1 {l : List Nat} {a : Nat} : (l.map fun (k : Nat) => D.int (k : Int)) ++ [D.int (1 + (a : Int))] = (l ++ [1 + a]).map fun (k : Nat) => D.int (k : Int) := by simp
/-- the list that is taken from -/
theorem big_at {a b : List Nat} {i : Nat} (h : i < 16) : atI ([eNats [4, 4], eNats a] ++ List.replicate 14 (eNats b)) (i : Int) = some (eNats (([[4, 4], a] ++ List.replicate 14 b).getD i [])) := by
  have e : [eNats [4, 4], eNats a] ++ List.replicate 14 (eNats b) = ([[4, 4], a] ++ List.replicate 14 b).map eNats := by simp
  rw [e]
  exact at_nats (by simp; omega)

theorem c__law_shape (h : Hd P w K mg base) : FC P w K mg base 3 "_law_shape" 1 (R_law_shape) := by
  refine mk_fc (N := ["_law_stream_here", "_law_way", "_law_small", "_law_more"]) (ps := ["_law_stream_here"]) (V := [3, 3, 3, 3]) (Gs := ["_law_take"]) (k := 2) (d := dd__law_shape) h 124 86 rfl rfl rfl (by decide +kernel) rfl (fun _ _ _ _ _ _ us hl => match us, hl with | [_], _ => rfl) fun X Z ds μ r μ' C hR hx hl => ?_
  obtain ⟨q, s, ht, rfl, rfl, rfl, rfl⟩ := hR
  show DB K X Z [some (.ref q), none, none, none] ([ceT q s]) (defBody (top 147)) _
  obtain ⟨a1, h1⟩ : ∃ a1, a1 = takeF 16 s := ⟨_, rfl⟩
  obtain ⟨a2, h2⟩ : ∃ a2, a2 = takeF 8 a1.2 := ⟨_, rfl⟩
  obtain ⟨a3, h3⟩ : ∃ a3, a3 = takeF 5 a2.2 := ⟨_, rfl⟩
  obtain ⟨a4, h4⟩ : ∃ a4, a4 = takeF 3 a3.2 := ⟨_, rfl⟩
  have hE : shapeF s = (([[4, 4], moT.getD a3.1 []] ++ List.replicate 14 (smT.getD a2.1 [])).getD a1.1 [] ++ [1 + a4.1], a4.2) := by subst h4 h3 h2 h1; rfl
  rw [hE]
  have l1 : a1.1 < 16 := by rw [h1]; exact takeF_lt (by decide)
  have t1 : TkOk 3 a1.2 := by rw [h1]; exact TkOk.take (k := 3) ht
  have l2 : a2.1 < 8 := by rw [h2]; exact takeF_lt (by decide)
  have t2 : TkOk 2 a2.2 := by rw [h2]; exact TkOk.take (k := 2) t1
  have l3 : a3.1 < 5 := by rw [h3]; exact takeF_lt (by decide)
  have t3 : TkOk 1 a3.2 := by rw [h3]; exact TkOk.take (k := 1) t2
  have l4 : a4.1 < 3 := by rw [h4]; exact takeF_lt (by decide)
  have t4 : TkOk 0 a4.2 := by rw [h4]; exact TkOk.take (k := 0) t3
  refine db_set 1 C rfl rfl (de_callC (hm := (Eq.refl [q] : [q] = [q])) 1 0 C (c__law_take h) rfl (da_cons (de_var 0 C rfl rfl rfl) (da_cons de_int da_nil)) (show R_law_take [.ref q, .int ((16 : Nat) : Int)] [ceT q s] (.int (a1.1 : Int)) [ceT q a1.2] from ⟨q, s, 16, ⟨(ht).le (by decide), by decide, by decide⟩, rfl, rfl, by rw [h1], by rw [h1]⟩) rfl (by omega)) ?_
  generalize g1 : [Expr.List [] ⟨810, 18, 810, 20⟩, Expr.List [Expr.Constant (Const.int 1) 0 ⟨810, 23, 810, 24⟩] ⟨810, 22, 810, 25⟩, Expr.List [Expr.Constant (Const.int 2) 0 ⟨810, 28, 810, 29⟩] ⟨810, 27, 810, 30⟩, Expr.List [Expr.Constant (Const.int 1) 0 ⟨810, 33, 810, 34⟩, Expr.Constant (Const.int 1) 0 ⟨810, 36, 810, 37⟩] ⟨810, 32, 810, 38⟩, Expr.List [Expr.Constant (Const.int 3) 0 ⟨810, 41, 810, 42⟩] ⟨810, 40, 810, 43⟩, Expr.List [Expr.Constant (Const.int 2) 0 ⟨810, 46, 810, 47⟩, Expr.Constant (Const.int 1) 0 ⟨810, 49, 810, 50⟩] ⟨810, 45, 810, 51⟩, Expr.List [Expr.Constant (Const.int 1) 0 ⟨810, 54, 810, 55⟩, Expr.Constant (Const.int 2) 0 ⟨810, 57, 810, 58⟩] ⟨810, 53, 810, 59⟩, Expr.List [Expr.Constant (Const.int 1) 0 ⟨810, 62, 810, 63⟩, Expr.Constant (Const.int 1) 0 ⟨810, 65, 810, 66⟩, Expr.Constant (Const.int 1) 0 ⟨810, 68, 810, 69⟩] ⟨810, 61, 810, 70⟩] = es1
  have q1 : natsOf2 es1 = some ((smT).map toI) := by rw [← g1]; rfl
  clear g1
  generalize g2 : [Expr.List [Expr.Constant (Const.int 4) 0 ⟨811, 18, 811, 19⟩, Expr.Constant (Const.int 1) 0 ⟨811, 21, 811, 22⟩] ⟨811, 17, 811, 23⟩, Expr.List [Expr.Constant (Const.int 3) 0 ⟨811, 26, 811, 27⟩, Expr.Constant (Const.int 2) 0 ⟨811, 29, 811, 30⟩] ⟨811, 25, 811, 31⟩, Expr.List [Expr.Constant (Const.int 2) 0 ⟨811, 34, 811, 35⟩, Expr.Constant (Const.int 3) 0 ⟨811, 37, 811, 38⟩] ⟨811, 33, 811, 39⟩, Expr.List [Expr.Constant (Const.int 2) 0 ⟨811, 42, 811, 43⟩, Expr.Constant (Const.int 2) 0 ⟨811, 45, 811, 46⟩, Expr.Constant (Const.int 1) 0 ⟨811, 48, 811, 49⟩] ⟨811, 41, 811, 50⟩, Expr.List [Expr.Constant (Const.int 1) 0 ⟨811, 53, 811, 54⟩, Expr.Constant (Const.int 4) 0 ⟨811, 56, 811, 57⟩] ⟨811, 52, 811, 58⟩] = es2
  have q2 : natsOf2 es2 = some ((moT).map toI) := by rw [← g2]; rfl
  clear g2
  generalize g3 : [Expr.Constant (Const.int 4) 0 ⟨812, 14, 812, 15⟩, Expr.Constant (Const.int 4) 0 ⟨812, 17, 812, 18⟩] = es3
  have q3 : natsOf es3 = some (toI [4, 4]) := by rw [← g3]; rfl
  clear g3
  refine db_set 2 C rfl rfl (de_ixL C (de_nats2 smT q1) (de_callC (hm := (Eq.refl [q] : [q] = [q])) 1 0 C (c__law_take h) rfl (da_cons (de_var 0 C rfl rfl rfl) (da_cons de_int da_nil)) (show R_law_take [.ref q, .int ((8 : Nat) : Int)] [ceT q a1.2] (.int (a2.1 : Int)) [ceT q a2.2] from ⟨q, a1.2, 8, ⟨(t1).le (by decide), by decide, by decide⟩, rfl, rfl, by rw [h2], by rw [h2]⟩) rfl (by omega)) (by exact at_nats (Ls := smT) l2)) ?_
  refine db_set 3 C rfl rfl (de_ixL C (de_nats2 moT q2) (de_callC (hm := (Eq.refl [q] : [q] = [q])) 1 0 C (c__law_take h) rfl (da_cons (de_var 0 C rfl rfl rfl) (da_cons de_int da_nil)) (show R_law_take [.ref q, .int ((5 : Nat) : Int)] [ceT q a2.2] (.int (a3.1 : Int)) [ceT q a3.2] from ⟨q, a2.2, 5, ⟨(t2).le (by decide), by decide, by decide⟩, rfl, rfl, by rw [h3], by rw [h3]⟩) rfl (by omega)) (by exact at_nats (Ls := moT) l3)) ?_
  have hl : (([[4, 4], moT.getD a3.1 []] ++ List.replicate 14 (smT.getD a2.1 [])).getD a1.1 []).length ≤ 3 := getD_len (by
    rw [List.all_eq_true]
    intro l hl
    simp only [List.mem_append, List.mem_cons, List.not_mem_nil, or_false, List.mem_replicate] at hl
    rcases hl with (rfl | rfl) | ⟨_, rfl⟩
    · decide
    · exact decide_eq_true (getD_len sm_all.2 _)
    · exact decide_eq_true (getD_len sm_all.1 _)) _
  exact db_ret (de_lst (dl_cat (de_ixL C (de_lst (dl_cat (de_lst (dl_lst (da_consL (de_nats [4, 4] q3) (da_cons (de_var 3 C rfl rfl rfl) da_nil)))) (de_lst (dl_rep (n := 14) (de_lst (dl_lst (da_cons (de_var 2 C rfl rfl rfl) da_nil))) de_int (by rfl) (by decide))) (by simp))) (de_var 1 C rfl rfl rfl) (by exact big_at l1)) (de_lst (dl_lst (da_cons (de_add de_int (de_callC (hm := (Eq.refl [q] : [q] = [q])) 1 0 C (c__law_take h) rfl (da_cons (de_var 0 C rfl rfl rfl) (da_cons de_int da_nil)) (show R_law_take [.ref q, .int ((3 : Nat) : Int)] [ceT q a3.2] (.int (a4.1 : Int)) [ceT q a4.2] from ⟨q, a3.2, 3, ⟨(t3).le (by decide), by decide, by decide⟩, rfl, rfl, by rw [h4], by rw [h4]⟩) rfl (by omega))) da_nil))) (by simp at hl ⊢; omega))) ⟨(by exact congrArg D.lst map1), (by first | exact ⟨[], rfl⟩ | exact ⟨[_], rfl⟩ | exact ⟨[_, _], rfl⟩ | exact ⟨[], by simp⟩)⟩
end
end NC

set_option Elab.async false
set_option linter.all false
set_option autoImplicit false
set_option maxRecDepth 100000
set_option maxHeartbeats 4000000
set_option exponentiation.threshold 100000
namespace NC
open PySem PySem.Spec PyProof.Rows L2

/-! printed by spec17.py: the law's layers. -/
section
variable {P : Program} {w : World} {K : PySem.W.Frag} {mg : Str → Option Value} {base : Heap}


section
variable {N : List Str} {V : List Nat} {Gs : List Str} {k : Nat} {X : Cx} {Z : Zed} {ρ : Rho} {μ μ1 μ2 : Mu} {o e : Expr} {rest : List Stmt} {Φ : Post} {pos pos' apos : Pos} {xs ys ds : List D}
/-- a new list that stays owned is appended -/
theorem db_appO (j : Nat) {q : Addr} {cl : Cell} (C : Bc X P w K mg base N V Gs k) (ho : DE K X Z ρ μ o (.ref q) μ1) (hj1 : μ1[j]? = some (q, .lst ys)) (he : DL K X Z ρ μ1 e cl μ2) (hj : μ2[j]? = some (q, .lst xs)) (hl : xs.length < 100000) (hr : ∀ p, p ∉ Z.xs → DB K X Z ρ ((μ2 ++ [(p, cl)]).set j (q, .lst (xs ++ [.ref p]))) rest Φ)
    (hbase : attributeBase o "append" X.env (eval o X.env) = eval o X.env := by rfl)
    (hfew : ((backTo pos' (starEach [e] X.env)).all (fun x => !x.1) && (backToKw pos' (keywordEach [] X.env)).all (fun x => x.1.isSome)
      && decide ([e].length + ([] : List Keyword).length + (if ([] : List Keyword).isEmpty then 0 else 1) < 30)) = true := by rfl)
    (hline : (apos.endLine == pos'.line) = true := by rfl) (hs : starEach [e] X.env = [(false, eval e X.env)] := by rfl) (hplain : (backTo pos' (starEach [] X.env)).any (·.1) = false := by rfl)
    (hsw : swapsWith (.Call (.Attribute o "append" apos) [e] [] pos') none pos.line X.env = pure false := by rfl) : DB K X Z ρ μ (.Expr (.Call (.Attribute o "append" apos) [e] [] pos') pos :: rest) Φ := fun σ G H S D q1 q2 => by
  refine wss_cons (ps_expr (pe_bm PySem.F.plainAttrs_list PySem.F.slot_list_append PySem.F.type_list_append mt_append pe_we (pa_cons pe_we pa_nil hs) hbase hfew hline hs hplain) hsw) ?_
  refine ho.at0 S fun v G1 H1 e1 S1 r1 => ?_
  have hv := rep_v.mp r1
  subst hv
  obtain ⟨vs0, g1, _⟩ := cell_in S1 hj1
  rw [C.eK]
  refine ⟨tyV_lst g1, he [] σ G1 H1 (by simpa using S1) _ fun p G2 H2 e2 hp S2 => ?_⟩
  rw [List.append_nil] at S2
  have hjl := (List.getElem?_eq_some_iff.mp hj).1
  have hj' : (μ2 ++ [(p, cl)])[j]? = some (q, .lst xs) := by rw [List.getElem?_append_left hjl]; exact hj
  obtain ⟨vs, g2, g3⟩ := cell_in S2 hj'
  refine ⟨q, vs, .ref p, rfl, rfl, g2, by rw [← g3.length]; exact sz100' hl, ?_⟩
  have S3 := S2.write (o := .lst (vs ++ [.ref p])) (c' := .lst (xs ++ [.ref p])) hj' ⟨vs ++ [.ref p], upd_same, g3.app (Reps.cons (rep_v.mpr rfl) Reps.nil)⟩
  exact hr p hp σ G2 _ S3 D (fun ρ' μ' σ' G' H' z e3 => q1 ρ' μ' σ' G' H' z ((e1.trans e2).trans e3)) fun d μ' v ρ' σ' G' H' z e3 => q2 d μ' v ρ' σ' G' H' z ((e1.trans e2).trans e3)
/-- a list within an owned list stands still from now on -/
theorem db_freezeLi (i j l : Nat) {q r : Addr} (hj : μ[j]? = some (q, .lst ds)) (hl : μ[l]? = some (r, .lst xs)) (hd : ds[i]? = some (.ref r)) (hr : r ∉ Z.xs) (hjl : j ≠ l) (hb : DB K X Z ρ ((μ.set j (q, .lst (ds.set i (.lst xs)))).eraseIdx l) rest Φ) : DB K X Z ρ μ rest Φ := fun σ G H S D q1 q2 => by
  obtain ⟨vs, h1, h2⟩ := cell_in S hl
  obtain ⟨S1, e1⟩ := S.freeze hl hr h1
  have hjl' := (List.getElem?_eq_some_iff.mp hj).1
  have hll' := (List.getElem?_eq_some_iff.mp hl).1
  have hne : q ≠ r := fun z => by
    have e1 : (μ.map (·.1))[j]? = some q := by simp [hj]
    have e2 : (μ.map (·.1))[l]? = some q := by simp [hl, z]
    exact hjl (nd_ix S.nd e1 e2)
  have S2 : Sat K Z ρ ((μ.set j (q, .lst (ds.set i (.lst xs)))).eraseIdx l) σ (upd G r (.lst vs)) H := by
    refine ⟨S1.gh, S1.ln, S1.sl, fun p c hp => ?_, ?_, S1.zg, S1.zh, S1.zn, S1.zx⟩
    · obtain ⟨m, hml, hm⟩ := List.mem_eraseIdx_iff_getElem?.mp hp
      by_cases hmj : m = j
      · subst hmj
        rw [List.getElem?_set_self hjl'] at hm
        cases hm
        obtain ⟨c1, c2, c3⟩ := S.ce q _ (List.mem_of_getElem? hj)
        obtain ⟨us, g1, g3⟩ := c1
        obtain ⟨v, g4, g5⟩ := g3.get hd
        have hv := rep_v.mp g5
        subst hv
        refine ⟨⟨us, g1, ?_⟩, by rw [upd_ne hne]; exact c2, c3⟩
        have g6 := (g3.mono e1).set i (rep_lst.mpr ⟨r, vs, rfl, upd_same, h2.mono e1⟩ : Rep K (upd G r (.lst vs)) (.lst xs) (.ref r))
        have hil := (List.getElem?_eq_some_iff.mp g4)
        have : us.set i (.ref r) = us := by
          apply List.ext_getElem?
          intro t
          rw [List.getElem?_set]
          split
          · rename_i ht; subst ht
            rw [g4]; simp [hil.1]
          · rfl
        rw [this] at g6
        exact g6
      · rw [List.getElem?_set_ne (fun z => hmj z.symm)] at hm
        exact S1.ce p c (List.mem_eraseIdx_iff_getElem?.mpr ⟨m, hml, hm⟩)
    · have : ((μ.set j (q, Cell.lst (ds.set i (.lst xs)))).eraseIdx l).map (·.1) = (μ.eraseIdx l).map (·.1) := by
        rw [map_erase, map_erase, List.map_set]
        congr 1
        apply List.ext_getElem?
        intro t
        rw [List.getElem?_set]
        split
        · rename_i ht; subst ht
          have e5 := (List.getElem?_eq_some_iff.mp hj).2
          simp [hjl', e5]
        · rfl
      rw [this]
      exact S1.nd
  exact hb σ _ H S2 D (fun ρ' μ' σ' G' H' z e2 => q1 ρ' μ' σ' G' H' z (e1.trans e2)) fun d μ' v ρ' σ' G' H' z e2 => q2 d μ' v ρ' σ' G' H' z (e1.trans e2)
abbrev refs (zs : List (Addr × List D)) : List D := zs.map fun z => D.ref z.1
abbrev inn (zs : List (Addr × List D)) : Mu := zs.map fun z => (z.1, Cell.lst z.2)
theorem db_freezeAll {c0 : Addr × Cell} {q : Addr} : ∀ (zs : List (Addr × List D)) (done : List D), (∀ z ∈ zs, z.1 ∉ Z.xs) → DB K X Z ρ [c0, (q, .lst (done ++ zs.map fun z => .lst z.2))] rest Φ → DB K X Z ρ ([c0, (q, .lst (done ++ refs zs))] ++ inn zs) rest Φ
  | [], done, hz, hb => by simpa [refs, inn] using hb
  | z :: zs, done, hz, hb => by
    refine db_freezeLi done.length 1 2 (q := q) (r := z.1) (xs := z.2) (ds := done ++ refs (z :: zs)) rfl rfl (by simp [refs]) (hz z (by simp)) (by decide) ?_
    have e : (([c0, (q, .lst (done ++ refs (z :: zs)))] ++ inn (z :: zs)).set 1 (q, .lst ((done ++ refs (z :: zs)).set done.length (.lst z.2)))).eraseIdx 2 = [c0, (q, .lst ((done ++ [.lst z.2]) ++ refs zs))] ++ inn zs := by
      simp [refs, inn]
    rw [e]
    refine db_freezeAll zs (done ++ [.lst z.2]) (fun y hy => hz y (by simp [hy])) ?_
    rw [List.append_assoc]
    exact hb
end
/-! ### nodes, layers -/
def nodesF (m : Nat) : List Nat → S3 → Lay × S3
  | [], s => ([], s)
  | _ :: r, s => let x := nodeF m s
    let y := nodesF m r x.2
    (x.1 :: y.1, y.2)
theorem nodesF_snoc (m a : Nat) : ∀ (l : List Nat) (s : S3), nodesF m (l ++ [a]) s = ((nodesF m l s).1 ++ [(nodeF m (nodesF m l s).2).1], (nodeF m (nodesF m l s).2).2)
  | [], s => rfl
  | b :: l, s => by
    show (_ :: (nodesF m (l ++ [a]) _).1, (nodesF m (l ++ [a]) _).2) = _
    rw [nodesF_snoc m a l]
    rfl
theorem nodesF_ok (m : Nat) : ∀ (l : List Nat) {k : Nat} {s : S3}, TkOk (k + (2 * m + 2) * l.length) s → TkOk k (nodesF m l s).2
  | [], k, s, h => h
  | b :: l, k, s, h => nodesF_ok m l (nodeF_ok (k := k + (2 * m + 2) * l.length) (by
    have e : (2 * m + 2) * (b :: l).length = (2 * m + 2) * l.length + (2 * m + 2) := by rw [List.length_cons, Nat.mul_succ]
    rw [e] at h
    exact h.le (by omega)))
theorem nodesF_len (m : Nat) : ∀ (l : List Nat) (s : S3), (nodesF m l s).1.length = l.length
  | [], s => rfl
  | b :: l, s => by show ((_ :: (nodesF m l _).1).length) = _; simp [nodesF_len m l]
def layZ : Nat → List Nat → S3 → Lays × S3
  | _, [], s => ([], s)
  | m, n :: r, s => let x := nodesF m (List.range n) s
    let y := layZ n r x.2
    (x.1 :: y.1, y.2)
/-- how many takes -/
def layT : Nat → List Nat → Nat
  | _, [] => 0
  | m, n :: r => (2 * m + 2) * n + layT n r
theorem layZ_ok : ∀ (ns : List Nat) (m : Nat) {k : Nat} {s : S3}, TkOk (k + layT m ns) s → TkOk k (layZ m ns s).2
  | [], m, k, s, h => h
  | n :: r, m, k, s, h => layZ_ok r n (nodesF_ok m (List.range n) (k := k + layT n r) (h.le (by rw [List.length_range]; show k + layT n r + (2 * m + 2) * n ≤ k + ((2 * m + 2) * n + layT n r); omega)))
theorem layZ_len : ∀ (ns : List Nat) (m : Nat) (s : S3), (layZ m ns s).1.length = ns.length
  | [], m, s => rfl
  | n :: r, m, s => by show (_ :: (layZ n r _).1).length = _; simp [layZ_len r]
def greatF (b c : Nat) : Rat := mkRat (1000000000000000000000000000000 - 1 - (b : Int)) (100000000000000000000000000000 + c)
def putF (g : Rat) (l : Lay) : Lay := l.set 0 ((l.getD 0 ([], 0)).1, g)
def layersF (m : Nat) (ns : List Nat) (s : S3) : Lays × S3 :=
  let z := layZ m ns s
  let a := takeF 16 z.2
  if a.1 = 0 then
    let b := takeF 2000 a.2
    let c := takeF 1000 b.2
    let e := takeF ns.length c.2
    let f := takeF 2 e.2
    (z.1.set e.1 (putF (greatF b.1 c.1 * ((2 * (f.1 : Int) - 1 : Int) : Rat)) (z.1.getD e.1 [])), f.2)
  else (z.1, a.2)
abbrev R_law_layers : Con := fun ds μ d μ' => ∃ (q : Addr) (s : S3) (m : Nat) (ns : List Nat), (TkOk (layT m ns + 5) s ∧ m ≤ 4 ∧ (∀ n ∈ ns, 1 ≤ n ∧ n ≤ 4) ∧ 1 ≤ ns.length ∧ ns.length ≤ 4) ∧ ds = [.ref q, .int (m : Int), eNats ns] ∧ μ = [ceT q s] ∧ d = eLays (layersF m ns s).1 ∧ μ' = [ceT q (layersF m ns s).2]
abbrev eInn (M : List (Addr × Lay)) : List (Addr × List D) := M.map fun z => (z.1, z.2.map eSum)


theorem ix_cons {d : D} {ds : List D} : ixN (d :: ds).length 0 = some 0 := by
  unfold ixN
  simp
theorem at_inn {M : List (Addr × Lay)} {i : Nat} {y : Addr × Lay} (h : M[i]? = some y) : atI (refs (eInn M)) (i : Int) = some (.ref y.1) := by
  unfold atI ixN
  have hl := (List.getElem?_eq_some_iff.mp h).1
  have he := (List.getElem?_eq_some_iff.mp h).2
  have h1 : (0 : Int) ≤ (i : Int) := by omega
  simp [refs, eInn, hl, he]
theorem cell_inn {c0 c1 : Addr × Cell} {M : List (Addr × Lay)} {i : Nat} {y : Addr × Lay} (h : M[i]? = some y) : ([c0, c1] ++ inn (eInn M))[i + 2]? = some (y.1, .lst (y.2.map eSum)) := by
  simp [inn, eInn, h]
theorem cell_put {c0 : Addr × Cell} {M : List (Addr × Lay)} {i : Nat} {y : Addr × Lay} {n0 : Node} {l0 : Lay} {g : Rat} {q : Addr} (h : M[i]? = some y) (hl : y.2 = n0 :: l0) : ([c0, (q, .lst (refs (eInn M)))] ++ inn (eInn M)).set (i + 2) (y.1, .lst ((eSum n0 :: l0.map eSum).set 0 (eSum (n0.1, g)))) = [c0, (q, .lst (refs (eInn (M.set i (y.1, (n0.1, g) :: l0)))))] ++ inn (eInn (M.set i (y.1, (n0.1, g) :: l0))) := by
  have hi := (List.getElem?_eq_some_iff.mp h).1
  have e1 : refs (eInn (M.set i (y.1, (n0.1, g) :: l0))) = refs (eInn M) := by
    unfold refs eInn
    rw [List.map_map, List.map_map, List.map_set]
    apply List.ext_getElem?
    intro t
    rw [List.getElem?_set]
    split
    · rename_i ht; subst ht
      simp [h]; exact hi
    · rfl
  rw [e1]
  simp [inn, eInn, List.map_set]
theorem inn_lays {M : List (Addr × Lay)} : D.lst ([] ++ (eInn M).map fun z => .lst z.2) = eLays (M.map (·.2)) := by
  show D.lst ((eInn M).map fun z => .lst z.2) = D.lst ((M.map (·.2)).map eLayL)
  rw [List.map_map, List.map_map]
  rfl
theorem getD_inn {M : List (Addr × Lay)} {i : Nat} {y : Addr × Lay} (h : M[i]? = some y) : (M.map (·.2)).getD i [] = y.2 := by
  simp [h]
theorem great_lt {c : Nat} (h : c < 1000) : 100000000000000000000000000000 + c < 2 ^ 9000 := Nat.lt_of_lt_of_le (show 100000000000000000000000000000 + c < 2 ^ 100 from by have e : (2 : Nat) ^ 100 = 1267650600228229401496703205376 := rfl; omega) (Nat.pow_le_pow_right (by decide) (by decide))
theorem great_sm {b c : Nat} (hb : b < 2000) (hc : c < 1000) : Sm (greatF b c) := by
  have e : (2 : Nat) ^ 110 = 1298074214633706907132624082305024 := rfl
  exact (Bt.mk (n := 110) (by omega) (by omega) (by omega)).sm (by decide)
theorem one_sm {f : Nat} (h : f < 2) : Sm (((2 * (f : Int) - 1 : Int)) : Rat) := by
  have e : (2 : Nat) ^ 10 = 1024 := rfl
  exact Bt.sm (n := 10) ⟨by show (2 * (f : Int) - 1).natAbs < 2 ^ 10; omega, by show 1 < 2 ^ 10; omega⟩ (by decide)

theorem c__law_layers (h : Hd P w K mg base) : FC P w K mg base 4 "_law_layers" 3 (R_law_layers) := by
  refine mk_fc (N := ["_law_stream_here", "_law_ins", "_law_shape_here", "_law_layers_here", "_law_many", "_law_nodes", "_law_great", "_law_layer", "_law_k"]) (ps := ["_law_stream_here", "_law_ins", "_law_shape_here"]) (V := [2, 3, 3, 3, 2, 3, 3, 3, 0]) (Gs := ["range", "_law_take", "_law_made", "len", "_law_times"]) (k := 3) (d := dd__law_layers) h 117 79 rfl rfl rfl (by decide +kernel) rfl (fun _ _ _ _ _ _ us hl => match us, hl with | [_, _, _], _ => rfl) fun X Z ds μ r μ' C hR hx hl => ?_
  obtain ⟨q, s, m, ns, ⟨ht, hm4, hn, hl1, hl4⟩, rfl, rfl, rfl, rfl⟩ := hR
  show DB K X Z [some (.ref q), some (.int (m : Int)), some (eNats ns), none, none, none, none, none, none] ([ceT q s]) (defBody (top 140)) _
  refine db_own 3 C rfl rfl (dl_lst da_nil) (fun q0 hq0 => ?_)
  refine db_set 4 C rfl rfl (de_var 1 C rfl rfl rfl) ?_
  show DB K X Z _ [ceT q s, (q0, .lst [])] _ _
  refine db_forS (S := List (Addr × Lay) × Nat × S3) ns (fun (n : Nat) => .int (n : Int)) (fun z r => layZ m ns s = (z.1.map (·.2) ++ (layZ z.2.1 r z.2.2).1, (layZ z.2.1 r z.2.2).2) ∧ TkOk (layT z.2.1 r + 5) z.2.2 ∧ z.2.1 ≤ 4 ∧ z.1.length + r.length = ns.length ∧ (∀ y ∈ z.1, y.1 ∉ Z.xs) ∧ (∀ n ∈ r, 1 ≤ n ∧ n ≤ 4) ∧ (∀ y ∈ z.1, 1 ≤ y.2.length)) (fun z => [some (.ref q), some (.int (m : Int)), some (eNats ns), some (.ref q0), some (.int (z.2.1 : Int)), none, none, none, none]) (fun z => [ceT q z.2.2, (q0, .lst (refs (eInn z.1)))] ++ inn (eInn z.1)) ([], m, s) C (di_list C (de_var 2 C rfl rfl rfl)) rfl (.some (.some (.some (.some (.some (.none (.none (.none (.none .nil))))))))) (by exact ⟨rfl, ht, hm4, by simp, fun y hy => (by cases hy), hn, fun y hy => (by cases hy)⟩) (fun z n rr hJ ha => ?_) (fun z hJ => ?_)
  · obtain ⟨M, mm, sz⟩ := z
    obtain ⟨j1, j2, j3, j4, j5, j6, j7⟩ := hJ
    simp only at j1 j2 j3 j4 j5
    refine ⟨_, _, _, (dg_name 5 C rfl rfl), ?_⟩
    have hn1 := j6 n (by simp)
    show DB K X Z _ (ceT q sz :: ((q0, .lst (refs (eInn M))) :: inn (eInn M))) _ _
    obtain ⟨R, hR⟩ : ∃ R : Mu, R = (q0, .lst (refs (eInn M))) :: inn (eInn M) := ⟨_, rfl⟩
    refine db_appO 1 (q := q0) (ys := refs (eInn M)) (xs := refs (eInn M)) C (de_var 3 C rfl rfl rfl) rfl (μ2 := ceT q (nodesF mm (List.range n) sz).2 :: ((q0, .lst (refs (eInn M))) :: inn (eInn M))) (by rw [← hR]; exact (dl_of_dc (V' := [1, 0, 0, 0, 1, 0, 0, 0, 3]) (Gs' := ["_law_node"]) (own := [("_law_k", 8)]) C (by decide +kernel) (dc_mapM (List.range n) (fun (i : Nat) => .int (i : Int)) (fun l _ => eSum (nodeF mm (nodesF mm l sz).2).1) (fun _ => true) (fun l => ceT q (nodesF mm l sz).2 :: R) (fun l => (nodesF mm l sz).1.map eSum) [1, 0, 0, 0, 1, 0, 0, 0, 3] ["_law_node"] [("_law_k", 8)] C (by decide +kernel) (by decide +kernel) (di_is (di_range (n := n) 0 C rfl (h.free 16 _ rfl) (de_var 5 C rfl rfl rfl) (by rfl) (by first | rfl | assumption | omega | decide | simp)) (by rfl)) (by simp; omega) rfl (fun l a _ => by rw [nodesF_snoc]; simp) (fun l a e => by cases e) fun l a r e => ⟨_, _, (by decide), (fun z => by cases z), fun _ C' => ⟨(dg_name 8 C' rfl rfl), dts_nil, fun _ => de_to (de_callC (hm := (Eq.refl [q] : [q] = [q])) 1 0 C' (c__law_node h) rfl (da_cons (de_var 0 C' rfl rfl rfl) (da_cons (de_var 4 C' rfl rfl rfl) da_nil)) ⟨q, _, mm, ⟨nodesF_ok mm l (k := 2 * mm + 2) (j2.le (by have h1 := congrArg List.length e; simp at h1; have h2 : (2 * mm + 2) * l.length + (2 * mm + 2) ≤ (2 * mm + 2) * n := (by rw [← Nat.mul_succ]; exact Nat.mul_le_mul_left _ (by omega)); have h3 : layT mm (n :: rr) = (2 * mm + 2) * n + layT n rr := rfl; omega)), by omega⟩, rfl, rfl, rfl, rfl⟩ rfl (by omega)) (by rfl) (by rw [nodesF_snoc]; rfl)⟩⟩))) rfl (by simp [refs]; omega) (fun p hp => ?_)
    refine db_set 4 C rfl rfl (de_var 5 C rfl rfl rfl) ?_
    refine db_nil ⟨(M ++ [(p, (nodesF mm (List.range n) sz).1)], n, (nodesF mm (List.range n) sz).2), ⟨?_, ?_, hn1.2, by simp at j4 ⊢; omega, fun y hy => ?_, fun y hy => j6 y (by simp [hy]), fun y hy => ?_⟩, (.some (.some (.some (.some (.some (.none (.none (.none (.none .nil))))))))), ?_⟩
    · rw [j1]; show _ = (_ ++ (layZ n rr _).1, (layZ n rr _).2)
      rw [List.map_append, List.append_assoc]; rfl
    · exact nodesF_ok mm (List.range n) (k := layT n rr + 5) (j2.le (by rw [List.length_range]; have h3 : layT mm (n :: rr) = (2 * mm + 2) * n + layT n rr := rfl; omega))
    · rcases List.mem_append.mp hy with hy | hy
      · exact j5 y hy
      · rw [List.mem_singleton.mp hy]; exact hp
    · rcases List.mem_append.mp hy with hy | hy
      · exact j7 y hy
      · rw [List.mem_singleton.mp hy]; show 1 ≤ (nodesF mm (List.range n) sz).1.length; rw [nodesF_len]; simp; omega
    · simp [refs, inn, eInn]
  obtain ⟨M, mm, sz⟩ := z
  obtain ⟨j1, j2, j3, j4, j5, j6, j7⟩ := hJ
  simp only [layZ, List.append_nil, List.length_nil, Nat.add_zero, layT, Nat.zero_add] at j1 j2 j4 j5 j7
  obtain ⟨a1, h1⟩ : ∃ a1, a1 = takeF 16 sz := ⟨_, rfl⟩
  obtain ⟨a2, h2⟩ : ∃ a2, a2 = takeF 2000 (a1.2) := ⟨_, rfl⟩
  obtain ⟨a3, h3⟩ : ∃ a3, a3 = takeF 1000 (a2.2) := ⟨_, rfl⟩
  obtain ⟨a4, h4⟩ : ∃ a4, a4 = takeF ns.length (a3.2) := ⟨_, rfl⟩
  obtain ⟨a5, h5⟩ : ∃ a5, a5 = takeF 2 (a4.2) := ⟨_, rfl⟩
  have hE : layersF m ns s = if a1.1 = 0 then ((M.map (·.2)).set a4.1 (putF (greatF a2.1 a3.1 * ((2 * (a5.1 : Int) - 1 : Int) : Rat)) ((M.map (·.2)).getD a4.1 [])), a5.2) else (M.map (·.2), a1.2) := by subst h5 h4 h3 h2 h1; unfold layersF; rw [j1]
  rw [hE]
  have l1 : a1.1 < 16 := by rw [h1]; exact takeF_lt (by first | decide | omega)
  have t1 : TkOk 4 a1.2 := by rw [h1]; exact TkOk.take (k := 4) j2
  have l2 : a2.1 < 2000 := by rw [h2]; exact takeF_lt (by first | decide | omega)
  have t2 : TkOk 3 a2.2 := by rw [h2]; exact TkOk.take (k := 3) t1
  have l3 : a3.1 < 1000 := by rw [h3]; exact takeF_lt (by first | decide | omega)
  have t3 : TkOk 2 a3.2 := by rw [h3]; exact TkOk.take (k := 2) t2
  have l4 : a4.1 < ns.length := by rw [h4]; exact takeF_lt (by first | decide | omega)
  have t4 : TkOk 1 a4.2 := by rw [h4]; exact TkOk.take (k := 1) t3
  have l5 : a5.1 < 2 := by rw [h5]; exact takeF_lt (by first | decide | omega)
  have t5 : TkOk 0 a5.2 := by rw [h5]; exact TkOk.take (k := 0) t4
  have hlen : (refs (eInn M)).length = ns.length := by simp [refs, eInn]; omega
  have hz : ∀ z ∈ eInn M, z.1 ∉ Z.xs := fun z hz => by obtain ⟨y, hy, rfl⟩ := List.mem_map.mp hz; exact j5 y hy
  by_cases hc : a1.1 = 0
  · rw [if_pos hc]
    refine db_if1 (dt_is (dt_cp (de_callC (hm := (Eq.refl [q] : [q] = [q])) 1 1 C (c__law_take h) rfl (da_cons (de_var 0 C rfl rfl rfl) (da_cons de_int da_nil)) (show R_law_take [.ref q, .int ((16 : Nat) : Int)] [ceT q sz] (.int (a1.1 : Int)) [ceT q a1.2] from ⟨q, sz, 16, ⟨(j2).le (by decide), by first | decide | omega, by first | decide | omega⟩, rfl, rfl, by rw [h1], by rw [h1]⟩) rfl (by omega)) de_int cp_eq) (by simp; exact hc)) ?_
    show DB K X Z _ ([ceT q a1.2, (q0, .lst (refs (eInn M)))] ++ inn (eInn M)) _ _
    refine db_set 6 C rfl rfl (de_callP 2 C (c__law_made h) rfl (da_cons (de_sub (de_sub (de_pow de_int de_int (by exact ⟨by decide, by decide, by decide⟩)) de_int) (de_callC (hm := (Eq.refl [q] : [q] = [q])) 1 1 C (c__law_take h) rfl (da_cons (de_var 0 C rfl rfl rfl) (da_cons de_int da_nil)) (show R_law_take [.ref q, .int ((2000 : Nat) : Int)] [ceT q a1.2] (.int (a2.1 : Int)) [ceT q a2.2] from ⟨q, a1.2, 2000, ⟨(t1).le (by decide), by first | decide | omega, by first | decide | omega⟩, rfl, rfl, by rw [h2], by rw [h2]⟩) rfl (by omega))) (da_cons (de_add (de_pow de_int de_int (by exact ⟨by decide, by decide, by decide⟩)) (de_callC (hm := (Eq.refl [q] : [q] = [q])) 1 1 C (c__law_take h) rfl (da_cons (de_var 0 C rfl rfl rfl) (da_cons de_int da_nil)) (show R_law_take [.ref q, .int ((1000 : Nat) : Int)] [ceT q a2.2] (.int (a3.1 : Int)) [ceT q a3.2] from ⟨q, a2.2, 1000, ⟨(t2).le (by decide), by first | decide | omega, by first | decide | omega⟩, rfl, rfl, by rw [h3], by rw [h3]⟩) rfl (by omega))) da_nil)) ⟨1000000000000000000000000000000 - 1 - (a2.1 : Int), 100000000000000000000000000000 + a3.1, by omega, great_lt l3, (by simp [show (10 : Int) ^ ((30 : Int)).toNat = 1000000000000000000000000000000 from rfl, show (10 : Int) ^ ((29 : Int)).toNat = 100000000000000000000000000000 from rfl]), (norm_mk _).symm⟩ rfl (by omega)) ?_
    show DB K X Z _ ([ceT q a3.2, (q0, .lst (refs (eInn M)))] ++ inn (eInn M)) _ _
    have l4M : a4.1 < M.length := by omega
    obtain ⟨y, hy⟩ : ∃ y, M[a4.1]? = some y := ⟨_, List.getElem?_eq_getElem l4M⟩
    have hyl : 1 ≤ y.2.length := j7 y (List.mem_of_getElem? hy)
    obtain ⟨n0, l0, hl0⟩ : ∃ n0 l0, y.2 = n0 :: l0 := by
      cases e : y.2 with
      | nil => rw [e] at hyl; simp at hyl
      | cons n0 l0 => exact ⟨n0, l0, rfl⟩
    refine db_set 7 C rfl rfl (d := .ref y.1) (de_ixO 1 (q := q0) (ds := refs (eInn M)) C (de_var 3 C rfl rfl rfl) (de_callC (hm := (Eq.refl [q] : [q] = [q])) 1 1 C (c__law_take h) rfl (da_cons (de_var 0 C rfl rfl rfl) (da_cons (de_lenO 1 3 C rfl (h.free 0 _ rfl) (de_var 3 C rfl rfl rfl) rfl) da_nil)) (show R_law_take [.ref q, .int (((refs (eInn M)).length : Nat) : Int)] [ceT q a3.2] (.int (a4.1 : Int)) [ceT q a4.2] from by rw [hlen]; exact ⟨q, a3.2, ns.length, ⟨(t3).le (by decide), by first | decide | omega, by first | decide | omega⟩, rfl, rfl, by rw [h4], by rw [h4]⟩) rfl (by omega)) rfl (by exact at_inn hy)) ?_
    show DB K X Z _ ([ceT q a4.2, (q0, .lst (refs (eInn M)))] ++ inn (eInn M)) _ _
    have hcell : ([ceT q a4.2, (q0, .lst (refs (eInn M)))] ++ inn (eInn M))[a4.1 + 2]? = some (y.1, .lst (eSum n0 :: l0.map eSum)) := by rw [cell_inn hy, hl0]; rfl
    have hcell2 : ([ceT q a5.2, (q0, .lst (refs (eInn M)))] ++ inn (eInn M))[a4.1 + 2]? = some (y.1, .lst (eSum n0 :: l0.map eSum)) := by rw [cell_inn hy, hl0]; rfl
    refine db_asg (de_is (d' := eSum (n0.1, greatF a2.1 a3.1 * ((2 * (a5.1 : Int) - 1 : Int) : Rat))) (de_tup (da_cons (de_ixT C (de_ixO (a4.1 + 2) C (de_var 7 C rfl rfl rfl) de_int hcell (by exact at_zero _ _)) de_int (by rfl)) (da_cons (de_callP 4 C (c__law_times h) rfl (da_cons (de_var 6 C rfl rfl rfl) (da_cons (de_is (de_tup (da_cons (de_sub (de_mul de_int (de_callC (hm := (Eq.refl [q] : [q] = [q])) 1 1 C (c__law_take h) rfl (da_cons (de_var 0 C rfl rfl rfl) (da_cons de_int da_nil)) (show R_law_take [.ref q, .int ((2 : Nat) : Int)] [ceT q a4.2] (.int (a5.1 : Int)) [ceT q a5.2] from ⟨q, a4.2, 2, ⟨(t4).le (by decide), by first | decide | omega, by first | decide | omega⟩, rfl, rfl, by rw [h5], by rw [h5]⟩) rfl (by omega)) (by exact smul (lt9 (k := 10) (by decide) (by decide)) (lt9 (k := 10) (by rw [Int.natAbs_natCast]; exact Nat.lt_of_lt_of_le l5 (by decide)) (by decide)))) de_int) (da_cons de_int da_nil))) (by rfl : _ = eF (((2 * (a5.1 : Int) - 1 : Int)) : Rat))) da_nil)) ⟨greatF a2.1 a3.1, _, ⟨great_sm l2 l3, one_sm l5⟩, rfl, rfl⟩ rfl (by omega)) da_nil))) (by rfl)) (dg_setix (a4.1 + 2) (q := y.1) (xs := eSum n0 :: l0.map eSum) (l := 0) (de_var 7 C rfl rfl rfl) de_int hcell2 (by exact ix_cons)) ?_
    show DB K X Z _ (([ceT q a5.2, (q0, .lst (refs (eInn M)))] ++ inn (eInn M)).set (a4.1 + 2) (y.1, .lst ((eSum n0 :: l0.map eSum).set 0 (eSum (n0.1, greatF a2.1 a3.1 * ((2 * (a5.1 : Int) - 1 : Int) : Rat)))))) _ _
    rw [cell_put hy hl0]
    refine db_nil ?_
    show DB K X Z _ ([ceT q a5.2, (q0, .lst ([] ++ refs (eInn (M.set a4.1 (y.1, (n0.1, greatF a2.1 a3.1 * ((2 * (a5.1 : Int) - 1 : Int) : Rat)) :: l0)))))] ++ inn (eInn (M.set a4.1 (y.1, (n0.1, greatF a2.1 a3.1 * ((2 * (a5.1 : Int) - 1 : Int) : Rat)) :: l0)))) _ _
    refine db_freezeAll _ [] (fun z hz2 => ?_) ?_
    · obtain ⟨x, hx2, rfl⟩ := List.mem_map.mp hz2
      rcases List.mem_or_eq_of_mem_set hx2 with hx2 | rfl
      · exact j5 x hx2
      · exact j5 y (List.mem_of_getElem? hy)
    refine db_freeze 3 1 (q := q0) rfl rfl hq0 ?_
    refine db_ret (de_var 3 C rfl rfl rfl) ⟨?_, ⟨[], rfl⟩⟩
    show D.lst ([] ++ (eInn (M.set a4.1 (y.1, (n0.1, greatF a2.1 a3.1 * ((2 * (a5.1 : Int) - 1 : Int) : Rat)) :: l0))).map fun z => .lst z.2) = eLays ((M.map (·.2)).set a4.1 (putF _ ((M.map (·.2)).getD a4.1 [])))
    rw [inn_lays, List.map_set, getD_inn hy, hl0]; rfl
  · rw [if_neg hc]
    refine db_skip (dt_is (dt_cp (de_callC (hm := (Eq.refl [q] : [q] = [q])) 1 1 C (c__law_take h) rfl (da_cons (de_var 0 C rfl rfl rfl) (da_cons de_int da_nil)) (show R_law_take [.ref q, .int ((16 : Nat) : Int)] [ceT q sz] (.int (a1.1 : Int)) [ceT q a1.2] from ⟨q, sz, 16, ⟨(j2).le (by decide), by first | decide | omega, by first | decide | omega⟩, rfl, rfl, by rw [h1], by rw [h1]⟩) rfl (by omega)) de_int cp_eq) (by simp; exact hc)) ?_
    show DB K X Z _ ([ceT q a1.2, (q0, .lst ([] ++ refs (eInn M)))] ++ inn (eInn M)) _ _
    refine db_freezeAll _ [] hz ?_
    refine db_freeze 3 1 (q := q0) rfl rfl hq0 ?_
    refine db_ret (de_var 3 C rfl rfl rfl) ⟨?_, ⟨[], rfl⟩⟩
    show D.lst ([] ++ (eInn M).map fun z => .lst z.2) = eLays (M.map (·.2))
    rw [inn_lays]
end
end NC

set_option Elab.async false
set_option linter.all false
set_option autoImplicit false
set_option exponentiation.threshold 100000
set_option maxRecDepth 100000
set_option maxHeartbeats 4000000
/-! The law's own reckoning, as plain functions. -/
namespace NC
open PySem PySem.Spec PyProof.Rows L2
/-- |v| / |g| as the law makes it -/
def shareQ (v g : Rat) : Rat := mkRat ((v.num.natAbs : Int) * (g.den : Int)) (v.den * g.num.natAbs)
def zF (lo hi v w : Rat) : Rat := lo + (hi + -lo) * shareQ v (v + -w)
def zfind (lo hi : Rat) (l : List (Rat × Rat)) : List Rat := l.filterMap fun p => if p.1.num * p.2.num < 0 then some (zF lo hi p.1 p.2) else none
def leastF : Rat → List Rat → Rat
  | f, [] => f
  | f, p :: ps => leastF (if p < f then p else f) ps
def dropL (m : Rat) (l : List Rat) : List Rat := l.filter fun p => !decide (p = m)
def sortF : Nat → List Rat → List Rat
  | 0, _ => []
  | _ + 1, [] => []
  | n + 1, f :: r => leastF f (f :: r) :: sortF n (dropL (leastF f (f :: r)) (f :: r))
def rowD (M : Lays) (d : Nat) (x : Rat) : List Rat := (valsZ M [x]).getD d []
def zfoundF (M : Lays) (d : Nat) (lo hi : Rat) : List Rat := zfind lo hi ((rowD M d lo).zip (rowD M d hi))
def zerosF (M : Lays) (d : Nat) (lo hi : Rat) : List Rat := sortF (zfoundF M d lo hi).length (zfoundF M d lo hi)
def cutF (M : Lays) (d : Nat) : List Rat → List Rat
  | [] => []
  | [p] => [p]
  | p :: q :: r => p :: (zerosF M d p q ++ cutF M d (q :: r))
def ptsF (M : Lays) (lo hi : Rat) : Nat → List Rat
  | 0 => if lo = hi then [lo] else [lo, hi]
  | d + 1 => cutF M d (ptsF M lo hi d)
def keptF (L : Lays) (ll : Lay) : List Node → Rat → Rat → Bool
  | [], _, _ => true
  | w :: ws, l, h => if 0 < overF L ll w l ∧ 0 < overF L ll w h then false
    else if 0 < overF L ll w l then keptF L ll ws (zF l h (overF L ll w l) (overF L ll w h)) h
    else if 0 < overF L ll w h then keptF L ll ws l (zF l h (overF L ll w l) (overF L ll w h))
    else keptF L ll ws l h
def duesF (L : Lays) (ll : Lay) (ws : List Node) : List Rat → Bool
  | [] => false
  | [p] => keptF L ll ws p p
  | p :: q :: r => keptF L ll ws p q || duesF L ll ws (q :: r)
/-- sizes for zF -/
def ZOk (l h o p : Rat) : Prop := Bt 450 l ∧ Bt 450 h ∧ Bt 900 o ∧ Bt 900 p
/-- a point good for all layers -/
def VOk (M : Lays) (x : Rat) : Prop := SmV M [x] ∧ M.length ≤ 4 ∧ Bt 450 x ∧ ∀ r ∈ valsZ M [x], ∀ v ∈ r, Bt 900 v
def KpB (L : Lays) (ll : Lay) (w : Node) (x : Rat) : Prop := DotOk L ll w.1 x ∧ Bt 450 x ∧ Bt 900 (overF L ll w x)
def KeptOk (L : Lays) (ll : Lay) : List Node → Rat → Rat → Prop
  | [], _, _ => True
  | w :: ws, l, h => Sm w.2 ∧ KpB L ll w l ∧ KpB L ll w h ∧ (¬ (0 < overF L ll w l ∧ 0 < overF L ll w h) →
    (0 < overF L ll w l → KeptOk L ll ws (zF l h (overF L ll w l) (overF L ll w h)) h) ∧
    (¬ 0 < overF L ll w l → 0 < overF L ll w h → KeptOk L ll ws l (zF l h (overF L ll w l) (overF L ll w h))) ∧
    (¬ 0 < overF L ll w l → ¬ 0 < overF L ll w h → KeptOk L ll ws l h))
def DuesOk (L : Lays) (ll : Lay) (ws : List Node) : List Rat → Prop
  | [] => True
  | [p] => KeptOk L ll ws p p
  | p :: q :: r => KeptOk L ll ws p q ∧ DuesOk L ll ws (q :: r)
end NC

set_option Elab.async false
set_option linter.all false
set_option autoImplicit false
set_option exponentiation.threshold 100000
set_option maxRecDepth 100000
set_option maxHeartbeats 4000000
/-! Sizes by a common denominator; sums at points. -/
namespace NC
open PySem PySem.Spec PyProof.Rows L2
/-- q is a whole number of 1 / d, at most n of them -/
def Fr (d n : Nat) (q : Rat) : Prop := ∃ i : Int, q * (d : Rat) = (i : Rat) ∧ i.natAbs ≤ n
theorem Fr.le {d n m : Nat} {q : Rat} (h : Fr d n q) (hm : n ≤ m) : Fr d m q := by
  obtain ⟨i, h1, h2⟩ := h
  exact ⟨i, h1, by omega⟩
theorem Fr.zero {d n : Nat} : Fr d n 0 := ⟨0, by simp, by simp⟩
theorem Fr.add {d n m : Nat} {p q : Rat} (h : Fr d n p) (h' : Fr d m q) : Fr d (n + m) (p + q) := by
  obtain ⟨i, h1, h2⟩ := h
  obtain ⟨j, h3, h4⟩ := h'
  refine ⟨i + j, ?_, by omega⟩
  rw [Rat.intCast_add, ← h1, ← h3]; grind
theorem Fr.neg {d n : Nat} {p : Rat} (h : Fr d n p) : Fr d n (-p) := by
  obtain ⟨i, h1, h2⟩ := h
  refine ⟨-i, ?_, by omega⟩
  rw [Rat.intCast_neg, ← h1]; grind
theorem Fr.mul {d e n m : Nat} {p q : Rat} (h : Fr d n p) (h' : Fr e m q) : Fr (d * e) (n * m) (p * q) := by
  obtain ⟨i, h1, h2⟩ := h
  obtain ⟨j, h3, h4⟩ := h'
  refine ⟨i * j, ?_, ?_⟩
  · rw [Rat.intCast_mul, ← h1, ← h3, Rat.natCast_mul]; grind
  · rw [Int.natAbs_mul]; exact Nat.mul_le_mul h2 h4
theorem Fr.up {d n : Nat} {q : Rat} (k : Nat) (h : Fr d n q) : Fr (k * d) (k * n) q := by
  obtain ⟨i, h1, h2⟩ := h
  refine ⟨(k : Int) * i, ?_, ?_⟩
  · rw [Rat.intCast_mul, ← h1, Rat.natCast_mul, Rat.intCast_natCast]; grind
  · rw [Int.natAbs_mul, Int.natAbs_natCast]; exact Nat.mul_le_mul (Nat.le_refl _) h2
theorem Fr.eq {d n : Nat} {q : Rat} (h : Fr d n q) (hd : d ≠ 0) : ∃ i : Int, q = mkRat i d ∧ i.natAbs ≤ n := by
  obtain ⟨i, h1, h2⟩ := h
  refine ⟨i, ?_, h2⟩
  have hz : (d : Rat) ≠ 0 := by simpa using hd
  rw [Rat.mkRat_eq_div, ← h1, Rat.mul_div_cancel hz]
theorem Fr.of {d : Nat} (i : Int) (hd : d ≠ 0) : Fr d i.natAbs (mkRat i d) := by
  have hz : (d : Rat) ≠ 0 := by simpa using hd
  exact ⟨i, by rw [Rat.mkRat_eq_div, Rat.div_mul_cancel hz], Nat.le_refl _⟩
theorem Fr.self (q : Rat) : Fr q.den q.num.natAbs q := by
  have h := Fr.of q.num q.den_nz
  rw [Rat.mkRat_self] at h
  exact h
theorem Fr.bt {d n b : Nat} {q : Rat} (h : Fr d n q) (hd : d ≠ 0) (h1 : d < 2 ^ b) (h2 : n < 2 ^ b) : Bt b q := by
  obtain ⟨i, rfl, h3⟩ := h.eq hd
  exact Bt.mk (by omega) h1 hd
theorem Fr.sm {d n : Nat} {q : Rat} (h : Fr d n q) (hd : d ≠ 0) (h1 : d < 2 ^ 4400) (h2 : n < 2 ^ 4400) : Sm q := (h.bt hd h1 h2).sm (Nat.le_refl _)
theorem Bt.fr {b : Nat} {q : Rat} (h : Bt b q) : Fr q.den (2 ^ b) q := (Fr.self q).le (Nat.le_of_lt h.1)
theorem Bt.neg {b : Nat} {q : Rat} (h : Bt b q) : Bt b (-q) := ⟨by rw [Rat.neg_num, Int.natAbs_neg]; exact h.1, h.2⟩

/-! ### sums -/
theorem dotZ_cons (f : Rat) (p : Rat × Rat) (l : List (Rat × Rat)) : dotZ f (p :: l) = dotZ (f + p.1 * p.2) l := rfl
theorem dotZ_add : ∀ (l : List (Rat × Rat)) (f : Rat), dotZ f l = f + dotZ 0 l
  | [], f => (Rat.add_zero f).symm
  | p :: l, f => by rw [dotZ_cons, dotZ_cons, dotZ_add l (f + p.1 * p.2), dotZ_add l (0 + p.1 * p.2)]; grind
theorem dot_nil (ys : List Rat) : dot [] ys = 0 := rfl
theorem dot_nil2 (xs : List Rat) : dot xs [] = 0 := by cases xs <;> rfl
theorem dot_cons (w y : Rat) (ws ys : List Rat) : dot (w :: ws) (y :: ys) = w * y + dot ws ys := by
  show dotZ (0 + w * y) (ws.zip ys) = _
  rw [dotZ_add]; unfold dot; grind
/-- what a sum over the one in tells -/
def ev (a : Aff) (x : Rat) : Rat := a.1 * x + a.2
theorem affZ_cons (f : Aff) (p : Rat × Aff) (l : List (Rat × Aff)) : affZ f (p :: l) = affZ (f.1 + p.1 * p.2.1, f.2 + p.1 * p.2.2) l := rfl
theorem affZ_ev (x : Rat) : ∀ (ws : List Rat) (as : List Aff) (f : Aff), ev (affZ f (ws.zip as)) x = ev f x + dot ws (as.map fun a => ev a x)
  | [], as, f => by rw [dot_nil]; exact (Rat.add_zero _).symm
  | w :: ws, [], f => by rw [List.map_nil, dot_nil2]; exact (Rat.add_zero _).symm
  | w :: ws, a :: as, f => by
    rw [List.zip_cons_cons, affZ_cons, affZ_ev x ws as, List.map_cons, dot_cons]
    unfold ev; grind
theorem nodeAff_ev (n : Node) (as : List Aff) (x : Rat) : ev (nodeAff n as) x = val n (as.map fun a => ev a x) := by
  unfold nodeAff val
  rw [affZ_ev]
  unfold ev; grind
/-- sums over bounded things stay bounded -/
theorem dotZ_fr {d e m : Nat} (hd : d ≠ 0) (he : e ≠ 0) (hde : d * e < 2 ^ 4400) (hm : m < 2 ^ 4400) : ∀ (ws ys : List Rat) (f : Rat) (c : Nat), (∀ w ∈ ws, Fr d 24 w) → (∀ y ∈ ys, Fr e m y) → Fr (d * e) c f → c + ws.length * (24 * m) < 2 ^ 4400 →
    SmDot f (ws.zip ys) ∧ Fr (d * e) (c + ws.length * (24 * m)) (dotZ f (ws.zip ys))
  | [], ys, f, c, h1, h2, h3, h4 => by
    have hz : d * e ≠ 0 := Nat.mul_ne_zero hd he
    refine ⟨h3.sm hz hde (by simp at h4; omega), ?_⟩
    simpa [dotZ] using h3
  | w :: ws, [], f, c, h1, h2, h3, h4 => by
    have hz : d * e ≠ 0 := Nat.mul_ne_zero hd he
    refine ⟨h3.sm hz hde (by omega), ?_⟩
    exact h3.le (by omega)
  | w :: ws, y :: ys, f, c, h1, h2, h3, h4 => by
    have hz : d * e ≠ 0 := Nat.mul_ne_zero hd he
    have hw := h1 w (by simp)
    have hy := h2 y (by simp)
    have hp := hw.mul hy
    have e1 : (w :: ws).length * (24 * m) = ws.length * (24 * m) + 24 * m := by rw [List.length_cons, Nat.succ_mul]
    rw [e1] at h4 ⊢
    have ih := dotZ_fr hd he hde hm ws ys (f + w * y) (c + 24 * m) (fun w h => h1 w (by simp [h])) (fun y h => h2 y (by simp [h])) (h3.add hp) (by omega)
    have d1 : d < 2 ^ 4400 := Nat.lt_of_le_of_lt (Nat.le_mul_of_pos_right d (Nat.pos_of_ne_zero he)) hde
    have d2 : e < 2 ^ 4400 := Nat.lt_of_le_of_lt (Nat.le_mul_of_pos_left e (Nat.pos_of_ne_zero hd)) hde
    refine ⟨⟨h3.sm hz hde (by omega), hw.sm hd d1 (Nat.lt_of_lt_of_le (by decide : 24 < 2 ^ 5) (Nat.pow_le_pow_right (by decide) (by decide))), hy.sm he d2 hm, hp.sm hz hde (by omega), ih.1⟩, ?_⟩
    have := ih.2
    rw [show c + (ws.length * (24 * m) + 24 * m) = c + 24 * m + ws.length * (24 * m) from by omega]
    exact this
theorem affZ_fr {d e m e2 m2 : Nat} (hd : d ≠ 0) (he : e ≠ 0) (he2 : e2 ≠ 0) (hde : d * e < 2 ^ 4400) (hde2 : d * e2 < 2 ^ 4400) (hm : m < 2 ^ 4400) (hm2 : m2 < 2 ^ 4400) : ∀ (ws : List Rat) (ys : List Aff) (f : Aff) (c c2 : Nat), (∀ w ∈ ws, Fr d 24 w) → (∀ y ∈ ys, Fr e m y.1 ∧ Fr e2 m2 y.2) → Fr (d * e) c f.1 → Fr (d * e2) c2 f.2 → c + ws.length * (24 * m) < 2 ^ 4400 → c2 + ws.length * (24 * m2) < 2 ^ 4400 →
    SmAff f (ws.zip ys) ∧ Fr (d * e) (c + ws.length * (24 * m)) (affZ f (ws.zip ys)).1 ∧ Fr (d * e2) (c2 + ws.length * (24 * m2)) (affZ f (ws.zip ys)).2
  | [], ys, f, c, c2, h1, h2, h3, h3', h4, h4' => by
    have hz : d * e ≠ 0 := Nat.mul_ne_zero hd he
    have hz2 : d * e2 ≠ 0 := Nat.mul_ne_zero hd he2
    refine ⟨⟨h3.sm hz hde (by simp at h4; omega), h3'.sm hz2 hde2 (by simp at h4'; omega)⟩, ?_, ?_⟩
    · simpa [affZ] using h3
    · simpa [affZ] using h3'
  | w :: ws, [], f, c, c2, h1, h2, h3, h3', h4, h4' => by
    have hz : d * e ≠ 0 := Nat.mul_ne_zero hd he
    have hz2 : d * e2 ≠ 0 := Nat.mul_ne_zero hd he2
    refine ⟨⟨h3.sm hz hde (by omega), h3'.sm hz2 hde2 (by omega)⟩, ?_, ?_⟩
    · exact h3.le (by omega)
    · exact h3'.le (by omega)
  | w :: ws, y :: ys, f, c, c2, h1, h2, h3, h3', h4, h4' => by
    have hz : d * e ≠ 0 := Nat.mul_ne_zero hd he
    have hz2 : d * e2 ≠ 0 := Nat.mul_ne_zero hd he2
    have hw := h1 w (by simp)
    have hy := h2 y (by simp)
    have hp := hw.mul hy.1
    have hp2 := hw.mul hy.2
    have e1 : (w :: ws).length * (24 * m) = ws.length * (24 * m) + 24 * m := by rw [List.length_cons, Nat.succ_mul]
    have e12 : (w :: ws).length * (24 * m2) = ws.length * (24 * m2) + 24 * m2 := by rw [List.length_cons, Nat.succ_mul]
    rw [e1] at h4 ⊢
    rw [e12] at h4' ⊢
    have ih := affZ_fr hd he he2 hde hde2 hm hm2 ws ys (f.1 + w * y.1, f.2 + w * y.2) (c + 24 * m) (c2 + 24 * m2) (fun w h => h1 w (by simp [h])) (fun y h => h2 y (by simp [h])) (h3.add hp) (h3'.add hp2) (by omega) (by omega)
    have d1 : d < 2 ^ 4400 := Nat.lt_of_le_of_lt (Nat.le_mul_of_pos_right d (Nat.pos_of_ne_zero he)) hde
    have d2 : e < 2 ^ 4400 := Nat.lt_of_le_of_lt (Nat.le_mul_of_pos_left e (Nat.pos_of_ne_zero hd)) hde
    have d3 : e2 < 2 ^ 4400 := Nat.lt_of_le_of_lt (Nat.le_mul_of_pos_left e2 (Nat.pos_of_ne_zero hd)) hde2
    refine ⟨⟨⟨h3.sm hz hde (by omega), h3'.sm hz2 hde2 (by omega)⟩, hw.sm hd d1 (Nat.lt_of_lt_of_le (by decide : 24 < 2 ^ 5) (Nat.pow_le_pow_right (by decide) (by decide))), ⟨hy.1.sm he d2 hm, hy.2.sm he2 d3 hm2⟩, ⟨hp.sm hz hde (by omega), hp2.sm hz2 hde2 (by omega)⟩, ih.1⟩, ?_, ?_⟩
    · rw [show c + (ws.length * (24 * m) + 24 * m) = c + 24 * m + ws.length * (24 * m) from by omega]
      exact ih.2.1
    · rw [show c2 + (ws.length * (24 * m2) + 24 * m2) = c2 + 24 * m2 + ws.length * (24 * m2) from by omega]
      exact ih.2.2
end NC

set_option Elab.async false
set_option linter.all false
set_option autoImplicit false
set_option exponentiation.threshold 100000
set_option maxRecDepth 100000
set_option maxHeartbeats 4000000
/-! The net's numbers are small. -/
namespace NC
open PySem PySem.Spec PyProof.Rows L2
theorem p6 (k : Nat) : 6 ^ k ≤ 2 ^ (3 * k) := by
  rw [Nat.pow_mul]
  exact Nat.pow_le_pow_left (by decide) k
theorem p2 {a b : Nat} (h : a ≤ b) : 2 ^ a ≤ 2 ^ b := Nat.pow_le_pow_right (by decide) h
theorem p2l {a b : Nat} (h : a < b) : 2 ^ a < 2 ^ b := Nat.pow_lt_pow_right (by decide) h
theorem n6 (k : Nat) : 6 ^ k ≠ 0 := Nat.pos_iff_ne_zero.mp (Nat.pow_pos (by decide))
def NodeB (D : Nat) (n : Node) : Prop := n.1.length ≤ 4 ∧ (∀ w ∈ n.1, Fr 6 24 w) ∧ Fr D (2 ^ 104) n.2
structure NetB (D : Nat) (M : Lays) : Prop where
  d0 : D ≠ 0
  dl : D < 2 ^ 100
  no : ∀ l ∈ M, l.length ≤ 4 ∧ ∀ n ∈ l, NodeB D n
theorem NetB.tail {D : Nat} {l : Lay} {M : Lays} (h : NetB D (l :: M)) : NetB D M := ⟨h.d0, h.dl, fun a ha => h.no a (by simp [ha])⟩
theorem NetB.left {D : Nat} {L M : Lays} (h : NetB D (L ++ M)) : NetB D L := ⟨h.d0, h.dl, fun a ha => h.no a (by simp [ha])⟩
theorem NetB.right {D : Nat} {L M : Lays} (h : NetB D (L ++ M)) : NetB D M := ⟨h.d0, h.dl, fun a ha => h.no a (by simp [ha])⟩
/-- sums over the one in, of layer k -/
def AfB (D k : Nat) (a : Aff) : Prop := Fr (6 ^ k) (2 ^ (7 * k)) a.1 ∧ Fr (6 ^ k * D) (2 ^ (107 + 7 * k)) a.2
theorem AfB.zero {D k : Nat} : AfB D k (0, 0) := ⟨Fr.zero, Fr.zero⟩
theorem AfB.in_ {D : Nat} : AfB D 0 (1, 0) := ⟨⟨1, by simp, by simp⟩, Fr.zero⟩
/-- a row of small weights over sums of layer k -/
theorem row_afB {D k m : Nat} (d0 : D ≠ 0) (dl : D < 2 ^ 100) (hk : k ≤ 5) {ws : List Rat} {as : List Aff} {q : Rat} (h1 : ws.length ≤ 4) (h2 : ∀ w ∈ ws, Fr 6 24 w) (h3 : Fr (6 ^ (k + 1) * D) m q) (hm : m ≤ 2 ^ (107 + 7 * k)) (ha : ∀ a ∈ as, AfB D k a) :
    SmAff (0, q) (ws.zip as) ∧ AfB D (k + 1) (affZ (0, q) (ws.zip as)) := by
  have e6 : 6 ^ (k + 1) = 6 * 6 ^ k := by rw [Nat.pow_succ, Nat.mul_comm]
  have e6D : 6 ^ (k + 1) * D = 6 * (6 ^ k * D) := by rw [e6, Nat.mul_assoc]
  have b1 : 6 * 6 ^ k < 2 ^ 20 := by
    rw [← e6]
    exact Nat.lt_of_le_of_lt (p6 _) (p2l (by omega))
  have b2 : 6 * (6 ^ k * D) < 2 ^ 120 := by
    rw [← Nat.mul_assoc]
    exact Nat.lt_of_lt_of_le (Nat.mul_lt_mul'' b1 dl) (by rw [← Nat.pow_add]; exact p2 (by omega))
  have m1 : 2 ^ (7 * k) ≤ 2 ^ 35 := p2 (by omega)
  have m2 : 2 ^ (107 + 7 * k) ≤ 2 ^ 142 := p2 (by omega)
  have x1 : 2 ^ (7 * (k + 1)) = 128 * 2 ^ (7 * k) := by rw [show 7 * (k + 1) = 7 * k + 7 from by omega, Nat.pow_add]; omega
  have x2 : 2 ^ (107 + 7 * (k + 1)) = 128 * 2 ^ (107 + 7 * k) := by rw [show 107 + 7 * (k + 1) = 107 + 7 * k + 7 from by omega, Nat.pow_add]; omega
  have L1 : ws.length * (24 * 2 ^ (7 * k)) ≤ 4 * (24 * 2 ^ (7 * k)) := Nat.mul_le_mul_right _ h1
  have L2 : ws.length * (24 * 2 ^ (107 + 7 * k)) ≤ 4 * (24 * 2 ^ (107 + 7 * k)) := Nat.mul_le_mul_right _ h1
  have c1 : 4 * (24 * 2 ^ 35) < 2 ^ 4400 := by decide
  have c2 : 2 ^ 142 + 4 * (24 * 2 ^ 142) < 2 ^ 4400 := by decide
  rw [e6D] at h3
  have h := affZ_fr (d := 6) (e := 6 ^ k) (m := 2 ^ (7 * k)) (e2 := 6 ^ k * D) (m2 := 2 ^ (107 + 7 * k)) (by decide) (n6 k) (Nat.mul_ne_zero (n6 k) d0) (Nat.lt_of_lt_of_le b1 (p2 (by decide))) (Nat.lt_of_lt_of_le b2 (p2 (by decide))) (by omega) (by omega) ws as (0, q) 0 m h2 ha Fr.zero h3 (by omega) (by omega)
  refine ⟨h.1, ?_, ?_⟩
  · rw [e6]
    exact h.2.1.le (by omega)
  · rw [e6D]
    exact h.2.2.le (by omega)
theorem node_afB {D k : Nat} (d0 : D ≠ 0) (dl : D < 2 ^ 100) (hk : k ≤ 5) {n : Node} {as : List Aff} (hn : NodeB D n) (ha : ∀ a ∈ as, AfB D k a) :
    SmAff (0, n.2) (n.1.zip as) ∧ AfB D (k + 1) (nodeAff n as) := by
  refine row_afB (m := 6 ^ (k + 1) * 2 ^ 104) d0 dl hk hn.1 hn.2.1 (hn.2.2.up (6 ^ (k + 1))) ?_ ha
  have := Nat.mul_le_mul_right (2 ^ 104) (p6 (k + 1))
  rw [← Nat.pow_add] at this
  exact Nat.le_trans this (p2 (by omega))
theorem ahd_afB {D k : Nat} : ∀ (as : List Aff) (p : Nat), (∀ a ∈ as, AfB D k a) → ∀ a ∈ ahd p as, AfB D k a
  | [], p, h, a, ha => by cases ha
  | b :: as, p, h, a, ha => by
    rcases List.mem_cons.mp ha with rfl | ha
    · split
      · exact h b (by simp)
      · exact AfB.zero
    · exact ahd_afB as _ (fun a h' => h a (by simp [h'])) a ha
theorem lay_afB {D k : Nat} (d0 : D ≠ 0) (dl : D < 2 ^ 100) (hk : k ≤ 5) {l : Lay} {as : List Aff} (hn : ∀ n ∈ l, NodeB D n) (ha : ∀ a ∈ as, AfB D k a) : ∀ a ∈ l.map (fun n => nodeAff n as), AfB D (k + 1) a := fun a h => by
  obtain ⟨n, h1, rfl⟩ := List.mem_map.mp h
  exact (node_afB d0 dl hk (hn n h1) ha).2
theorem smL_of {D : Nat} : ∀ (M : Lays) (p k : Nat) (as : List Aff), NetB D M → k + M.length ≤ 6 → (∀ a ∈ as, AfB D k a) → SmL p as M
  | [], p, k, as, h, hk, ha => trivial
  | l :: M, p, k, as, h, hk, ha => by
    simp at hk
    have hl := h.no l (by simp)
    exact ⟨fun n hn => (node_afB h.d0 h.dl (by omega) (hl.2 n hn) ha).1, hl.1, smL_of M _ (k + 1) _ h.tail (by omega) (ahd_afB _ _ (lay_afB h.d0 h.dl (by omega) hl.2 ha))⟩
theorem sumsBy_afB {D : Nat} : ∀ (M : Lays) (p k : Nat) (as : List Aff), NetB D M → k + M.length ≤ 6 → (∀ a ∈ as, AfB D k a) → ∀ a ∈ (sumsBy p as M).flatten, ∃ j, k < j ∧ j ≤ k + M.length ∧ AfB D j a
  | [], p, k, as, h, hk, ha, a, hm => by simp [sumsBy] at hm
  | l :: M, p, k, as, h, hk, ha, a, hm => by
    simp at hk
    have hl := h.no l (by simp)
    have ha2 := lay_afB h.d0 h.dl (by omega) hl.2 ha
    rw [show (sumsBy p as (l :: M)).flatten = (l.map fun n => nodeAff n as) ++ (sumsBy (p / 2 ^ l.length) (ahd p (l.map fun n => nodeAff n as)) M).flatten from rfl] at hm
    rcases List.mem_append.mp hm with hm | hm
    · exact ⟨k + 1, by omega, by simp, ha2 a hm⟩
    · obtain ⟨j, h1, h2, h3⟩ := sumsBy_afB M _ (k + 1) _ h.tail (by omega) (ahd_afB _ _ ha2) a hm
      exact ⟨j, by omega, by simp; omega, h3⟩
theorem lastAhead_afB {D : Nat} : ∀ (M : Lays) (p k : Nat) (as : List Aff), NetB D M → k + M.length ≤ 6 → (∀ a ∈ as, AfB D k a) → ∀ a ∈ lastAhead p as M, AfB D (k + M.length) a
  | [], p, k, as, h, hk, ha, a, hm => ha a hm
  | l :: M, p, k, as, h, hk, ha, a, hm => by
    simp at hk
    have hl := h.no l (by simp)
    have := lastAhead_afB M _ (k + 1) _ h.tail (by omega) (ahd_afB _ _ (lay_afB h.d0 h.dl (by omega) hl.2 ha)) a hm
    rw [show k + (l :: M).length = k + 1 + M.length from by simp; omega]
    exact this
theorem AfB.bt {D k : Nat} {a : Aff} (h : AfB D k a) (d0 : D ≠ 0) (dl : D < 2 ^ 100) (hk : k ≤ 6) : Bt 45 a.1 ∧ Bt 150 a.2 := by
  have e1 : 6 ^ k < 2 ^ 45 := Nat.lt_of_le_of_lt (p6 _) (p2l (by omega))
  have e2 : 6 ^ k * D < 2 ^ 150 := Nat.lt_of_lt_of_le (Nat.mul_lt_mul'' (Nat.lt_of_le_of_lt (p6 k) (p2l (show 3 * k < 20 by omega))) dl) (by rw [← Nat.pow_add]; exact p2 (by omega))
  exact ⟨h.1.bt (n6 k) e1 (p2l (by omega)), h.2.bt (Nat.mul_ne_zero (n6 k) d0) e2 (p2l (by omega))⟩
theorem Bt.sk {n : Nat} {q : Rat} (h : Bt n q) (hn : n ≤ 500) : Sk q := h.le hn
theorem AfB.sk {D k : Nat} {a : Aff} (h : AfB D k a) (d0 : D ≠ 0) (dl : D < 2 ^ 100) (hk : k ≤ 6) : SkA a := ⟨(h.bt d0 dl hk).1.sk (by decide), (h.bt d0 dl hk).2.sk (by decide)⟩
theorem ins_afB {D : Nat} : ∀ a ∈ [((1, 0) : Aff)], AfB D 0 a := fun a h => by rw [List.mem_singleton.mp h]; exact AfB.in_
theorem hidA_afB {D : Nat} {L : Lays} (h : NetB D L) (hl : L.length ≤ 3) (p : Nat) : ∀ a ∈ hidA L p, ∃ j, j ≤ 3 ∧ AfB D j a := fun a ha => by
  obtain ⟨j, h1, h2, h3⟩ := sumsBy_afB L p 0 _ h (by omega) ins_afB a ha
  exact ⟨j, by omega, h3⟩
theorem outA_afB {D : Nat} {L : Lays} {ll : Lay} (h : NetB D (L ++ [ll])) (hl : L.length ≤ 3) (p : Nat) : ∀ a ∈ outA L ll p, AfB D (L.length + 1) a := by
  have := lastAhead_afB L p 0 _ h.left (by omega) ins_afB
  rw [Nat.zero_add] at this
  exact lay_afB h.d0 h.dl (by omega) (h.no ll (by simp)).2 this
/-- small aims -/
def AimB (aim : List Rat) : Prop := aim.length ≤ 4 ∧ ∀ w ∈ aim, Fr 6 24 w
theorem aim_afB {D : Nat} {L : Lays} {ll : Lay} (h : NetB D (L ++ [ll])) (hl : L.length ≤ 3) {aim : List Rat} (ha : AimB aim) (p : Nat) : SmAff (0, 0) (aim.zip (outA L ll p)) ∧ AfB D (L.length + 2) (aimA L ll aim p) :=
  row_afB (m := 0) h.d0 h.dl (by omega) ha.1 ha.2 Fr.zero (Nat.zero_le _) (outA_afB h hl p)

/-! ### values at a point -/
/-- values of layer k at a point of denominator xd -/
def VlB (D xd n k : Nat) (y : Rat) : Prop := Fr (6 ^ k * (xd * D)) (2 ^ (n + 107 + 7 * k)) y
theorem VlB.cut {D xd n k : Nat} {y : Rat} (h : VlB D xd n k y) : VlB D xd n k (cut0 y) := by
  unfold cut0
  split
  · exact Fr.zero
  · exact h
structure XdB (D xd n : Nat) : Prop where
  d0 : D ≠ 0
  dl : D < 2 ^ 100
  x0 : xd ≠ 0
  xl : xd < 2 ^ n
  nl : n ≤ 2000
theorem row_vlB {D xd n k m : Nat} (h : XdB D xd n) (hk : k ≤ 5) {ws ys : List Rat} {q : Rat} (h1 : ws.length ≤ 4) (h2 : ∀ w ∈ ws, Fr 6 24 w) (h3 : Fr (6 ^ (k + 1) * (xd * D)) m q) (hm : m ≤ 2 ^ (n + 107 + 7 * k)) (ha : ∀ y ∈ ys, VlB D xd n k y) :
    SmDot 0 (ws.zip ys) ∧ VlB D xd n (k + 1) (dot ws ys) ∧ VlB D xd n (k + 1) (dot ws ys + q) := by
  have d0 := h.d0; have dl := h.dl; have x0 := h.x0; have xl := h.xl; have nl := h.nl
  have e6 : 6 ^ (k + 1) = 6 * 6 ^ k := by rw [Nat.pow_succ, Nat.mul_comm]
  have e6D : 6 ^ (k + 1) * (xd * D) = 6 * (6 ^ k * (xd * D)) := by rw [e6, Nat.mul_assoc]
  have b1 : 6 * 6 ^ k < 2 ^ 20 := by
    rw [← e6]
    exact Nat.lt_of_le_of_lt (p6 _) (p2l (by omega))
  have b2 : 6 * (6 ^ k * (xd * D)) < 2 ^ 4400 := by
    rw [← Nat.mul_assoc]
    refine Nat.lt_of_lt_of_le (Nat.mul_lt_mul'' b1 (Nat.mul_lt_mul'' xl dl)) ?_
    rw [← Nat.pow_add, ← Nat.pow_add]; exact p2 (by omega)
  have m2 : 2 ^ (n + 107 + 7 * k) ≤ 2 ^ 2200 := p2 (by omega)
  have x2 : 2 ^ (n + 107 + 7 * (k + 1)) = 128 * 2 ^ (n + 107 + 7 * k) := by rw [show n + 107 + 7 * (k + 1) = n + 107 + 7 * k + 7 from by omega, Nat.pow_add]; omega
  have L2 : ws.length * (24 * 2 ^ (n + 107 + 7 * k)) ≤ 4 * (24 * 2 ^ (n + 107 + 7 * k)) := Nat.mul_le_mul_right _ h1
  have c2 : 2 ^ 2200 + 4 * (24 * 2 ^ 2200) < 2 ^ 4400 := by decide
  have hz : 6 ^ k * (xd * D) ≠ 0 := Nat.mul_ne_zero (n6 k) (Nat.mul_ne_zero x0 d0)
  have hh := dotZ_fr (d := 6) (e := 6 ^ k * (xd * D)) (m := 2 ^ (n + 107 + 7 * k)) (by decide) hz b2 (by omega) ws ys 0 0 h2 ha Fr.zero (by omega)
  rw [← e6D] at hh
  refine ⟨hh.1, hh.2.le (by omega), (hh.2.add h3).le (by omega)⟩
theorem VlB.bt {D xd n k : Nat} {y : Rat} (hx : XdB D xd n) (h : VlB D xd n k y) (hk : k ≤ 6) : Bt (n + 150) y := by
  have d0 := hx.d0; have dl := hx.dl; have x0 := hx.x0; have xl := hx.xl; have nl := hx.nl
  refine Fr.bt h (Nat.mul_ne_zero (n6 k) (Nat.mul_ne_zero x0 d0)) ?_ (p2l (by omega))
  refine Nat.lt_of_lt_of_le (Nat.mul_lt_mul'' (Nat.lt_of_le_of_lt (p6 k) (p2l (show 3 * k < 20 by omega))) (Nat.mul_lt_mul'' xl dl)) ?_
  rw [← Nat.pow_add, ← Nat.pow_add]; exact p2 (by omega)
theorem node_vlB {D xd n k : Nat} (h : XdB D xd n) (hk : k ≤ 5) {nd : Node} {ys : List Rat} (hn : NodeB D nd) (ha : ∀ y ∈ ys, VlB D xd n k y) : SmAt nd ys ∧ VlB D xd n (k + 1) (val nd ys) := by
  have nl := h.nl
  have h3 : Fr (6 ^ (k + 1) * (xd * D)) (6 ^ (k + 1) * (xd * 2 ^ 104)) nd.2 := by
    have := hn.2.2.up (6 ^ (k + 1) * xd)
    rwa [Nat.mul_assoc, Nat.mul_assoc] at this
  have hm : 6 ^ (k + 1) * (xd * 2 ^ 104) ≤ 2 ^ (n + 107 + 7 * k) := by
    have := Nat.mul_le_mul (p6 (k + 1)) (Nat.mul_le_mul_right (2 ^ 104) (Nat.le_of_lt h.xl))
    rw [← Nat.pow_add, ← Nat.pow_add] at this
    exact Nat.le_trans this (p2 (by omega))
  have hh := row_vlB h hk hn.1 hn.2.1 h3 hm ha
  have dl := h.dl
  refine ⟨⟨hh.1, (hh.2.1.bt h (by omega)).sm (by omega), hn.2.2.sm h.d0 (Nat.lt_of_lt_of_le dl (p2 (by decide))) (p2l (by decide)), (hh.2.2.bt h (by omega)).sm (by omega)⟩, hh.2.2⟩
theorem lay_vlB {D xd n k : Nat} (h : XdB D xd n) (hk : k ≤ 5) {l : Lay} {ys : List Rat} (hn : ∀ n ∈ l, NodeB D n) (ha : ∀ y ∈ ys, VlB D xd n k y) : ∀ y ∈ l.map (fun n => val n ys), VlB D xd n (k + 1) y := fun y hy => by
  obtain ⟨m, h1, rfl⟩ := List.mem_map.mp hy
  exact (node_vlB h hk (hn m h1) ha).2
theorem cut_vlB {D xd n k : Nat} {ys : List Rat} (ha : ∀ y ∈ ys, VlB D xd n k y) : ∀ y ∈ ys.map cut0, VlB D xd n k y := fun y hy => by
  obtain ⟨m, h1, rfl⟩ := List.mem_map.mp hy
  exact (ha m h1).cut
theorem smV_of {D xd n : Nat} (hx : XdB D xd n) : ∀ (M : Lays) (k : Nat) (ys : List Rat), NetB D M → k + M.length ≤ 6 → (∀ y ∈ ys, VlB D xd n k y) → SmV M ys ∧ ∀ r ∈ valsZ M ys, ∀ v ∈ r, Bt (n + 150) v
  | [], k, ys, h, hk, ha => ⟨trivial, fun r hr => by cases hr⟩
  | l :: M, k, ys, h, hk, ha => by
    simp at hk
    have hl := h.no l (by simp)
    have hv := lay_vlB hx (by omega) hl.2 ha
    have ih := smV_of hx M (k + 1) _ h.tail (by omega) (cut_vlB hv)
    refine ⟨⟨fun n hn => (node_vlB hx (by omega) (hl.2 n hn) ha).1, by omega, ih.1⟩, fun r hr v hv2 => ?_⟩
    rcases List.mem_cons.mp hr with rfl | hr
    · exact (hv v hv2).bt hx (by omega)
    · exact ih.2 r hr v hv2
theorem XdB.of {D n : Nat} {M : Lays} (h : NetB D M) {x : Rat} (hx : Bt n x) (hn : n ≤ 2000) : XdB D x.den n := ⟨h.d0, h.dl, x.den_nz, hx.2, hn⟩
theorem in_vlB {D n : Nat} {x : Rat} (dl : D < 2 ^ 100) (hx : Bt n x) : ∀ y ∈ [x], VlB D x.den n 0 y := fun y hy => by
  rw [List.mem_singleton.mp hy]
  have := hx.fr.up D
  unfold VlB
  rw [Nat.pow_zero, Nat.one_mul, Nat.mul_comm x.den D]
  refine this.le ?_
  have e := Nat.mul_le_mul_right (2 ^ n) (Nat.le_of_lt dl)
  rw [← Nat.pow_add] at e
  exact Nat.le_trans e (p2 (by omega))
theorem net_v {D n : Nat} {M : Lays} (h : NetB D M) (hM : M.length ≤ 4) {x : Rat} (hx : Bt n x) (hn : n ≤ 2000) : SmV M [x] ∧ ∀ r ∈ valsZ M [x], ∀ v ∈ r, Bt (n + 150) v :=
  smV_of (XdB.of h hx hn) M 0 [x] h (by omega) (in_vlB h.dl hx)
theorem smZ_of {D xd n : Nat} (hx : XdB D xd n) (ll : Lay) : ∀ (L : Lays) (k : Nat) (ys : List Rat), NetB D (L ++ [ll]) → k + L.length ≤ 5 → (∀ y ∈ ys, VlB D xd n k y) → SmZ ys (stk L ll)
  | [], k, ys, h, hk, ha => by
    have hl := h.no ll (by simp)
    exact ⟨fun n hn => (node_vlB hx (by omega) (hl.2 n hn) ha).1, by show ll.length < _; omega, trivial⟩
  | l :: L, k, ys, h, hk, ha => by
    simp at hk
    have hl := h.no l (by simp)
    refine ⟨fun n hn => (node_vlB hx (by omega) (hl.2 n hn) ha).1, by show l.length < _; omega, ?_⟩
    show SmZ (pass true l ys) _
    rw [pass_cut]
    exact smZ_of hx ll L (k + 1) _ h.tail (by omega) (cut_vlB (lay_vlB hx (by omega) hl.2 ha))
theorem outs_vlB {D xd n : Nat} (hx : XdB D xd n) (ll : Lay) : ∀ (L : Lays) (k : Nat) (ys : List Rat), NetB D (L ++ [ll]) → k + L.length ≤ 5 → (∀ y ∈ ys, VlB D xd n k y) → ∀ v ∈ outsAt L ll ys, VlB D xd n (k + L.length + 1) v
  | [], k, ys, h, hk, ha, v, hv => by
    have hl := h.no ll (by simp)
    have : outsAt [] ll ys = ll.map fun n => val n ys := by simp [outsAt, outsZ, pass]
    rw [this] at hv
    exact lay_vlB hx (by omega) hl.2 ha v hv
  | l :: L, k, ys, h, hk, ha, v, hv => by
    simp at hk
    have hl := h.no l (by simp)
    rw [outsAt_cons] at hv
    have := outs_vlB hx ll L (k + 1) _ h.tail (by omega) (cut_vlB (lay_vlB hx (by omega) hl.2 ha)) v hv
    rw [show k + (l :: L).length + 1 = k + 1 + L.length + 1 from by simp; omega]
    exact this
/-- a net with small numbers, its outs weighed at a small point -/
theorem net_dot {D n : Nat} {L : Lays} {ll : Lay} (h : NetB D (L ++ [ll])) (hL : L.length ≤ 3) {x : Rat} (hx : Bt n x) (hn : n ≤ 2000) {aim : List Rat} (ha : AimB aim) :
    SmDot 0 (aim.zip (outsAt L ll [x])) ∧ Bt (n + 150) (dot aim (outsAt L ll [x])) := by
  have X := XdB.of h hx hn
  have hh := row_vlB (m := 0) X (k := L.length + 1) (by omega) ha.1 ha.2 Fr.zero (Nat.zero_le _) (by
    have := outs_vlB X ll L 0 [x] h (by omega) (in_vlB h.dl hx)
    rw [Nat.zero_add] at this
    exact this)
  exact ⟨hh.1, hh.2.1.bt X (by omega)⟩
theorem net_z {D n : Nat} {L : Lays} {ll : Lay} (h : NetB D (L ++ [ll])) (hL : L.length ≤ 3) {x : Rat} (hx : Bt n x) (hn : n ≤ 2000) : SmZ [x] (stk L ll) :=
  smZ_of (XdB.of h hx hn) ll L 0 [x] h (by omega) (in_vlB h.dl hx)
theorem net_outs {D n : Nat} {L : Lays} {ll : Lay} (h : NetB D (L ++ [ll])) (hL : L.length ≤ 3) {x : Rat} (hx : Bt n x) (hn : n ≤ 2000) : ∀ v ∈ outsAt L ll [x], Bt (n + 150) v := fun v hv => by
  have X := XdB.of h hx hn
  exact (outs_vlB X ll L 0 [x] h (by omega) (in_vlB h.dl hx) v hv).bt X (by omega)
theorem net_pt {D n : Nat} {L : Lays} {ll : Lay} (h : NetB D (L ++ [ll])) (hL : L.length ≤ 3) {x : Rat} (hx : Bt n x) (hn : n ≤ 2000) : PtOk L ll x :=
  ⟨(net_v h (by simp; omega) hx hn).1, hL, (h.no ll (by simp)).1⟩
theorem net_dotOk {D n : Nat} {L : Lays} {ll : Lay} (h : NetB D (L ++ [ll])) (hL : L.length ≤ 3) {x : Rat} (hx : Bt n x) (hn : n ≤ 2000) {aim : List Rat} (ha : AimB aim) : DotOk L ll aim x :=
  ⟨net_pt h hL hx hn, (net_dot h hL hx hn ha).1, (net_dot h hL hx hn ha).2.sm (by omega)⟩
end NC

set_option Elab.async false
set_option linter.all false
set_option autoImplicit false
set_option exponentiation.threshold 100000
set_option maxRecDepth 100000
set_option maxHeartbeats 4000000
/-! What settle tells is right. -/
namespace NC
open PySem PySem.Spec PyProof.Rows L2
/-! ### sums of few multiples -/
theorem affZ_app (f : Aff) (l1 l2 : List (Rat × Aff)) : affZ f (l1 ++ l2) = affZ (affZ f l1) l2 := List.foldl_append ..
theorem smAff_app : ∀ (l1 l2 : List (Rat × Aff)) (f : Aff), SmAff f l1 → SmAff (affZ f l1) l2 → SmAff f (l1 ++ l2)
  | [], l2, f, h1, h2 => h2
  | p :: l1, l2, f, h1, h2 => ⟨h1.1, h1.2.1, h1.2.2.1, h1.2.2.2.1, smAff_app l1 l2 _ h1.2.2.2.2 h2⟩
theorem zero_seg : ∀ (l : List (Rat × Aff)) (f : Aff), SmA f → (∀ p ∈ l, p.1 = 0 ∧ SmA p.2) → SmAff f l ∧ affZ f l = f
  | [], f, h, hl => ⟨h, rfl⟩
  | p :: l, f, h, hl => by
    obtain ⟨h1, h2⟩ := hl p (by simp)
    obtain ⟨w, a⟩ := p
    simp only at h1 h2
    subst h1
    have e : (f.1 + 0 * a.1, f.2 + 0 * a.2) = f := by simp [Rat.add_zero]
    have ih := zero_seg l f h (fun p hp => hl p (by simp [hp]))
    refine ⟨⟨h, sm0, h2, ⟨by simp [sm0], by simp [sm0]⟩, ?_⟩, ?_⟩
    · rw [e]; exact ih.1
    · rw [affZ_cons]
      show affZ (f.1 + 0 * a.1, f.2 + 0 * a.2) l = f
      rw [e]; exact ih.2
theorem range_cut {n t : Nat} (h : t < n) : List.range n = List.range' 0 t ++ t :: List.range' (t + 1) (n - t - 1) := by
  rw [List.range_eq_range', show n = t + (n - t - 1 + 1) from by omega, ← List.range'_append_1, List.range'_succ]
  simp
structure Seg (Y : Nat → Rat) (A : Nat → Aff) (n : Nat) : Prop where
  sa : ∀ i, i < n → SmA (A i)
abbrev YA (Y : Nat → Rat) (A : Nat → Aff) (i : Nat) : Rat × Aff := (Y i, A i)
theorem spike1 {Y : Nat → Rat} {A : Nat → Aff} {n t : Nat} {f : Aff} (ht : t < n) (hz : ∀ i, i ≠ t → Y i = 0) (sa : ∀ i, i < n → SmA (A i)) (hf : SmA f) (h1 : Sm (Y t)) (h2 : SmA (Y t * (A t).1, Y t * (A t).2)) (h3 : SmA (f.1 + Y t * (A t).1, f.2 + Y t * (A t).2)) :
    SmAff f ((List.range n).map (YA Y A)) ∧ affZ f ((List.range n).map (YA Y A)) = (f.1 + Y t * (A t).1, f.2 + Y t * (A t).2) := by
  rw [range_cut ht, List.map_append, List.map_cons]
  have z1 := zero_seg ((List.range' 0 t).map (YA Y A)) f hf (fun p hp => by
    obtain ⟨i, hi, rfl⟩ := List.mem_map.mp hp
    have := List.mem_range'_1.mp hi
    exact ⟨hz i (by omega), sa i (by omega)⟩)
  have z2 := zero_seg ((List.range' (t + 1) (n - t - 1)).map (YA Y A)) _ h3 (fun p hp => by
    obtain ⟨i, hi, rfl⟩ := List.mem_map.mp hp
    have := List.mem_range'_1.mp hi
    exact ⟨hz i (by omega), sa i (by omega)⟩)
  refine ⟨smAff_app _ _ _ z1.1 ?_, ?_⟩
  · rw [z1.2]
    exact ⟨hf, h1, sa t ht, h2, z2.1⟩
  · rw [affZ_app, z1.2, affZ_cons]
    exact z2.2
theorem spike2 {Y : Nat → Rat} {A : Nat → Aff} {n t w : Nat} (htw : t < w) (hw : w < n) (hz : ∀ i, i ≠ t → i ≠ w → Y i = 0) (sa : ∀ i, i < n → SmA (A i)) (h1 : Sm (Y t)) (h2 : SmA (Y t * (A t).1, Y t * (A t).2)) (h1' : Sm (Y w)) (h2' : SmA (Y w * (A w).1, Y w * (A w).2)) (h3 : SmA (Y t * (A t).1 + Y w * (A w).1, Y t * (A t).2 + Y w * (A w).2)) :
    SmAff (0, 0) ((List.range n).map (YA Y A)) ∧ affZ (0, 0) ((List.range n).map (YA Y A)) = (Y t * (A t).1 + Y w * (A w).1, Y t * (A t).2 + Y w * (A w).2) := by
  have e : List.range n = List.range w ++ w :: List.range' (w + 1) (n - w - 1) := by rw [range_cut hw, List.range_eq_range']
  rw [e, List.map_append, List.map_cons]
  have h0 : SmA ((0, 0) : Aff) := ⟨sm0, sm0⟩
  have e0 : ((0 : Rat) + Y t * (A t).1, (0 : Rat) + Y t * (A t).2) = (Y t * (A t).1, Y t * (A t).2) := by rw [Rat.zero_add, Rat.zero_add]
  -- below w there is one spike; the spike at w itself isn't reached
  let Y1 : Nat → Rat := fun i => if i = w then 0 else Y i
  have m1 : (List.range w).map (YA Y A) = (List.range w).map (YA Y1 A) := by
    apply List.map_congr_left
    intro i hi
    have hi := List.mem_range.mp hi
    show (Y i, A i) = (if i = w then 0 else Y i, A i)
    rw [if_neg (by omega)]
  have et : Y1 t = Y t := if_neg (by omega)
  have z1 := spike1 (Y := Y1) (A := A) (n := w) (t := t) (f := (0, 0)) htw (fun i hi => by
    show (if i = w then 0 else Y i) = 0
    split
    · rfl
    · exact hz i hi (by assumption)) (fun i hi => sa i (by omega)) h0 (by rw [et]; exact h1) (by rw [et]; exact h2) (by rw [et]; show SmA (0 + _, 0 + _); rw [e0]; exact h2)
  rw [et] at z1
  rw [← m1] at z1
  have z1e : affZ (0, 0) ((List.range w).map (YA Y A)) = (Y t * (A t).1, Y t * (A t).2) := by
    rw [z1.2]; exact e0
  have z2 := zero_seg ((List.range' (w + 1) (n - w - 1)).map (YA Y A)) _ h3 (fun p hp => by
    obtain ⟨i, hi, rfl⟩ := List.mem_map.mp hp
    have := List.mem_range'_1.mp hi
    exact ⟨hz i (by omega) (by omega), sa i (by omega)⟩)
  refine ⟨smAff_app _ _ _ z1.1 ?_, ?_⟩
  · rw [z1e]
    exact ⟨h2, h1', sa w hw, h2', z2.1⟩
  · rw [affZ_app, z1e, affZ_cons]
    exact z2.2
/-! ### whole rows -/
theorem by_dvd : ∀ (qs : List Rat) (b : Nat), b ∣ byZ b qs ∧ ∀ q ∈ qs, q.den ∣ byZ b qs
  | [], b => ⟨Nat.dvd_refl _, fun q h => by cases h⟩
  | q :: qs, b => by
    rw [← byZ_step]
    have ih := by_dvd qs (b * (q.den / b.gcd q.den))
    have h1 : b ∣ b * (q.den / b.gcd q.den) := Nat.dvd_mul_right _ _
    have h2 : q.den ∣ b * (q.den / b.gcd q.den) := by
      obtain ⟨c, hc⟩ := Nat.gcd_dvd_left b q.den
      obtain ⟨d, hd⟩ := Nat.gcd_dvd_right b q.den
      have hg := gcd_pos2 (b := b) (q := q)
      refine ⟨c, ?_⟩
      have e : q.den / b.gcd q.den = d := by
        conv => lhs; lhs; rw [hd]
        exact Nat.mul_div_cancel_left _ hg
      rw [e]
      calc b * d = (b.gcd q.den * c) * d := by rw [← hc]
        _ = (b.gcd q.den * d) * c := by rw [Nat.mul_right_comm]
        _ = q.den * c := by rw [← hd]
    refine ⟨Nat.dvd_trans h1 ih.1, fun r hr => ?_⟩
    rcases List.mem_cons.mp hr with rfl | hr
    · exact Nat.dvd_trans h2 ih.1
    · exact ih.2 r hr
theorem rz_eq {b : Nat} {q : Rat} (h : q.den ∣ b) : (rz b q : Rat) = q * (b : Rat) := by
  obtain ⟨c, rfl⟩ := h
  unfold rz
  rw [Nat.mul_div_cancel_left _ q.den_pos, Rat.intCast_mul, Rat.natCast_mul, Rat.intCast_natCast]
  have e : q * (q.den : Rat) = (q.num : Rat) := by
    have h1 := Rat.mkRat_self q
    rw [Rat.mkRat_eq_div] at h1
    have hz : (q.den : Rat) ≠ 0 := by simpa using q.den_nz
    calc q * (q.den : Rat) = ((q.num : Rat) / (q.den : Rat)) * (q.den : Rat) := by rw [h1]
      _ = (q.num : Rat) := Rat.div_mul_cancel hz
  rw [← e]; grind
theorem rA_eq (a : Aff) : (rA a : Rat) = a.1 * (fA a : Rat) := rz_eq ((by_dvd [a.1, a.2] 1).2 _ (by simp))
theorem bA_eq (a : Aff) : (bA a : Rat) = a.2 * (fA a : Rat) := rz_eq ((by_dvd [a.1, a.2] 1).2 _ (by simp))
theorem gN_eq (g : Rat) : (gN g : Rat) = g * (gD g : Rat) := rz_eq ((by_dvd [g] 1).2 _ (by simp))
theorem toNat_rat {m : Int} (h : 0 < m) : ((m.toNat : Nat) : Rat) = (m : Rat) := by
  rw [← Rat.intCast_natCast, Int.toNat_of_nonneg (by omega)]
/-! ### the steps' answers -/
structure St (as : List Aff) (g : Rat) (t : Nat) (m l : Int) : Prop where
  ok : StOk as g t m l
  hm : m = rA (rowAt as t) * l
  hg : 0 ≤ gN g * l
theorem St.l0 {as : List Aff} {g : Rat} {t : Nat} {m l : Int} (h : St as g t m l) : l = 1 ∨ l = -1 := by
  have h1 := h.ok.hl
  have h2 := h.ok.m0
  have : l ≠ 0 := by
    rintro rfl
    have := h.hm
    omega
  omega
theorem St.f0 {as : List Aff} {g : Rat} {t i : Nat} {m l : Int} (h : St as g t m l) (hi : i < as.length) : 0 < (fA (rowAt as i) : Rat) := by
  have := (fA_bound (h.ok.sa _ (row_mem hi))).1
  exact Rat.natCast_pos.mpr this
theorem Bt.int {n : Nat} {i : Int} (h : i.natAbs < 2 ^ n) (hn : 0 < n) : Bt n (i : Rat) := ⟨h, Nat.one_lt_two_pow (by omega)⟩
theorem lookW_one {t : Nat} {c : Int} {e i : Nat} : lookW [(t, c, e)] i = if t = i then (c, e) else (0, 1) := by
  unfold lookW lookW
  by_cases h : t = i <;> simp [h]
theorem zip_range {as : List Aff} (Y : Nat → Rat) : ((List.range as.length).map Y).zip as = (List.range as.length).map (YA Y (rowAt as)) := by
  apply List.ext_getElem?
  intro i
  by_cases h : i < as.length
  · have := row_get h
    simp [List.getElem?_zip_eq_some, h, this]
    rw [List.getElem?_eq_getElem h] at this
    exact Option.some.inj this
  · have h1 : (List.range as.length)[i]? = none := List.getElem?_eq_none (by simp; omega)
    rw [List.getElem?_map, h1]
    exact List.getElem?_eq_none (by simp; omega)
theorem run_most {as : List Aff} {g : Rat} {t : Nat} {m l : Int} (h : St as g t m l) (hb : brk as (cnr as t l) m = none) :
    (∀ a ∈ as, a.1 * mkRat (cnr as t l) m.toNat ≤ a.2) ∧ MulOk as (mulsOf as [(t, gN g * l, (m * gD g).toNat)]) ∧ mulSum as (mulsOf as [(t, gN g * l, (m * gD g).toNat)]) = (g, g * mkRat (cnr as t l) m.toNat) := by
  have m0 := h.ok.m0
  have ht := h.ok.ht
  have F0 := h.f0 ht
  have M0 : (0 : Rat) < (m : Rat) := Rat.intCast_pos.mpr m0
  have hx : mkRat (cnr as t l) m.toNat = (cnr as t l : Rat) / (m : Rat) := by rw [Rat.mkRat_eq_div, toNat_rat m0]
  have hxm : mkRat (cnr as t l) m.toNat * (m : Rat) = (cnr as t l : Rat) := by rw [hx, Rat.div_mul_cancel (Rat.ne_of_gt M0)]
  have hmr : (m : Rat) = (rowAt as t).1 * (fA (rowAt as t) : Rat) * (l : Rat) := by rw [h.hm, Rat.intCast_mul, rA_eq]
  have hcr : (cnr as t l : Rat) = (rowAt as t).2 * (fA (rowAt as t) : Rat) * (l : Rat) := by unfold cnr; rw [Rat.intCast_mul, bA_eq]
  have D0 := (gD_bound h.ok.sg).1
  have D0r : (0 : Rat) < (gD g : Rat) := Rat.natCast_pos.mpr D0
  have mD : 0 < m * (gD g : Int) := Int.mul_pos m0 (by omega)
  have x0 := Bt.mk (n := 1500) (cnr_bound h.ok) (by have := h.ok.hm; omega) (show m.toNat ≠ 0 by omega)
  obtain ⟨x, hxe⟩ : ∃ x, x = mkRat (cnr as t l) m.toNat := ⟨_, rfl⟩
  rw [← hxe] at hxm x0 ⊢
  clear hx hxe
  refine ⟨fun a ha => ?_, ?_⟩
  · obtain ⟨i, hi, rfl⟩ := List.getElem_of_mem ha
    have e := row_get hi
    rw [List.getElem?_eq_getElem hi] at e
    have e := Option.some.inj e
    rw [e]
    have hn : ¬ (bA (rowAt as i) * m < rA (rowAt as i) * cnr as t l) := by
      unfold brk at hb
      have := List.find?_eq_none.mp hb i (List.mem_range.mpr hi)
      unfold isBrk at this
      simpa using this
    have hle : rA (rowAt as i) * cnr as t l ≤ bA (rowAt as i) * m := Int.not_lt.mp hn
    have hle := Rat.intCast_le_intCast.mpr hle
    rw [Rat.intCast_mul, Rat.intCast_mul, rA_eq, bA_eq, ← hxm] at hle
    refine Rat.le_of_mul_le_mul_right (c := (fA (rowAt as i) : Rat) * (m : Rat)) ?_ (Rat.mul_pos (h.f0 hi) M0)
    have e1 : (rowAt as i).1 * x * ((fA (rowAt as i) : Rat) * (m : Rat)) = (rowAt as i).1 * (fA (rowAt as i) : Rat) * (x * (m : Rat)) := by grind
    have e2 : (rowAt as i).2 * ((fA (rowAt as i) : Rat) * (m : Rat)) = (rowAt as i).2 * (fA (rowAt as i) : Rat) * (m : Rat) := by grind
    rw [e1, e2]; exact hle
  · obtain ⟨Y, hY⟩ : ∃ Y : Nat → Rat, Y = fun i => mkRat ((lookW [(t, gN g * l, (m * gD g).toNat)] i).1 * (fA (rowAt as i) : Int)) (lookW [(t, gN g * l, (m * gD g).toNat)] i).2 := ⟨_, rfl⟩
    have hmo : mulsOf as [(t, gN g * l, (m * gD g).toNat)] = (List.range as.length).map Y := by rw [hY]; rfl
    have Yz : ∀ i, i ≠ t → Y i = 0 := fun i hi => by
      rw [hY]
      simp only [lookW_one, if_neg (Ne.symm hi)]
      simp
    have Yt : Y t = mkRat (gN g * l * (fA (rowAt as t) : Int)) (m * gD g).toNat := by
      rw [hY]
      simp only [lookW_one, if_pos]
    have Ytr : Y t * ((m : Rat) * (gD g : Rat)) = g * (gD g : Rat) * (l : Rat) * (fA (rowAt as t) : Rat) := by
      rw [Yt, Rat.mkRat_eq_div, toNat_rat mD, Rat.intCast_mul, Rat.intCast_mul, Rat.intCast_mul, Rat.intCast_natCast, Rat.intCast_natCast, gN_eq, Rat.div_mul_cancel (Rat.ne_of_gt (Rat.mul_pos M0 D0r))]
    have Y1 : Y t * (rowAt as t).1 = g := by
      have hz : (m : Rat) * (gD g : Rat) ≠ 0 := Rat.ne_of_gt (Rat.mul_pos M0 D0r)
      have e : Y t * (rowAt as t).1 * ((m : Rat) * (gD g : Rat)) = g * ((m : Rat) * (gD g : Rat)) := by
        calc Y t * (rowAt as t).1 * ((m : Rat) * (gD g : Rat)) = (Y t * ((m : Rat) * (gD g : Rat))) * (rowAt as t).1 := by grind
          _ = g * (gD g : Rat) * (l : Rat) * (fA (rowAt as t) : Rat) * (rowAt as t).1 := by rw [Ytr]
          _ = g * (gD g : Rat) * ((rowAt as t).1 * (fA (rowAt as t) : Rat) * (l : Rat)) := by grind
          _ = g * ((m : Rat) * (gD g : Rat)) := by rw [← hmr]; grind
      calc Y t * (rowAt as t).1 = Y t * (rowAt as t).1 * ((m : Rat) * (gD g : Rat)) / ((m : Rat) * (gD g : Rat)) := (Rat.mul_div_cancel hz).symm
        _ = g := by rw [e, Rat.mul_div_cancel hz]
    have ax : (rowAt as t).1 * x = (rowAt as t).2 := by
      have e : (rowAt as t).1 * x * ((m : Rat)) = (rowAt as t).2 * (m : Rat) := by
        calc (rowAt as t).1 * x * (m : Rat) = (rowAt as t).1 * (x * (m : Rat)) := by grind
          _ = (rowAt as t).1 * ((rowAt as t).2 * (fA (rowAt as t) : Rat) * (l : Rat)) := by rw [hxm, hcr]
          _ = (rowAt as t).2 * ((rowAt as t).1 * (fA (rowAt as t) : Rat) * (l : Rat)) := by grind
          _ = (rowAt as t).2 * (m : Rat) := by rw [← hmr]
      calc (rowAt as t).1 * x = (rowAt as t).1 * x * (m : Rat) / (m : Rat) := (Rat.mul_div_cancel (Rat.ne_of_gt M0)).symm
        _ = (rowAt as t).2 := by rw [e, Rat.mul_div_cancel (Rat.ne_of_gt M0)]
    have Y2 : Y t * (rowAt as t).2 = g * x := by rw [← ax, ← Y1]; grind
    have sg := h.ok.sg
    have sgx : Bt 2000 (g * x) := sg.bt.mul x0
    have YtB : Bt 2500 (Y t) := by
      rw [Yt]
      refine Bt.mk ?_ ?_ (by omega)
      · have b1 : (gN g * l).natAbs < 2 ^ 1500 := by
          have := gN_bound sg
          rcases h.l0 with rfl | rfl <;> simpa using this
        have b2 := (fA_bound (h.ok.sa _ (row_mem ht))).2
        rw [Int.natAbs_mul, Int.natAbs_natCast]
        have := Nat.mul_lt_mul_of_lt_of_le b1 b2 (Nat.pow_pos (by decide))
        rwa [← Nat.pow_add] at this
      · have b1 := h.ok.hm
        have b2 := (gD_bound sg).2
        have : (m * (gD g : Int)).natAbs < 2 ^ 2500 := by
          rw [Int.natAbs_mul, Int.natAbs_natCast]
          have := Nat.mul_lt_mul_of_lt_of_le b1 b2 (Nat.pow_pos (by decide))
          rwa [← Nat.pow_add] at this
        omega
    have sp := spike1 (Y := Y) (A := rowAt as) (f := (0, 0)) ht Yz (fun i hi => (h.ok.sa _ (row_mem hi)).sm) ⟨sm0, sm0⟩ (YtB.sm (by decide)) (by rw [Y1, Y2]; exact ⟨sg.sm, sgx.sm (by decide)⟩) (by rw [Y1, Y2]; show SmA (0 + _, 0 + _); rw [Rat.zero_add, Rat.zero_add]; exact ⟨sg.sm, sgx.sm (by decide)⟩)
    rw [hmo]
    refine ⟨⟨by simp, by have := h.ok.sl; omega, fun y hy => ?_, ?_⟩, ?_⟩
    · obtain ⟨i, hi, rfl⟩ := List.mem_map.mp hy
      by_cases e : i = t
      · rw [e, Yt, ← Rat.divInt_ofNat]
        refine Rat.divInt_nonneg ?_ (by omega)
        exact Int.mul_nonneg h.hg (by omega)
      · rw [Yz i e]; exact Rat.le_refl
    · rw [zip_range]; exact sp.1
    · unfold mulSum
      rw [zip_range, sp.2, Y1, Y2, Rat.zero_add, Rat.zero_add]
theorem lookW_two {t w : Nat} {c c2 : Int} {e e2 i : Nat} : lookW [(t, c, e), (w, c2, e2)] i = if t = i then (c, e) else if w = i then (c2, e2) else (0, 1) := by
  unfold lookW lookW lookW
  by_cases h : t = i <;> by_cases h2 : w = i <;> simp [h, h2]
theorem run_empty {as : List Aff} {g : Rat} {t w : Nat} {m l : Int} (h : St as g t m l) (hb : brk as (cnr as t l) m = some w) (hp : ¬ 0 < rA (rowAt as w) * l) (ys : List Rat) (hys : ys = mulsOf as [(t, 0 - rA (rowAt as w) * l, m.toNat), (w, 1, 1)]) :
    MulOk as ys ∧ (∀ y ∈ ys, Sm y) ∧ (mulSum as ys).1 = 0 ∧ (mulSum as ys).2 < 0 := by
  have m0 := h.ok.m0
  have ht := h.ok.ht
  obtain ⟨hw, hlt⟩ := brk_some hb
  have hne := brk_ne h.hm hb
  have F0 := h.f0 ht
  have M0 : (0 : Rat) < (m : Rat) := Rat.intCast_pos.mpr m0
  have hmr : (m : Rat) = (rowAt as t).1 * (fA (rowAt as t) : Rat) * (l : Rat) := by rw [h.hm, Rat.intCast_mul, rA_eq]
  have hcr : (cnr as t l : Rat) = (rowAt as t).2 * (fA (rowAt as t) : Rat) * (l : Rat) := by unfold cnr; rw [Rat.intCast_mul, bA_eq]
  obtain ⟨Y, hY⟩ : ∃ Y : Nat → Rat, Y = fun i => mkRat ((lookW [(t, 0 - rA (rowAt as w) * l, m.toNat), (w, 1, 1)] i).1 * (fA (rowAt as i) : Int)) (lookW [(t, 0 - rA (rowAt as w) * l, m.toNat), (w, 1, 1)] i).2 := ⟨_, rfl⟩
  have hmo : ys = (List.range as.length).map Y := by rw [hys, hY]; rfl
  have Yz : ∀ i, i ≠ t → i ≠ w → Y i = 0 := fun i hi hi2 => by
    rw [hY]
    simp only [lookW_two, if_neg (Ne.symm hi), if_neg (Ne.symm hi2)]
    simp
  have Yt : Y t = mkRat ((0 - rA (rowAt as w) * l) * (fA (rowAt as t) : Int)) m.toNat := by
    rw [hY]
    simp only [lookW_two, if_pos]
  have Yw : Y w = (fA (rowAt as w) : Rat) := by
    rw [hY]
    simp only [lookW_two, if_neg (Ne.symm hne), if_pos]
    rw [Rat.mkRat_eq_div, Int.one_mul, Rat.intCast_natCast]
    show (fA (rowAt as w) : Rat) / 1 = _
    grind
  have Ytr : Y t * (m : Rat) = -((rA (rowAt as w) : Rat) * (l : Rat)) * (fA (rowAt as t) : Rat) := by
    rw [Yt, Rat.mkRat_eq_div, toNat_rat m0, Rat.div_mul_cancel (Rat.ne_of_gt M0), Rat.intCast_mul, Rat.intCast_sub, Rat.intCast_mul, Rat.intCast_natCast]
    simp [Rat.sub_eq_add_neg, Rat.zero_add]
  have Y1 : Y t * (rowAt as t).1 = ((-rA (rowAt as w) : Int) : Rat) := by
    have e : Y t * (rowAt as t).1 * (m : Rat) = ((-rA (rowAt as w) : Int) : Rat) * (m : Rat) := by
      calc Y t * (rowAt as t).1 * (m : Rat) = (Y t * (m : Rat)) * (rowAt as t).1 := by grind
        _ = -((rA (rowAt as w) : Rat) * (l : Rat)) * (fA (rowAt as t) : Rat) * (rowAt as t).1 := by rw [Ytr]
        _ = -(rA (rowAt as w) : Rat) * ((rowAt as t).1 * (fA (rowAt as t) : Rat) * (l : Rat)) := by grind
        _ = _ := by rw [← hmr, Rat.intCast_neg]
    calc Y t * (rowAt as t).1 = Y t * (rowAt as t).1 * (m : Rat) / (m : Rat) := (Rat.mul_div_cancel (Rat.ne_of_gt M0)).symm
      _ = _ := by rw [e, Rat.mul_div_cancel (Rat.ne_of_gt M0)]
  have Y2m : Y t * (rowAt as t).2 * (m : Rat) = ((-(rA (rowAt as w) * cnr as t l) : Int) : Rat) := by
    calc Y t * (rowAt as t).2 * (m : Rat) = (Y t * (m : Rat)) * (rowAt as t).2 := by grind
      _ = -((rA (rowAt as w) : Rat) * (l : Rat)) * (fA (rowAt as t) : Rat) * (rowAt as t).2 := by rw [Ytr]
      _ = -((rA (rowAt as w) : Rat) * ((rowAt as t).2 * (fA (rowAt as t) : Rat) * (l : Rat))) := by grind
      _ = _ := by rw [← hcr, Rat.intCast_neg, Rat.intCast_mul]
  have Y2 : Y t * (rowAt as t).2 = mkRat (-(rA (rowAt as w) * cnr as t l)) m.toNat := by
    rw [Rat.mkRat_eq_div, toNat_rat m0, ← Y2m, Rat.mul_div_cancel (Rat.ne_of_gt M0)]
  have W1 : Y w * (rowAt as w).1 = (rA (rowAt as w) : Rat) := by rw [Yw, rA_eq]; grind
  have W2 : Y w * (rowAt as w).2 = (bA (rowAt as w) : Rat) := by rw [Yw, bA_eq]; grind
  have S2m : (Y t * (rowAt as t).2 + Y w * (rowAt as w).2) * (m : Rat) = ((-(rA (rowAt as w) * cnr as t l) + bA (rowAt as w) * m : Int) : Rat) := by
    rw [Rat.add_mul, Y2m, W2, Rat.intCast_add, Rat.intCast_mul (bA (rowAt as w)) m]
  have S2 : Y t * (rowAt as t).2 + Y w * (rowAt as w).2 = mkRat (-(rA (rowAt as w) * cnr as t l) + bA (rowAt as w) * m) m.toNat := by
    rw [Rat.mkRat_eq_div, toNat_rat m0, ← S2m, Rat.mul_div_cancel (Rat.ne_of_gt M0)]
  have S1 : Y t * (rowAt as t).1 + Y w * (rowAt as w).1 = 0 := by rw [Y1, W1, Rat.intCast_neg]; grind
  have Sneg : Y t * (rowAt as t).2 + Y w * (rowAt as w).2 < 0 := by
    have e : (((-(rA (rowAt as w) * cnr as t l) + bA (rowAt as w) * m : Int)) : Rat) < 0 := Rat.intCast_neg_iff.mpr (by omega)
    rw [← S2m] at e
    exact (Rat.mul_neg_iff_of_pos_right M0).mp e
  -- sizes
  have aw := h.ok.sa _ (row_mem hw)
  have at_ := h.ok.sa _ (row_mem ht)
  have rw_ := rA_bound aw
  have bw_ := bA_bound aw
  have cb := cnr_bound h.ok
  have mb := h.ok.hm
  have rc := mulB rw_ cb
  have bm := mulB bw_ mb
  have YtB : Bt 2501 (Y t) := by
    rw [Yt]
    refine Bt.mk ?_ (Nat.lt_of_lt_of_le (show m.toNat < 2 ^ 1500 by omega) (p2 (by decide))) (by omega)
    have b1 : (0 - rA (rowAt as w) * l).natAbs < 2 ^ 1500 := by
      rcases h.l0 with rfl | rfl <;> simpa using rw_
    have b2 := (fA_bound at_).2
    rw [Int.natAbs_mul, Int.natAbs_natCast]
    have := Nat.mul_lt_mul_of_lt_of_le b1 b2 (Nat.pow_pos (by decide))
    rw [← Nat.pow_add] at this
    exact Nat.lt_of_lt_of_le this (p2 (by decide))
  have YwB : Bt 1001 (Y w) := by
    rw [Yw]
    have := (fA_bound aw).2
    exact ⟨Nat.lt_of_le_of_lt this (p2l (by decide)), Nat.one_lt_two_pow (by decide)⟩
  have ms : m.toNat < 2 ^ 3001 := Nat.lt_of_lt_of_le (show m.toNat < 2 ^ 1500 by omega) (p2 (by decide))
  have sT : SmA (Y t * (rowAt as t).1, Y t * (rowAt as t).2) := by
    rw [Y1, Y2]
    exact ⟨(Bt.int (n := 1500) (by rw [Int.natAbs_neg]; exact rw_) (by decide)).sm (by decide), (Bt.mk (n := 3001) (by rw [Int.natAbs_neg]; exact Nat.lt_trans rc (p2l (by decide))) ms (by omega)).sm (by decide)⟩
  have sW : SmA (Y w * (rowAt as w).1, Y w * (rowAt as w).2) := by
    rw [W1, W2]
    exact ⟨(Bt.int (n := 1500) rw_ (by decide)).sm (by decide), (Bt.int (n := 1500) bw_ (by decide)).sm (by decide)⟩
  have sS : SmA (Y t * (rowAt as t).1 + Y w * (rowAt as w).1, Y t * (rowAt as t).2 + Y w * (rowAt as w).2) := by
    rw [S1, S2]
    refine ⟨sm0, (Bt.mk (n := 3001) ?_ ms (by omega)).sm (by decide)⟩
    have := Int.natAbs_add_le (-(rA (rowAt as w) * cnr as t l)) (bA (rowAt as w) * m)
    rw [Int.natAbs_neg] at this
    have e : (2 : Nat) ^ 3001 = 2 ^ (1500 + 1500) + 2 ^ (1500 + 1500) := by decide
    omega
  have sp : SmAff (0, 0) ((List.range as.length).map (YA Y (rowAt as))) ∧ affZ (0, 0) ((List.range as.length).map (YA Y (rowAt as))) = (Y t * (rowAt as t).1 + Y w * (rowAt as w).1, Y t * (rowAt as t).2 + Y w * (rowAt as w).2) := by
    rcases Nat.lt_or_gt_of_ne hne with hlt2 | hlt2
    · have := spike2 (Y := Y) (A := rowAt as) hlt2 ht (fun i h1 h2 => Yz i h2 h1) (fun i hi => (h.ok.sa _ (row_mem hi)).sm) (YwB.sm (by decide)) sW (YtB.sm (by decide)) sT (by rw [Rat.add_comm, Rat.add_comm (Y w * (rowAt as w).2)]; exact sS)
      rw [Rat.add_comm, Rat.add_comm (Y w * (rowAt as w).2)] at this
      exact this
    · exact spike2 (Y := Y) (A := rowAt as) hlt2 hw Yz (fun i hi => (h.ok.sa _ (row_mem hi)).sm) (YtB.sm (by decide)) sT (YwB.sm (by decide)) sW sS
  rw [hmo]
  refine ⟨⟨by simp, by have := h.ok.sl; omega, fun y hy => ?_, ?_⟩, fun y hy => ?_, ?_, ?_⟩
  · obtain ⟨i, hi, rfl⟩ := List.mem_map.mp hy
    by_cases e : i = t
    · rw [e, Yt, ← Rat.divInt_ofNat]
      exact Rat.divInt_nonneg (Int.mul_nonneg (by omega) (by omega)) (by omega)
    · by_cases e2 : i = w
      · rw [e2, Yw]; exact Rat.natCast_nonneg
      · rw [Yz i e e2]; exact Rat.le_refl
  · rw [zip_range]; exact sp.1
  · obtain ⟨i, hi, rfl⟩ := List.mem_map.mp hy
    by_cases e : i = t
    · rw [e]; exact YtB.sm (by decide)
    · by_cases e2 : i = w
      · rw [e2]; exact YwB.sm (by decide)
      · rw [Yz i e e2]; exact sm0
  · unfold mulSum; rw [zip_range, sp.2]; exact S1
  · unfold mulSum; rw [zip_range, sp.2]; exact Sneg
/-- an answer is right -/
def ResOk (as : List Aff) (g : Rat) : Res → Prop
  | .most x ys => Bt 1500 x ∧ (∀ a ∈ as, a.1 * x ≤ a.2) ∧ MulOk as ys ∧ mulSum as ys = (g, g * x)
  | .empty ys => MulOk as ys ∧ (∀ y ∈ ys, Sm y) ∧ (mulSum as ys).1 = 0 ∧ (mulSum as ys).2 < 0
theorem run_ok {as : List Aff} {g : Rat} {l : Int} : ∀ (n t : Nat) (m : Int) (r : Res) (z : Nat × Int), St as g t m l → runS as g l n t m = some (r, z) → ResOk as g r
  | 0, t, m, r, z, _, h => by cases h
  | n + 1, t, m, r, z, hs, h => by
    rw [runS] at h
    cases hb : brk as (cnr as t l) m with
    | none =>
      rw [hb] at h
      simp only [Option.some.injEq, Prod.mk.injEq] at h
      rw [← h.1]
      have h0 := hs.ok.m0
      have hm := hs.ok.hm
      exact ⟨Bt.mk (cnr_bound hs.ok) (by omega) (by omega), run_most hs hb⟩
    | some w =>
      rw [hb] at h
      simp only at h
      by_cases hp : 0 < rA (rowAt as w) * l
      · rw [if_pos hp] at h
        exact run_ok n w _ r z ⟨hs.ok.next (brk_some hb).1 hp, rfl, hs.hg⟩ h
      · rw [if_neg hp] at h
        simp only [Option.some.injEq, Prod.mk.injEq] at h
        rw [← h.1]
        exact run_empty hs hb hp _ rfl
theorem SetOk.start {lo hi : Rat} {as : List Aff} {g : Rat} (h : SetOk lo hi as g) : St (boxW lo hi as) g (t0F g) (m0F (boxW lo hi as) g) (l0F (boxW lo hi as) g) := by
  have hs := h.init.st
  refine ⟨hs.1, hs.2, ?_⟩
  have h0 := hs.1.m0
  have hm := hs.2
  rw [hm] at h0
  by_cases hg : 0 ≤ gN g
  · have e : t0F g = 0 := if_pos hg
    rw [e] at h0
    have f0 := (fA_bound (h.all (1, hi) (by simp))).1
    have e2 : rA (rowAt (boxW lo hi as) 0) = (fA (1, hi) : Int) := rA_one
    rw [e2] at h0
    exact Int.mul_nonneg hg (Int.le_of_lt (Int.pos_of_mul_pos_right h0 (by omega)))
  · have e : t0F g = 1 := if_neg hg
    rw [e] at h0
    have f0 := (fA_bound (h.all (-1, 0 - lo) (by simp))).1
    have e2 : rA (rowAt (boxW lo hi as) 1) = -(fA (-1, 0 - lo) : Int) := rA_neg
    rw [e2] at h0
    have hl : l0F (boxW lo hi as) g < 0 := by
      rw [Int.neg_mul] at h0
      have h1 : (fA (-1, 0 - lo) : Int) * l0F (boxW lo hi as) g < 0 := by omega
      by_cases hz : 0 ≤ l0F (boxW lo hi as) g
      · have := Int.mul_nonneg (show (0 : Int) ≤ (fA (-1, 0 - lo) : Int) by omega) hz
        omega
      · omega
    exact Int.mul_nonneg_of_nonpos_of_nonpos (by omega) (by omega)
theorem sett_ok {lo hi : Rat} {as : List Aff} {g : Rat} (h : SetOk lo hi as g) : ResOk (boxW lo hi as) g (settF lo hi as g) := by
  obtain ⟨z, h1, h2⟩ := sett_run h
  rw [← h2]
  obtain ⟨r, z2⟩ := z
  exact run_ok _ _ _ r z2 h.start h1
end NC

set_option Elab.async false
set_option linter.all false
set_option autoImplicit false
set_option exponentiation.threshold 100000
set_option maxRecDepth 100000
set_option maxHeartbeats 4000000
/-! Patterns; trees are sound; what grows closes. -/
namespace NC
open PySem PySem.Spec PyProof.Rows L2
/-! ### patterns at a point -/
def bitOk (p k : Nat) (a : Aff) (x : Rat) : Prop := if p / 2 ^ k % 2 = 1 then 0 ≤ ev a x else ev a x ≤ 0
theorem bitOk_zero {p : Nat} {a : Aff} {x : Rat} : bitOk p 0 a x ↔ if p % 2 = 1 then 0 ≤ ev a x else ev a x ≤ 0 := by
  unfold bitOk; simp
theorem bitOk_div {p j k : Nat} {a : Aff} {x : Rat} : bitOk (p / 2 ^ j) k a x ↔ bitOk p (j + k) a x := by
  unfold bitOk
  rw [Nat.div_div_eq_div_mul, ← Nat.pow_add]
/-- sums whose signs are as the pattern's bits tell -/
def fitL (p : Nat) (as : List Aff) (x : Rat) : Prop := ∀ k a, as[k]? = some a → bitOk p k a x
def Fits : Nat → List Aff → Lays → Rat → Prop
  | _, _, [], _ => True
  | p, as, l :: L, x => fitL p (l.map fun n => nodeAff n as) x ∧ Fits (p / 2 ^ l.length) (ahd p (l.map fun n => nodeAff n as)) L x
theorem ahd_ev : ∀ (as : List Aff) (p : Nat) (x : Rat), fitL p as x → (ahd p as).map (fun a => ev a x) = (as.map fun a => ev a x).map cut0
  | [], p, x, h => rfl
  | a :: as, p, x, h => by
    have h0 := bitOk_zero.mp (h 0 a rfl)
    have ih := ahd_ev as (p / 2) x (fun k b hb => by
      have := h (k + 1) b (by simpa using hb)
      have e := (bitOk_div (p := p) (j := 1) (k := k) (a := b) (x := x)).mpr (by rw [Nat.add_comm]; exact this)
      simpa using e)
    show ev (if p % 2 = 1 then a else (0, 0)) x :: (ahd (p / 2) as).map (fun a => ev a x) = cut0 (ev a x) :: _
    rw [ih]
    congr 1
    unfold cut0
    by_cases hp : p % 2 = 1
    · rw [if_pos hp] at h0 ⊢
      rw [if_neg (Rat.not_lt.mpr h0)]
    · rw [if_neg hp] at h0 ⊢
      have e0 : ev (0, 0) x = 0 := by unfold ev; simp [Rat.add_zero]
      rw [e0]
      by_cases hl : ev a x < 0
      · rw [if_pos hl]
      · rw [if_neg hl]; exact Rat.le_antisymm (Rat.not_lt.mp hl) h0
theorem fits_outs (ll : Lay) (x : Rat) : ∀ (L : Lays) (p : Nat) (as : List Aff), Fits p as L x → outsAt L ll (as.map fun a => ev a x) = (ll.map fun n => nodeAff n (lastAhead p as L)).map fun a => ev a x
  | [], p, as, h => by
    have : outsAt [] ll (as.map fun a => ev a x) = ll.map fun n => val n (as.map fun a => ev a x) := by simp [outsAt, outsZ, pass]
    rw [this, List.map_map]
    apply List.map_congr_left
    intro n hn
    exact (nodeAff_ev n as x).symm
  | l :: L, p, as, h => by
    rw [outsAt_cons]
    have e : l.map (fun n => val n (as.map fun a => ev a x)) = (l.map fun n => nodeAff n as).map fun a => ev a x := by
      rw [List.map_map]
      apply List.map_congr_left
      intro n hn
      exact (nodeAff_ev n as x).symm
    rw [e, ← ahd_ev _ p x h.1]
    exact fits_outs ll x L _ _ h.2
theorem ev_in (x : Rat) : [((1, 0) : Aff)].map (fun a => ev a x) = [x] := by
  show [ev (1, 0) x] = [x]
  unfold ev; simp [Rat.add_zero]
theorem outs_by {L : Lays} {ll : Lay} {p : Nat} {x : Rat} (h : Fits p [(1, 0)] L x) : outsAt L ll [x] = (outA L ll p).map fun a => ev a x := by
  have := fits_outs ll x L p [(1, 0)] h
  rw [ev_in] at this
  exact this
/-- all hidden sums' signs are as told: the pattern fits -/
theorem fits_of (x : Rat) : ∀ (L : Lays) (p : Nat) (as : List Aff), (∀ k a, (sumsBy p as L).flatten[k]? = some a → bitOk p k a x) → Fits p as L x
  | [], p, as, h => trivial
  | l :: L, p, as, h => by
    have e : (sumsBy p as (l :: L)).flatten = (l.map fun n => nodeAff n as) ++ (sumsBy (p / 2 ^ l.length) (ahd p (l.map fun n => nodeAff n as)) L).flatten := rfl
    refine ⟨fun k a ha => h k a ?_, fits_of x L _ _ fun k a ha => ?_⟩
    · rw [e]
      have hk : k < (l.map fun n => nodeAff n as).length := (List.getElem?_eq_some_iff.mp ha).1
      rw [List.getElem?_append_left hk]; exact ha
    · rw [bitOk_div]
      refine h (l.length + k) a ?_
      rw [e, List.getElem?_append_right (by simp)]
      simpa using ha
theorem ahd_mod : ∀ (as : List Aff) (p q m : Nat), as.length ≤ m → p % 2 ^ m = q % 2 ^ m → ahd p as = ahd q as
  | [], p, q, m, h, e => rfl
  | a :: as, p, q, 0, h, e => by simp at h
  | a :: as, p, q, m + 1, h, e => by
    have e1 : p % 2 = q % 2 := by
      have := congrArg (· % 2) e
      simp only [Nat.pow_succ] at this
      rwa [Nat.mod_mod_of_dvd _ (Nat.dvd_mul_left 2 _), Nat.mod_mod_of_dvd _ (Nat.dvd_mul_left 2 _)] at this
    have e2 : p / 2 % 2 ^ m = q / 2 % 2 ^ m := by
      have := congrArg (· / 2) e
      simp only [Nat.pow_succ'] at this
      rwa [Nat.mod_mul_right_div_self, Nat.mod_mul_right_div_self] at this
    show (if p % 2 = 1 then a else (0, 0)) :: ahd (p / 2) as = _
    rw [e1, ahd_mod as (p / 2) (q / 2) m (by simpa using h) e2]
    rfl
/-- the first hidden sums hang on the first bits alone -/
theorem sums_mod : ∀ (L : Lays) (p q m : Nat) (as : List Aff), p % 2 ^ m = q % 2 ^ m → ∀ k, k ≤ m → (sumsBy p as L).flatten[k]? = (sumsBy q as L).flatten[k]?
  | [], p, q, m, as, h, k, hk => rfl
  | l :: L, p, q, m, as, h, k, hk => by
    rw [show (sumsBy p as (l :: L)).flatten = (l.map fun n => nodeAff n as) ++ (sumsBy (p / 2 ^ l.length) (ahd p (l.map fun n => nodeAff n as)) L).flatten from rfl,
      show (sumsBy q as (l :: L)).flatten = (l.map fun n => nodeAff n as) ++ (sumsBy (q / 2 ^ l.length) (ahd q (l.map fun n => nodeAff n as)) L).flatten from rfl]
    by_cases hl : k < l.length
    · rw [List.getElem?_append_left (by simpa using hl), List.getElem?_append_left (by simpa using hl)]
    · have hm : l.length ≤ m := by omega
      rw [List.getElem?_append_right (by simpa using hl), List.getElem?_append_right (by simpa using hl), ahd_mod _ p q m (by simpa using hm) h]
      refine sums_mod L _ _ (m - l.length) _ ?_ _ (by simp; omega)
      have e : 2 ^ m = 2 ^ l.length * 2 ^ (m - l.length) := by rw [← Nat.pow_add]; congr 1; omega
      rw [e] at h
      have := congrArg (· / 2 ^ l.length) h
      rwa [Nat.mod_mul_right_div_self, Nat.mod_mul_right_div_self] at this
/-- the first m hidden sums have the signs of the bits -/
def upTo (L : Lays) (p m : Nat) (x : Rat) : Prop := ∀ k a, k < m → (hidA L p)[k]? = some a → bitOk p k a x
theorem upTo_fits {L : Lays} {p : Nat} {x : Rat} (h : upTo L p (hid L) x) : Fits p [(1, 0)] L x := fits_of x L p _ fun k a ha => by
  refine h k a ?_ ha
  have := (List.getElem?_eq_some_iff.mp ha).1
  have e := hidA_len L p
  unfold hidA at e
  omega
theorem bit_low {p m k : Nat} (i : Nat) (hk : k < m) : (p + i * 2 ^ m) / 2 ^ k % 2 = p / 2 ^ k % 2 := by
  have e : p + i * 2 ^ m = p + 2 ^ k * (2 * (i * 2 ^ (m - k - 1))) := by
    have : 2 ^ m = 2 ^ k * (2 * 2 ^ (m - k - 1)) := by rw [← Nat.pow_succ', ← Nat.pow_add]; congr 1; omega
    rw [this]; congr 1; grind
  rw [e, Nat.add_mul_div_left _ _ (Nat.pow_pos (by decide)), Nat.add_mul_mod_self_left]
theorem bit_at {p m i : Nat} (hp : p < 2 ^ m) (hi : i ≤ 1) : (p + i * 2 ^ m) / 2 ^ m % 2 = i := by
  rw [Nat.add_mul_div_right _ _ (Nat.pow_pos (by decide)), Nat.div_eq_of_lt hp]
  omega
/-- one bit more -/
theorem upTo_more {L : Lays} {p m i : Nat} {x : Rat} (h : upTo L p m x) (hp : p < 2 ^ m) (hi : i ≤ 1) (ha : ∀ a, (hidA L p)[m]? = some a → if i = 1 then 0 ≤ ev a x else ev a x ≤ 0) : upTo L (p + i * 2 ^ m) (m + 1) x := fun k a hk e => by
  have em : (p + i * 2 ^ m) % 2 ^ m = p % 2 ^ m := Nat.add_mul_mod_self_right _ _ _
  rw [show (hidA L (p + i * 2 ^ m))[k]? = (hidA L p)[k]? from sums_mod L _ _ m _ em k (by omega)] at e
  unfold bitOk
  by_cases hkm : k = m
  · subst hkm
    rw [bit_at hp hi]
    exact ha a e
  · rw [bit_low i (by omega)]
    exact h k a (by omega) e
theorem up_two {L : Lays} {p m : Nat} {x : Rat} (h : upTo L p m x) (hp : p < 2 ^ m) : upTo L p (m + 1) x ∨ upTo L (p + 2 ^ m) (m + 1) x := by
  cases e : (hidA L p)[m]? with
  | none =>
    left
    have := upTo_more (i := 0) h hp (by decide) (fun a ha => by rw [e] at ha; cases ha)
    simpa using this
  | some a =>
    by_cases hs : ev a x ≤ 0
    · left
      have := upTo_more (i := 0) h hp (by decide) (fun b hb => by rw [e] at hb; cases hb; rw [if_neg (by decide)]; exact hs)
      simpa using this
    · right
      have := upTo_more (i := 1) h hp (by decide) (fun b hb => by rw [e] at hb; cases hb; rw [if_pos rfl]; exact Rat.le_of_lt (Rat.not_le.mp hs))
      simpa using this
theorem wsh_iff {p k : Nat} {a : Aff} {x : Rat} : (wsh p (a, k)).1 * x ≤ (wsh p (a, k)).2 ↔ bitOk p k a x := by
  unfold wsh bitOk ev
  by_cases h : p / 2 ^ k % 2 = 1
  · rw [if_pos h, if_pos h]
    show -1 * a.1 * x ≤ a.2 ↔ _
    constructor <;> intro h <;> grind
  · rw [if_neg h, if_neg h]
    show a.1 * x ≤ -1 * a.2 ↔ _
    constructor <;> intro h <;> grind
theorem own_iff {L : Lays} {p m : Nat} {x : Rat} : (∀ a ∈ ownW L p m, a.1 * x ≤ a.2) ↔ upTo L p m x := by
  constructor
  · intro h k a hk e
    rw [← wsh_iff]
    refine h _ (List.mem_map.mpr ⟨(a, k), ?_, rfl⟩)
    rw [List.mem_zipIdx_iff_getElem?]
    show ((hidA L p).take m)[k]? = some a
    rw [List.getElem?_take, if_pos hk]; exact e
  · intro h a ha
    obtain ⟨⟨b, k⟩, hb, rfl⟩ := List.mem_map.mp ha
    rw [List.mem_zipIdx_iff_getElem?] at hb
    simp only at hb
    rw [List.getElem?_take] at hb
    split at hb
    · rw [wsh_iff]
      exact h k b (by assumption) hb
    · cases hb
theorem case_iff {lo hi : Rat} {L : Lays} {p m : Nat} {x : Rat} : (∀ a ∈ caseW lo hi L p m, a.1 * x ≤ a.2) ↔ lo ≤ x ∧ x ≤ hi ∧ upTo L p m x := by
  unfold caseW
  rw [← own_iff]
  constructor
  · intro h
    have h1 := h (1, hi) (by simp)
    have h2 := h (-1, 0 - lo) (by simp)
    simp only at h1 h2
    exact ⟨by grind, by grind, fun a ha => h a (by simp [ha])⟩
  · rintro ⟨h1, h2, h3⟩ a ha
    simp only [List.cons_append, List.nil_append, List.mem_cons] at ha
    rcases ha with rfl | rfl | ha
    · show 1 * x ≤ hi; grind
    · show -1 * x ≤ 0 - lo; grind
    · exact h3 a ha
/-! ### multiples show -/
theorem affZ_le (x : Rat) : ∀ (ys : List Rat) (as : List Aff) (f : Aff), (∀ y ∈ ys, 0 ≤ y) → (∀ a ∈ as, a.1 * x ≤ a.2) → f.1 * x ≤ f.2 → (affZ f (ys.zip as)).1 * x ≤ (affZ f (ys.zip as)).2
  | [], as, f, h1, h2, h3 => by simpa [affZ] using h3
  | y :: ys, [], f, h1, h2, h3 => h3
  | y :: ys, a :: as, f, h1, h2, h3 => by
    rw [List.zip_cons_cons, affZ_cons]
    refine affZ_le x ys as _ (fun y h => h1 y (by simp [h])) (fun a h => h2 a (by simp [h])) ?_
    have := Rat.mul_le_mul_of_nonneg_left (h2 a (by simp)) (h1 y (by simp))
    show (f.1 + y * a.1) * x ≤ f.2 + y * a.2
    grind
theorem mul_le {as : List Aff} {ys : List Rat} {x : Rat} (h : ∀ y ∈ ys, 0 ≤ y) (ha : ∀ a ∈ as, a.1 * x ≤ a.2) : (mulSum as ys).1 * x ≤ (mulSum as ys).2 :=
  affZ_le x ys as (0, 0) h ha (by simp)
theorem aim_ev {L : Lays} {ll : Lay} {aim : List Rat} {p : Nat} {x : Rat} (h : Fits p [(1, 0)] L x) : ev (aimA L ll aim p) x = dot aim (outsAt L ll [x]) := by
  unfold aimA
  rw [nodeAff_ev, outs_by h]
  unfold val
  exact Rat.add_zero _
theorem valA_ev {L : Lays} {ll : Lay} {aim : List Rat} {p : Nat} {x : Rat} : valA L ll aim p x = ev (aimA L ll aim p) x := by
  unfold valA ev
  rw [dot1, Rat.zero_add]
/-- the closing of a tree, without the sizes -/
def Cls (L : Lays) (ll : Lay) (lo hi : Rat) (aim : List Rat) (num : Rat) : Tr → Nat → Nat → Prop
  | .two a b, p, m => m < hid L ∧ p < 2 ^ m ∧ Cls L ll lo hi aim num a p (m + 1) ∧ Cls L ll lo hi aim num b (p + 2 ^ m) (m + 1)
  | .leaf w ys, p, m => MulOk (caseW lo hi L p m) ys ∧ ((w = "empty" ∧ (mulSum (caseW lo hi L p m) ys).1 = 0 ∧ (mulSum (caseW lo hi L p m) ys).2 < 0) ∨
      (w = "most" ∧ m = hid L ∧ Sm ((mulSum (caseW lo hi L p m) ys).2 + (aimA L ll aim p).2) ∧ (mulSum (caseW lo hi L p m) ys).1 = (aimA L ll aim p).1 ∧ ¬ num < (mulSum (caseW lo hi L p m) ys).2 + (aimA L ll aim p).2))
theorem cls_sound {L : Lays} {ll : Lay} {lo hi : Rat} {aim : List Rat} {num x : Rat} (h1 : lo ≤ x) (h2 : x ≤ hi) : ∀ (tr : Tr) (p m : Nat), Cls L ll lo hi aim num tr p m → upTo L p m x → dot aim (outsAt L ll [x]) ≤ num
  | .two a b, p, m, h, hu => by
    obtain ⟨c1, c2, c3, c4⟩ := h
    rcases up_two hu c2 with hu2 | hu2
    · exact cls_sound h1 h2 a p (m + 1) c3 hu2
    · exact cls_sound h1 h2 b (p + 2 ^ m) (m + 1) c4 hu2
  | .leaf w ys, p, m, h, hu => by
    obtain ⟨hm, h⟩ := h
    have hle := mul_le hm.2.2.1 (case_iff.mpr ⟨h1, h2, hu⟩)
    rcases h with ⟨_, e1, e2⟩ | ⟨_, e0, _, e1, e2⟩
    · rw [e1, Rat.zero_mul] at hle
      exact absurd hle (Rat.not_le.mpr e2)
    · subst e0
      rw [← aim_ev (upTo_fits hu)]
      rw [e1] at hle
      unfold ev
      have := Rat.not_lt.mp e2
      grind
theorem upTo_0 {L : Lays} {x : Rat} : upTo L 0 0 x := fun k a hk => by omega

/-! ### what grows -/
/-- sizes of the case's sums, as settle wants them -/
structure GMath (L : Lays) (ll : Lay) (lo hi : Rat) (aim : List Rat) : Prop where
  set : ∀ p, p < 2 ^ hid L → ∀ m g, Sk g → SetOk lo hi (ownW L p m) g
  aima : ∀ p, p < 2 ^ hid L → SkA (aimA L ll aim p)
/-- a best that is reached, a number that is not below it -/
def Real (L : Lays) (ll : Lay) (lo hi : Rat) (aim : List Rat) (b : Best) : Prop := ∀ c, b = some c → lo ≤ c.2 ∧ c.2 ≤ hi ∧ Bt 1500 c.2 ∧ Sm c.1 ∧ c.1 = dot aim (outsAt L ll [c.2])
def Over (b : Best) (num : Rat) : Prop := ∀ c, b = some c → c.1 ≤ num
theorem upB_some {b : Best} {v x : Rat} : ∃ c, upB b v x = some c ∧ v ≤ c.1 ∧ (∀ d, b = some d → d.1 ≤ c.1) ∧ ((c = (v, x)) ∨ b = some c) := by
  cases b with
  | none => exact ⟨(v, x), rfl, Rat.le_refl, fun d h => (by cases h), .inl rfl⟩
  | some d =>
    by_cases h : d.1 < v
    · exact ⟨(v, x), if_pos h, Rat.le_refl, fun e he => (by cases he; exact Rat.le_of_lt h), .inl rfl⟩
    · exact ⟨d, if_neg h, Rat.not_lt.mp h, fun e he => (by cases he; exact Rat.le_refl), .inr rfl⟩
theorem end_ok {L : Lays} {ll : Lay} {lo hi : Rat} {aim : List Rat} (G : GMath L ll lo hi aim) {p : Nat} (hp : p < 2 ^ hid L) {b : Best} (hb : Real L ll lo hi aim b) :
    Real L ll lo hi aim (endF lo hi L ll aim p b).2 ∧ (∀ num, Over (endF lo hi L ll aim p b).2 num → Over b num ∧ Cls L ll lo hi aim num (endF lo hi L ll aim p b).1 p (hid L)) := by
  have hr := sett_ok (G.set p hp (hid L) _ (G.aima p hp).1)
  unfold endF
  cases e : settF lo hi (ownW L p (hid L)) (aimA L ll aim p).1 with
  | empty ys =>
    rw [e] at hr
    obtain ⟨r1, r2, r3, r4⟩ := hr
    exact ⟨hb, fun num ho => ⟨ho, r1, .inl ⟨rfl, r3, r4⟩⟩⟩
  | most x ys =>
    rw [e] at hr
    obtain ⟨r1, r2, r3, r4⟩ := hr
    have r2' : ∀ a ∈ caseW lo hi L p (hid L), a.1 * x ≤ a.2 := r2
    obtain ⟨x1, x2, x3⟩ := case_iff.mp r2'
    have r4' : mulSum (caseW lo hi L p (hid L)) ys = ((aimA L ll aim p).1, (aimA L ll aim p).1 * x) := r4
    have hv : valA L ll aim p x = dot aim (outsAt L ll [x]) := by rw [valA_ev, aim_ev (upTo_fits x3)]
    have hs : Sm (valA L ll aim p x) := ((dot1_bt (G.aima p hp).1 r1).add (G.aima p hp).2.bt).sm (by decide)
    obtain ⟨c, u1, u2, u3, u4⟩ := upB_some (b := b) (v := valA L ll aim p x) (x := x)
    simp only
    rw [u1]
    refine ⟨fun d hd => ?_, fun num ho => ⟨fun d hd => Rat.le_trans (u3 d hd) (ho c rfl), r3, .inr ⟨rfl, rfl, ?_⟩⟩⟩
    · cases hd
      rcases u4 with rfl | u4
      · exact ⟨x1, x2, r1, hs, hv⟩
      · exact hb c u4
    · rw [r4']
      have hev : (aimA L ll aim p).1 * x + (aimA L ll aim p).2 = valA L ll aim p x := valA_ev.symm
      refine ⟨by rw [hev]; exact hs, rfl, ?_⟩
      rw [hev]
      exact Rat.not_lt.mpr (Rat.le_trans u2 (ho c rfl))
theorem sk0' : Sk 0 := skS (by decide) (by decide)
theorem grow_ok {L : Lays} {ll : Lay} {lo hi : Rat} {aim : List Rat} (G : GMath L ll lo hi aim) : ∀ (n p : Nat) (s : Option Rat) (b : Best), n ≤ hid L → p < 2 ^ (hid L - n) → Real L ll lo hi aim b →
    Real L ll lo hi aim (growF lo hi L ll aim n p s b).2 ∧ (∀ num, Over (growF lo hi L ll aim n p s b).2 num → Over b num ∧ Cls L ll lo hi aim num (growF lo hi L ll aim n p s b).1 p (hid L - n))
  | 0, p, s, b, hn, hp, hb => end_ok G hp hb
  | n + 1, p, s, b, hn, hp, hb => by
    have hp2 := pw_up hp (b := hid L) (by omega)
    unfold growF
    cases e : startS lo hi L (hid L - (n + 1)) p s with
    | inl ys =>
      unfold startS at e
      cases s with
      | some x => cases e
      | none =>
        simp only at e
        have hr := sett_ok (G.set p hp2 (hid L - (n + 1)) 0 sk0')
        cases e2 : settF lo hi (ownW L p (hid L - (n + 1))) 0 with
        | most x zs => rw [e2] at e; cases e
        | empty zs =>
          rw [e2] at e hr
          cases e
          obtain ⟨r1, r2, r3, r4⟩ := hr
          exact ⟨hb, fun num ho => ⟨ho, r1, .inl ⟨rfl, r3, r4⟩⟩⟩
    | inr x =>
      simp only
      have hm : hid L - n = hid L - (n + 1) + 1 := by omega
      have g0 := grow_ok G n (p + 0 * 2 ^ (hid L - (n + 1))) (keepS L (p + 0 * 2 ^ (hid L - (n + 1))) (hid L - (n + 1)) x) b (by omega) (pw_lt hp (by omega) hn) hb
      have g1 := grow_ok G n (p + 1 * 2 ^ (hid L - (n + 1))) (keepS L (p + 1 * 2 ^ (hid L - (n + 1))) (hid L - (n + 1)) x) (growF lo hi L ll aim n (p + 0 * 2 ^ (hid L - (n + 1))) (keepS L (p + 0 * 2 ^ (hid L - (n + 1))) (hid L - (n + 1)) x) b).2 (by omega) (pw_lt hp (by omega) hn) g0.1
      refine ⟨g1.1, fun num ho => ?_⟩
      obtain ⟨o1, c1⟩ := g1.2 num ho
      obtain ⟨o0, c0⟩ := g0.2 num o1
      refine ⟨o0, by omega, hp, ?_, ?_⟩
      · rw [hm] at c0
        rw [Nat.zero_mul, Nat.add_zero] at c0 ⊢
        exact c0
      · rw [hm] at c1
        rw [Nat.one_mul] at c1 ⊢
        exact c1
/-- the greatest: reached, and closed by its tree -/
theorem top_ok {L : Lays} {ll : Lay} {lo hi : Rat} {aim : List Rat} (G : GMath L ll lo hi aim) (hb : lo ≤ hi) : ∃ t v x, topF lo hi L ll aim = (t, some (v, x)) ∧ lo ≤ x ∧ x ≤ hi ∧ Bt 1500 x ∧ Sm v ∧ v = dot aim (outsAt L ll [x]) ∧ (∀ y, lo ≤ y → y ≤ hi → dot aim (outsAt L ll [y]) ≤ v) ∧ (∀ num, v ≤ num → Cls L ll lo hi aim num t 0 0) := by
  have g := grow_ok G (hid L) 0 (some lo) none (by omega) (Nat.pow_pos (by decide)) (fun c h => by cases h)
  rw [Nat.sub_self] at g
  unfold topF
  revert g
  generalize growF lo hi L ll aim (hid L) 0 (some lo) none = z
  intro g
  obtain ⟨t, b⟩ := z
  cases b with
  | none =>
    have hc := (g.2 (dot aim (outsAt L ll [lo]) - 1) (fun c h => by cases h)).2
    have := cls_sound (Rat.le_refl) hb t 0 0 hc upTo_0
    grind
  | some c =>
    obtain ⟨v, x⟩ := c
    obtain ⟨h1, h2, h3, h4, h5⟩ := g.1 (v, x) rfl
    refine ⟨t, v, x, rfl, h1, h2, h3, h4, h5, fun y y1 y2 => ?_, fun num hn => (g.2 num (fun c hc => by cases hc; exact hn)).2⟩
    exact cls_sound y1 y2 t 0 0 (g.2 v (fun c hc => by cases hc; exact Rat.le_refl)).2 upTo_0
end NC

set_option Elab.async false
set_option linter.all false
set_option autoImplicit false
set_option exponentiation.threshold 100000
set_option maxRecDepth 100000
set_option maxHeartbeats 4000000
/-! A spot for all wishes. -/
namespace NC
open PySem PySem.Spec PyProof.Rows L2
theorem ledZ_cons (f : Aff) (p : Rat × Aff) (l : List (Rat × Aff)) : ledZ f (p :: l) = ledZ (f.1 + p.1 * p.2.1, f.2 - p.1 * p.2.2) l := rfl
theorem ledZ_ev (x : Rat) : ∀ (ws : List Rat) (as : List Aff) (f : Aff), (ledZ f (ws.zip as)).1 * x - (ledZ f (ws.zip as)).2 = f.1 * x - f.2 + dot ws (as.map fun a => ev a x)
  | [], as, f => by rw [dot_nil]; exact (Rat.add_zero _).symm
  | w :: ws, [], f => by rw [List.map_nil, dot_nil2]; exact (Rat.add_zero _).symm
  | w :: ws, a :: as, f => by
    rw [List.zip_cons_cons, ledZ_cons, ledZ_ev x ws as, List.map_cons, dot_cons]
    unfold ev; grind
theorem ledW_ev (as : List Aff) (w : Node) (x : Rat) : (ledW as w).1 * x - (ledW as w).2 = dot w.1 (as.map fun a => ev a x) - w.2 := by
  unfold ledW
  rw [ledZ_ev]; grind
theorem led_iff {L : Lays} {ll : Lay} {ws : List Node} {p : Nat} {x : Rat} (h : Fits p [(1, 0)] L x) : (∀ a ∈ ledL L ll ws p, a.1 * x ≤ a.2) ↔ ∀ w ∈ ws, dot w.1 (outsAt L ll [x]) ≤ w.2 := by
  unfold ledL
  rw [outs_by h]
  constructor
  · intro h w hw
    have h1 := h _ (List.mem_map.mpr ⟨w, hw, rfl⟩)
    have h2 := ledW_ev (outA L ll p) w x
    grind
  · intro h a ha
    obtain ⟨w, hw, rfl⟩ := List.mem_map.mp ha
    have h1 := h w hw
    have h2 := ledW_ev (outA L ll p) w x
    grind
/-- all wishes hold at x -/
def AllH (L : Lays) (ll : Lay) (ws : List Node) (x : Rat) : Prop := ∀ w ∈ ws, dot w.1 (outsAt L ll [x]) ≤ w.2
theorem hd_sound {L : Lays} {ll : Lay} {lo hi : Rat} {ws : List Node} {x : Rat} (h1 : lo ≤ x) (h2 : x ≤ hi) (hx : AllH L ll ws x) : ∀ (tr : Tr) (p m : Nat), HdOk lo hi L ll ws tr p m → upTo L p m x → False
  | .two a b, p, m, h, hu => by
    obtain ⟨c1, c2, c3, c4⟩ := h
    rcases up_two hu c2 with hu2 | hu2
    · exact hd_sound h1 h2 hx a p (m + 1) c3 hu2
    · exact hd_sound h1 h2 hx b (p + 2 ^ m) (m + 1) c4 hu2
  | .leaf w ys, p, m, h, hu => by
    obtain ⟨_, _, _, h⟩ := h
    rcases h with ⟨_, hm, e1, e2⟩ | ⟨_, e0, hm, e1, e2⟩
    · have hle := mul_le hm.2.2.1 (case_iff.mpr ⟨h1, h2, hu⟩)
      rw [e1, Rat.zero_mul] at hle
      exact absurd hle (Rat.not_le.mpr e2)
    · subst e0
      have hs : ∀ a ∈ scase lo hi L ll ws p (hid L), a.1 * x ≤ a.2 := by
        unfold scase
        rw [if_pos rfl]
        intro a ha
        rcases List.mem_append.mp ha with ha | ha
        · exact case_iff.mpr ⟨h1, h2, hu⟩ a ha
        · exact (led_iff (upTo_fits hu)).mpr hx a ha
      have hle := mul_le hm.2.2.1 hs
      rw [e1, Rat.zero_mul] at hle
      exact absurd hle (Rat.not_le.mpr e2)
structure SMath (L : Lays) (ll : Lay) (lo hi : Rat) (ws : List Node) : Prop where
  set : ∀ p, p < 2 ^ hid L → ∀ m, SetOk lo hi (ownW L p m) 0
  set2 : ∀ p, p < 2 ^ hid L → SetOk lo hi (ownW L p (hid L) ++ ledL L ll ws p) 0
/-- what is found is right -/
def FndOk (L : Lays) (ll : Lay) (lo hi : Rat) (ws : List Node) (n p : Nat) : Fnd → Prop
  | .found x => Bt 1500 x ∧ lo ≤ x ∧ x ≤ hi ∧ AllH L ll ws x
  | .tree t => t.dep ≤ n ∧ HdOk lo hi L ll ws t p (hid L - n)
theorem sgrow_ok {L : Lays} {ll : Lay} {lo hi : Rat} {ws : List Node} (S : SMath L ll lo hi ws) : ∀ (n p : Nat), n ≤ hid L → p < 2 ^ (hid L - n) → FndOk L ll lo hi ws n p (sgrow lo hi L ll ws n p)
  | 0, p, hn, hp => by
    have hr := sett_ok (S.set p hp (hid L))
    have hr2 := sett_ok (S.set2 p hp)
    unfold sgrow
    cases e : settF lo hi (ownW L p (hid L)) 0 with
    | empty ys =>
      rw [e] at hr
      obtain ⟨r1, r2, r3, r4⟩ := hr
      exact ⟨Nat.le_refl _, hp, Nat.le_refl _, r2, .inl ⟨rfl, r1, r3, r4⟩⟩
    | most x ys =>
      simp only
      cases e2 : settF lo hi (ownW L p (hid L) ++ ledL L ll ws p) 0 with
      | empty zs =>
        rw [e2] at hr2
        obtain ⟨r1, r2, r3, r4⟩ := hr2
        have es : scase lo hi L ll ws p (hid L) = boxW lo hi (ownW L p (hid L) ++ ledL L ll ws p) := by unfold scase; rw [if_pos rfl]; rfl
        refine ⟨Nat.le_refl _, hp, Nat.le_refl _, r2, .inr ⟨rfl, rfl, ?_⟩⟩
        rw [Nat.sub_zero, es]
        exact ⟨r1, r3, r4⟩
      | most x zs =>
        rw [e2] at hr2
        obtain ⟨r1, r2, r3, r4⟩ := hr2
        have hc : ∀ a ∈ caseW lo hi L p (hid L), a.1 * x ≤ a.2 := fun a ha => r2 a (by
          unfold caseW at ha
          simp only [List.cons_append, List.nil_append, List.mem_cons] at ha
          simp only [List.mem_cons, List.mem_append]
          rcases ha with ha | ha | ha
          · exact .inl ha
          · exact .inr (.inl ha)
          · exact .inr (.inr (.inl ha)))
        obtain ⟨x1, x2, x3⟩ := case_iff.mp hc
        exact ⟨r1, x1, x2, (led_iff (upTo_fits x3)).mp fun a ha => r2 a (by simp [ha])⟩
  | n + 1, p, hn, hp => by
    have hp2 := pw_up hp (b := hid L) (by omega)
    have hr := sett_ok (S.set p hp2 (hid L - (n + 1)))
    have hm : hid L - n = hid L - (n + 1) + 1 := by omega
    have i0 := sgrow_ok S n p (by omega) (by have := pw_lt (a := 0) hp (by omega) hn; simpa using this)
    have i1 := sgrow_ok S n (p + 2 ^ (hid L - (n + 1))) (by omega) (by have := pw_lt (a := 1) hp (by omega) hn; simpa using this)
    unfold sgrow
    cases e : settF lo hi (ownW L p (hid L - (n + 1))) 0 with
    | empty ys =>
      rw [e] at hr
      obtain ⟨r1, r2, r3, r4⟩ := hr
      exact ⟨Nat.zero_le _, hp2, by omega, r2, .inl ⟨rfl, r1, r3, r4⟩⟩
    | most x ys =>
      simp only
      cases e0 : sgrow lo hi L ll ws n p with
      | found x => rw [e0] at i0; exact i0
      | tree a =>
        rw [e0] at i0
        simp only
        cases e1 : sgrow lo hi L ll ws n (p + 2 ^ (hid L - (n + 1))) with
        | found x => rw [e1] at i1; exact i1
        | tree b =>
          rw [e1] at i1
          obtain ⟨d0, c0⟩ := i0
          obtain ⟨d1, c1⟩ := i1
          rw [hm] at c0 c1
          refine ⟨?_, by omega, hp, c0, c1⟩
          unfold Tr.dep
          omega
/-- the search: found just where there is a spot -/
theorem find_ok {L : Lays} {ll : Lay} {lo hi : Rat} {ws : List Node} (S : SMath L ll lo hi ws) : match sgrow lo hi L ll ws (hid L) 0 with
    | .found x => Bt 1500 x ∧ lo ≤ x ∧ x ≤ hi ∧ AllH L ll ws x
    | .tree t => t.dep ≤ hid L ∧ HdOk lo hi L ll ws t 0 0 ∧ ∀ x, lo ≤ x → x ≤ hi → ¬ AllH L ll ws x := by
  have h := sgrow_ok S (hid L) 0 (Nat.le_refl _) (Nat.pow_pos (by decide))
  revert h
  generalize sgrow lo hi L ll ws (hid L) 0 = z
  intro h
  cases z with
  | found x => exact h
  | tree t =>
    obtain ⟨h1, h2⟩ := h
    rw [Nat.sub_self] at h2
    exact ⟨h1, h2, fun x x1 x2 ha => hd_sound x1 x2 ha t 0 0 h2 upTo_0⟩
end NC

set_option Elab.async false
set_option linter.all false
set_option autoImplicit false
set_option exponentiation.threshold 100000
set_option maxRecDepth 100000
set_option maxHeartbeats 4000000
/-! The law's points: between them all goes straight. -/
namespace NC
open PySem PySem.Spec PyProof.Rows L2
/-! ### zeros -/
theorem num_den (q : Rat) : q * (q.den : Rat) = (q.num : Rat) := by
  have h1 := Rat.mkRat_self q
  rw [Rat.mkRat_eq_div] at h1
  have hz : (q.den : Rat) ≠ 0 := by simpa using q.den_nz
  calc q * (q.den : Rat) = ((q.num : Rat) / (q.den : Rat)) * (q.den : Rat) := by rw [h1]
    _ = (q.num : Rat) := Rat.div_mul_cancel hz
theorem den_pos' (q : Rat) : (0 : Rat) < (q.den : Rat) := Rat.natCast_pos.mpr q.den_pos
theorem num_pos_iff {q : Rat} : 0 < q.num ↔ 0 < q := by
  constructor
  · intro h
    refine Rat.lt_of_le_of_ne (Rat.num_nonneg.mp (by omega)) (fun e => ?_)
    rw [← e] at h; exact absurd h (by decide)
  · intro h
    have h1 := Rat.num_nonneg.mpr (Rat.le_of_lt h)
    have h2 : q.num ≠ 0 := fun e => by rw [Rat.num_eq_zero.mp e] at h; exact Rat.lt_irrefl h
    omega
theorem num_neg_iff' {q : Rat} : q.num < 0 ↔ q < 0 := by
  have h := num_pos_iff (q := -q)
  rw [Rat.neg_num] at h
  constructor
  · intro h1
    have := h.mp (by omega)
    grind
  · intro h1
    have := h.mpr (by grind)
    omega
theorem shareQ_eq {v g : Rat} (h : (0 ≤ v ∧ 0 < g) ∨ (v ≤ 0 ∧ g < 0)) : shareQ v g * g = v := by
  have vd := den_pos' v
  have gd := den_pos' g
  have hn : (v.num.natAbs : Int) * g.num = v.num * (g.num.natAbs : Int) := by
    rcases h with ⟨h1, h2⟩ | ⟨h1, h2⟩
    · have a1 := Rat.num_nonneg.mpr h1
      have a2 := num_pos_iff.mpr h2
      rw [Int.natAbs_of_nonneg a1, Int.natAbs_of_nonneg (by omega)]
    · have a1 : v.num ≤ 0 := by
        rcases Rat.le_iff_lt_or_eq.mp h1 with h1 | h1
        · have := num_neg_iff'.mpr h1; omega
        · rw [h1]; decide
      have a2 := num_neg_iff'.mpr h2
      have e1 : (v.num.natAbs : Int) = -v.num := by omega
      have e2 : (g.num.natAbs : Int) = -g.num := by omega
      rw [e1, e2, Int.neg_mul, Int.mul_neg]
  have gn : g.num ≠ 0 := by
    intro e
    have := Rat.num_eq_zero.mp e
    rcases h with ⟨_, h2⟩ | ⟨_, h2⟩ <;> (rw [this] at h2; exact Rat.lt_irrefl h2)
  have hb : v.den * g.num.natAbs ≠ 0 := Nat.mul_ne_zero v.den_nz (by omega)
  have hbr : ((v.den * g.num.natAbs : Nat) : Rat) ≠ 0 := fun e => hb (Rat.natCast_eq_zero_iff.mp e)
  have hA : shareQ v g * ((v.den * g.num.natAbs : Nat) : Rat) = (v.num.natAbs : Rat) * (g.den : Rat) := by
    unfold shareQ
    rw [Rat.mkRat_eq_div, Rat.div_mul_cancel hbr, Rat.intCast_mul, Rat.intCast_natCast, Rat.intCast_natCast]
  rw [Rat.natCast_mul] at hA
  have hnr := congrArg (fun i : Int => (i : Rat)) hn
  simp only [Rat.intCast_mul, Rat.intCast_natCast] at hnr
  have kn : (g.num.natAbs : Rat) ≠ 0 := by simpa using gn
  have e : shareQ v g * g * ((v.den : Rat) * (g.num.natAbs : Rat) * (g.den : Rat)) = v * ((v.den : Rat) * (g.num.natAbs : Rat) * (g.den : Rat)) := by
    have n1 := num_den v
    have n2 := num_den g
    calc shareQ v g * g * ((v.den : Rat) * (g.num.natAbs : Rat) * (g.den : Rat)) = (shareQ v g * ((v.den : Rat) * (g.num.natAbs : Rat))) * (g * (g.den : Rat)) := by grind
      _ = (v.num.natAbs : Rat) * (g.den : Rat) * (g.num : Rat) := by rw [hA, n2]
      _ = ((v.num.natAbs : Rat) * (g.num : Rat)) * (g.den : Rat) := by grind
      _ = (v.num : Rat) * (g.num.natAbs : Rat) * (g.den : Rat) := by rw [hnr]
      _ = (v * (v.den : Rat)) * (g.num.natAbs : Rat) * (g.den : Rat) := by rw [n1]
      _ = _ := by grind
  have hz : (v.den : Rat) * (g.num.natAbs : Rat) * (g.den : Rat) ≠ 0 := by
    intro e
    rcases Rat.mul_eq_zero.mp e with e | e
    · rcases Rat.mul_eq_zero.mp e with e | e
      · exact Rat.ne_of_gt vd e
      · exact kn e
    · exact Rat.ne_of_gt gd e
  calc shareQ v g * g = shareQ v g * g * ((v.den : Rat) * (g.num.natAbs : Rat) * (g.den : Rat)) / ((v.den : Rat) * (g.num.natAbs : Rat) * (g.den : Rat)) := (Rat.mul_div_cancel hz).symm
    _ = v := by rw [e, Rat.mul_div_cancel hz]
theorem shareQ_bt {n m : Nat} {v g : Rat} (hv : Bt n v) (hg : Bt m g) (h0 : g ≠ 0) : Bt (n + m) (shareQ v g) := by
  unfold shareQ
  refine Bt.mk ?_ ?_ ?_
  · rw [Int.natAbs_mul, Int.natAbs_natCast, Int.natAbs_natCast, Nat.pow_add]
    exact Nat.mul_lt_mul'' hv.1 hg.2
  · rw [Nat.pow_add]
    exact Nat.mul_lt_mul'' hv.2 hg.1
  · refine Nat.mul_ne_zero v.den_nz ?_
    have : g.num ≠ 0 := fun e => h0 (Rat.num_eq_zero.mp e)
    omega
/-- on a line the law's zero is the zero -/
theorem zF_line {f : Aff} {lo hi : Rat} (hl : lo ≤ hi) (h : (ev f lo ≤ 0 ∧ 0 < ev f hi) ∨ (0 < ev f lo ∧ ev f hi ≤ 0)) : f.1 ≠ 0 ∧ ev f (zF lo hi (ev f lo) (ev f hi)) = 0 ∧ lo ≤ zF lo hi (ev f lo) (ev f hi) ∧ zF lo hi (ev f lo) (ev f hi) ≤ hi := by
  have hs : shareQ (ev f lo) (ev f lo + -ev f hi) * (ev f lo + -ev f hi) = ev f lo := shareQ_eq (by
    rcases h with ⟨h1, h2⟩ | ⟨h1, h2⟩
    · exact .inr ⟨h1, by grind⟩
    · exact .inl ⟨Rat.le_of_lt h1, by grind⟩)
  have hd : ev f lo + -ev f hi = f.1 * (lo - hi) := by unfold ev; grind
  have hg0 : ev f lo + -ev f hi ≠ 0 := by
    rcases h with ⟨h1, h2⟩ | ⟨h1, h2⟩ <;> grind
  have hf : f.1 ≠ 0 := by
    intro e
    rw [e] at hd
    grind
  obtain ⟨s, hs0⟩ : ∃ s, s = shareQ (ev f lo) (ev f lo + -ev f hi) := ⟨_, rfl⟩
  have hz : zF lo hi (ev f lo) (ev f hi) = lo + (hi + -lo) * s := by rw [hs0]; rfl
  rw [← hs0] at hs
  have hev : ev f (lo + (hi + -lo) * s) = 0 := by
    have : ev f (lo + (hi + -lo) * s) = ev f lo - s * (ev f lo + -ev f hi) := by unfold ev; grind
    rw [this, hs]; grind
  have hsb : 0 ≤ s ∧ s ≤ 1 := by
    rcases h with ⟨h1, h2⟩ | ⟨h1, h2⟩
    · have hp : 0 < -(ev f lo + -ev f hi) := by grind
      constructor
      · refine Rat.le_of_mul_le_mul_right (c := -(ev f lo + -ev f hi)) ?_ hp
        grind
      · refine Rat.le_of_mul_le_mul_right (c := -(ev f lo + -ev f hi)) ?_ hp
        grind
    · have hp : 0 < (ev f lo + -ev f hi) := by grind
      constructor
      · refine Rat.le_of_mul_le_mul_right (c := (ev f lo + -ev f hi)) ?_ hp
        grind
      · refine Rat.le_of_mul_le_mul_right (c := (ev f lo + -ev f hi)) ?_ hp
        grind
  have w0 : 0 ≤ hi + -lo := by grind
  have p1 := Rat.mul_nonneg w0 hsb.1
  have p2 := Rat.mul_le_mul_of_nonneg_left hsb.2 w0
  rw [hz]
  exact ⟨hf, hev, by grind, by grind⟩
/-! ### lines between two points -/
theorem ev_mono {f : Aff} {x y : Rat} (h : x ≤ y) : (0 ≤ f.1 → ev f x ≤ ev f y) ∧ (f.1 ≤ 0 → ev f y ≤ ev f x) := by
  constructor
  · intro h1
    have := Rat.mul_le_mul_of_nonneg_left h h1
    unfold ev; grind
  · intro h1
    have := Rat.mul_le_mul_of_nonneg_left h (show 0 ≤ -f.1 by grind)
    unfold ev; grind
theorem ev_le {f : Aff} {a b x c : Rat} (h1 : a ≤ x) (h2 : x ≤ b) (ha : ev f a ≤ c) (hb : ev f b ≤ c) : ev f x ≤ c := by
  rcases Rat.le_total (a := 0) (b := f.1) with h | h
  · exact Rat.le_trans ((ev_mono h2).1 h) hb
  · exact Rat.le_trans ((ev_mono h1).2 h) ha
theorem ev_ge {f : Aff} {a b x c : Rat} (h1 : a ≤ x) (h2 : x ≤ b) (ha : c ≤ ev f a) (hb : c ≤ ev f b) : c ≤ ev f x := by
  rcases Rat.le_total (a := 0) (b := f.1) with h | h
  · exact Rat.le_trans ha ((ev_mono h1).1 h)
  · exact Rat.le_trans hb ((ev_mono h2).2 h)
theorem prod_neg {v w : Rat} : v.num * w.num < 0 ↔ (v < 0 ∧ 0 < w) ∨ (0 < v ∧ w < 0) := by
  rw [← num_neg_iff' (q := v), ← num_pos_iff (q := w), ← num_pos_iff (q := v), ← num_neg_iff' (q := w)]
  constructor
  · intro h
    by_cases h1 : v.num < 0
    · left
      refine ⟨h1, ?_⟩
      by_cases h2 : 0 < w.num
      · exact h2
      · have := Int.mul_nonneg_of_nonpos_of_nonpos (show v.num ≤ 0 by omega) (show w.num ≤ 0 by omega)
        omega
    · right
      by_cases h3 : 0 < v.num
      · refine ⟨h3, ?_⟩
        by_cases h2 : w.num < 0
        · exact h2
        · have := Int.mul_nonneg (show 0 ≤ v.num by omega) (show 0 ≤ w.num by omega)
          omega
      · have : v.num = 0 := by omega
        rw [this] at h; omega
  · rintro (⟨h1, h2⟩ | ⟨h1, h2⟩)
    · exact Int.mul_neg_of_neg_of_pos h1 h2
    · exact Int.mul_neg_of_pos_of_neg h1 h2
/-- one sign on a stretch without a zero inside -/
theorem one_sign {f : Aff} {a b u v : Rat} (hau : a ≤ u) (huv : u ≤ v) (hvb : v ≤ b) (hz : (ev f a).num * (ev f b).num < 0 → zF a b (ev f a) (ev f b) ≤ u ∨ v ≤ zF a b (ev f a) (ev f b)) :
    (∀ x, u ≤ x → x ≤ v → 0 ≤ ev f x) ∨ (∀ x, u ≤ x → x ≤ v → ev f x ≤ 0) := by
  have hab : a ≤ b := Rat.le_trans hau (Rat.le_trans huv hvb)
  by_cases hn : (ev f a).num * (ev f b).num < 0
  · have h2 := prod_neg.mp hn
    obtain ⟨f0, e0, _, _⟩ := zF_line hab (by
      rcases h2 with ⟨h1, h2⟩ | ⟨h1, h2⟩
      · exact .inl ⟨Rat.le_of_lt h1, h2⟩
      · exact .inr ⟨h1, Rat.le_of_lt h2⟩)
    rcases Rat.le_total (a := 0) (b := f.1) with hf | hf
    · rcases hz hn with hz | hz
      · left
        intro x x1 x2
        rw [← e0]; exact (ev_mono (Rat.le_trans hz x1)).1 hf
      · right
        intro x x1 x2
        rw [← e0]; exact (ev_mono (Rat.le_trans x2 hz)).1 hf
    · rcases hz hn with hz | hz
      · right
        intro x x1 x2
        rw [← e0]; exact (ev_mono (Rat.le_trans hz x1)).2 hf
      · left
        intro x x1 x2
        rw [← e0]; exact (ev_mono (Rat.le_trans x2 hz)).2 hf
  · have hs : (0 ≤ ev f a ∧ 0 ≤ ev f b) ∨ (ev f a ≤ 0 ∧ ev f b ≤ 0) := by
      rcases Rat.le_total (a := 0) (b := ev f a) with h1 | h1 <;> rcases Rat.le_total (a := 0) (b := ev f b) with h2 | h2
      · exact .inl ⟨h1, h2⟩
      · by_cases h3 : 0 < ev f a
        · exact .inl ⟨h1, Rat.not_lt.mp fun h4 => hn (prod_neg.mpr (.inr ⟨h3, h4⟩))⟩
        · exact .inr ⟨Rat.not_lt.mp h3, h2⟩
      · by_cases h3 : ev f a < 0
        · exact .inr ⟨h1, Rat.not_lt.mp fun h4 => hn (prod_neg.mpr (.inl ⟨h3, h4⟩))⟩
        · exact .inl ⟨Rat.not_lt.mp h3, h2⟩
      · exact .inr ⟨h1, h2⟩
    rcases hs with ⟨h1, h2⟩ | ⟨h1, h2⟩
    · exact .inl fun x x1 x2 => ev_ge (Rat.le_trans hau x1) (Rat.le_trans x2 hvb) h1 h2
    · exact .inr fun x x1 x2 => ev_le (Rat.le_trans hau x1) (Rat.le_trans x2 hvb) h1 h2
end NC

set_option Elab.async false
set_option linter.all false
set_option autoImplicit false
set_option exponentiation.threshold 100000
set_option maxRecDepth 100000
set_option maxHeartbeats 4000000
/-! The law's points; the greatest over them. -/
namespace NC
open PySem PySem.Spec PyProof.Rows L2
/-- what a layer behind M takes -/
def inp : Lays → List Rat → List Rat
  | [], ys => ys
  | l :: M, ys => inp M ((l.map fun n => val n ys).map cut0)
theorem inp_app : ∀ (M : Lays) (l : Lay) (ys : List Rat), inp (M ++ [l]) ys = (l.map fun n => val n (inp M ys)).map cut0
  | [], l, ys => rfl
  | m :: M, l, ys => inp_app M l _
theorem vals_get : ∀ (M : Lays) (d : Nat) (ys : List Rat), d < M.length → (valsZ M ys).getD d [] = (M.getD d []).map fun n => val n (inp (M.take d) ys)
  | [], d, ys, h => by simp at h
  | l :: M, 0, ys, h => rfl
  | l :: M, d + 1, ys, h => by
    have := vals_get M d ((l.map fun n => val n ys).map cut0) (by simpa using h)
    simpa [valsZ, inp] using this
theorem outs_inp : ∀ (L : Lays) (ll : Lay) (ys : List Rat), outsAt L ll ys = ll.map fun n => val n (inp L ys)
  | [], ll, ys => by simp [outsAt, outsZ, pass, inp]
  | l :: L, ll, ys => by rw [outsAt_cons]; exact outs_inp L ll _
/-! ### sorting -/
theorem least_ok : ∀ (l : List Rat) (f : Rat), (leastF f l = f ∨ leastF f l ∈ l) ∧ leastF f l ≤ f ∧ ∀ p ∈ l, leastF f l ≤ p
  | [], f => ⟨.inl rfl, Rat.le_refl, fun p h => by cases h⟩
  | p :: l, f => by
    have ih := least_ok l (if p < f then p else f)
    show ((leastF (if p < f then p else f) l) = f ∨ (leastF (if p < f then p else f) l) ∈ p :: l) ∧ (leastF (if p < f then p else f) l) ≤ f ∧ ∀ q ∈ p :: l, (leastF (if p < f then p else f) l) ≤ q
    by_cases h : p < f
    · rw [if_pos h] at ih ⊢
      refine ⟨?_, Rat.le_trans ih.2.1 (Rat.le_of_lt h), fun q hq => ?_⟩
      · rcases ih.1 with e | e
        · exact .inr (by rw [e]; simp)
        · exact .inr (by simp [e])
      · rcases List.mem_cons.mp hq with rfl | hq
        · exact ih.2.1
        · exact ih.2.2 q hq
    · rw [if_neg h] at ih ⊢
      refine ⟨?_, ih.2.1, fun q hq => ?_⟩
      · rcases ih.1 with e | e
        · exact .inl e
        · exact .inr (by simp [e])
      · rcases List.mem_cons.mp hq with rfl | hq
        · exact Rat.le_trans ih.2.1 (Rat.not_lt.mp h)
        · exact ih.2.2 q hq
theorem least_cons (f : Rat) (r : List Rat) : leastF f (f :: r) ∈ f :: r ∧ ∀ p ∈ f :: r, leastF f (f :: r) ≤ p := by
  have h := least_ok (f :: r) f
  refine ⟨?_, h.2.2⟩
  rcases h.1 with e | e
  · rw [e]; simp
  · exact e
theorem mem_drop {m p : Rat} {l : List Rat} : p ∈ dropL m l ↔ p ∈ l ∧ p ≠ m := by
  unfold dropL
  rw [List.mem_filter]
  simp
theorem drop_lt {m : Rat} {l : List Rat} (h : m ∈ l) : (dropL m l).length < l.length := by
  unfold dropL
  exact List.length_filter_lt_length_iff_exists.mpr ⟨m, h, by simp⟩
theorem sort_ok : ∀ (n : Nat) (l : List Rat), l.length ≤ n → (sortF n l).Pairwise (· < ·) ∧ ∀ z, z ∈ sortF n l ↔ z ∈ l
  | 0, l, h => by
    have : l = [] := List.eq_nil_of_length_eq_zero (by omega)
    subst this
    exact ⟨List.Pairwise.nil, fun z => Iff.rfl⟩
  | n + 1, [], h => ⟨List.Pairwise.nil, fun z => Iff.rfl⟩
  | n + 1, f :: r, h => by
    obtain ⟨c1, c2⟩ := least_cons f r
    have hl := drop_lt c1
    have ih := sort_ok n (dropL (leastF f (f :: r)) (f :: r)) (by simp only [List.length_cons] at h hl; omega)
    show (leastF f (f :: r) :: sortF n _).Pairwise (· < ·) ∧ ∀ z, z ∈ leastF f (f :: r) :: sortF n _ ↔ _
    refine ⟨List.Pairwise.cons (fun z hz => ?_) ih.1, fun z => ?_⟩
    · have := mem_drop.mp ((ih.2 z).mp hz)
      exact Rat.lt_of_le_of_ne (c2 z this.1) (Ne.symm this.2)
    · constructor
      · intro hz
        rcases List.mem_cons.mp hz with rfl | hz
        · exact c1
        · exact (mem_drop.mp ((ih.2 z).mp hz)).1
      · intro hz
        by_cases e : z = leastF f (f :: r)
        · rw [e]; simp
        · exact List.mem_cons_of_mem _ ((ih.2 z).mpr (mem_drop.mpr ⟨hz, e⟩))
/-! ### chains of points -/
def Chn (P : Rat → Rat → Prop) : List Rat → Prop
  | [] => True
  | [_] => True
  | a :: b :: r => a < b ∧ P a b ∧ Chn P (b :: r)
theorem chn_sorted {P : Rat → Rat → Prop} : ∀ (l : List Rat), l.Pairwise (· < ·) → (∀ u v, u ∈ l → v ∈ l → u < v → (∀ z ∈ l, z ≤ u ∨ v ≤ z) → P u v) → Chn P l
  | [], h, hp => trivial
  | [a], h, hp => trivial
  | a :: b :: r, h, hp => by
    obtain ⟨h1, h2⟩ := List.pairwise_cons.mp h
    obtain ⟨h3, h4⟩ := List.pairwise_cons.mp h2
    refine ⟨h1 b (by simp), hp a b (by simp) (by simp) (h1 b (by simp)) (fun z hz => ?_), chn_sorted (b :: r) h2 fun u v hu hv huv hz => hp u v (List.mem_cons_of_mem _ hu) (List.mem_cons_of_mem _ hv) huv fun z hz2 => ?_⟩
    · rcases List.mem_cons.mp hz with rfl | hz
      · exact .inl Rat.le_refl
      rcases List.mem_cons.mp hz with rfl | hz
      · exact .inr Rat.le_refl
      · exact .inr (Rat.le_of_lt (h3 z hz))
    · rcases List.mem_cons.mp hz2 with rfl | hz2
      · exact .inl (Rat.le_of_lt (h1 u hu))
      · exact hz z hz2
theorem chn_join {P : Rat → Rat → Prop} : ∀ (l : List Rat) (q : Rat) (r : List Rat), Chn P (l ++ [q]) → Chn P (q :: r) → Chn P (l ++ q :: r)
  | [], q, r, h1, h2 => h2
  | [a], q, r, h1, h2 => ⟨h1.1, h1.2.1, h2⟩
  | a :: b :: l, q, r, h1, h2 => ⟨h1.1, h1.2.1, chn_join (b :: l) q r h1.2.2 h2⟩
theorem chn_cover {P : Rat → Rat → Prop} {x : Rat} : ∀ (a : Rat) (r : List Rat) (c : Rat), Chn P (a :: r) → (a :: r).getLast? = some c → a ≤ x → x ≤ c → (∃ u v, u ∈ a :: r ∧ v ∈ a :: r ∧ u < v ∧ P u v ∧ u ≤ x ∧ x ≤ v) ∨ x = a
  | a, [], c, h, hc, h1, h2 => by
    simp at hc
    subst hc
    exact .inr (Rat.le_antisymm h2 h1)
  | a, b :: r, c, h, hc, h1, h2 => by
    by_cases hx : x ≤ b
    · exact .inl ⟨a, b, by simp, by simp, h.1, h.2.1, h1, hx⟩
    · have hb : b < x := Rat.not_le.mp hx
      rcases chn_cover b r c h.2.2 (by rw [← hc]; simp [List.getLast?_cons_cons]) (Rat.le_of_lt hb) h2 with ⟨u, v, hu, hv, h3⟩ | e
      · exact .inl ⟨u, v, List.mem_cons_of_mem _ hu, List.mem_cons_of_mem _ hv, h3⟩
      · exact absurd e (Rat.ne_of_gt hb)
/-! ### straight pieces -/
/-- on [a, b] what goes into the layer behind M is straight -/
def InpA (D k : Nat) (M : Lays) (a b : Rat) : Prop := ∃ as : List Aff, (∀ s ∈ as, AfB D k s) ∧ ∀ x, a ≤ x → x ≤ b → inp M [x] = as.map fun s => ev s x
theorem mem_zfind {a b : Rat} {fs : List Aff} {z : Rat} : z ∈ zfind a b ((fs.map fun f => ev f a).zip (fs.map fun f => ev f b)) ↔ ∃ f ∈ fs, (ev f a).num * (ev f b).num < 0 ∧ z = zF a b (ev f a) (ev f b) := by
  have e : (fs.map fun f => ev f a).zip (fs.map fun f => ev f b) = fs.map fun f => (ev f a, ev f b) := by
    induction fs with
    | nil => rfl
    | cons f fs ih => simp [ih]
  rw [e]
  unfold zfind
  rw [List.mem_filterMap]
  constructor
  · rintro ⟨p, hp, h⟩
    obtain ⟨f, hf, rfl⟩ := List.mem_map.mp hp
    simp only at h
    split at h
    · exact ⟨f, hf, by assumption, (Option.some.inj h).symm⟩
    · cases h
  · rintro ⟨f, hf, h1, h2⟩
    refine ⟨(ev f a, ev f b), List.mem_map.mpr ⟨f, hf, rfl⟩, ?_⟩
    simp only
    rw [if_pos h1, h2]
theorem zero_bt {D k : Nat} {f : Aff} (h : AfB D k f) (d0 : D ≠ 0) (dl : D < 2 ^ 100) (hk : k ≤ 3) {z : Rat} (h1 : f.1 ≠ 0) (h2 : ev f z = 0) : Bt 130 z := by
  obtain ⟨⟨i, e1, b1⟩, ⟨j, e2, b2⟩⟩ := h
  have i0 : i ≠ 0 := by
    rintro rfl
    have : f.1 * ((6 ^ k : Nat) : Rat) = 0 := e1
    rcases Rat.mul_eq_zero.mp this with h | h
    · exact h1 h
    · exact n6 k (Rat.natCast_eq_zero_iff.mp h)
  have key : z * ((i : Rat) * (D : Rat)) = -(j : Rat) := by
    rw [← e1, ← e2, Rat.natCast_mul]
    unfold ev at h2
    grind
  have p1 : 2 ^ (7 * k) ≤ 2 ^ 21 := p2 (by omega)
  have p2' : 2 ^ (107 + 7 * k) ≤ 2 ^ 128 := p2 (by omega)
  have hd : i.natAbs * D < 2 ^ 130 := Nat.lt_of_lt_of_le (Nat.mul_lt_mul'' (show i.natAbs < 2 ^ 22 from Nat.lt_of_le_of_lt (Nat.le_trans b1 p1) (p2l (by decide))) dl) (by rw [← Nat.pow_add]; exact p2 (by decide))
  have hj : j.natAbs < 2 ^ 130 := Nat.lt_of_le_of_lt (Nat.le_trans b2 p2') (p2l (by decide))
  have hF : Fr (i.natAbs * D) j.natAbs z := by
    rcases Int.natAbs_eq i with e | e
    · refine ⟨-j, ?_, by omega⟩
      rw [Rat.natCast_mul, Rat.intCast_neg, ← key]
      have : (i : Rat) = ((i.natAbs : Nat) : Rat) := by
        conv => lhs; rw [e]
        exact Rat.intCast_natCast _
      rw [this]
    · refine ⟨j, ?_, by omega⟩
      have : (i : Rat) = -((i.natAbs : Nat) : Rat) := by
        conv => lhs; rw [e]
        rw [Rat.intCast_neg, Rat.intCast_natCast]
      rw [this] at key
      rw [Rat.natCast_mul]
      grind
  exact hF.bt (Nat.mul_ne_zero (by omega) d0) hd hj
theorem cut_gate {f : Aff} {x : Rat} (h : 0 ≤ ev f x) : cut0 (ev f x) = ev f x := if_neg (Rat.not_lt.mpr h)
theorem cut_gate0 {f : Aff} {x : Rat} (h : ev f x ≤ 0) : cut0 (ev f x) = ev (0, 0) x := by
  have e0 : ev (0, 0) x = 0 := by unfold ev; simp [Rat.add_zero]
  rw [e0]
  unfold cut0
  by_cases hl : ev f x < 0
  · rw [if_pos hl]
  · rw [if_neg hl]; exact Rat.le_antisymm h (Rat.not_lt.mp hl)
/-- gates for sums that have one sign -/
theorem gates {D k : Nat} {u v : Rat} : ∀ fs : List Aff, (∀ f ∈ fs, AfB D k f) → (∀ f ∈ fs, (∀ x, u ≤ x → x ≤ v → 0 ≤ ev f x) ∨ (∀ x, u ≤ x → x ≤ v → ev f x ≤ 0)) → ∃ gs : List Aff, (∀ g ∈ gs, AfB D k g) ∧ ∀ x, u ≤ x → x ≤ v → (fs.map fun f => ev f x).map cut0 = gs.map fun g => ev g x
  | [], h1, h2 => ⟨[], fun g h => (by cases h), fun x _ _ => rfl⟩
  | f :: fs, h1, h2 => by
    obtain ⟨gs, g1, g2⟩ := gates fs (fun f h => h1 f (by simp [h])) (fun f h => h2 f (by simp [h]))
    rcases h2 f (by simp) with h | h
    · refine ⟨f :: gs, fun g hg => ?_, fun x x1 x2 => ?_⟩
      · rcases List.mem_cons.mp hg with rfl | hg
        · exact h1 _ (by simp)
        · exact g1 g hg
      · rw [List.map_cons, List.map_cons, List.map_cons, g2 x x1 x2, cut_gate (h x x1 x2)]
    · refine ⟨(0, 0) :: gs, fun g hg => ?_, fun x x1 x2 => ?_⟩
      · rcases List.mem_cons.mp hg with rfl | hg
        · exact AfB.zero
        · exact g1 g hg
      · rw [List.map_cons, List.map_cons, List.map_cons, g2 x x1 x2, cut_gate0 (h x x1 x2)]
theorem piece {D d : Nat} {M : Lays} (hM : NetB D M) (hd : d < M.length) (hd3 : d < 3) {a b : Rat} (hab : a < b) (h : InpA D d (M.take d) a b) :
    (zerosF M d a b).Pairwise (· < ·) ∧ (∀ z ∈ zerosF M d a b, a < z ∧ z < b ∧ Bt 130 z) ∧
    ∀ u v, a ≤ u → u < v → v ≤ b → (∀ z ∈ zerosF M d a b, z ≤ u ∨ v ≤ z) → InpA D (d + 1) (M.take (d + 1)) u v := by
  obtain ⟨as, h1, h2⟩ := h
  obtain ⟨l, hl⟩ : ∃ l, l = M.getD d [] := ⟨_, rfl⟩
  have hlm : l ∈ M := by
    rw [hl, List.getD_eq_getElem?_getD, List.getElem?_eq_getElem hd]
    exact List.getElem_mem hd
  have hn := (hM.no l hlm).2
  obtain ⟨fs, hfs⟩ : ∃ fs : List Aff, fs = l.map fun n => nodeAff n as := ⟨_, rfl⟩
  have hfb : ∀ f ∈ fs, AfB D (d + 1) f := by rw [hfs]; exact lay_afB hM.d0 hM.dl (by omega) hn h1
  have hrow : ∀ x, a ≤ x → x ≤ b → (l.map fun n => val n (inp (M.take d) [x])) = fs.map fun f => ev f x := fun x x1 x2 => by
    rw [hfs, List.map_map]
    apply List.map_congr_left
    intro n _
    rw [h2 x x1 x2]
    exact (nodeAff_ev n as x).symm
  have ra : rowD M d a = fs.map fun f => ev f a := by
    unfold rowD
    rw [vals_get M d [a] hd, ← hl]
    exact hrow a Rat.le_refl (Rat.le_of_lt hab)
  have rb : rowD M d b = fs.map fun f => ev f b := by
    unfold rowD
    rw [vals_get M d [b] hd, ← hl]
    exact hrow b (Rat.le_of_lt hab) Rat.le_refl
  have hs := sort_ok (zfoundF M d a b).length (zfoundF M d a b) (Nat.le_refl _)
  have hz : ∀ z, z ∈ zerosF M d a b ↔ ∃ f ∈ fs, (ev f a).num * (ev f b).num < 0 ∧ z = zF a b (ev f a) (ev f b) := fun z => by
    unfold zerosF
    rw [hs.2 z]
    unfold zfoundF
    rw [ra, rb]
    exact mem_zfind
  refine ⟨hs.1, fun z hz2 => ?_, fun u v hau huv hvb hno => ?_⟩
  · obtain ⟨f, hf, hneg, rfl⟩ := (hz z).mp hz2
    have hp := prod_neg.mp hneg
    obtain ⟨f0, e0, l1, l2⟩ := zF_line (Rat.le_of_lt hab) (by
      rcases hp with ⟨h1, h2⟩ | ⟨h1, h2⟩
      · exact .inl ⟨Rat.le_of_lt h1, h2⟩
      · exact .inr ⟨h1, Rat.le_of_lt h2⟩)
    refine ⟨Rat.lt_of_le_of_ne l1 fun e => ?_, Rat.lt_of_le_of_ne l2 fun e => ?_, zero_bt (hfb f hf) hM.d0 hM.dl (by omega) f0 e0⟩
    · rw [← e] at e0
      rcases hp with ⟨h1, _⟩ | ⟨h1, _⟩ <;> rw [e0] at h1 <;> exact Rat.lt_irrefl h1
    · rw [e] at e0
      rcases hp with ⟨_, h1⟩ | ⟨_, h1⟩ <;> rw [e0] at h1 <;> exact Rat.lt_irrefl h1
  · obtain ⟨gs, g1, g2⟩ := gates (u := u) (v := v) fs hfb (fun f hf => one_sign hau (Rat.le_of_lt huv) hvb fun hneg => hno _ ((hz _).mpr ⟨f, hf, hneg, rfl⟩))
    refine ⟨gs, g1, fun x x1 x2 => ?_⟩
    have e : M.take (d + 1) = M.take d ++ [l] := by
      rw [List.take_add_one, List.getElem?_eq_getElem hd, hl, List.getD_eq_getElem?_getD, List.getElem?_eq_getElem hd]
      rfl
    rw [e, inp_app, hrow x (Rat.le_trans hau x1) (Rat.le_trans x2 hvb)]
    exact g2 x x1 x2
/-- points, between two of which all goes straight up to layer d -/
structure PtsOk (D : Nat) (M : Lays) (lo hi : Rat) (d : Nat) (pts : List Rat) : Prop where
  ch : Chn (InpA D d (M.take d)) pts
  al : ∀ p ∈ pts, Bt 130 p ∧ lo ≤ p ∧ p ≤ hi
theorem cut_ok {D d : Nat} {M : Lays} (hM : NetB D M) (hd : d < M.length) (hd3 : d < 3) {lo hi : Rat} : ∀ pts : List Rat, PtsOk D M lo hi d pts → PtsOk D M lo hi (d + 1) (cutF M d pts) ∧ (cutF M d pts).head? = pts.head? ∧ (cutF M d pts).getLast? = pts.getLast?
  | [], h => ⟨⟨trivial, fun p hp => by cases hp⟩, rfl, rfl⟩
  | [p], h => ⟨⟨trivial, h.al⟩, rfl, rfl⟩
  | p :: q :: r, h => by
    obtain ⟨hpq, hP, hr⟩ := h.ch
    obtain ⟨z1, z2, z3⟩ := piece hM hd hd3 hpq hP
    obtain ⟨ih, ih1, ih2⟩ := cut_ok hM hd hd3 (q :: r) ⟨hr, fun x hx => h.al x (List.mem_cons_of_mem _ hx)⟩
    have ap := h.al p (by simp)
    have aq := h.al q (by simp)
    obtain ⟨rest, hrest⟩ : ∃ rest, cutF M d (q :: r) = q :: rest := by
      cases e : cutF M d (q :: r) with
      | nil => rw [e] at ih1; cases ih1
      | cons c rest =>
        rw [e] at ih1
        simp at ih1
        exact ⟨rest, by rw [ih1]⟩
    have e : cutF M d (p :: q :: r) = (p :: zerosF M d p q) ++ q :: rest := by
      show p :: (zerosF M d p q ++ cutF M d (q :: r)) = _
      rw [hrest]; rfl
    rw [hrest] at ih ih2
    rw [e]
    have hsort : ((p :: zerosF M d p q) ++ [q]).Pairwise (· < ·) := by
      rw [List.pairwise_append]
      refine ⟨List.Pairwise.cons (fun z hz => (z2 z hz).1) z1, List.Pairwise.cons (fun z hz => by cases hz) List.Pairwise.nil, fun x hx y hy => ?_⟩
      rw [List.mem_singleton.mp hy]
      rcases List.mem_cons.mp hx with rfl | hx
      · exact hpq
      · exact (z2 x hx).2.1
    have bnd : ∀ x ∈ (p :: zerosF M d p q) ++ [q], p ≤ x ∧ x ≤ q := fun x hx => by
      rcases List.mem_append.mp hx with hx | hx
      · rcases List.mem_cons.mp hx with rfl | hx
        · exact ⟨Rat.le_refl, Rat.le_of_lt hpq⟩
        · exact ⟨Rat.le_of_lt (z2 x hx).1, Rat.le_of_lt (z2 x hx).2.1⟩
      · rw [List.mem_singleton.mp hx]; exact ⟨Rat.le_of_lt hpq, Rat.le_refl⟩
    have c1 : Chn (InpA D (d + 1) (M.take (d + 1))) ((p :: zerosF M d p q) ++ [q]) := chn_sorted _ hsort fun u v hu hv huv hno => z3 u v (bnd u hu).1 huv (bnd v hv).2 fun z hz => hno z (by simp [hz])
    refine ⟨⟨chn_join _ q rest c1 ih.ch, fun x hx => ?_⟩, rfl, ?_⟩
    · rcases List.mem_append.mp hx with hx | hx
      · rcases List.mem_cons.mp hx with rfl | hx
        · exact ap
        · exact ⟨(z2 x hx).2.2, Rat.le_trans ap.2.1 (Rat.le_of_lt (z2 x hx).1), Rat.le_trans (Rat.le_of_lt (z2 x hx).2.1) aq.2.2⟩
      · exact ih.al x hx
    · rw [List.getLast?_append, ih2, List.getLast?_cons_cons]
      cases e : (q :: r).getLast? with
      | none => simp at e
      | some c => rfl
theorem pts_ok {D : Nat} {M : Lays} (hM : NetB D M) {lo hi : Rat} (hlo : Bt 130 lo) (hhi : Bt 130 hi) (hb : lo ≤ hi) : ∀ d : Nat, d ≤ 3 → d ≤ M.length → PtsOk D M lo hi d (ptsF M lo hi d) ∧ (ptsF M lo hi d).head? = some lo ∧ (ptsF M lo hi d).getLast? = some hi
  | 0, h3, hd => by
    unfold ptsF
    have hI : InpA D 0 (M.take 0) lo hi := ⟨[(1, 0)], ins_afB, fun x _ _ => by
      rw [List.take_zero, ev_in]; rfl⟩
    by_cases e : lo = hi
    · rw [if_pos e]
      exact ⟨⟨trivial, fun p hp => by rw [List.mem_singleton.mp hp]; exact ⟨hlo, Rat.le_refl, hb⟩⟩, rfl, by rw [e]; rfl⟩
    · rw [if_neg e]
      refine ⟨⟨⟨Rat.lt_of_le_of_ne hb e, hI, trivial⟩, fun p hp => ?_⟩, rfl, rfl⟩
      simp at hp
      rcases hp with rfl | rfl
      · exact ⟨hlo, Rat.le_refl, hb⟩
      · exact ⟨hhi, hb, Rat.le_refl⟩
  | d + 1, h3, hd => by
    obtain ⟨h1, h2, h4⟩ := pts_ok hM hlo hhi hb d (by omega) (by omega)
    obtain ⟨c1, c2, c3⟩ := cut_ok hM (show d < M.length by omega) (by omega) _ h1
    exact ⟨c1, by unfold ptsF; rw [c2, h2], by unfold ptsF; rw [c3, h4]⟩
/-! ### outs on a piece -/
/-- on [a, b] the outs are straight -/
def OutA (D k : Nat) (L : Lays) (ll : Lay) (a b : Rat) : Prop := ∃ os : List Aff, (∀ s ∈ os, AfB D k s) ∧ ∀ x, a ≤ x → x ≤ b → outsAt L ll [x] = os.map fun s => ev s x
theorem out_of {D k : Nat} {L : Lays} {ll : Lay} (hM : NetB D (L ++ [ll])) (hk : k ≤ 5) {a b : Rat} (h : InpA D k L a b) : OutA D (k + 1) L ll a b := by
  obtain ⟨as, h1, h2⟩ := h
  refine ⟨ll.map fun n => nodeAff n as, lay_afB hM.d0 hM.dl hk (hM.no ll (by simp)).2 h1, fun x x1 x2 => ?_⟩
  rw [outs_inp, h2 x x1 x2, List.map_map]
  apply List.map_congr_left
  intro n _
  exact (nodeAff_ev n as x).symm
theorem dot_line {os : List Aff} {aim : List Rat} {x : Rat} : dot aim (os.map fun s => ev s x) = ev (nodeAff (aim, 0) os) x := by
  rw [nodeAff_ev]
  exact (Rat.add_zero _).symm
/-! ### the greatest over the points -/
theorem mostZ_ok (L : Lays) (ll : Lay) (aim : List Rat) : ∀ (ps : List Rat) (f : Rat), (mostZ L ll aim f ps = f ∨ ∃ p ∈ ps, mostZ L ll aim f ps = dot aim (outsAt L ll [p])) ∧ f ≤ mostZ L ll aim f ps ∧ ∀ p ∈ ps, dot aim (outsAt L ll [p]) ≤ mostZ L ll aim f ps
  | [], f => ⟨.inl rfl, Rat.le_refl, fun p h => by cases h⟩
  | p :: ps, f => by
    have ih := mostZ_ok L ll aim ps (if f < dot aim (outsAt L ll [p]) then dot aim (outsAt L ll [p]) else f)
    have e0 : mostZ L ll aim f (p :: ps) = mostZ L ll aim (if f < dot aim (outsAt L ll [p]) then dot aim (outsAt L ll [p]) else f) ps := rfl
    rw [e0]
    by_cases h : f < dot aim (outsAt L ll [p])
    · rw [if_pos h] at ih ⊢
      refine ⟨?_, Rat.le_trans (Rat.le_of_lt h) ih.2.1, fun q hq => ?_⟩
      · rcases ih.1 with e | ⟨q, hq, e⟩
        · exact .inr ⟨p, by simp, e⟩
        · exact .inr ⟨q, by simp [hq], e⟩
      · rcases List.mem_cons.mp hq with rfl | hq
        · exact ih.2.1
        · exact ih.2.2 q hq
    · rw [if_neg h] at ih ⊢
      refine ⟨?_, ih.2.1, fun q hq => ?_⟩
      · rcases ih.1 with e | ⟨q, hq, e⟩
        · exact .inl e
        · exact .inr ⟨q, by simp [hq], e⟩
      · rcases List.mem_cons.mp hq with rfl | hq
        · exact Rat.le_trans (Rat.not_lt.mp h) ih.2.1
        · exact ih.2.2 q hq
theorem most_pts (L : Lays) (ll : Lay) (aim : List Rat) {p0 : Rat} {ps : List Rat} : (∃ p ∈ p0 :: ps, mostF L ll aim (p0 :: ps) = dot aim (outsAt L ll [p])) ∧ ∀ p ∈ p0 :: ps, dot aim (outsAt L ll [p]) ≤ mostF L ll aim (p0 :: ps) := by
  have h := mostZ_ok L ll aim ps (dot aim (outsAt L ll [p0]))
  unfold mostF
  refine ⟨?_, fun p hp => ?_⟩
  · rcases h.1 with e | ⟨p, hp, e⟩
    · exact ⟨p0, by simp, e⟩
    · exact ⟨p, by simp [hp], e⟩
  · rcases List.mem_cons.mp hp with rfl | hp
    · exact h.2.1
    · exact h.2.2 p hp
/-- the points of a whole net -/
structure Pts (D : Nat) (L : Lays) (ll : Lay) (lo hi : Rat) (pts : List Rat) : Prop where
  net : NetB D (L ++ [ll])
  len : L.length ≤ 3
  ch : Chn (OutA D (L.length + 1) L ll) pts
  al : ∀ p ∈ pts, Bt 130 p ∧ lo ≤ p ∧ p ≤ hi
  hd : pts.head? = some lo
  la : pts.getLast? = some hi
theorem Chn.imp {P Q : Rat → Rat → Prop} (h : ∀ a b, P a b → Q a b) : ∀ l : List Rat, Chn P l → Chn Q l
  | [], _ => trivial
  | [a], _ => trivial
  | a :: b :: r, hc => ⟨hc.1, h a b hc.2.1, Chn.imp h (b :: r) hc.2.2⟩
theorem pts_all {D : Nat} {L : Lays} {ll : Lay} {lo hi : Rat} (hM : NetB D (L ++ [ll])) (hL : L.length ≤ 3) (hlo : Bt 130 lo) (hhi : Bt 130 hi) (hb : lo ≤ hi) : Pts D L ll lo hi (ptsF (L ++ [ll]) lo hi L.length) := by
  obtain ⟨h1, h2, h3⟩ := pts_ok hM hlo hhi hb L.length hL (by simp)
  refine ⟨hM, hL, Chn.imp (fun a b h => ?_) _ h1.ch, h1.al, h2, h3⟩
  rw [List.take_left] at h
  exact out_of hM (by omega) h
theorem Pts.cons {D : Nat} {L : Lays} {ll : Lay} {lo hi : Rat} {pts : List Rat} (h : Pts D L ll lo hi pts) : ∃ ps, pts = lo :: ps := by
  cases pts with
  | nil => have := h.hd; cases this
  | cons p ps =>
    have := h.hd
    simp at this
    exact ⟨ps, by rw [this]⟩
/-- a value that is reached and not passed in the box is the greatest over the points -/
theorem most_eq {D : Nat} {L : Lays} {ll : Lay} {lo hi : Rat} {pts : List Rat} (h : Pts D L ll lo hi pts) {aim : List Rat} {v x : Rat} (hx1 : lo ≤ x) (hx2 : x ≤ hi) (hv : v = dot aim (outsAt L ll [x])) (hm : ∀ y, lo ≤ y → y ≤ hi → dot aim (outsAt L ll [y]) ≤ v) : mostF L ll aim pts = v := by
  obtain ⟨ps, rfl⟩ := h.cons
  obtain ⟨⟨p, hp, e⟩, hle⟩ := most_pts L ll aim (p0 := lo) (ps := ps)
  refine Rat.le_antisymm ?_ ?_
  · rw [e]
    exact hm p (h.al p hp).2.1 (h.al p hp).2.2
  · rw [hv]
    rcases chn_cover lo ps hi h.ch h.la hx1 hx2 with ⟨u, w, hu, hw, huw, ⟨os, o1, o2⟩, x1, x2⟩ | e
    · have huw := Rat.le_of_lt huw
      have lu := hle u hu
      have lw := hle w hw
      rw [o2 u Rat.le_refl huw, dot_line] at lu
      rw [o2 w huw Rat.le_refl, dot_line] at lw
      rw [o2 x x1 x2, dot_line]
      exact ev_le x1 x2 lu lw
    · rw [e]; exact hle lo (by simp)
end NC

set_option Elab.async false
set_option linter.all false
set_option autoImplicit false
set_option exponentiation.threshold 100000
set_option maxRecDepth 100000
set_option maxHeartbeats 4000000
/-! Wishes along the points; sizes for trees and search. -/
namespace NC
open PySem PySem.Spec PyProof.Rows L2
/-- small wishes -/
def WishB (w : Node) : Prop := AimB w.1 ∧ Bt 300 w.2
theorem zero_bt2 {D k : Nat} {f : Aff} {w : Rat} (h : AfB D k f) (hw : Bt 300 w) (d0 : D ≠ 0) (dl : D < 2 ^ 100) (hk : k ≤ 5) {z : Rat} (h1 : f.1 ≠ 0) (h2 : ev (f.1, f.2 + -w) z = 0) : Bt 445 z := by
  obtain ⟨⟨i, e1, b1⟩, ⟨j, e2, b2⟩⟩ := h
  have i0 : i ≠ 0 := by
    rintro rfl
    have : f.1 * ((6 ^ k : Nat) : Rat) = 0 := e1
    rcases Rat.mul_eq_zero.mp this with h | h
    · exact h1 h
    · exact n6 k (Rat.natCast_eq_zero_iff.mp h)
  have e3 := num_den w
  have key : z * ((i : Rat) * (D : Rat) * (w.den : Rat)) = ((w.num * ((6 ^ k : Nat) : Int) * (D : Int) - j * (w.den : Int) : Int) : Rat) := by
    rw [Rat.intCast_sub, Rat.intCast_mul, Rat.intCast_mul, Rat.intCast_mul, ← e1, ← e2, ← e3, Rat.natCast_mul, Rat.intCast_natCast, Rat.intCast_natCast, Rat.intCast_natCast]
    unfold ev at h2
    simp only at h2
    have h3 : z * f.1 = w - f.2 := by grind
    have e : z * (f.1 * ((6 ^ k : Nat) : Rat) * (D : Rat) * (w.den : Rat)) = (z * f.1) * (((6 ^ k : Nat) : Rat) * (D : Rat) * (w.den : Rat)) := by grind
    rw [e, h3]; grind
  obtain ⟨n, hn⟩ : ∃ n : Int, n = w.num * ((6 ^ k : Nat) : Int) * (D : Int) - j * (w.den : Int) := ⟨_, rfl⟩
  rw [← hn] at key
  have nb : n.natAbs < 2 ^ 445 := by
    have x1 : (w.num * ((6 ^ k : Nat) : Int) * (D : Int)).natAbs < 2 ^ 443 := by
      rw [Int.natAbs_mul, Int.natAbs_mul, Int.natAbs_natCast, Int.natAbs_natCast]
      refine Nat.lt_of_lt_of_le (Nat.mul_lt_mul'' (Nat.mul_lt_mul'' hw.1 (Nat.lt_of_le_of_lt (p6 k) (p2l (show 3 * k < 20 by omega)))) dl) ?_
      rw [← Nat.pow_add, ← Nat.pow_add]; exact p2 (by decide)
    have x2 : (j * (w.den : Int)).natAbs < 2 ^ 444 := by
      rw [Int.natAbs_mul, Int.natAbs_natCast]
      refine Nat.lt_of_lt_of_le (Nat.mul_lt_mul'' (Nat.lt_of_le_of_lt b2 (p2l (show 107 + 7 * k < 143 by omega))) hw.2) ?_
      rw [← Nat.pow_add]; exact p2 (by decide)
    have x3 := Int.natAbs_sub_le (w.num * ((6 ^ k : Nat) : Int) * (D : Int)) (j * (w.den : Int))
    rw [← hn] at x3
    have e : (2 : Nat) ^ 445 = 2 ^ 443 + 2 ^ 443 + 2 ^ 444 := by decide
    omega
  have hd : i.natAbs * D * w.den < 2 ^ 445 := by
    refine Nat.lt_of_lt_of_le (Nat.mul_lt_mul'' (Nat.mul_lt_mul'' (show i.natAbs < 2 ^ 36 from Nat.lt_of_le_of_lt b1 (p2l (by omega))) dl) hw.2) ?_
    rw [← Nat.pow_add, ← Nat.pow_add]; exact p2 (by decide)
  have hF : Fr (i.natAbs * D * w.den) n.natAbs z := by
    rcases Int.natAbs_eq i with e | e
    · refine ⟨n, ?_, by omega⟩
      rw [Rat.natCast_mul, Rat.natCast_mul, ← key]
      have : (i : Rat) = ((i.natAbs : Nat) : Rat) := by
        conv => lhs; rw [e]
        exact Rat.intCast_natCast _
      rw [this]
    · refine ⟨-n, ?_, by omega⟩
      have : (i : Rat) = -((i.natAbs : Nat) : Rat) := by
        conv => lhs; rw [e]
        rw [Rat.intCast_neg, Rat.intCast_natCast]
      rw [this] at key
      rw [Rat.natCast_mul, Rat.natCast_mul, Rat.intCast_neg, ← key]
      grind
  exact hF.bt (Nat.mul_ne_zero (Nat.mul_ne_zero (by omega) d0) w.den_nz) hd nb
theorem ev_strict {f : Aff} {x y : Rat} (h : x < y) : (0 < f.1 → ev f x < ev f y) ∧ (f.1 < 0 → ev f y < ev f x) := by
  constructor
  · intro h1
    have := Rat.mul_lt_mul_of_pos_left h h1
    unfold ev; grind
  · intro h1
    have := Rat.mul_lt_mul_of_pos_left h (show 0 < -f.1 by grind)
    unfold ev; grind
theorem AllH.cons {L : Lays} {ll : Lay} {w : Node} {ws : List Node} {x : Rat} : AllH L ll (w :: ws) x ↔ overF L ll w x ≤ 0 ∧ AllH L ll ws x := by
  unfold AllH overF
  constructor
  · intro h
    have := h w (by simp)
    exact ⟨by grind, fun v hv => h v (by simp [hv])⟩
  · rintro ⟨h1, h2⟩ v hv
    rcases List.mem_cons.mp hv with rfl | hv
    · grind
    · exact h2 v hv
theorem kept_ok {D k : Nat} {L : Lays} {ll : Lay} (hM : NetB D (L ++ [ll])) (hL : L.length ≤ 3) (hk : k ≤ 4) {a b : Rat} (hP : OutA D k L ll a b) : ∀ (ws : List Node) (l h : Rat), (∀ w ∈ ws, WishB w) → a ≤ l → l ≤ h → h ≤ b → Bt 445 l → Bt 445 h →
    KeptOk L ll ws l h ∧ (keptF L ll ws l h = true ↔ ∃ x, l ≤ x ∧ x ≤ h ∧ AllH L ll ws x)
  | [], l, h, hw, h1, h2, h3, bl, bh => ⟨trivial, ⟨fun _ => ⟨l, Rat.le_refl, h2, fun w hw => by cases hw⟩, fun _ => rfl⟩⟩
  | w :: ws, l, h, hw, h1, h2, h3, bl, bh => by
    obtain ⟨os, o1, o2⟩ := hP
    have hww := hw w (by simp)
    have hws : ∀ w ∈ ws, WishB w := fun v hv => hw v (by simp [hv])
    have hf := (row_afB (m := 0) hM.d0 hM.dl (by omega) hww.1.1 hww.1.2 Fr.zero (Nat.zero_le _) o1).2
    obtain ⟨f, hfe⟩ : ∃ f : Aff, f = nodeAff (w.1, 0) os := ⟨_, rfl⟩
    have hf : AfB D (k + 1) f := by rw [hfe]; exact hf
    obtain ⟨c, hc⟩ : ∃ c : Aff, c = (f.1, f.2 + -w.2) := ⟨_, rfl⟩
    have hov : ∀ x, a ≤ x → x ≤ b → overF L ll w x = ev c x := fun x x1 x2 => by
      unfold overF
      rw [o2 x x1 x2, dot_line, ← hfe, hc]
      unfold ev; grind
    have kp : ∀ x, Bt 445 x → KpB L ll w x := fun x hx => ⟨net_dotOk hM hL hx (by decide) hww.1, hx.le (by decide), by
      unfold overF
      exact (((net_dot hM hL hx (by decide) hww.1).2.add hww.2.neg)).le (by decide)⟩
    have el := hov l h1 (Rat.le_trans h2 h3)
    have eh := hov h (Rat.le_trans h1 h2) h3
    have zb : ((ev c l ≤ 0 ∧ 0 < ev c h) ∨ (0 < ev c l ∧ ev c h ≤ 0)) → c.1 ≠ 0 ∧ ev c (zF l h (ev c l) (ev c h)) = 0 ∧ l ≤ zF l h (ev c l) (ev c h) ∧ zF l h (ev c l) (ev c h) ≤ h ∧ Bt 445 (zF l h (ev c l) (ev c h)) := fun hh => by
      obtain ⟨z1, z2, z3, z4⟩ := zF_line h2 hh
      refine ⟨z1, z2, z3, z4, ?_⟩
      rw [hc] at z1 z2
      rw [hc]
      exact zero_bt2 hf hww.2 hM.d0 hM.dl (by omega) z1 z2
    have so : Sm w.2 := hww.2.sm (by decide)
    unfold KeptOk keptF
    rw [el, eh]
    by_cases c1 : 0 < ev c l
    · by_cases c2 : 0 < ev c h
      · refine ⟨⟨so, kp l bl, kp h bh, fun hn => absurd ⟨c1, c2⟩ hn⟩, ?_⟩
        rw [if_pos ⟨c1, c2⟩]
        refine ⟨fun hh => (by exact absurd hh (by decide)), ?_⟩
        rintro ⟨x, x1, x2, x3⟩
        have x4 := (AllH.cons.mp x3).1
        rw [hov x (Rat.le_trans h1 x1) (Rat.le_trans x2 h3)] at x4
        rcases Rat.le_total (a := 0) (b := c.1) with hs | hs
        · exact absurd (Rat.le_trans ((ev_mono x1).1 hs) x4) (Rat.not_le.mpr c1)
        · exact absurd (Rat.le_trans ((ev_mono x2).2 hs) x4) (Rat.not_le.mpr c2)
      · have c2' := Rat.not_lt.mp c2
        obtain ⟨z1, z2, z3, z4, z5⟩ := zb (.inr ⟨c1, c2'⟩)
        have ih := kept_ok hM hL hk ⟨os, o1, o2⟩ ws _ h hws (Rat.le_trans h1 z3) z4 h3 z5 bh
        refine ⟨⟨so, kp l bl, kp h bh, fun hn => ⟨fun _ => ih.1, fun q => absurd c1 q, fun q => absurd c1 q⟩⟩, ?_⟩
        rw [if_neg (fun q => c2 q.2), if_pos c1, ih.2]
        have cn : c.1 < 0 := by
          refine Rat.lt_of_le_of_ne (Rat.not_lt.mp fun q => ?_) z1
          have := (ev_mono (f := c) z3).1 (Rat.le_of_lt q)
          rw [z2] at this
          exact absurd this (Rat.not_le.mpr c1)
        constructor
        · rintro ⟨x, x1, x2, x3⟩
          refine ⟨x, Rat.le_trans z3 x1, x2, AllH.cons.mpr ⟨?_, x3⟩⟩
          rw [hov x (Rat.le_trans h1 (Rat.le_trans z3 x1)) (Rat.le_trans x2 h3), ← z2]
          exact (ev_mono x1).2 (Rat.le_of_lt cn)
        · rintro ⟨x, x1, x2, x3⟩
          obtain ⟨x4, x5⟩ := AllH.cons.mp x3
          rw [hov x (Rat.le_trans h1 x1) (Rat.le_trans x2 h3), ← z2] at x4
          refine ⟨x, Rat.not_lt.mp fun q => ?_, x2, x5⟩
          exact absurd x4 (Rat.not_le.mpr ((ev_strict q).2 cn))
    · have c1' := Rat.not_lt.mp c1
      by_cases c2 : 0 < ev c h
      · obtain ⟨z1, z2, z3, z4, z5⟩ := zb (.inl ⟨c1', c2⟩)
        have ih := kept_ok hM hL hk ⟨os, o1, o2⟩ ws l _ hws h1 z3 (Rat.le_trans z4 h3) bl z5
        refine ⟨⟨so, kp l bl, kp h bh, fun hn => ⟨fun q => absurd q c1, fun _ _ => ih.1, fun _ q => absurd c2 q⟩⟩, ?_⟩
        rw [if_neg (fun q => c1 q.1), if_neg c1, if_pos c2, ih.2]
        have cp : 0 < c.1 := by
          refine Rat.not_le.mp fun q => ?_
          have := (ev_mono (f := c) z4).2 q
          rw [z2] at this
          exact absurd this (Rat.not_le.mpr c2)
        constructor
        · rintro ⟨x, x1, x2, x3⟩
          refine ⟨x, x1, Rat.le_trans x2 z4, AllH.cons.mpr ⟨?_, x3⟩⟩
          rw [hov x (Rat.le_trans h1 x1) (Rat.le_trans (Rat.le_trans x2 z4) h3), ← z2]
          exact (ev_mono x2).1 (Rat.le_of_lt cp)
        · rintro ⟨x, x1, x2, x3⟩
          obtain ⟨x4, x5⟩ := AllH.cons.mp x3
          rw [hov x (Rat.le_trans h1 x1) (Rat.le_trans x2 h3), ← z2] at x4
          refine ⟨x, x1, Rat.not_lt.mp fun q => ?_, x5⟩
          exact absurd x4 (Rat.not_le.mpr ((ev_strict q).1 cp))
      · have c2' := Rat.not_lt.mp c2
        have ih := kept_ok hM hL hk ⟨os, o1, o2⟩ ws l h hws h1 h2 h3 bl bh
        refine ⟨⟨so, kp l bl, kp h bh, fun hn => ⟨fun q => absurd q c1, fun _ q => absurd q c2, fun _ _ => ih.1⟩⟩, ?_⟩
        rw [if_neg (fun q => c1 q.1), if_neg c1, if_neg c2, ih.2]
        constructor
        · rintro ⟨x, x1, x2, x3⟩
          refine ⟨x, x1, x2, AllH.cons.mpr ⟨?_, x3⟩⟩
          rw [hov x (Rat.le_trans h1 x1) (Rat.le_trans x2 h3)]
          exact ev_le x1 x2 c1' c2'
        · rintro ⟨x, x1, x2, x3⟩
          exact ⟨x, x1, x2, (AllH.cons.mp x3).2⟩
/-- at a single point all is straight -/
theorem point_inp {D : Nat} {M : Lays} (hM : NetB D M) (u : Rat) : ∀ d : Nat, d ≤ 4 → d ≤ M.length → InpA D d (M.take d) u u
  | 0, h4, hd => ⟨[(1, 0)], ins_afB, fun x _ _ => by rw [List.take_zero, ev_in]; rfl⟩
  | d + 1, h4, hd => by
    obtain ⟨as, h1, h2⟩ := point_inp hM u d (by omega) (by omega)
    have hd : d < M.length := by omega
    obtain ⟨l, hl⟩ : ∃ l, l = M[d] := ⟨_, rfl⟩
    have hn := (hM.no l (by rw [hl]; exact List.getElem_mem hd)).2
    have hb := lay_afB hM.d0 hM.dl (by omega) hn h1
    obtain ⟨gs, g1, g2⟩ := gates (u := u) (v := u) _ hb (fun f hf => by
      rcases Rat.le_total (a := 0) (b := ev f u) with h | h
      · exact .inl fun x x1 x2 => by rw [Rat.le_antisymm x2 x1]; exact h
      · exact .inr fun x x1 x2 => by rw [Rat.le_antisymm x2 x1]; exact h)
    refine ⟨gs, g1, fun x x1 x2 => ?_⟩
    rw [List.take_add_one, List.getElem?_eq_getElem hd, ← hl]
    show inp (M.take d ++ [l]) [x] = _
    rw [inp_app, h2 x x1 x2, ← g2 x x1 x2, List.map_map (f := fun n => nodeAff n as)]
    congr 1
    apply List.map_congr_left
    intro n _
    exact (nodeAff_ev n as x).symm
theorem point_out {D : Nat} {L : Lays} {ll : Lay} (hM : NetB D (L ++ [ll])) (hL : L.length ≤ 3) (u : Rat) : OutA D (L.length + 1) L ll u u := by
  have h := point_inp hM u L.length (by omega) (by simp)
  rw [List.take_left] at h
  exact out_of hM (by omega) h
theorem dues_list {D : Nat} {L : Lays} {ll : Lay} (hM : NetB D (L ++ [ll])) (hL : L.length ≤ 3) {ws : List Node} (hw : ∀ w ∈ ws, WishB w) : ∀ (a : Rat) (r : List Rat) (c : Rat), Chn (OutA D (L.length + 1) L ll) (a :: r) → (a :: r).getLast? = some c → (∀ p ∈ a :: r, Bt 130 p ∧ a ≤ p ∧ p ≤ c) →
    DuesOk L ll ws (a :: r) ∧ (duesF L ll ws (a :: r) = true ↔ ∃ x, a ≤ x ∧ x ≤ c ∧ AllH L ll ws x)
  | a, [], c, h, hc, hb => by
    simp at hc
    subst hc
    have ba := (hb a (by simp)).1.le (show 130 ≤ 445 by decide)
    exact kept_ok hM hL (by omega) (point_out hM hL a) ws a a hw Rat.le_refl Rat.le_refl Rat.le_refl ba ba
  | a, b :: r, c, h, hc, hb => by
    have ba := (hb a (by simp)).1.le (show 130 ≤ 445 by decide)
    have bb := (hb b (by simp)).1.le (show 130 ≤ 445 by decide)
    have hbc := (hb b (by simp)).2.2
    have hab := Rat.le_of_lt h.1
    have k := kept_ok hM hL (by omega) h.2.1 ws a b hw Rat.le_refl hab Rat.le_refl ba bb
    -- the points behind b are not below it
    have srt : ∀ (r : List Rat) (b : Rat), Chn (OutA D (L.length + 1) L ll) (b :: r) → ∀ p ∈ b :: r, b ≤ p := by
      intro r
      induction r with
      | nil => intro b _ p hp; rw [List.mem_singleton.mp hp]; exact Rat.le_refl
      | cons d r ih =>
        intro b hch p hp
        rcases List.mem_cons.mp hp with rfl | hp
        · exact Rat.le_refl
        · exact Rat.le_trans (Rat.le_of_lt hch.1) (ih d hch.2.2 p hp)
    have ih := dues_list hM hL hw b r c h.2.2 (by rw [← hc]; simp [List.getLast?_cons_cons]) (fun p hp => ⟨(hb p (List.mem_cons_of_mem _ hp)).1, srt r b h.2.2 p hp, (hb p (List.mem_cons_of_mem _ hp)).2.2⟩)
    refine ⟨⟨k.1, ih.1⟩, ?_⟩
    show (keptF L ll ws a b || duesF L ll ws (b :: r)) = true ↔ _
    rw [Bool.or_eq_true, k.2, ih.2]
    constructor
    · rintro (⟨x, x1, x2, x3⟩ | ⟨x, x1, x2, x3⟩)
      · exact ⟨x, x1, Rat.le_trans x2 hbc, x3⟩
      · exact ⟨x, Rat.le_trans hab x1, x2, x3⟩
    · rintro ⟨x, x1, x2, x3⟩
      rcases Rat.le_total (a := x) (b := b) with q | q
      · exact .inl ⟨x, x1, q, x3⟩
      · exact .inr ⟨x, q, x2, x3⟩
theorem dues_ok {D : Nat} {L : Lays} {ll : Lay} {lo hi : Rat} {pts : List Rat} (h : Pts D L ll lo hi pts) {ws : List Node} (hw : ∀ w ∈ ws, WishB w) : DuesOk L ll ws pts ∧ (duesF L ll ws pts = true ↔ ∃ x, lo ≤ x ∧ x ≤ hi ∧ AllH L ll ws x) := by
  obtain ⟨ps, rfl⟩ := h.cons
  exact dues_list h.net h.len hw lo ps hi h.ch h.la h.al
/-! ### sizes for the trees and the search -/
theorem own_sk {D : Nat} {L : Lays} (h : NetB D L) (hl : L.length ≤ 3) (p m : Nat) : ∀ a ∈ ownW L p m, SkA a := fun a ha => by
  obtain ⟨x, hx, rfl⟩ := List.mem_map.mp ha
  obtain ⟨j, h1, h2⟩ := hidA_afB h hl p x.1 (List.mem_of_mem_take (List.fst_mem_of_mem_zipIdx hx))
  have h3 := h2.sk h.d0 h.dl (by omega)
  unfold wsh
  split
  · exact ⟨h3.1.nmul, h3.2⟩
  · exact ⟨h3.1, h3.2.nmul⟩
/-- a box of small ends -/
structure BoxB (lo hi : Rat) : Prop where
  le : lo ≤ hi
  lo : Bt 130 lo
  hi : Bt 130 hi
theorem BoxB.ok {lo hi : Rat} (h : BoxB lo hi) : BoxOk lo hi := ⟨h.le, h.lo.sm (by decide), h.hi.sm (by decide)⟩
theorem gm_of {D : Nat} {L : Lays} {ll : Lay} {lo hi : Rat} {aim : List Rat} (h : NetB D (L ++ [ll])) (hl : L.length ≤ 3) (h8 : hid L ≤ 8) (hb : BoxB lo hi) (ha : AimB aim) : GMath L ll lo hi aim :=
  ⟨fun p hp m g hg => ⟨hb.ok, hb.lo.sk (by decide), hb.hi.sk (by decide), by have := ownW_len L p m; omega, own_sk h.left hl p m, hg⟩, fun p hp => (aim_afB h hl ha p).2.sk h.d0 h.dl (by omega)⟩
theorem led_eq : ∀ (l : List (Rat × Aff)) (f : Aff) (g : Rat), (ledZ f l).1 = (affZ (f.1, g) l).1 ∧ (ledZ f l).2 = f.2 + g - (affZ (f.1, g) l).2
  | [], f, g => ⟨rfl, by show f.2 = f.2 + g - g; grind⟩
  | p :: l, f, g => by
    rw [ledZ_cons, affZ_cons]
    have ih := led_eq l (f.1 + p.1 * p.2.1, f.2 - p.1 * p.2.2) (g + p.1 * p.2.2)
    refine ⟨ih.1, ?_⟩
    rw [ih.2]
    grind
theorem ledW_eq (as : List Aff) (w : Node) : ledW as w = ((nodeAff (w.1, 0) as).1, w.2 - (nodeAff (w.1, 0) as).2) := by
  have h := led_eq (w.1.zip as) (0, w.2) 0
  unfold ledW nodeAff
  refine Prod.ext h.1 ?_
  rw [h.2]
  show w.2 + 0 - _ = _
  rw [Rat.add_zero]
theorem ledW_sk {D : Nat} {L : Lays} {ll : Lay} (h : NetB D (L ++ [ll])) (hl : L.length ≤ 3) {w : Node} (hw : WishB w) (p : Nat) : SkA (ledW (outA L ll p) w) := by
  rw [ledW_eq]
  have hb := (aim_afB h hl hw.1 p).2.bt h.d0 h.dl (by omega)
  unfold aimA at hb
  refine ⟨hb.1.sk (by decide), Bt.sk (n := 451) ?_ (by decide)⟩
  rw [Rat.sub_eq_add_neg]
  exact hw.2.add hb.2.neg
theorem sm_of {D : Nat} {L : Lays} {ll : Lay} {lo hi : Rat} {ws : List Node} (h : NetB D (L ++ [ll])) (hl : L.length ≤ 3) (h8 : hid L ≤ 8) (hb : BoxB lo hi) (hn : ws.length ≤ 8) (hw : ∀ w ∈ ws, WishB w) : SMath L ll lo hi ws :=
  ⟨fun p hp m => ⟨hb.ok, hb.lo.sk (by decide), hb.hi.sk (by decide), by have := ownW_len L p m; omega, own_sk h.left hl p m, sk0'⟩,
   fun p hp => ⟨hb.ok, hb.lo.sk (by decide), hb.hi.sk (by decide), by have := ownW_len L p (hid L); simp [ledL]; omega, fun a ha => by
    rcases List.mem_append.mp ha with ha | ha
    · exact own_sk h.left hl p _ a ha
    · obtain ⟨w, hw2, rfl⟩ := List.mem_map.mp ha
      exact ledW_sk h hl (hw w hw2) p, sk0'⟩⟩
theorem smLed_list {w2 : Rat} (hw2 : Bt 300 w2) {d e m e2 m2 : Nat} (hd : d ≠ 0) (he : e ≠ 0) (he2 : e2 ≠ 0) (hde : d * e < 2 ^ 200) (hde2 : d * e2 < 2 ^ 200) (hm : m < 2 ^ 200) (hm2 : m2 < 2 ^ 200) : ∀ (ws : List Rat) (ys : List Aff) (f1 g : Rat) (c c2 : Nat), (∀ w ∈ ws, Fr d 24 w) → (∀ y ∈ ys, Fr e m y.1 ∧ Fr e2 m2 y.2) → Fr (d * e) c f1 → Fr (d * e2) c2 g → c + ws.length * (24 * m) < 2 ^ 200 → c2 + ws.length * (24 * m2) < 2 ^ 200 →
    SmLed (f1, w2 - g) (ws.zip ys)
  | [], ys, f1, g, c, c2, h1, h2, h3, h3', h4, h4' => by
    have hz : d * e ≠ 0 := Nat.mul_ne_zero hd he
    have hz2 : d * e2 ≠ 0 := Nat.mul_ne_zero hd he2
    refine ⟨(h3.bt hz hde (by omega)).sm (by decide), ?_⟩
    show Sm (w2 - g)
    rw [Rat.sub_eq_add_neg]
    exact (hw2.add (h3'.bt hz2 hde2 (by omega)).neg).sm (by decide)
  | w :: ws, [], f1, g, c, c2, h1, h2, h3, h3', h4, h4' => by
    have hz : d * e ≠ 0 := Nat.mul_ne_zero hd he
    have hz2 : d * e2 ≠ 0 := Nat.mul_ne_zero hd he2
    refine ⟨(h3.bt hz hde (by omega)).sm (by decide), ?_⟩
    show Sm (w2 - g)
    rw [Rat.sub_eq_add_neg]
    exact (hw2.add (h3'.bt hz2 hde2 (by omega)).neg).sm (by decide)
  | w :: ws, y :: ys, f1, g, c, c2, h1, h2, h3, h3', h4, h4' => by
    have hz : d * e ≠ 0 := Nat.mul_ne_zero hd he
    have hz2 : d * e2 ≠ 0 := Nat.mul_ne_zero hd he2
    have hw := h1 w (by simp)
    have hy := h2 y (by simp)
    have hp := hw.mul hy.1
    have hp2 := hw.mul hy.2
    have e1 : (w :: ws).length * (24 * m) = ws.length * (24 * m) + 24 * m := by rw [List.length_cons, Nat.succ_mul]
    have e12 : (w :: ws).length * (24 * m2) = ws.length * (24 * m2) + 24 * m2 := by rw [List.length_cons, Nat.succ_mul]
    rw [e1] at h4
    rw [e12] at h4'
    have ih := smLed_list hw2 hd he he2 hde hde2 hm hm2 ws ys (f1 + w * y.1) (g + w * y.2) (c + 24 * m) (c2 + 24 * m2) (fun w h => h1 w (by simp [h])) (fun y h => h2 y (by simp [h])) (h3.add hp) (h3'.add hp2) (by omega) (by omega)
    have d1 : d < 2 ^ 200 := Nat.lt_of_le_of_lt (Nat.le_mul_of_pos_right d (Nat.pos_of_ne_zero he)) hde
    have d2 : e < 2 ^ 200 := Nat.lt_of_le_of_lt (Nat.le_mul_of_pos_left e (Nat.pos_of_ne_zero hd)) hde
    have d3 : e2 < 2 ^ 200 := Nat.lt_of_le_of_lt (Nat.le_mul_of_pos_left e2 (Nat.pos_of_ne_zero hd)) hde2
    refine ⟨⟨(h3.bt hz hde (by omega)).sm (by decide), ?_⟩, (hw.bt hd d1 (Nat.lt_of_lt_of_le (by decide : 24 < 2 ^ 5) (p2 (by decide)))).sm (by decide), ⟨(hy.1.bt he d2 hm).sm (by decide), (hy.2.bt he2 d3 hm2).sm (by decide)⟩, ⟨(hp.bt hz hde (by omega)).sm (by decide), (hp2.bt hz2 hde2 (by omega)).sm (by decide)⟩, ?_⟩
    · show Sm (w2 - g)
      rw [Rat.sub_eq_add_neg]
      exact (hw2.add (h3'.bt hz2 hde2 (by omega)).neg).sm (by decide)
    · have e : w2 - (g + w * y.2) = w2 - g - w * y.2 := by grind
      rw [e] at ih
      exact ih
theorem smLed_of {D : Nat} {L : Lays} {ll : Lay} (h : NetB D (L ++ [ll])) (hl : L.length ≤ 3) {w : Node} (hw : WishB w) (p : Nat) : SmLed (0, w.2) (w.1.zip (outA L ll p)) := by
  have ho := outA_afB h hl p
  have hk : L.length + 1 ≤ 4 := by omega
  obtain ⟨k, hk2⟩ : ∃ k, k = L.length + 1 := ⟨_, rfl⟩
  rw [← hk2] at ho hk
  have b1 : 6 * 6 ^ k < 2 ^ 20 := by
    rw [Nat.mul_comm, ← Nat.pow_succ]
    exact Nat.lt_of_le_of_lt (p6 _) (p2l (by omega))
  have b2 : 6 * (6 ^ k * D) < 2 ^ 120 := by
    rw [← Nat.mul_assoc]
    exact Nat.lt_of_lt_of_le (Nat.mul_lt_mul'' b1 h.dl) (by rw [← Nat.pow_add]; exact p2 (by omega))
  have m1 : 2 ^ (7 * k) ≤ 2 ^ 35 := p2 (by omega)
  have m2 : 2 ^ (107 + 7 * k) ≤ 2 ^ 142 := p2 (by omega)
  have L1 : w.1.length * (24 * 2 ^ (7 * k)) ≤ 4 * (24 * 2 ^ (7 * k)) := Nat.mul_le_mul_right _ hw.1.1
  have L2 : w.1.length * (24 * 2 ^ (107 + 7 * k)) ≤ 4 * (24 * 2 ^ (107 + 7 * k)) := Nat.mul_le_mul_right _ hw.1.1
  have c1 : 4 * (24 * 2 ^ 35) < 2 ^ 200 := by decide
  have c2 : 4 * (24 * 2 ^ 142) < 2 ^ 200 := by decide
  have := smLed_list hw.2 (d := 6) (e := 6 ^ k) (m := 2 ^ (7 * k)) (e2 := 6 ^ k * D) (m2 := 2 ^ (107 + 7 * k)) (by decide) (n6 k) (Nat.mul_ne_zero (n6 k) h.d0) (Nat.lt_of_lt_of_le b1 (p2 (by decide))) (Nat.lt_of_lt_of_le b2 (p2 (by decide))) (by omega) (by omega) w.1 (outA L ll p) 0 0 0 0 hw.1.2 ho Fr.zero Fr.zero (by omega) (by omega)
  have e : w.2 - 0 = w.2 := by grind
  rw [e] at this
  exact this
end NC

set_option Elab.async false
set_option linter.all false
set_option autoImplicit false
set_option maxRecDepth 100000
set_option maxHeartbeats 4000000
set_option exponentiation.threshold 100000
namespace NC
open PySem PySem.Spec PyProof.Rows L2

/-! printed by spec18.py: the law's zeros, points. -/
section
variable {P : Program} {w : World} {K : PySem.W.Frag} {mg : Str → Option Value} {base : Heap}


/-- all sizes that the law's zero wants -/
structure ZSz (l h o p : Rat) : Prop where
  sl : Sm l
  sh : Sm h
  so : Sm o
  sp : Sm p
  sg : Sm (o + -p)
  sw : Sm (h + -l)
  ss : Sm (shareQ o (o + -p))
  sm : Sm ((h + -l) * shareQ o (o + -p))
  b0 : o.den * (o + -p).num.natAbs ≠ 0
  bl : o.den * (o + -p).num.natAbs < 2 ^ 9000
  c1 : CMulX (o.num.natAbs : Int) ((o + -p).den : Int)
  c2 : CMulX (o.den : Int) ((o + -p).num.natAbs : Int)
theorem zsz {l h o p : Rat} (z : ZOk l h o p) (h0 : o + -p ≠ 0) : ZSz l h o p := by
  obtain ⟨z1, z2, z3, z4⟩ := z
  have g := z3.add z4.neg
  have sg : Sm (o + -p) := g.sm (by decide)
  have so : Sm o := z3.sm (by decide)
  have s := shareQ_bt z3 g h0
  have w := z2.add z1.neg
  have gn : (o + -p).num ≠ 0 := fun e => h0 (Rat.num_eq_zero.mp e)
  exact ⟨z1.sm (by decide), z2.sm (by decide), so, z4.sm (by decide), sg, w.sm (by decide), s.sm (by decide), (w.mul s).sm (by decide), Nat.mul_ne_zero o.den_nz (by omega), smL_mul so.2 sg.1,
    smul (by rw [Int.natAbs_natCast]; exact Nat.lt_trans so.1 smL_lt) (by rw [Int.natAbs_natCast]; exact Nat.lt_trans sg.2 smL_lt), smul (by rw [Int.natAbs_natCast]; exact Nat.lt_trans so.2 smL_lt) (by rw [Int.natAbs_natCast]; exact Nat.lt_trans sg.1 smL_lt)⟩
theorem mix_ne {o p : Rat} (h : o.num * p.num < 0) : o + -p ≠ 0 := by
  rcases prod_neg.mp h with ⟨h1, h2⟩ | ⟨h1, h2⟩ <;> grind
theorem zF_sm {l h o p : Rat} (z : ZOk l h o p) (h0 : o + -p ≠ 0) : Sm (zF l h o p) := by
  obtain ⟨z1, z2, z3, z4⟩ := z
  exact (z1.add ((z2.add z1.neg).mul (shareQ_bt z3 (z3.add z4.neg) h0))).sm (by decide)
theorem row_short : ∀ (M : Lays) (xs : List Rat), SmV M xs → ∀ r ∈ valsZ M xs, r.length < 1000
  | [], xs, h, r, hr => by cases hr
  | l :: M, xs, h, r, hr => by
    rcases List.mem_cons.mp hr with rfl | hr
    · simpa using h.2.1
    · exact row_short M _ h.2.2 r hr
theorem valsZ_len : ∀ (M : Lays) (xs : List Rat), (valsZ M xs).length = M.length
  | [], xs => rfl
  | l :: M, xs => by show ((_ :: valsZ M _).length) = _; simp [valsZ_len M]
theorem row_mem' {M : Lays} {d : Nat} {x : Rat} (h : d < M.length) : rowD M d x ∈ valsZ M [x] := by
  unfold rowD
  have hl : d < (valsZ M [x]).length := by rw [valsZ_len]; exact h
  rw [List.getD_eq_getElem?_getD, List.getElem?_eq_getElem hl]
  exact List.getElem_mem hl
theorem at_rows {M : Lays} {d : Nat} {x : Rat} (h : d < M.length) : atI ((valsZ M [x]).map eR) (d : Int) = some (eR (rowD M d x)) := by
  unfold atI ixN rowD
  have h1 : (0 : Int) ≤ (d : Int) := by omega
  simp [h, valsZ_len]
abbrev R_law_zeros (ds : List D) (d : D) : Prop := ∃ (M : Lays) (k : Nat) (lo hi : Rat), (VOk M lo ∧ VOk M hi ∧ k < M.length) ∧ ds = [eLays M, .int (k : Int), eF lo, eF hi] ∧ d = .lst ((zerosF M k lo hi).map eF)
theorem zfound_sm {M : Lays} {k : Nat} {lo hi : Rat} (hlo : VOk M lo) (hhi : VOk M hi) (hk : k < M.length) : ∀ z ∈ zfoundF M k lo hi, Sm z := fun z hz => by
  unfold zfoundF zfind at hz
  obtain ⟨p, hp, h⟩ := List.mem_filterMap.mp hz
  split at h
  · rename_i hn
    rw [← Option.some.inj h]
    have hm := List.of_mem_zip hp
    exact zF_sm ⟨hlo.2.2.1, hhi.2.2.1, hlo.2.2.2 _ (row_mem' hk) _ hm.1, hhi.2.2.2 _ (row_mem' hk) _ hm.2⟩ (mix_ne hn)
  · cases h
theorem zfind_cons (lo hi : Rat) (p : Rat × Rat) (l : List (Rat × Rat)) : zfind lo hi (p :: l) = (if p.1.num * p.2.num < 0 then [zF lo hi p.1 p.2] else []) ++ zfind lo hi l := by
  unfold zfind
  rw [List.filterMap_cons]
  by_cases h : p.1.num * p.2.num < 0
  · simp [h]
  · simp [h]
theorem zfind_len (lo hi : Rat) (l : List (Rat × Rat)) : (zfind lo hi l).length ≤ l.length := List.length_filterMap_le _ _


theorem sort_nil : ∀ n : Nat, sortF n [] = []
  | 0 => rfl
  | _ + 1 => rfl
theorem sort_more : ∀ (n m : Nat) (l : List Rat), l.length ≤ n → l.length ≤ m → sortF n l = sortF m l
  | 0, m, l, h, h' => by
    have : l = [] := List.eq_nil_of_length_eq_zero (by omega)
    subst this
    rw [sort_nil, sort_nil]
  | n + 1, m, [], h, h' => by rw [sort_nil, sort_nil]
  | n + 1, 0, f :: r, h, h' => by simp at h'
  | n + 1, m + 1, f :: r, h, h' => by
    have hl := drop_lt (least_cons f r).1
    show leastF f (f :: r) :: sortF n _ = leastF f (f :: r) :: sortF m _
    rw [sort_more n m _ (by simp only [List.length_cons] at h hl; omega) (by simp only [List.length_cons] at h' hl; omega)]
theorem sort_fuel {n : Nat} {l : List Rat} (h : l.length ≤ n) : sortF l.length l = sortF n l := sort_more _ _ _ (Nat.le_refl _) h

theorem c__law_zeros (h : Hd P w K mg base) : FC P w K mg base 5 "_law_zeros" 4 (Pu (R_law_zeros)) := by
  refine mk_fc (N := ["_law_layers_here", "_law_depth", "_law_low", "_law_high", "_law_found", "_law_one", "_law_other", "_law_wide", "_law_gap", "_law_share_here", "_law_ordered", "_law_least", "_law_point"]) (ps := ["_law_layers_here", "_law_depth", "_law_low", "_law_high"]) (V := [3, 3, 3, 3, 3, 3, 3, 3, 3, 3, 3, 2, 3]) (Gs := ["zip", "_law_values", "_law_plus", "_law_made", "abs", "_law_times", "_law_less"]) (k := 4) (d := dd__law_zeros) h 120 82 rfl rfl rfl (by decide +kernel) rfl (fun _ _ _ _ _ _ us hl => match us, hl with | [_, _, _, _], _ => rfl) fun X Z ds μ r μ' C hR hx hl => ?_
  obtain ⟨rfl, rfl, M, k, lo, hi, ⟨hlo, hhi, hk⟩, rfl, rfl⟩ := hR
  show DB K X Z [some (eLays M), some (.int (k : Int)), some (eF lo), some (eF hi), none, none, none, none, none, none, none, none, none] ([]) (defBody (top 143)) _
  refine db_own 4 C rfl rfl (dl_lst da_nil) (fun q0 hq0 => ?_)
  have r1 := row_mem' (x := lo) hk
  have r2 := row_mem' (x := hi) hk
  have n1 := row_short M [lo] hlo.1 _ r1
  have hlen : ((rowD M k lo).zip (rowD M k hi)).length < 1000 := by rw [List.length_zip]; omega
  have hfl : (zfoundF M k lo hi).length < 1000 := Nat.lt_of_le_of_lt (zfind_len _ _ _) hlen
  refine db_forS (S := List Rat) ((rowD M k lo).zip (rowD M k hi)) (fun q => .tup [eF q.1, eF q.2]) (fun acc r => acc ++ zfind lo hi r = zfoundF M k lo hi) (fun _ => [some (eLays M), some (.int (k : Int)), some (eF lo), some (eF hi), some (.ref q0), none, none, none, none, none, none, none, none]) (fun acc => [(q0, .lst (acc.map eF))]) [] C (di_is (di_zip 0 C rfl (h.free 14 _ rfl) (de_ixL C (de_callP 1 C (c__law_values h) rfl (da_cons (de_var 0 C rfl rfl rfl) (da_cons (de_tup (da_cons (de_var 2 C rfl rfl rfl) da_nil)) da_nil)) ⟨M, [lo], .tup [eF lo], ⟨rfl, hlo.1, by have := hlo.2.1; omega⟩, rfl, rfl⟩ rfl (by omega)) (de_var 1 C rfl rfl rfl) (by exact at_rows hk)) (de_ixL C (de_callP 1 C (c__law_values h) rfl (da_cons (de_var 0 C rfl rfl rfl) (da_cons (de_tup (da_cons (de_var 3 C rfl rfl rfl) da_nil)) da_nil)) ⟨M, [hi], .tup [eF hi], ⟨rfl, hhi.1, by have := hhi.2.1; omega⟩, rfl, rfl⟩ rfl (by omega)) (de_var 1 C rfl rfl rfl) (by exact at_rows hk)) rfl rfl) (zip_map _ _ _ _)) rfl (.some (.some (.some (.some (.some (.none (.none (.none (.none (.none (.none (.none (.none .nil))))))))))))) (by exact rfl) (fun acc a r hJ ha => ?_) (fun acc hJ => ?_)
  · have ha1 : a.1 ∈ rowD M k lo := (List.of_mem_zip ha).1
    have ha2 : a.2 ∈ rowD M k hi := (List.of_mem_zip ha).2
    have z : ZOk lo hi a.1 a.2 := ⟨hlo.2.2.1, hhi.2.2.1, hlo.2.2.2 _ r1 _ ha1, hhi.2.2.2 _ r2 _ ha2⟩
    have s1 : Sm a.1 := z.2.2.1.sm (by decide)
    have s2 : Sm a.2 := z.2.2.2.sm (by decide)
    rw [zfind_cons] at hJ
    have hal : acc.length ≤ (zfoundF M k lo hi).length := by rw [← hJ, List.length_append]; omega
    refine ⟨_, _, _, (dg_tup C (dgs_cons (dg_name 5 C rfl rfl) (dgs_cons (dg_name 6 C rfl rfl) dgs_nil)) rfl), ?_⟩
    by_cases hc : a.1.num * a.2.num < 0
    · have zz := zsz z (mix_ne hc)
      rw [if_pos hc] at hJ
      refine db_if1 (dt_is (dt_cp (de_mul (de_ixT C (de_var 5 C rfl rfl rfl) de_int rfl) (de_ixT C (de_var 6 C rfl rfl rfl) de_int rfl) (by exact sm_nn s1 s2)) de_int cp_lt) (by simp; exact hc)) ?_
      refine db_set 7 C rfl rfl (de_callP 2 C (c__law_plus h) rfl (da_cons (de_var 3 C rfl rfl rfl) (da_cons (de_is (de_tup (da_cons (de_sub de_int (de_ixT C (de_var 2 C rfl rfl rfl) de_int rfl)) (da_cons (de_ixT C (de_var 2 C rfl rfl rfl) de_int rfl) da_nil))) eF_negl) da_nil)) ⟨hi, -lo, ⟨zz.sh, zz.sl.neg⟩, rfl, rfl⟩ rfl (by omega)) ?_
      refine db_set 8 C rfl rfl (de_callP 2 C (c__law_plus h) rfl (da_cons (de_var 5 C rfl rfl rfl) (da_cons (de_is (de_tup (da_cons (de_sub de_int (de_ixT C (de_var 6 C rfl rfl rfl) de_int rfl)) (da_cons (de_ixT C (de_var 6 C rfl rfl rfl) de_int rfl) da_nil))) eF_negl) da_nil)) ⟨a.1, -a.2, ⟨s1, s2.neg⟩, rfl, rfl⟩ rfl (by omega)) ?_
      show DB K X Z _ _ _ _
      refine db_set 9 C rfl rfl (de_is (de_callP 3 C (c__law_made h) rfl (da_cons (de_mul (de_abs 4 C rfl (h.free 1 _ rfl) (de_ixT C (de_var 5 C rfl rfl rfl) de_int rfl)) (de_ixT C (de_var 8 C rfl rfl rfl) de_int rfl) (by exact zz.c1)) (da_cons (de_mul (de_ixT C (de_var 5 C rfl rfl rfl) de_int rfl) (de_abs 4 C rfl (h.free 1 _ rfl) (de_ixT C (de_var 8 C rfl rfl rfl) de_int rfl)) (by exact zz.c2)) da_nil)) ⟨_, a.1.den * (a.1 + -a.2).num.natAbs, zz.b0, zz.bl, by rw [Int.natCast_mul], (norm_mk _).symm⟩ rfl (by omega)) (by exact (rfl : _ = eF (shareQ a.1 (a.1 + -a.2))))) ?_
      refine db_app 0 C (de_var 4 C rfl rfl rfl) rfl (de_callP 2 C (c__law_plus h) rfl (da_cons (de_var 2 C rfl rfl rfl) (da_cons (de_callP 5 C (c__law_times h) rfl (da_cons (de_var 7 C rfl rfl rfl) (da_cons (de_var 9 C rfl rfl rfl) da_nil)) ⟨_, _, ⟨zz.sw, zz.ss⟩, rfl, rfl⟩ rfl (by omega)) da_nil)) ⟨lo, _, ⟨zz.sl, zz.sm⟩, rfl, rfl⟩ rfl (by omega)) rfl (by simp; omega) ?_
      exact db_nil (db_nil ⟨acc ++ [zF lo hi a.1 a.2], by rw [List.append_assoc]; exact hJ, (.some (.some (.some (.some (.some (.none (.none (.none (.none (.none (.none (.none (.none .nil))))))))))))), by show [(q0, Cell.lst (acc.map eF ++ [eF (zF lo hi a.1 a.2)]))] = _; simp⟩)
    · rw [if_neg hc] at hJ
      refine db_skip (dt_is (dt_cp (de_mul (de_ixT C (de_var 5 C rfl rfl rfl) de_int rfl) (de_ixT C (de_var 6 C rfl rfl rfl) de_int rfl) (by exact sm_nn s1 s2)) de_int cp_lt) (by simp; omega)) ?_
      exact db_nil ⟨acc, hJ, (.some (.some (.some (.some (.some (.none (.none (.none (.none (.none (.none (.none (.none .nil))))))))))))), rfl⟩
  have hacc : acc = zfoundF M k lo hi := by rw [← hJ]; exact (List.append_nil _).symm
  rw [hacc]
  refine db_freeze (xs := (zfoundF M k lo hi).map eF) 4 0 (q := q0) rfl rfl hq0 ?_
  refine db_own 10 C rfl rfl (dl_lst da_nil) (fun q1 hq1 => ?_)
  refine db_whileS (S := List Rat × List Rat) (fun z n => z.1 ++ sortF z.2.length z.2 = zerosF M k lo hi ∧ n = z.2.length ∧ z.1.length + z.2.length < 1000 ∧ ∀ p ∈ z.2, Sm p) (fun z => [some (eLays M), some (.int (k : Int)), some (eF lo), some (eF hi), some (.lst (z.2.map eF)), none, none, none, none, none, some (.ref q1), none, none]) (fun z => [(q1, .lst (z.1.map eF))]) ([], zfoundF M k lo hi) (zfoundF M k lo hi).length C rfl (.some (.some (.some (.some (.some (.none (.none (.none (.none (.none (.some (.none (.none .nil))))))))))))) (by exact ⟨rfl, rfl, by simpa using hfl, zfound_sm hlo hhi hk⟩) (fun z n hJ => ⟨_, (dt_cp (de_var 4 C rfl rfl rfl) (de_lst (dl_lst da_nil)) (cp_neL (xs := z.2) (ys := []) C)), fun hu => ?_, fun hu => ?_⟩)
  · obtain ⟨dn, fs⟩ := z
    obtain ⟨j1, j2, j3, j4⟩ := hJ
    simp only at j1 j2 j3 j4 hu
    cases fs with
    | nil => simp at hu
    | cons f0 fr =>
      refine db_set 11 C rfl rfl (de_ixL C (de_var 4 C rfl rfl rfl) de_int (by exact at_zero _ _)) ?_
      refine db_forS (S := Rat) (f0 :: fr) eF (fun m r => leastF m r = leastF f0 (f0 :: fr) ∧ Sm m ∧ ∀ p ∈ r, Sm p) (fun m => [some (eLays M), some (.int (k : Int)), some (eF lo), some (eF hi), some (.lst ((f0 :: fr).map eF)), none, none, none, none, none, some (.ref q1), some (eF m), none]) (fun _ => [(q1, .lst (dn.map eF))]) f0 C (di_list C (de_var 4 C rfl rfl rfl)) rfl (.some (.some (.some (.some (.some (.none (.none (.none (.none (.none (.some (.some (.none .nil))))))))))))) (by exact ⟨rfl, j4 f0 (by simp), j4⟩) (fun m a r hJ ha => ?_) (fun m hJ => ?_)
      · obtain ⟨k1, k2, k3⟩ := hJ
        have sa := k3 a (by simp)
        refine ⟨_, _, _, (dg_name 12 C rfl rfl), ?_⟩
        have k1 : leastF (if a < m then a else m) r = leastF f0 (f0 :: fr) := k1
        by_cases hlt : a < m
        · rw [if_pos hlt] at k1
          refine db_if1 (dt_is (dt_val (de_callP 6 C (c__law_less h) rfl (da_cons (de_var 12 C rfl rfl rfl) (da_cons (de_var 11 C rfl rfl rfl) da_nil)) ⟨a, m, ⟨sa, k2⟩, rfl, rfl⟩ rfl (by omega))) (by simp; exact hlt)) ?_
          refine db_set 11 C rfl rfl (de_var 12 C rfl rfl rfl) ?_
          exact db_nil (db_nil ⟨a, ⟨k1, sa, fun p hp => k3 p (by simp [hp])⟩, (.some (.some (.some (.some (.some (.none (.none (.none (.none (.none (.some (.some (.none .nil))))))))))))), rfl⟩)
        · rw [if_neg hlt] at k1
          refine db_skip (dt_is (dt_val (de_callP 6 C (c__law_less h) rfl (da_cons (de_var 12 C rfl rfl rfl) (da_cons (de_var 11 C rfl rfl rfl) da_nil)) ⟨a, m, ⟨sa, k2⟩, rfl, rfl⟩ rfl (by omega))) (by simp; exact hlt)) ?_
          exact db_nil ⟨m, ⟨k1, k2, fun p hp => k3 p (by simp [hp])⟩, (.some (.some (.some (.some (.some (.none (.none (.none (.none (.none (.some (.some (.none .nil))))))))))))), rfl⟩
      have hm : m = leastF f0 (f0 :: fr) := hJ.1
      rw [hm]
      obtain ⟨mm, hmm⟩ : ∃ mm, mm = leastF f0 (f0 :: fr) := ⟨_, rfl⟩
      rw [← hmm]
      refine db_app 0 C (de_var 10 C rfl rfl rfl) rfl (de_var 11 C rfl rfl rfl) rfl (by simp; omega) ?_
      refine db_setDcF (V' := [0, 0, 0, 0, 0, 0, 0, 0, 0, 0, 0, 1, 3]) (Gs' := []) (own := [("_law_point", 12)]) 4 C (by decide +kernel) rfl rfl (by simp) (dc_filter (f0 :: fr) eF eF (fun p => !decide (p = mm)) [0, 0, 0, 0, 0, 0, 0, 0, 0, 0, 0, 1, 3] [] [("_law_point", 12)] C  (by decide +kernel) (by decide +kernel) (di_list C (de_var 4 C rfl rfl rfl)) (by simp at j3 ⊢; omega) fun a ha => ⟨_, _, (by decide), fun _ C' => ⟨(dg_name 12 C' rfl rfl), (dt_cp (de_var 12 C' rfl rfl rfl) (de_var 11 C' rfl rfl rfl) (cp_neF C')), fun hf => (de_var 12 C' rfl rfl rfl)⟩⟩) ?_
      have hd := drop_lt (m := mm) (l := f0 :: fr) (by rw [hmm]; exact (least_cons f0 fr).1)
      refine db_nil ⟨(dn ++ [mm], dropL mm (f0 :: fr)), (dropL mm (f0 :: fr)).length, by rw [j2]; exact hd, ⟨?_, rfl, by simp at j3 hd ⊢; omega, fun p hp => j4 p (mem_drop.mp hp).1⟩, (.some (.some (.some (.some (.some (.none (.none (.none (.none (.none (.some (.none (.none .nil))))))))))))), by simp⟩
      have e1 : sortF (f0 :: fr).length (f0 :: fr) = mm :: sortF fr.length (dropL mm (f0 :: fr)) := by rw [hmm]; rfl
      rw [e1] at j1
      rw [← j1, List.append_assoc]
      rw [show sortF (dropL mm (f0 :: fr)).length (dropL mm (f0 :: fr)) = sortF fr.length (dropL mm (f0 :: fr)) from sort_fuel (by simp only [List.length_cons] at hd; omega)]
      rfl
  · obtain ⟨j1, j2, j3, j4⟩ := hJ
    have hz : z.2 = [] := by simpa using hu
    rw [hz] at j1
    have e : z.1 = zerosF M k lo hi := by rw [← j1]; exact (List.append_nil _).symm
    rw [e]
    refine db_freeze (xs := (zerosF M k lo hi).map eF) 10 0 (q := q1) rfl rfl hq1 ?_
    exact db_ret (de_var 10 C rfl rfl rfl) ⟨(by rfl), (by first | exact ⟨[], rfl⟩ | exact ⟨[_], rfl⟩ | exact ⟨[_, _], rfl⟩ | exact ⟨[], by simp⟩)⟩
end
end NC

set_option Elab.async false
set_option linter.all false
set_option autoImplicit false
set_option maxRecDepth 100000
set_option maxHeartbeats 4000000
set_option exponentiation.threshold 100000
namespace NC
open PySem PySem.Spec PyProof.Rows L2

/-! printed by spec19.py: the law's points. -/
section
variable {P : Program} {w : World} {K : PySem.W.Frag} {mg : Str → Option Value} {base : Heap}


section
variable {X : Cx} {Z : Zed} {ρ : Rho} {μ μ1 μ2 : Mu} {c : Expr} {body rest ss : List Stmt} {Φ Φ' : Post} {pos : Pos} {u : Bool}
theorem db_post (h : DB K X Z ρ μ ss Φ) (h1 : ∀ ρ' μ', Φ.nx ρ' μ' → Φ'.nx ρ' μ') (h2 : ∀ d μ', Φ.rt d μ' → Φ'.rt d μ') : DB K X Z ρ μ ss Φ' := fun σ G H S D q1 q2 =>
  h σ G H S D (fun ρ' μ' σ' G' H' z e => q1 ρ' μ' σ' G' H' (h1 _ _ z) e) fun d μ' v ρ' σ' G' H' z e => q2 d μ' v ρ' σ' G' H' (h2 _ _ z) e
/-- an if whose body changes cells alone -/
theorem db_ifJ (hc : DT K X Z ρ μ c u μ1) (hb : u = true → DB K X Z ρ μ1 body ⟨fun ρ' μ' => ρ' = ρ ∧ μ' = μ2, Φ.rt⟩) (hs : u = false → μ1 = μ2) (hr : DB K X Z ρ μ2 rest Φ) : DB K X Z ρ μ (.If c body [] pos :: rest) Φ :=
  db_if hc (fun e => db_post (hb e) (fun ρ' μ' z => by obtain ⟨rfl, rfl⟩ := z; exact hr) fun _ _ z => z) fun e => db_nil (by rw [hs e]; exact hr)
end
/-- all points on the way are good -/
def PtsWOk (L : Lays) (ll : Lay) (lo hi : Rat) : Prop := ∀ d, d ≤ L.length → (∀ p ∈ ptsF (L ++ [ll]) lo hi d, VOk (L ++ [ll]) p) ∧ (ptsF (L ++ [ll]) lo hi d).length ≤ 10000
abbrev R_law_points (ds : List D) (d : D) : Prop := ∃ (L : Lays) (ll : Lay) (lo hi : Rat), (PtsWOk L ll lo hi ∧ L.length ≤ 100) ∧ ds = [eLN L ll, eBox lo hi] ∧ d = .lst ((ptsF (L ++ [ll]) lo hi L.length).map eF)
theorem at_fr {xs : List Rat} {i : Nat} {q : Rat} (h : xs[i]? = some q) : atI (xs.map eF) (i : Int) = some (eF q) := by
  unfold atI ixN
  have hl := (List.getElem?_eq_some_iff.mp h).1
  have he := (List.getElem?_eq_some_iff.mp h).2
  have h1 : (0 : Int) ≤ (i : Int) := by omega
  simp [hl, he]
theorem at_fr1 {xs : List Rat} {i : Nat} {q : Rat} (h : xs[i + 1]? = some q) : atI (xs.map eF) ((i : Int) + 1) = some (eF q) := by
  have := at_fr h
  rw [show (((i + 1 : Nat)) : Int) = (i : Int) + 1 from by omega] at this
  exact this
theorem zipIdx_drop {xs : List Rat} {k : Nat} {p : Rat} {r : List Rat} (h : xs.drop k = p :: r) : xs[k]? = some p ∧ r = xs.drop (k + 1) := by
  have hk : k < xs.length := by
    have := congrArg List.length h
    simp at this
    omega
  rw [List.drop_eq_getElem_cons hk] at h
  obtain ⟨h1, h2⟩ := List.cons.inj h
  exact ⟨by rw [List.getElem?_eq_getElem hk, h1], h2.symm⟩

theorem c__law_points (h : Hd P w K mg base) : FC P w K mg base 6 "_law_points" 2 (Pu (R_law_points)) := by
  refine mk_fc (N := ["_law_nets", "_law_box_here", "_law_points_here", "_law_layers_here", "_law_depth", "_law_more", "_law_k", "_law_point"]) (ps := ["_law_nets", "_law_box_here"]) (V := [3, 3, 3, 3, 3, 3, 3, 3]) (Gs := ["range", "len", "enumerate", "_law_zeros"]) (k := 5) (d := dd__law_points) h 121 83 rfl rfl rfl (by decide +kernel) rfl (fun _ _ _ _ _ _ us hl => match us, hl with | [_, _], _ => rfl) fun X Z ds μ r μ' C hR hx hl => ?_
  obtain ⟨rfl, rfl, L, ll, lo, hi, ⟨hw, hL⟩, rfl, rfl⟩ := hR
  show DB K X Z [some (eLN L ll), some (eBox lo hi), none, none, none, none, none, none] ([]) (defBody (top 144)) _
  refine db_own 2 C rfl rfl (dl_lst (da_cons (de_ixT C (de_ixT C (de_var 1 C rfl rfl rfl) de_int rfl) de_int rfl) da_nil)) (fun q0 hq0 => ?_)
  refine db_ifJ (u := !decide (lo = hi)) (μ2 := [(q0, .lst ((ptsF (L ++ [ll]) lo hi 0).map eF))]) (dt_cp (de_ixT C (de_ixT C (de_var 1 C rfl rfl rfl) de_int rfl) de_int rfl) (de_ixT C (de_ixT C (de_var 1 C rfl rfl rfl) de_int rfl) de_int rfl) (cp_neF C)) (fun hc => ?_) (fun hc => ?_) ?_
  · have e0 : ptsF (L ++ [ll]) lo hi 0 = [lo, hi] := if_neg (by simpa using hc)
    rw [e0]
    refine db_app 0 C (de_var 2 C rfl rfl rfl) rfl (de_ixT C (de_ixT C (de_var 1 C rfl rfl rfl) de_int rfl) de_int rfl) rfl (by simp) ?_
    exact db_nil ⟨rfl, rfl⟩
  · have e0 : ptsF (L ++ [ll]) lo hi 0 = [lo] := if_pos (by simpa using hc)
    rw [e0]; rfl
  refine db_freeze (xs := (ptsF (L ++ [ll]) lo hi 0).map eF) 2 0 (q := q0) rfl rfl hq0 ?_
  refine db_forS (S := Bool) [()] (fun _ => eLays (L ++ [ll])) (fun z r => z = r.isEmpty ∧ r.length ≤ 1) (fun z => [some (eLN L ll), some (eBox lo hi), some (.lst ((ptsF (L ++ [ll]) lo hi (bif z then L.length else 0)).map eF)), none, none, none, none, none]) (fun _ => []) false C (di_list C (de_var 0 C rfl rfl rfl)) rfl (.some (.some (.some (.none (.none (.none (.none (.none .nil)))))))) (by exact ⟨rfl, by simp⟩) (fun z a r hJ ha => ?_) (fun z hJ => ?_)
  · obtain ⟨h1, h2⟩ := hJ
    have hr : r = [] := List.eq_nil_of_length_eq_zero (by simpa using h2)
    have hz0 : z = false := by simpa using h1
    subst hr hz0
    refine ⟨_, _, _, (dg_name 3 C rfl rfl), ?_⟩
    refine db_forS (S := List Rat) (List.range L.length) (fun (d : Nat) => .int (d : Int)) (fun ps r => ∃ d, d + r.length = L.length ∧ r = List.range' d r.length ∧ ps = ptsF (L ++ [ll]) lo hi d) (fun ps => [some (eLN L ll), some (eBox lo hi), some (.lst (ps.map eF)), some (eLays (L ++ [ll])), none, none, none, none]) (fun _ => []) (ptsF (L ++ [ll]) lo hi 0) C (di_is (di_range (n := L.length) 0 C rfl (h.free 16 _ rfl) (de_sub (de_len 1 C rfl (h.free 0 _ rfl) (de_var 3 C rfl rfl rfl) rfl) de_int) (by simp) (by first | rfl | assumption | omega | decide | simp)) (by rfl)) rfl (.some (.some (.some (.some (.none (.none (.none (.none .nil)))))))) (by exact ⟨0, by simp, by rw [List.length_range, List.range_eq_range'], rfl⟩) (fun ps a r hJ ha => ?_) (fun ps hJ => ?_)
    · obtain ⟨d, d1, d2, d3⟩ := hJ
      rw [List.length_cons, List.range'_succ] at d2
      obtain ⟨d4, d5⟩ := List.cons.inj d2
      subst d4 d3
      simp only [List.length_cons] at d1
      obtain ⟨v1, v2⟩ := hw a (by omega)
      obtain ⟨v3, v4⟩ := hw (a + 1) (by omega)
      obtain ⟨ps, hps⟩ : ∃ ps, ps = ptsF (L ++ [ll]) lo hi a := ⟨_, rfl⟩
      have hcut : ptsF (L ++ [ll]) lo hi (a + 1) = cutF (L ++ [ll]) a ps := by rw [hps]; rfl
      rw [hcut] at v4
      rw [← hps] at v1 v2 ⊢
      refine ⟨_, _, _, (dg_name 4 C rfl rfl), ?_⟩
      refine db_own 5 C rfl rfl (dl_lst da_nil) (fun q1 hq1 => ?_)
      refine db_forS (S := List Rat) ps.zipIdx (fun q => .tup [.int (q.2 : Int), eF q.1]) (fun acc r => ∃ k, k + r.length = ps.length ∧ r = (ps.drop k).zipIdx k ∧ acc ++ cutF (L ++ [ll]) a (ps.drop k) = cutF (L ++ [ll]) a ps) (fun _ => [some (eLN L ll), some (eBox lo hi), some (.lst (ps.map eF)), some (eLays (L ++ [ll])), some (.int (a : Int)), some (.ref q1), none, none]) (fun acc => [(q1, .lst (acc.map eF))]) [] C (di_is (di_enum 2 C rfl (h.free 15 _ rfl) (de_var 2 C rfl rfl rfl) rfl) (enum_map _ _)) rfl (.some (.some (.some (.some (.some (.some (.none (.none .nil)))))))) (by exact ⟨0, by simp, rfl, rfl⟩) (fun acc x r hJ hx => ?_) (fun acc hJ => ?_)
      · obtain ⟨k, k1, k2, k3⟩ := hJ
        cases hdp : ps.drop k with
        | nil => rw [hdp] at k2; cases k2
        | cons p rest =>
          rw [hdp, List.zipIdx_cons] at k2
          obtain ⟨x1, x2⟩ := List.cons.inj k2
          subst x1
          obtain ⟨g1, g2⟩ := zipIdx_drop hdp
          rw [hdp] at k3
          have hlen := congrArg List.length k3
          have vp := v1 p (List.mem_of_getElem? g1)
          refine ⟨_, _, _, (dg_tup C (dgs_cons (dg_name 6 C rfl rfl) (dgs_cons (dg_name 7 C rfl rfl) dgs_nil)) rfl), ?_⟩
          cases rest with
          | nil =>
            have e1 : cutF (L ++ [ll]) a [p] = [p] := rfl
            rw [e1] at k3 hlen
            simp only [List.length_append, List.length_cons, List.length_nil] at hlen
            refine db_app 0 C (de_var 5 C rfl rfl rfl) rfl (de_var 7 C rfl rfl rfl) rfl (by simp; omega) ?_
            have hk : ¬ (k + 1 < ps.length) := by have := congrArg List.length g2; simp at this; omega
            refine db_skip (dt_is (dt_cp (de_add (de_var 6 C rfl rfl rfl) de_int) (de_len 1 C rfl (h.free 0 _ rfl) (de_var 2 C rfl rfl rfl) rfl) cp_lt) (by simp; omega)) ?_
            exact db_nil ⟨acc ++ [p], ⟨k + 1, by simp at k1; omega, by rw [← g2, x2], by rw [← g2, k3.symm]; exact List.append_nil _⟩, (.some (.some (.some (.some (.some (.some (.none (.none .nil)))))))), by show [(q1, Cell.lst (acc.map eF ++ [eF p]))] = _; simp⟩
          | cons q2 r2 =>
            have e1 : cutF (L ++ [ll]) a (p :: q2 :: r2) = p :: (zerosF (L ++ [ll]) a p q2 ++ cutF (L ++ [ll]) a (q2 :: r2)) := rfl
            rw [e1] at k3 hlen
            simp only [List.length_append, List.length_cons] at hlen
            have hq : ps[k + 1]? = some q2 := by have h9 := zipIdx_drop g2.symm; exact h9.1
            have vq := v1 q2 (List.mem_of_getElem? hq)
            refine db_app 0 C (de_var 5 C rfl rfl rfl) rfl (de_var 7 C rfl rfl rfl) rfl (by simp; omega) ?_
            have hk : k + 1 < ps.length := (List.getElem?_eq_some_iff.mp hq).1
            refine db_if1 (dt_is (dt_cp (de_add (de_var 6 C rfl rfl rfl) de_int) (de_len 1 C rfl (h.free 0 _ rfl) (de_var 2 C rfl rfl rfl) rfl) cp_lt) (by simp; omega)) ?_
            refine db_ext 0 C (de_var 5 C rfl rfl rfl) rfl (de_callP 3 C (c__law_zeros h) rfl (da_cons (de_var 3 C rfl rfl rfl) (da_cons (de_var 4 C rfl rfl rfl) (da_cons (de_var 7 C rfl rfl rfl) (da_cons (de_ixL C (de_var 2 C rfl rfl rfl) (de_add (de_var 6 C rfl rfl rfl) de_int) (by exact at_fr1 hq)) da_nil)))) ⟨L ++ [ll], a, p, q2, ⟨vp, vq, by simp; omega⟩, rfl, rfl⟩ rfl (by omega)) rfl (by simp; omega) ?_
            exact db_nil (db_nil ⟨acc ++ p :: zerosF (L ++ [ll]) a p q2, ⟨k + 1, by simp at k1; omega, by rw [← g2, x2], by rw [← g2, List.append_assoc]; exact k3⟩, (.some (.some (.some (.some (.some (.some (.none (.none .nil)))))))), by show [(q1, Cell.lst (acc.map eF ++ [eF p] ++ (zerosF (L ++ [ll]) a p q2).map eF))] = _; simp⟩)
      obtain ⟨k, k1, k2, k3⟩ := hJ
      have hk : ps.drop k = [] := List.drop_of_length_le (by simp at k1; omega)
      rw [hk] at k3
      have e : acc = ptsF (L ++ [ll]) lo hi (a + 1) := by rw [hcut, ← k3]; exact (List.append_nil _).symm
      rw [e]
      refine db_freeze (xs := (ptsF (L ++ [ll]) lo hi (a + 1)).map eF) 5 0 (q := q1) rfl rfl hq1 ?_
      refine db_set 2 C rfl rfl (de_var 5 C rfl rfl rfl) ?_
      exact db_nil ⟨ptsF (L ++ [ll]) lo hi (a + 1), ⟨a + 1, by omega, d5, rfl⟩, (.some (.some (.some (.some (.none (.none (.none (.none .nil)))))))), rfl⟩
    obtain ⟨d, d1, d2, d3⟩ := hJ
    simp only [List.length_nil, Nat.add_zero] at d1
    rw [d3, d1]
    exact db_nil ⟨true, ⟨rfl, by simp⟩, (.some (.some (.some (.none (.none (.none (.none (.none .nil)))))))), rfl⟩
  have hz0 : z = true := by simpa using hJ.1
  subst hz0
  show DB K X Z [some (eLN L ll), some (eBox lo hi), some (.lst ((ptsF (L ++ [ll]) lo hi L.length).map eF)), none, none, none, none, none] [] _ _
  exact db_ret (de_var 2 C rfl rfl rfl) ⟨(by rfl), (by first | exact ⟨[], rfl⟩ | exact ⟨[_], rfl⟩ | exact ⟨[_, _], rfl⟩ | exact ⟨[], by simp⟩)⟩
end
end NC

set_option Elab.async false
set_option linter.all false
set_option autoImplicit false
set_option maxRecDepth 100000
set_option maxHeartbeats 4000000
set_option exponentiation.threshold 100000
namespace NC
open PySem PySem.Spec PyProof.Rows L2

/-! printed by spec20.py: the law's wishes. -/
section
variable {P : Program} {w : World} {K : PySem.W.Frag} {mg : Str → Option Value} {base : Heap}


/-! ### whether some point keeps all wishes -/
abbrev R_law_kept (ds : List D) (d : D) : Prop := ∃ (L : Lays) (ll : Lay) (ws : List Node) (l h : Rat), KeptOk L ll ws l h ∧ ds = [eLays (L ++ [ll]), eWs ws, eF l, eF h] ∧ d = .bl (keptF L ll ws l h)
theorem dec_num {q : Rat} : decide ((0 : Int) < q.num) = decide (0 < q) := by
  by_cases h : 0 < q
  · simp [h, num_pos_iff.mpr h]
  · have : ¬ 0 < q.num := fun z => h (num_pos_iff.mp z)
    simp [h, this]
theorem at_pair {a b : D} {u : Bool} : atI [a, b] (b2n u) = some (if u = true then b else a) := by cases u <;> rfl

theorem c__law_kept (h : Hd P w K mg base) : FC P w K mg base 7 "_law_kept" 4 (Pu (R_law_kept)) := by
  refine mk_fc (N := ["_law_layers_here", "_law_wishes", "_law_low", "_law_high", "_law_wish_here", "_law_one", "_law_other", "_law_wide", "_law_gap", "_law_share_here", "_law_point"]) (ps := ["_law_layers_here", "_law_wishes", "_law_low", "_law_high"]) (V := [3, 3, 3, 3, 3, 3, 3, 3, 3, 3, 3]) (Gs := ["_law_over", "_law_plus", "_law_made", "abs", "_law_times", "int"]) (k := 6) (d := dd__law_kept) h 127 89 rfl rfl rfl (by decide +kernel) rfl (fun _ _ _ _ _ _ us hl => match us, hl with | [_, _, _, _], _ => rfl) fun X Z ds μ r μ' C hR hx hl => ?_
  obtain ⟨rfl, rfl, L, ll, ws, lo, hi, hk, rfl, rfl⟩ := hR
  show DB K X Z [some (eLays (L ++ [ll])), some (eWs ws), some (eF lo), some (eF hi), none, none, none, none, none, none, none] ([]) (defBody (top 150)) _
  refine db_forS (S := Rat × Rat) ws eSum (fun z r => KeptOk L ll r z.1 z.2 ∧ keptF L ll r z.1 z.2 = keptF L ll ws lo hi) (fun z => [some (eLays (L ++ [ll])), some (eWs ws), some (eF z.1), some (eF z.2), none, none, none, none, none, none, none]) (fun _ => []) (lo, hi) C (di_list C (de_var 1 C rfl rfl rfl)) rfl (.some (.some (.some (.some (.none (.none (.none (.none (.none (.none (.none .nil))))))))))) (by exact ⟨hk, rfl⟩) (fun z w0 r hJ ha => ?_) (fun z hJ => ?_)
  · obtain ⟨l, h0⟩ := z
    obtain ⟨⟨sw, kl, kh, kr⟩, hE⟩ := hJ
    simp only at kl kh kr hE
    rw [keptF] at hE
    obtain ⟨o, ho⟩ : ∃ o, o = overF L ll w0 l := ⟨_, rfl⟩
    obtain ⟨p, hp⟩ : ∃ p, p = overF L ll w0 h0 := ⟨_, rfl⟩
    rw [← ho, ← hp] at hE kr
    have bo := kl.2.2
    have bp := kh.2.2
    rw [← ho] at bo
    rw [← hp] at bp
    refine ⟨_, _, _, (dg_name 4 C rfl rfl), ?_⟩
    refine db_set 5 C rfl rfl (de_callP 0 C (c__law_over h) rfl (da_cons (de_var 0 C rfl rfl rfl) (da_cons (de_var 4 C rfl rfl rfl) (da_cons (de_var 2 C rfl rfl rfl) da_nil))) ⟨L, ll, w0, l, ⟨kl.1, sw⟩, rfl, by exact congrArg eF ho⟩ rfl (by omega)) ?_
    refine db_set 6 C rfl rfl (de_callP 0 C (c__law_over h) rfl (da_cons (de_var 0 C rfl rfl rfl) (da_cons (de_var 4 C rfl rfl rfl) (da_cons (de_var 3 C rfl rfl rfl) da_nil))) ⟨L, ll, w0, h0, ⟨kh.1, sw⟩, rfl, by exact congrArg eF hp⟩ rfl (by omega)) ?_
    by_cases hc : 0 < o ∧ 0 < p
    · rw [if_pos hc] at hE
      refine db_if1 (dt_is (dw_and (dt_cp (de_ixT C (de_var 5 C rfl rfl rfl) de_int rfl) de_int cp_gt) fun hc0 => (dw_and1 (dt_cp (de_ixT C (de_var 6 C rfl rfl rfl) de_int rfl) de_int cp_gt))).dt (by rw [dec_num, dec_num]; simp [hc.1, hc.2])) ?_
      rw [← hE]
      exact db_ret de_bl ⟨(by rfl), (by first | exact ⟨[], rfl⟩ | exact ⟨[_], rfl⟩ | exact ⟨[_, _], rfl⟩ | exact ⟨[], by simp⟩)⟩
    rw [if_neg hc] at hE
    have kr := kr hc
    refine db_skip (dt_is (dw_and (dt_cp (de_ixT C (de_var 5 C rfl rfl rfl) de_int rfl) de_int cp_gt) fun hc0 => (dw_and1 (dt_cp (de_ixT C (de_var 6 C rfl rfl rfl) de_int rfl) de_int cp_gt))).dt (by rw [dec_num, dec_num]; simp; intro q; exact fun z => hc ⟨q, z⟩)) ?_
    by_cases hm : 0 < o ∨ 0 < p
    · have h0n : o + -p ≠ 0 := by
        intro e
        have e2 : o = p := by grind
        rw [e2] at hm hc
        rcases hm with hm | hm <;> exact hc ⟨hm, hm⟩
      have zz := zsz (l := l) (h := h0) ⟨kl.2.1, kh.2.1, bo, bp⟩ h0n
      refine db_if1 (dt_is (dw_or (dt_cp (de_ixT C (de_var 5 C rfl rfl rfl) de_int rfl) de_int cp_gt) fun hc0 => (dw_or1 (dt_cp (de_ixT C (de_var 6 C rfl rfl rfl) de_int rfl) de_int cp_gt))).dt (by rw [dec_num, dec_num]; simp; exact hm)) ?_
      refine db_set 7 C rfl rfl (de_callP 1 C (c__law_plus h) rfl (da_cons (de_var 3 C rfl rfl rfl) (da_cons (de_is (de_tup (da_cons (de_sub de_int (de_ixT C (de_var 2 C rfl rfl rfl) de_int rfl)) (da_cons (de_ixT C (de_var 2 C rfl rfl rfl) de_int rfl) da_nil))) eF_negl) da_nil)) ⟨h0, -l, ⟨zz.sh, zz.sl.neg⟩, rfl, rfl⟩ rfl (by omega)) ?_
      refine db_set 8 C rfl rfl (de_callP 1 C (c__law_plus h) rfl (da_cons (de_var 5 C rfl rfl rfl) (da_cons (de_is (de_tup (da_cons (de_sub de_int (de_ixT C (de_var 6 C rfl rfl rfl) de_int rfl)) (da_cons (de_ixT C (de_var 6 C rfl rfl rfl) de_int rfl) da_nil))) eF_negl) da_nil)) ⟨o, -p, ⟨zz.so, zz.sp.neg⟩, rfl, rfl⟩ rfl (by omega)) ?_
      refine db_set 9 C rfl rfl (de_is (de_callP 2 C (c__law_made h) rfl (da_cons (de_mul (de_abs 3 C rfl (h.free 1 _ rfl) (de_ixT C (de_var 5 C rfl rfl rfl) de_int rfl)) (de_ixT C (de_var 8 C rfl rfl rfl) de_int rfl) (by exact zz.c1)) (da_cons (de_mul (de_ixT C (de_var 5 C rfl rfl rfl) de_int rfl) (de_abs 3 C rfl (h.free 1 _ rfl) (de_ixT C (de_var 8 C rfl rfl rfl) de_int rfl)) (by exact zz.c2)) da_nil)) ⟨_, o.den * (o + -p).num.natAbs, zz.b0, zz.bl, by rw [Int.natCast_mul], (norm_mk _).symm⟩ rfl (by omega)) (by exact (rfl : _ = eF (shareQ o (o + -p))))) ?_
      refine db_set 10 C rfl rfl (de_is (de_callP 1 C (c__law_plus h) rfl (da_cons (de_var 2 C rfl rfl rfl) (da_cons (de_callP 4 C (c__law_times h) rfl (da_cons (de_var 7 C rfl rfl rfl) (da_cons (de_var 9 C rfl rfl rfl) da_nil)) ⟨_, _, ⟨zz.sw, zz.ss⟩, rfl, rfl⟩ rfl (by omega)) da_nil)) ⟨l, _, ⟨zz.sl, zz.sm⟩, rfl, rfl⟩ rfl (by omega)) (by exact (rfl : _ = eF (zF l h0 o p)))) ?_
      by_cases hop : 0 < o
      · rw [if_pos hop] at hE
        refine db_asg (d := .tup [(eF (zF l h0 o p)), (eF h0)]) (de_ixL C (de_lst (dl_lst (da_cons (de_tup (da_cons (de_var 2 C rfl rfl rfl) (da_cons (de_var 10 C rfl rfl rfl) da_nil))) (da_cons (de_tup (da_cons (de_var 10 C rfl rfl rfl) (da_cons (de_var 3 C rfl rfl rfl) da_nil))) da_nil)))) (de_intB 5 C rfl (h.free 8 _ rfl) (de_cp (de_ixT C (de_var 5 C rfl rfl rfl) de_int rfl) de_int cp_gt)) (by rw [at_pair, dec_num]; simp [hop])) (dg_tup C (dgs_cons (dg_name 2 C rfl rfl) (dgs_cons (dg_name 3 C rfl rfl) dgs_nil)) rfl) ?_
        exact db_nil (db_nil ⟨(zF l h0 o p, h0), ⟨kr.1 hop, hE⟩, (.some (.some (.some (.some (.none (.none (.none (.none (.none (.none (.none .nil))))))))))), rfl⟩)
      · rw [if_neg hop, if_pos (hm.resolve_left hop)] at hE
        refine db_asg (d := .tup [(eF l), (eF (zF l h0 o p))]) (de_ixL C (de_lst (dl_lst (da_cons (de_tup (da_cons (de_var 2 C rfl rfl rfl) (da_cons (de_var 10 C rfl rfl rfl) da_nil))) (da_cons (de_tup (da_cons (de_var 10 C rfl rfl rfl) (da_cons (de_var 3 C rfl rfl rfl) da_nil))) da_nil)))) (de_intB 5 C rfl (h.free 8 _ rfl) (de_cp (de_ixT C (de_var 5 C rfl rfl rfl) de_int rfl) de_int cp_gt)) (by rw [at_pair, dec_num]; simp [hop])) (dg_tup C (dgs_cons (dg_name 2 C rfl rfl) (dgs_cons (dg_name 3 C rfl rfl) dgs_nil)) rfl) ?_
        exact db_nil (db_nil ⟨(l, zF l h0 o p), ⟨kr.2.1 hop (hm.resolve_left hop), hE⟩, (.some (.some (.some (.some (.none (.none (.none (.none (.none (.none (.none .nil))))))))))), rfl⟩)
    · have hm1 : ¬ 0 < o := fun q => hm (.inl q)
      have hm2 : ¬ 0 < p := fun q => hm (.inr q)
      rw [if_neg hm1, if_neg hm2] at hE
      refine db_skip (dt_is (dw_or (dt_cp (de_ixT C (de_var 5 C rfl rfl rfl) de_int rfl) de_int cp_gt) fun hc0 => (dw_or1 (dt_cp (de_ixT C (de_var 6 C rfl rfl rfl) de_int rfl) de_int cp_gt))).dt (by rw [dec_num, dec_num]; simp [hm1, hm2])) ?_
      exact db_nil ⟨(l, h0), ⟨kr.2.2 hm1 hm2, hE⟩, (.some (.some (.some (.some (.none (.none (.none (.none (.none (.none (.none .nil))))))))))), rfl⟩
  rw [← hJ.2]
  exact db_ret de_bl ⟨(by rfl), (by first | exact ⟨[], rfl⟩ | exact ⟨[_], rfl⟩ | exact ⟨[_, _], rfl⟩ | exact ⟨[], by simp⟩)⟩

abbrev R_law_found_due (ds : List D) (d : D) : Prop := ∃ (L : Lays) (ll : Lay) (ws : List Node) (pts : List Rat), (DuesOk L ll ws pts ∧ pts.length ≤ 10000) ∧ ds = [eLays (L ++ [ll]), eWs ws, .lst (pts.map eF)] ∧ d = .bl (duesF L ll ws pts)
theorem at_left {xs ys : List D} {i : Nat} (h : i < xs.length) : atI (xs ++ ys) (i : Int) = xs[i]? := by
  unfold atI ixN
  rw [if_pos (by omega), if_pos (by simp; omega)]
  simp [List.getElem?_append_left h]
/-- the point behind point k, or it itself at the end -/
theorem at_next {pts : List Rat} {k : Nat} {p : Rat} {r : List Rat} (h : pts.drop k = p :: r) : atI (pts.map eF ++ [eF p]) (min ((k : Int) + 1) (((pts.map eF).length : Int) - 1)) = some (eF (r.headD p)) := by
  obtain ⟨g1, g2⟩ := zipIdx_drop h
  have hk := (List.getElem?_eq_some_iff.mp g1).1
  rw [List.length_map]
  cases r with
  | nil =>
    have hl := congrArg List.length g2
    simp at hl
    have e : min ((k : Int) + 1) ((pts.length : Int) - 1) = (k : Int) := by omega
    rw [e, at_left (by simpa using hk), List.getElem?_map, g1]
    rfl
  | cons q r =>
    have g3 := (zipIdx_drop g2.symm).1
    have hq := (List.getElem?_eq_some_iff.mp g3).1
    have e : min ((k : Int) + 1) ((pts.length : Int) - 1) = ((k + 1 : Nat) : Int) := by omega
    rw [e, at_left (by simpa using hq), List.getElem?_map, g3]
    rfl

theorem c__law_found_due (h : Hd P w K mg base) : FC P w K mg base 8 "_law_found_due" 3 (Pu (R_law_found_due)) := by
  refine mk_fc (N := ["_law_layers_here", "_law_wishes", "_law_points_here", "_law_k", "_law_point"]) (ps := ["_law_layers_here", "_law_wishes", "_law_points_here"]) (V := [3, 3, 3, 3, 3]) (Gs := ["enumerate", "_law_kept", "min", "len"]) (k := 7) (d := dd__law_found_due) h 128 90 rfl rfl rfl (by decide +kernel) rfl (fun _ _ _ _ _ _ us hl => match us, hl with | [_, _, _], _ => rfl) fun X Z ds μ r μ' C hR hx hl => ?_
  obtain ⟨rfl, rfl, L, ll, ws, pts, ⟨hk, hl9⟩, rfl, rfl⟩ := hR
  show DB K X Z [some (eLays (L ++ [ll])), some (eWs ws), some (.lst (pts.map eF)), none, none] ([]) (defBody (top 151)) _
  refine db_forS (S := Unit) pts.zipIdx (fun q => .tup [.int (q.2 : Int), eF q.1]) (fun _ r => ∃ k, k + r.length = pts.length ∧ r = (pts.drop k).zipIdx k ∧ duesF L ll ws (pts.drop k) = duesF L ll ws pts ∧ DuesOk L ll ws (pts.drop k)) (fun _ => [some (eLays (L ++ [ll])), some (eWs ws), some (.lst (pts.map eF)), none, none]) (fun _ => []) () C (di_is (di_enum 0 C rfl (h.free 15 _ rfl) (de_var 2 C rfl rfl rfl) rfl) (enum_map _ _)) rfl (.some (.some (.some (.none (.none .nil))))) (by exact ⟨0, by simp, rfl, rfl, hk⟩) (fun _ x r hJ hx => ?_) (fun _ hJ => ?_)
  · obtain ⟨k, k1, k2, k3, k4⟩ := hJ
    cases hdp : pts.drop k with
    | nil => rw [hdp] at k2; cases k2
    | cons p rest =>
      rw [hdp, List.zipIdx_cons] at k2
      obtain ⟨x1, x2⟩ := List.cons.inj k2
      subst x1
      have g2 := (zipIdx_drop hdp).2
      rw [hdp] at k3 k4
      have hko : KeptOk L ll ws p (rest.headD p) := by cases rest with | nil => exact k4 | cons a b => exact k4.1
      have hdo : DuesOk L ll ws rest := by cases rest with | nil => trivial | cons a b => exact k4.2
      have hde : duesF L ll ws (p :: rest) = (keptF L ll ws p (rest.headD p) || duesF L ll ws rest) := by
        cases rest with
        | nil => exact (Bool.or_false _).symm
        | cons a b => rfl
      rw [hde] at k3
      refine ⟨_, _, _, (dg_tup C (dgs_cons (dg_name 3 C rfl rfl) (dgs_cons (dg_name 4 C rfl rfl) dgs_nil)) rfl), ?_⟩
      by_cases hc : keptF L ll ws p (rest.headD p) = true
      · refine db_if1 (dt_is (dt_val (de_callP 1 C (c__law_kept h) rfl (da_cons (de_var 0 C rfl rfl rfl) (da_cons (de_var 1 C rfl rfl rfl) (da_cons (de_var 4 C rfl rfl rfl) (da_cons (de_ixL C (de_lst (dl_cat (de_var 2 C rfl rfl rfl) (de_lst (dl_lst (da_cons (de_var 4 C rfl rfl rfl) da_nil))) (by simp; omega))) (de_min 2 C rfl (h.free 3 _ rfl) (de_add (de_var 3 C rfl rfl rfl) de_int) (de_sub (de_len 3 C rfl (h.free 0 _ rfl) (de_var 2 C rfl rfl rfl) rfl) de_int)) (by exact at_next hdp)) da_nil)))) ⟨L, ll, ws, p, rest.headD p, hko, rfl, rfl⟩ rfl (by omega))) hc) ?_
        rw [hc, Bool.true_or] at k3
        rw [← k3]
        exact db_ret de_bl ⟨(by rfl), (by first | exact ⟨[], rfl⟩ | exact ⟨[_], rfl⟩ | exact ⟨[_, _], rfl⟩ | exact ⟨[], by simp⟩)⟩
      · have hc := eq_false_of_ne_true hc
        refine db_skip (dt_is (dt_val (de_callP 1 C (c__law_kept h) rfl (da_cons (de_var 0 C rfl rfl rfl) (da_cons (de_var 1 C rfl rfl rfl) (da_cons (de_var 4 C rfl rfl rfl) (da_cons (de_ixL C (de_lst (dl_cat (de_var 2 C rfl rfl rfl) (de_lst (dl_lst (da_cons (de_var 4 C rfl rfl rfl) da_nil))) (by simp; omega))) (de_min 2 C rfl (h.free 3 _ rfl) (de_add (de_var 3 C rfl rfl rfl) de_int) (de_sub (de_len 3 C rfl (h.free 0 _ rfl) (de_var 2 C rfl rfl rfl) rfl) de_int)) (by exact at_next hdp)) da_nil)))) ⟨L, ll, ws, p, rest.headD p, hko, rfl, rfl⟩ rfl (by omega))) hc) ?_
        rw [hc, Bool.false_or] at k3
        exact db_nil ⟨(), ⟨k + 1, by simp at k1; omega, by rw [← g2, x2], by rw [← g2]; exact k3, by rw [← g2]; exact hdo⟩, (.some (.some (.some (.none (.none .nil))))), rfl⟩
  obtain ⟨k, k1, k2, k3, k4⟩ := hJ
  have hk : pts.drop k = [] := List.drop_of_length_le (by simp at k1; omega)
  rw [hk] at k3
  rw [← k3]
  exact db_ret de_bl ⟨(by rfl), (by first | exact ⟨[], rfl⟩ | exact ⟨[_], rfl⟩ | exact ⟨[_, _], rfl⟩ | exact ⟨[], by simp⟩)⟩
end
end NC

set_option Elab.async false
set_option linter.all false
set_option autoImplicit false
set_option maxRecDepth 100000
set_option maxHeartbeats 4000000
set_option exponentiation.threshold 100000
namespace NC
open PySem PySem.Spec PyProof.Rows L2

/-! printed by spec21.py: a wish of the law. -/
section
variable {P : Program} {w : World} {K : PySem.W.Frag} {mg : Str → Option Value} {base : Heap}


/-! ### draws one behind the other -/
def seqF {α β : Type} (f : S3 → β × S3) : List α → S3 → List β × S3
  | [], s => ([], s)
  | _ :: r, s => ((f s).1 :: (seqF f r (f s).2).1, (seqF f r (f s).2).2)
section
variable {α β : Type} {f : S3 → β × S3}
theorem seqF_snoc (a : α) : ∀ (l : List α) (s : S3), seqF f (l ++ [a]) s = ((seqF f l s).1 ++ [(f (seqF f l s).2).1], (f (seqF f l s).2).2)
  | [], s => rfl
  | b :: l, s => by
    show (_ :: (seqF f (l ++ [a]) _).1, (seqF f (l ++ [a]) _).2) = _
    rw [seqF_snoc a l]
    rfl
theorem seqF_ok {c : Nat} (hf : ∀ k s, TkOk (k + c) s → TkOk k (f s).2) : ∀ (l : List α) {k : Nat} {s : S3}, TkOk (k + c * l.length) s → TkOk k (seqF f l s).2
  | [], k, s, h => h
  | b :: l, k, s, h => seqF_ok hf l (hf (k + c * l.length) s (h.le (by rw [List.length_cons, Nat.mul_succ]; omega)))
theorem seqF_len : ∀ (l : List α) (s : S3), (seqF f l s).1.length = l.length
  | [], s => rfl
  | b :: l, s => by show (_ :: (seqF f l _).1).length = _; simp [seqF_len l]
theorem seqF_all {p : β → Prop} (hf : ∀ s, p (f s).1) : ∀ (l : List α) (s : S3), ∀ x ∈ (seqF f l s).1, p x
  | [], s, x, hx => by cases hx
  | b :: l, s, x, hx => by
    rcases List.mem_cons.mp hx with rfl | hx
    · exact hf s
    · exact seqF_all hf l _ x hx
end
/-! ### fractions that are drawn -/
theorem fr_mk {a : Int} {c n : Nat} (hc : c = 1 ∨ c = 2 ∨ c = 3) (ha : a.natAbs ≤ n) : Fr 6 (6 * n) (mkRat a c) := by
  have h := Fr.of a (d := c) (by omega)
  rcases hc with rfl | rfl | rfl
  · exact (h.up 6).le (by omega)
  · exact (h.up 3).le (by omega)
  · exact (h.up 2).le (by omega)
theorem shareF_fr (s : S3) : Fr 6 24 (shareF s).1 := by
  have h1 := takeF_lt (m := 9) (s := s) (by decide)
  have h2 := takeF_lt (m := 3) (s := (takeF 9 s).2) (by decide)
  exact fr_mk (n := 4) (by omega) (by omega)
/-- a number of a wish's row -/
def wqF (s : S3) : Rat × S3 := (mkRat (((takeF 7 s).1 : Int) - 3) (1 + (takeF 2 (takeF 7 s).2).1), (takeF 2 (takeF 7 s).2).2)
theorem wqF_fr (s : S3) : Fr 6 24 (wqF s).1 := by
  have h1 := takeF_lt (m := 7) (s := s) (by decide)
  have h2 := takeF_lt (m := 2) (s := (takeF 7 s).2) (by decide)
  exact (fr_mk (n := 3) (by omega) (by omega)).le (by decide)
theorem wqF_ok (k : Nat) (s : S3) (h : TkOk (k + 2) s) : TkOk k (wqF s).2 := TkOk.take (TkOk.take (k := k + 1) h)
/-- a net, points, all small -/
structure PtsB (D : Nat) (L : Lays) (ll : Lay) (pts : List Rat) : Prop where
  net : NetB D (L ++ [ll])
  len : L.length ≤ 3
  pt : ∀ p ∈ pts, Bt 130 p
theorem PtsB.ll4 {D : Nat} {L : Lays} {ll : Lay} {pts : List Rat} (h : PtsB D L ll pts) : ll.length ≤ 4 := (h.net.no ll (by simp)).1
theorem PtsB.dot {D : Nat} {L : Lays} {ll : Lay} {pts : List Rat} (h : PtsB D L ll pts) {aim : List Rat} (ha : AimB aim) : ∀ p ∈ pts, DotOk L ll aim p := fun p hp => net_dotOk h.net h.len (h.pt p hp) (by decide) ha
theorem PtsB.most {D : Nat} {L : Lays} {ll : Lay} {p0 : Rat} {ps : List Rat} (h : PtsB D L ll (p0 :: ps)) {aim : List Rat} (ha : AimB aim) : Bt 280 (mostF L ll aim (p0 :: ps)) := by
  obtain ⟨⟨p, hp, e⟩, _⟩ := most_pts L ll aim (p0 := p0) (ps := ps)
  rw [e]
  exact (net_dot h.net h.len (h.pt p hp) (by decide) ha).2
def wishF (L : Lays) (ll : Lay) (pts : List Rat) (s : S3) : Node × S3 :=
  let r := seqF wqF ll s
  let m := mostF L ll r.1 pts
  let a := takeF 3 r.2
  let b := takeF 20 a.2
  let c := shareF b.2
  let d := takeF 9 c.2
  let e := takeF 4 d.2
  ((r.1, [m, m + mkRat ((a.1 : Int) - 1) (1 + b.1), c.1, m + ((0 - (d.1 : Int) : Int) : Rat)].getD e.1 0), e.2)
abbrev R_law_wish : Con := fun ds μ d μ' => ∃ (q : Addr) (s : S3) (E : Nat) (L : Lays) (ll : Lay) (p0 : Rat) (ps : List Rat), (TkOk (2 * ll.length + 6) s ∧ PtsB E L ll (p0 :: ps)) ∧ ds = [.ref q, eLays (L ++ [ll]), .lst ((p0 :: ps).map eF)] ∧ μ = [ceT q s] ∧ d = eSum (wishF L ll (p0 :: ps) s).1 ∧ μ' = [ceT q (wishF L ll (p0 :: ps) s).2]
theorem row_aim (ll : Lay) (h : ll.length ≤ 4) (s : S3) : AimB (seqF wqF ll s).1 := ⟨by rw [seqF_len]; exact h, seqF_all wqF_fr ll s⟩
theorem at4F {a b c d : Rat} {i : Nat} (h : i < 4) : atI [eF a, eF b, eF c, eF d] (i : Int) = some (eF ([a, b, c, d].getD i 0)) := by
  have : i = 0 ∨ i = 1 ∨ i = 2 ∨ i = 3 := by omega
  rcases this with rfl | rfl | rfl | rfl <;> rfl
theorem sm_int {i : Int} (h : i.natAbs < 1000) : Sm ((i : Int) : Rat) := Bt.sm (n := 10) ⟨Nat.lt_trans h (by decide), by show 1 < 2 ^ 10; decide⟩ (by decide)

theorem c__law_wish (h : Hd P w K mg base) : FC P w K mg base 7 "_law_wish" 3 (R_law_wish) := by
  refine mk_fc (N := ["_law_stream_here", "_law_layers_here", "_law_points_here", "_law_row", "_law_most_here", "_law_near", "_law_node_here"]) (ps := ["_law_stream_here", "_law_layers_here", "_law_points_here"]) (V := [2, 3, 3, 3, 3, 3, 0]) (Gs := ["tuple", "_law_most", "_law_plus", "_law_made", "_law_take", "_law_share"]) (k := 6) (d := dd__law_wish) h 125 87 rfl rfl rfl (by decide +kernel) rfl (fun _ _ _ _ _ _ us hl => match us, hl with | [_, _, _], _ => rfl) fun X Z ds μ r μ' C hR hx hl => ?_
  obtain ⟨q, s, E, L, ll, p0, ps, ⟨ht, hp⟩, rfl, rfl, rfl, rfl⟩ := hR
  show DB K X Z [some (.ref q), some (eLays (L ++ [ll])), some (.lst ((p0 :: ps).map eF)), none, none, none, none] ([ceT q s]) (defBody (top 148)) _
  obtain ⟨r, hr⟩ : ∃ r, r = seqF wqF ll s := ⟨_, rfl⟩
  obtain ⟨m, hm⟩ : ∃ m, m = mostF L ll r.1 (p0 :: ps) := ⟨_, rfl⟩
  obtain ⟨a, ha⟩ : ∃ a, a = takeF 3 r.2 := ⟨_, rfl⟩
  obtain ⟨b, hb⟩ : ∃ b, b = takeF 20 a.2 := ⟨_, rfl⟩
  obtain ⟨c, hc⟩ : ∃ c, c = shareF b.2 := ⟨_, rfl⟩
  obtain ⟨d, hd⟩ : ∃ d, d = takeF 9 c.2 := ⟨_, rfl⟩
  obtain ⟨e, he⟩ : ∃ e, e = takeF 4 d.2 := ⟨_, rfl⟩
  have hE : wishF L ll (p0 :: ps) s = ((r.1, [m, m + mkRat ((a.1 : Int) - 1) (1 + b.1), c.1, m + ((0 - (d.1 : Int) : Int) : Rat)].getD e.1 0), e.2) := by subst he hd hc hb ha hm hr; rfl
  rw [hE]
  have aim : AimB r.1 := by rw [hr]; exact row_aim ll hp.ll4 s
  have bm : Bt 280 m := by rw [hm]; exact hp.most aim
  have tr : TkOk 6 r.2 := by rw [hr]; exact seqF_ok wqF_ok ll (ht.le (by omega))
  have ta : TkOk 5 a.2 := by rw [ha]; exact TkOk.take (k := 5) tr
  have tb : TkOk 4 b.2 := by rw [hb]; exact TkOk.take (k := 4) ta
  have tc : TkOk 2 c.2 := by rw [hc]; exact shareF_ok (k := 2) tb
  have td : TkOk 1 d.2 := by rw [hd]; exact TkOk.take (k := 1) tc
  have la : a.1 < 3 := by rw [ha]; exact takeF_lt (by decide)
  have lb : b.1 < 20 := by rw [hb]; exact takeF_lt (by decide)
  have ld : d.1 < 9 := by rw [hd]; exact takeF_lt (by decide)
  have le : e.1 < 4 := by rw [he]; exact takeF_lt (by decide)
  have tl : ∀ l : Lay, l.length < ll.length → TkOk 2 (seqF wqF l s).2 := fun l hl => seqF_ok wqF_ok l (k := 2) (ht.le (by omega))
  refine db_set 3 C rfl rfl (de_to (d' := eR r.1) (μ2 := [ceT q r.2]) (de_tupleL 0 C rfl (h.free 12 _ rfl) (de_lst (dl_of_dc (V' := [1, 0, 0, 0, 0, 0, 3]) (Gs' := ["_law_made", "_law_take"]) (own := [("_law_node_here", 6)]) C (by decide +kernel) (dc_mapM ll eSum (fun l _ => eF (wqF (seqF wqF l s).2).1) (fun _ => true) (fun l => [ceT q (seqF wqF l s).2]) (fun l => (seqF wqF l s).1.map eF) [1, 0, 0, 0, 0, 0, 3] ["_law_made", "_law_take"] [("_law_node_here", 6)] C (by decide +kernel) (by decide +kernel) (di_list C (de_ixL C (de_var 1 C rfl rfl rfl) (de_neg de_int) (by exact at_last L ll eLayL))) (by have := hp.ll4; omega) rfl (fun l a _ => by rw [seqF_snoc]; simp) (fun l a e => by cases e) fun l a r e => ⟨_, _, (by decide), (fun z => by cases z), fun _ C' => ⟨(dg_name 6 C' rfl rfl), dts_nil, fun _ => de_to (de_callP 0 C' (c__law_made h) rfl (da_cons (de_sub (de_callC (hm := (Eq.refl [q] : [q] = [q])) 1 1 C' (c__law_take h) rfl (da_cons (de_var 0 C' rfl rfl rfl) (da_cons de_int da_nil)) (show R_law_take [.ref q, .int ((7 : Nat) : Int)] [ceT q (seqF wqF l s).2] (.int ((takeF 7 (seqF wqF l s).2).1 : Int)) [ceT q (takeF 7 (seqF wqF l s).2).2] from ⟨q, _, 7, ⟨(tl l (by rw [e]; simp)).le (by decide), by decide, by decide⟩, rfl, rfl, rfl, rfl⟩) rfl (by omega)) de_int) (da_cons (de_add de_int (de_callC (hm := (Eq.refl [q] : [q] = [q])) 1 1 C' (c__law_take h) rfl (da_cons (de_var 0 C' rfl rfl rfl) (da_cons de_int da_nil)) (show R_law_take [.ref q, .int ((2 : Nat) : Int)] [ceT q (takeF 7 (seqF wqF l s).2).2] (.int ((takeF 2 (takeF 7 (seqF wqF l s).2).2).1 : Int)) [ceT q (takeF 2 (takeF 7 (seqF wqF l s).2).2).2] from ⟨q, _, 2, ⟨(tl l (by rw [e]; simp)).take, by decide, by decide⟩, rfl, rfl, rfl, rfl⟩) rfl (by omega))) da_nil)) ⟨((takeF 7 (seqF wqF l s).2).1 : Int) - 3, 1 + (takeF 2 (takeF 7 (seqF wqF l s).2).2).1, by omega, sm9 (by have := takeF_lt (m := 2) (s := (takeF 7 (seqF wqF l s).2).2) (by decide); omega), (by simp), (norm_mk _).symm⟩ rfl (by omega)) (by rfl) (by rw [seqF_snoc]; rfl)⟩⟩)))) (by rw [hr]) (by rw [hr])) ?_
  refine db_set 4 C rfl rfl (de_callP 1 C (c__law_most h) rfl (da_cons (de_lst (dl_lst (da_cons (de_var 1 C rfl rfl rfl) da_nil))) (da_cons (de_var 2 C rfl rfl rfl) (da_cons (de_var 3 C rfl rfl rfl) da_nil))) ⟨L, ll, p0, ps, r.1, hp.dot aim, rfl, by exact congrArg eF hm⟩ rfl (by omega)) ?_
  refine db_set 5 C rfl rfl (de_callP 2 C (c__law_plus h) rfl (da_cons (de_var 4 C rfl rfl rfl) (da_cons (de_callP 3 C (c__law_made h) rfl (da_cons (de_sub (de_callC (hm := (Eq.refl [q] : [q] = [q])) 1 4 C (c__law_take h) rfl (da_cons (de_var 0 C rfl rfl rfl) (da_cons de_int da_nil)) (show R_law_take [.ref q, .int ((3 : Nat) : Int)] [ceT q r.2] (.int (a.1 : Int)) [ceT q a.2] from ⟨q, r.2, 3, ⟨(tr).le (by decide), by decide, by decide⟩, rfl, rfl, by rw [ha], by rw [ha]⟩) rfl (by omega)) de_int) (da_cons (de_add de_int (de_callC (hm := (Eq.refl [q] : [q] = [q])) 1 4 C (c__law_take h) rfl (da_cons (de_var 0 C rfl rfl rfl) (da_cons de_int da_nil)) (show R_law_take [.ref q, .int ((20 : Nat) : Int)] [ceT q a.2] (.int (b.1 : Int)) [ceT q b.2] from ⟨q, a.2, 20, ⟨(ta).le (by decide), by decide, by decide⟩, rfl, rfl, by rw [hb], by rw [hb]⟩) rfl (by omega))) da_nil)) ⟨(a.1 : Int) - 1, 1 + b.1, by omega, sm9 (by omega), (by simp), (norm_mk _).symm⟩ rfl (by omega)) da_nil)) ⟨m, _, ⟨bm.sm (by decide), mk_sm (by omega) (by omega) (by omega)⟩, rfl, rfl⟩ rfl (by omega)) ?_
  exact db_ret (de_tup (da_cons (de_var 3 C rfl rfl rfl) (da_cons (de_ixL C (de_lst (dl_lst (da_cons (de_var 4 C rfl rfl rfl) (da_cons (de_var 5 C rfl rfl rfl) (da_cons (de_callC (hm := (Eq.refl [q] : [q] = [q])) 1 5 C (c__law_share h) rfl (da_cons (de_var 0 C rfl rfl rfl) da_nil) (show R_law_share [.ref q] [ceT q b.2] (eF c.1) [ceT q c.2] from ⟨q, b.2, tb.le (by decide), rfl, rfl, by rw [hc], by rw [hc]⟩) rfl (by omega)) (da_cons (de_callP 2 C (c__law_plus h) rfl (da_cons (de_var 4 C rfl rfl rfl) (da_cons (de_is (de_tup (da_cons (de_sub de_int (de_callC (hm := (Eq.refl [q] : [q] = [q])) 1 4 C (c__law_take h) rfl (da_cons (de_var 0 C rfl rfl rfl) (da_cons de_int da_nil)) (show R_law_take [.ref q, .int ((9 : Nat) : Int)] [ceT q c.2] (.int (d.1 : Int)) [ceT q d.2] from ⟨q, c.2, 9, ⟨(tc).le (by decide), by decide, by decide⟩, rfl, rfl, by rw [hd], by rw [hd]⟩) rfl (by omega))) (da_cons de_int da_nil))) eF_int) da_nil)) ⟨m, ((0 - (d.1 : Int) : Int) : Rat), ⟨bm.sm (by decide), sm_int (by omega)⟩, rfl, rfl⟩ rfl (by omega)) da_nil)))))) (de_callC (hm := (Eq.refl [q] : [q] = [q])) 1 4 C (c__law_take h) rfl (da_cons (de_var 0 C rfl rfl rfl) (da_cons de_int da_nil)) (show R_law_take [.ref q, .int ((4 : Nat) : Int)] [ceT q d.2] (.int (e.1 : Int)) [ceT q e.2] from ⟨q, d.2, 4, ⟨(td).le (by decide), by decide, by decide⟩, rfl, rfl, by rw [he], by rw [he]⟩) rfl (by omega)) (by exact at4F le)) da_nil))) ⟨rfl, [], rfl⟩
end
end NC

set_option Elab.async false
set_option linter.all false
set_option autoImplicit false
set_option exponentiation.threshold 100000
set_option maxRecDepth 100000
set_option maxHeartbeats 4000000
/-! What the law asks of a net, a box: told by the trees, by the points alike. -/
namespace NC
open PySem PySem.Spec PyProof.Rows L2
structure Wd (E : Nat) (L : Lays) (ll : Lay) (lo hi : Rat) (pts : List Rat) : Prop where
  ok : NetOk L ll
  h8 : hid L ≤ 8
  box : BoxB lo hi
  pt : Pts E L ll lo hi pts
  few : pts.length ≤ 10000
section
variable {K : PySem.W.Frag} {E : Nat} {L : Lays} {ll : Lay} {lo hi : Rat} {pts : List Rat} {dn : D}
theorem Wd.case (w : Wd E L ll lo hi pts) (hn : dn.items = some [eNet K L ll]) {p : Nat} (hp : p < 2 ^ hid L) : CaseOk K dn L ll p :=
  ⟨hn, w.ok, hp, smL_of (L ++ [ll]) p 0 [(1, 0)] w.pt.net (by have := w.pt.len; simp; omega) ins_afB⟩
theorem Wd.aimo (w : Wd E L ll lo hi pts) {aim : List Rat} (ha : AimB aim) (p : Nat) : AimOk L ll aim p := (aim_afB w.pt.net w.pt.len ha p).1
theorem Wd.gok (w : Wd E L ll lo hi pts) (hn : dn.items = some [eNet K L ll]) {aim : List Rat} (ha : AimB aim) (hl : aim.length = ll.length) : GOk K dn L ll lo hi aim :=
  ⟨hn, w.ok, w.h8, w.box.ok, w.box.lo.sk (by decide), w.box.hi.sk (by decide), hl, fun p hp => w.case hn hp, fun p _ => w.aimo ha p, fun p _ a h => by
    obtain ⟨j, h1, h2⟩ := hidA_afB w.pt.net.left w.pt.len p a h
    exact h2.sk w.pt.net.d0 w.pt.net.dl (by omega), fun p _ => (aim_afB w.pt.net w.pt.len ha p).2.sk w.pt.net.d0 w.pt.net.dl (by have := w.pt.len; omega)⟩
theorem cls_cl (w : Wd E L ll lo hi pts) (hn : dn.items = some [eNet K L ll]) {aim : List Rat} (ha : AimB aim) {num : Rat} : ∀ (tr : Tr) (p m : Nat), Cls L ll lo hi aim num tr p m → p < 2 ^ m → m ≤ hid L → ClOk K dn L ll lo hi aim num tr p m
  | .two a b, p, m, h, hp, hm => by
    obtain ⟨h1, h2, h3, h4⟩ := h
    have e : 2 ^ (m + 1) = 2 ^ m + 2 ^ m := by rw [Nat.pow_succ]; omega
    exact ⟨h1, h2, cls_cl w hn ha a p (m + 1) h3 (by omega) (by omega), cls_cl w hn ha b (p + 2 ^ m) (m + 1) h4 (by omega) (by omega)⟩
  | .leaf u ys, p, m, h, hp, hm => by
    obtain ⟨h1, h2⟩ := h
    refine ⟨w.case hn (pw_up hp hm), h1, ?_⟩
    rcases h2 with h2 | ⟨e1, e2, h3, h4, h5⟩
    · exact .inl h2
    · exact .inr ⟨e1, e2, w.aimo ha p, h3, h4, h5⟩
/-- the greatest: told by the tree, by the points -/
theorem Wd.top (w : Wd E L ll lo hi pts) {aim : List Rat} (ha : AimB aim) : ∃ t v x, topF lo hi L ll aim = (t, some (v, x)) ∧ lo ≤ x ∧ x ≤ hi ∧ Bt 1500 x ∧ Sm v ∧ v = dot aim (outsAt L ll [x]) ∧ mostF L ll aim pts = v ∧ t.dep ≤ 8 ∧ ∀ num, v ≤ num → Cls L ll lo hi aim num t 0 0 := by
  obtain ⟨t, v, x, h1, h2, h3, h4, h5, h6, h7, h8⟩ := top_ok (gm_of w.pt.net w.pt.len w.h8 w.box ha) w.box.le
  refine ⟨t, v, x, h1, h2, h3, h4, h5, h6, most_eq w.pt h2 h3 h6 h7, ?_, h8⟩
  have hd := grow_dep lo hi L ll aim (hid L) 0 (some lo) none
  have e : (growF lo hi L ll aim (hid L) 0 (some lo) none) = (t, some (v, x)) := h1
  rw [e] at hd
  exact Nat.le_trans hd w.h8
theorem Wd.cl (w : Wd E L ll lo hi pts) (hn : dn.items = some [eNet K L ll]) {aim : List Rat} (ha : AimB aim) {num : Rat} {t : Tr} (h : Cls L ll lo hi aim num t 0 0) : ClOk K dn L ll lo hi aim num t 0 0 := cls_cl w hn ha t 0 0 h (by simp) (Nat.zero_le _)
theorem Wd.kp (w : Wd E L ll lo hi pts) {x : Rat} (hx : Bt 1500 x) {wi : Node} (ha : AimB wi.1) (hs : Sm wi.2) : KpOk L ll x wi := by
  have h := net_dot w.pt.net w.pt.len hx (by decide) ha
  exact ⟨h.1, h.2.sm (by decide), hs⟩
theorem Wd.z (w : Wd E L ll lo hi pts) {x : Rat} (hx : Bt 1500 x) : SmZ [x] (stk L ll) := net_z w.pt.net w.pt.len hx (by decide)
theorem Wd.sok (w : Wd E L ll lo hi pts) {ws : List Node} (hl : ws.length ≤ 8) (hw : ∀ v ∈ ws, WishB v ∧ v.1.length = ll.length) : SOk K L ll lo hi ws :=
  ⟨w.ok, w.h8, w.box.ok, w.box.lo.sk (by decide), w.box.hi.sk (by decide), ⟨hl, fun v hv => (hw v hv).2⟩, fun p hp => w.case rfl hp, fun p _ a h => by
    obtain ⟨j, h1, h2⟩ := hidA_afB w.pt.net.left w.pt.len p a h
    exact h2.sk w.pt.net.d0 w.pt.net.dl (by omega), fun p _ v hv => ⟨smLed_of w.pt.net w.pt.len (hw v hv).1 p, ledW_sk w.pt.net w.pt.len (hw v hv).1 p⟩⟩
/-- the search: told by the tree, by the points -/
theorem Wd.found (w : Wd E L ll lo hi pts) {ws : List Node} (hl : ws.length ≤ 8) (hw : ∀ v ∈ ws, WishB v ∧ v.1.length = ll.length) : DuesOk L ll ws pts ∧ match sgrow lo hi L ll ws (hid L) 0 with
    | .found x => duesF L ll ws pts = true ∧ FsOk L ll lo hi ws (.found x)
    | .tree t => duesF L ll ws pts = false ∧ FsOk L ll lo hi ws (.tree t) := by
  obtain ⟨d1, d2⟩ := dues_ok w.pt (fun v hv => (hw v hv).1)
  refine ⟨d1, ?_⟩
  have h := find_ok (sm_of w.pt.net w.pt.len w.h8 w.box hl fun v hv => (hw v hv).1)
  revert h
  generalize sgrow lo hi L ll ws (hid L) 0 = z
  intro h
  cases z with
  | found x =>
    obtain ⟨h1, h2, h3, h4⟩ := h
    exact ⟨d2.mpr ⟨x, h2, h3, h4⟩, h1.sm (by decide), h2, h3, w.z h1, fun v hv => ⟨w.kp h1 (hw v hv).1.1 ((hw v hv).1.2.sm (by decide)), Rat.not_lt.mpr (h4 v hv)⟩⟩
  | tree t =>
    obtain ⟨h1, h2, h3⟩ := h
    refine ⟨eq_false_of_ne_true fun q => ?_, Nat.le_trans h1 w.h8, h2⟩
    obtain ⟨x, x1, x2, x3⟩ := d2.mp q
    exact h3 x x1 x2 x3
/-! ### one out above another -/
theorem aimB_neg {aim : List Rat} (h : AimB aim) : AimB (aim.map fun a => -1 * a) := ⟨by rw [List.length_map]; exact h.1, fun x hx => by
  obtain ⟨a, ha, rfl⟩ := List.mem_map.mp hx
  rw [Rat.neg_mul, Rat.one_mul]
  exact (h.2 a ha).neg⟩
theorem rise_fr (o out k : Nat) : Fr 6 24 (riseQ o out k) := by
  unfold riseQ
  refine ⟨(b2n (decide ((k : Int) = (o : Int))) - b2n (decide ((k : Int) = (out : Int)))) * 6, ?_, ?_⟩
  · rw [Rat.intCast_mul]; rfl
  · unfold b2n
    split <;> split <;> decide
theorem rise_aim {n : Nat} (h : n ≤ 4) (o out : Nat) : AimB (riseL n o out) := ⟨by unfold riseL; simp; exact h, fun x hx => by
  obtain ⟨k, _, rfl⟩ := List.mem_map.mp hx
  exact rise_fr o out k⟩
def pick (o s : Nat) (ys : List Rat) : Rat := if s ≤ o then ys.getD (o - s) 0 else 0
theorem rise_dot (o out : Nat) : ∀ (ys : List Rat) (s : Nat), dot ((List.range' s ys.length).map (riseQ o out)) ys = pick o s ys - pick out s ys
  | [], s => by
    have e : ∀ o, pick o s [] = 0 := fun o => by unfold pick; split <;> simp
    rw [e, e]
    show dot [] [] = 0 - 0
    rw [dot_nil]; grind
  | y :: ys, s => by
    rw [List.length_cons, List.range'_succ, List.map_cons, dot_cons, rise_dot o out ys (s + 1)]
    have e : ∀ o, pick o s (y :: ys) = (if s = o then y else 0) + pick o (s + 1) ys := fun o => by
      unfold pick
      by_cases h : s = o
      · subst h
        rw [if_pos (Nat.le_refl _), if_pos rfl, if_neg (by omega), Nat.sub_self]
        show y = y + 0
        rw [Rat.add_zero]
      · by_cases h2 : s ≤ o
        · rw [if_pos h2, if_neg h, if_pos (by omega), Rat.zero_add, show o - s = (o - (s + 1)) + 1 from by omega]
          rfl
        · rw [if_neg h2, if_neg h, if_neg (by omega), Rat.zero_add]
    rw [e o, e out]
    have b : ∀ o : Nat, ((b2n (decide ((s : Int) = (o : Int))) : Int) : Rat) = if s = o then 1 else 0 := fun o => by
      unfold b2n
      by_cases h : s = o
      · rw [if_pos h, if_pos (by simp; omega)]; rfl
      · rw [if_neg h, if_neg (by simp; omega)]; rfl
    have e2 : riseQ o out s * y = (if s = o then y else 0) - (if s = out then y else 0) := by
      unfold riseQ
      rw [Rat.intCast_sub, b o, b out]
      by_cases h1 : s = o <;> by_cases h2 : s = out
      · rw [if_pos h1, if_pos h2, if_pos h1, if_pos h2]; grind
      · rw [if_pos h1, if_neg h2, if_pos h1, if_neg h2]; grind
      · rw [if_neg h1, if_pos h2, if_neg h1, if_pos h2]; grind
      · rw [if_neg h1, if_neg h2, if_neg h1, if_neg h2]; grind
    rw [e2]; grind
theorem rise_out {n o out : Nat} {ys : List Rat} (h : ys.length = n) : dot (riseL n o out) ys = ys.getD o 0 - ys.getD out 0 := by
  have := rise_dot o out ys 0
  unfold riseL
  rw [List.range_eq_range', ← h, this]
  simp [pick]
theorem rise_self {n out : Nat} {ys : List Rat} (h : ys.length = n) : dot (riseL n out out) ys = 0 := by
  rw [rise_out h]; grind
/-- all is told of an out above the others -/
theorem Wd.above (w : Wd E L ll lo hi pts) {out : Nat} (ho : out < ll.length) : ∃ tf : Nat → Tr × Rat × Rat,
    (∀ o ∈ othL ll.length out, GOk K (eNets K L ll) L ll lo hi (riseL ll.length o out) ∧ topF lo hi L ll (riseL ll.length o out) = ((tf o).1, some ((tf o).2.1, (tf o).2.2)) ∧ Sm (tf o).2.1) ∧
    (∀ o, o < ll.length → mostF L ll (riseL ll.length o out) pts = (tf o).2.1) ∧ (tf out).2.1 ≤ 0 ∧
    (∀ os acc, (∀ o ∈ os, o ∈ othL ll.length out) → match abF tf os acc with
      | .yes ts => (∀ o ∈ os, (tf o).2.1 ≤ 0) ∧ ts = acc ++ os.map (fun o => (tf o).1)
      | .no o x => o ∈ os ∧ 0 < (tf o).2.1 ∧ x = (tf o).2.2) ∧
    (∀ o ∈ othL ll.length out, (tf o).2.1 ≤ 0 → (tf o).1.dep ≤ 8 ∧ ClOk K (eNets K L ll) L ll lo hi (riseL ll.length o out) 0 (tf o).1 0 0) ∧
    (∀ o ∈ othL ll.length out, 0 < (tf o).2.1 → AbOk K L ll lo hi out (.no o (tf o).2.2)) := by
  have l4 := w.ok.ll.2
  have top : ∀ o, ∃ z : Tr × Rat × Rat, topF lo hi L ll (riseL ll.length o out) = (z.1, some (z.2.1, z.2.2)) ∧ lo ≤ z.2.2 ∧ z.2.2 ≤ hi ∧ Bt 1500 z.2.2 ∧ Sm z.2.1 ∧ z.2.1 = dot (riseL ll.length o out) (outsAt L ll [z.2.2]) ∧ mostF L ll (riseL ll.length o out) pts = z.2.1 ∧ z.1.dep ≤ 8 ∧ ∀ num, z.2.1 ≤ num → Cls L ll lo hi (riseL ll.length o out) num z.1 0 0 := fun o => by
    obtain ⟨t, v, x, h⟩ := w.top (rise_aim l4 o out)
    exact ⟨(t, v, x), h⟩
  refine ⟨fun o => Classical.choose (top o), ?_⟩
  have tp := fun o => Classical.choose_spec (top o)
  obtain ⟨tf, htf⟩ : ∃ tf : Nat → Tr × Rat × Rat, tf = fun o => Classical.choose (top o) := ⟨_, rfl⟩
  have tp : ∀ o, topF lo hi L ll (riseL ll.length o out) = ((tf o).1, some ((tf o).2.1, (tf o).2.2)) ∧ lo ≤ (tf o).2.2 ∧ (tf o).2.2 ≤ hi ∧ Bt 1500 (tf o).2.2 ∧ Sm (tf o).2.1 ∧ (tf o).2.1 = dot (riseL ll.length o out) (outsAt L ll [(tf o).2.2]) ∧ mostF L ll (riseL ll.length o out) pts = (tf o).2.1 ∧ (tf o).1.dep ≤ 8 ∧ ∀ num, (tf o).2.1 ≤ num → Cls L ll lo hi (riseL ll.length o out) num (tf o).1 0 0 := fun o => by rw [htf]; exact tp o
  rw [← htf]
  refine ⟨fun o hoo => ⟨w.gok rfl (rise_aim l4 o out) (by unfold riseL; simp), (tp o).1, (tp o).2.2.2.2.1⟩, fun o _ => (tp o).2.2.2.2.2.2.1, ?_, ?_, fun o hoo hle => ⟨(tp o).2.2.2.2.2.2.2.1, w.cl rfl (rise_aim l4 o out) ((tp o).2.2.2.2.2.2.2.2 0 hle)⟩, fun o hoo hlt => ?_⟩
  · rw [(tp out).2.2.2.2.2.1, rise_self (outs_len L ll _)]
    exact Rat.le_refl
  · intro os
    induction os with
    | nil =>
      intro acc _
      exact ⟨fun o h => (by cases h), by simp⟩
    | cons a os ih =>
      intro acc hos
      rw [abF]
      by_cases h : 0 < (tf a).2.1
      · rw [if_pos h]
        exact ⟨by simp, h, rfl⟩
      · rw [if_neg h]
        have := ih (acc ++ [(tf a).1]) (fun o ho => hos o (by simp [ho]))
        revert this
        generalize abF tf os (acc ++ [(tf a).1]) = z
        intro this
        cases z with
        | yes ts =>
          obtain ⟨h1, h2⟩ := this
          refine ⟨fun o ho => ?_, by rw [h2]; simp⟩
          rcases List.mem_cons.mp ho with rfl | ho
          · exact Rat.not_lt.mp h
          · exact h1 o ho
        | no o x =>
          obtain ⟨h1, h2, h3⟩ := this
          exact ⟨by simp [h1], h2, h3⟩
  · obtain ⟨_, t2, t3, t4, t5, t6, _⟩ := tp o
    have hol := oth_lt hoo
    have hlen := outs_len L ll [(tf o).2.2]
    have e := rise_out (o := o) (out := out) hlen
    rw [← t6] at e
    have mem : ∀ i, i < ll.length → Sm ((outsAt L ll [(tf o).2.2]).getD i 0) := fun i hi => by
      rw [List.getD_eq_getElem?_getD, List.getElem?_eq_getElem (by rw [hlen]; exact hi)]
      exact (net_outs w.pt.net w.pt.len t4 (by decide) _ (List.getElem_mem _)).sm (by decide)
    refine ⟨hoo, t4.sm (by decide), t2, t3, w.z t4, mem out ho, mem o hol.1, ?_⟩
    rw [e] at hlt
    grind
end
end NC

set_option Elab.async false
set_option linter.all false
set_option autoImplicit false
set_option maxRecDepth 100000
set_option maxHeartbeats 4000000
set_option exponentiation.threshold 100000
namespace NC
open PySem PySem.Spec PyProof.Rows L2

/-! printed by spec22.py: the aims, the wishes, the outs are told right. -/
section
variable {P : Program} {w : World} {K : PySem.W.Frag} {mg : Str → Option Value} {base : Heap}


abbrev R_aims (K : PySem.W.Frag) : Con := fun ds μ d μ' => ∃ (q : Addr) (s : S3) (E : Nat) (L : Lays) (ll : Lay) (lo hi : Rat) (p0 : Rat) (ps : List Rat), (TkOk (2 * ll.length) s ∧ Wd E L ll lo hi (p0 :: ps)) ∧ ds = [.ref q, eNet K L ll, eLays (L ++ [ll]), eBox lo hi, .lst ((p0 :: ps).map eF)] ∧ μ = [ceT q s] ∧ d = .bl true ∧ μ' = [ceT q (seqF shareF ll s).2]
theorem Wd.ptsB {E : Nat} {L : Lays} {ll : Lay} {lo hi : Rat} {pts : List Rat} (w : Wd E L ll lo hi pts) : PtsB E L ll pts := ⟨w.pt.net, w.pt.len, fun p hp => (w.pt.al p hp).1⟩
theorem share_ok (k : Nat) (s : S3) (h : TkOk (k + 2) s) : TkOk k (shareF s).2 := shareF_ok h
theorem share_aim (ll : Lay) (h : ll.length ≤ 4) (s : S3) : AimB (seqF shareF ll s).1 := ⟨by rw [seqF_len]; exact h, seqF_all shareF_fr ll s⟩
theorem turn_map (aim : List Rat) : (D.tup ((aim.map fun a => eF (-a)))) = eR (aim.map fun a => -1 * a) := by
  show D.tup _ = D.tup ((aim.map fun a => -1 * a).map eF)
  rw [List.map_map]
  congr 1
  apply List.map_congr_left
  intro a _
  show eF (-a) = eF (-1 * a)
  rw [Rat.neg_mul, Rat.one_mul]
theorem fr_sm {a : Rat} (h : Fr 6 24 a) : Sm a := (h.bt (b := 6) (by decide) (by decide) (by decide)).sm (by decide)

theorem c__law_aims_right (h : Hd P w K mg base) : FC P w K mg base 30 "_law_aims_right" 5 (R_aims K) := by
  refine mk_fc (N := ["_law_stream_here", "_law_net", "_law_layers_here", "_law_box_here", "_law_points_here", "_law_aim", "_law_number", "_law_spot", "_law_tree", "_law_turned", "_law_less_here", "_law_node_here", "_law_one"]) (ps := ["_law_stream_here", "_law_net", "_law_layers_here", "_law_box_here", "_law_points_here"]) (V := [2, 3, 3, 3, 3, 3, 3, 3, 3, 3, 3, 0, 0]) (Gs := ["tuple", "greatest_at", "_law_most", "least_at", "closes"]) (k := 29) (d := dd__law_aims_right) h 129 91 rfl rfl rfl (by decide +kernel) rfl (fun _ _ _ _ _ _ us hl => match us, hl with | [_, _, _, _, _], _ => rfl) fun X Z ds μ r μ' C hR hx hl => ?_
  obtain ⟨q, s, E, L, ll, lo, hi, p0, ps, ⟨ht, w0⟩, rfl, rfl, rfl, rfl⟩ := hR
  show DB K X Z [some (.ref q), some (eNet K L ll), some (eLays (L ++ [ll])), some (eBox lo hi), some (.lst ((p0 :: ps).map eF)), none, none, none, none, none, none, none, none] ([ceT q s]) (defBody (top 152)) _
  obtain ⟨r, hr⟩ : ∃ r, r = seqF shareF ll s := ⟨_, rfl⟩
  rw [← hr]
  have l4 := w0.ok.ll.2
  have aim : AimB r.1 := by rw [hr]; exact share_aim ll l4 s
  have rl : r.1.length = ll.length := by rw [hr, seqF_len]
  have aim2 := aimB_neg aim
  obtain ⟨t, v, x, t1, t2, t3, t4, t5, t6, t7, t8, t9⟩ := w0.top aim
  obtain ⟨t', v', x', u1, u2, u3, u4, u5, u6, u7, u8, u9⟩ := w0.top aim2
  have tl : ∀ l : Lay, l.length < ll.length → TkOk 2 (seqF shareF l s).2 := fun l hl => seqF_ok share_ok l (k := 2) (ht.le (by omega))
  refine db_set 5 C rfl rfl (de_to (d' := eR r.1) (μ2 := [ceT q r.2]) (de_tupleL 0 C rfl (h.free 12 _ rfl) (de_lst (dl_of_dc (V' := [1, 0, 0, 0, 0, 0, 0, 0, 0, 0, 0, 3, 0]) (Gs' := ["_law_share"]) (own := [("_law_node_here", 11)]) C (by decide +kernel) (dc_mapM ll eSum (fun l _ => eF (shareF (seqF shareF l s).2).1) (fun _ => true) (fun l => [ceT q (seqF shareF l s).2]) (fun l => (seqF shareF l s).1.map eF) [1, 0, 0, 0, 0, 0, 0, 0, 0, 0, 0, 3, 0] ["_law_share"] [("_law_node_here", 11)] C (by decide +kernel) (by decide +kernel) (di_list C (de_ixL C (de_var 2 C rfl rfl rfl) (de_neg de_int) (by exact at_last L ll eLayL))) (by omega) rfl (fun l a _ => by rw [seqF_snoc]; simp) (fun l a e => by cases e) fun l a r e => ⟨_, _, (by decide), (fun z => by cases z), fun _ C' => ⟨(dg_name 11 C' rfl rfl), dts_nil, fun _ => de_to (de_callC (hm := (Eq.refl [q] : [q] = [q])) 1 0 C' (c__law_share h) rfl (da_cons (de_var 0 C' rfl rfl rfl) da_nil) ⟨q, _, tl l (by rw [e]; simp), rfl, rfl, rfl, rfl⟩ rfl (by omega)) (by rfl) (by rw [seqF_snoc]; rfl)⟩⟩)))) (by rw [hr]) (by rw [hr])) ?_
  refine db_asg (de_is (de_callP 1 C (c_greatest_at h) rfl (da_cons (de_lst (dl_lst (da_cons (de_var 1 C rfl rfl rfl) da_nil))) (da_cons (de_var 3 C rfl rfl rfl) (da_cons (de_var 5 C rfl rfl rfl) da_nil))) ⟨_, L, ll, lo, hi, r.1, w0.gok rfl aim rl, rfl, rfl⟩ rfl (by omega)) (by rw [t1])) (dg_tup C (dgs_cons (dg_name 6 C rfl rfl) (dgs_cons (dg_name 7 C rfl rfl) (dgs_cons (dg_name 8 C rfl rfl) dgs_nil))) rfl) ?_
  refine db_set 9 C rfl rfl (de_is (de_tupleL 0 C rfl (h.free 12 _ rfl) (de_lst (dl_of_dc (V' := [0, 0, 0, 0, 0, 0, 0, 0, 0, 0, 0, 0, 3]) (Gs' := []) (own := [("_law_one", 12)]) C (by decide +kernel) (dc_map r.1 eF (fun a => eF (-a)) [0, 0, 0, 0, 0, 0, 0, 0, 0, 0, 0, 0, 3] [] [("_law_one", 12)] C (by decide +kernel) (by decide +kernel) (di_tup C (de_var 5 C rfl rfl rfl)) (by rw [rl]; omega) fun a ha => ⟨_, _, (by decide), fun _ C' => ⟨(dg_name 12 C' rfl rfl), (de_is (de_tup (da_cons (de_sub de_int (de_ixT C' (de_var 12 C' rfl rfl rfl) de_int rfl)) (da_cons (de_ixT C' (de_var 12 C' rfl rfl rfl) de_int rfl) da_nil))) eF_negl)⟩⟩)))) (by exact turn_map r.1)) ?_
  refine db_set 10 C rfl rfl (de_callP 2 C (c__law_most h) rfl (da_cons (de_lst (dl_lst (da_cons (de_var 2 C rfl rfl rfl) da_nil))) (da_cons (de_var 4 C rfl rfl rfl) (da_cons (de_var 9 C rfl rfl rfl) da_nil))) ⟨L, ll, p0, ps, r.1.map fun a => -1 * a, w0.ptsB.dot aim2, rfl, by exact congrArg eF u7.symm⟩ rfl (by omega)) ?_
  have hneg : -1 * v' = -v' := by rw [Rat.neg_mul, Rat.one_mul]
  refine db_skip (dt_is (dw_or (dt_cp (de_var 6 C rfl rfl rfl) (de_callP 2 C (c__law_most h) rfl (da_cons (de_lst (dl_lst (da_cons (de_var 2 C rfl rfl rfl) da_nil))) (da_cons (de_var 4 C rfl rfl rfl) (da_cons (de_var 5 C rfl rfl rfl) da_nil))) ⟨L, ll, p0, ps, r.1, w0.ptsB.dot aim, rfl, by exact congrArg eF t7.symm⟩ rfl (by omega)) (cp_neF C)) fun hc0 => (dw_or1 (dt_cp (de_ixT C (de_callP 3 C (c_least_at h) rfl (da_cons (de_tup (da_cons (de_var 1 C rfl rfl rfl) da_nil)) (da_cons (de_var 3 C rfl rfl rfl) (da_cons (de_var 5 C rfl rfl rfl) da_nil))) ⟨_, L, ll, lo, hi, r.1, v', x', t', ⟨w0.gok rfl aim2 (by rw [List.length_map]; exact rl), fun a ha => fr_sm (aim.2 a ha), u1, u5⟩, rfl, rfl⟩ rfl (by omega)) de_int rfl) (de_is (de_tup (da_cons (de_sub de_int (de_ixT C (de_var 10 C rfl rfl rfl) de_int rfl)) (da_cons (de_ixT C (de_var 10 C rfl rfl rfl) de_int rfl) da_nil))) eF_negl) (cp_neF C)))).dt (by simp [hneg])) ?_
  exact db_ret (de_cp (de_callP 4 C (c_closes h) rfl (da_cons (de_lst (dl_lst (da_cons (de_var 1 C rfl rfl rfl) da_nil))) (da_cons (de_var 3 C rfl rfl rfl) (da_cons (de_var 5 C rfl rfl rfl) (da_cons (de_var 6 C rfl rfl rfl) (da_cons (de_var 8 C rfl rfl rfl) da_nil))))) ⟨_, L, ll, lo, hi, r.1, v, t, ⟨rfl, w0.ok, w0.h8, w0.box.ok, rl, t5, t8, w0.cl rfl aim (t9 v Rat.le_refl)⟩, rfl, rfl⟩ rfl (by omega)) de_bl cp_isB) ⟨(by rfl), (by first | exact ⟨[], rfl⟩ | exact ⟨[_], rfl⟩ | exact ⟨[_, _], rfl⟩ | exact ⟨[], by simp⟩)⟩
end
end NC

set_option Elab.async false
set_option linter.all false
set_option autoImplicit false
set_option maxRecDepth 100000
set_option maxHeartbeats 4000000
set_option exponentiation.threshold 100000
namespace NC
open PySem PySem.Spec PyProof.Rows L2

/-! printed by spec23.py: the wishes, the outs are told right. -/
section
variable {P : Program} {w : World} {K : PySem.W.Frag} {mg : Str → Option Value} {base : Heap}


/-- the stream behind the wishes -/
def wantF (L : Lays) (ll : Lay) (pts : List Rat) (s : S3) : S3 :=
  let w := wishF L ll pts s
  let a := takeF 4 w.2
  (seqF (wishF L ll pts) (List.range a.1) a.2).2
abbrev R_wanted (K : PySem.W.Frag) : Con := fun ds μ d μ' => ∃ (q : Addr) (s : S3) (E : Nat) (L : Lays) (ll : Lay) (lo hi : Rat) (p0 : Rat) (ps : List Rat), (TkOk 200 s ∧ Wd E L ll lo hi (p0 :: ps)) ∧ ds = [.ref q, eNet K L ll, eLays (L ++ [ll]), eBox lo hi, .lst ((p0 :: ps).map eF)] ∧ μ = [ceT q s] ∧ d = .bl true ∧ μ' = [ceT q (wantF L ll (p0 :: ps) s)]
theorem bt_mk {n : Nat} {a : Int} {b : Nat} (ha : a.natAbs < 2 ^ n) (hb : b < 2 ^ n) (h : b ≠ 0) : Bt n (mkRat a b) := Bt.mk ha hb h
theorem wish_len (L : Lays) (ll : Lay) (pts : List Rat) (s : S3) : (wishF L ll pts s).1.1.length = ll.length := seqF_len ll s
theorem wish_ok (L : Lays) (ll : Lay) (h4 : ll.length ≤ 4) (pts : List Rat) (k : Nat) (s : S3) (h : TkOk (k + 14) s) : TkOk k (wishF L ll pts s).2 :=
  TkOk.take (TkOk.take (k := k + 1) (shareF_ok (k := k + 2) (TkOk.take (k := k + 4) (TkOk.take (k := k + 5) (seqF_ok wqF_ok ll (k := k + 6) (h.le (by omega)))))))
theorem PtsB.wish {E : Nat} {L : Lays} {ll : Lay} {p0 : Rat} {ps : List Rat} (h : PtsB E L ll (p0 :: ps)) (s : S3) : WishB (wishF L ll (p0 :: ps) s).1 ∧ (wishF L ll (p0 :: ps) s).1.1.length = ll.length := by
  have aim := row_aim ll h.ll4 s
  refine ⟨⟨aim, ?_⟩, wish_len _ _ _ _⟩
  obtain ⟨r, hr⟩ : ∃ r, r = seqF wqF ll s := ⟨_, rfl⟩
  rw [← hr] at aim
  obtain ⟨m, hm⟩ : ∃ m, m = mostF L ll r.1 (p0 :: ps) := ⟨_, rfl⟩
  have bm : Bt 280 m := by rw [hm]; exact h.most aim
  obtain ⟨a, ha⟩ : ∃ a, a = takeF 3 r.2 := ⟨_, rfl⟩
  obtain ⟨b, hb⟩ : ∃ b, b = takeF 20 a.2 := ⟨_, rfl⟩
  obtain ⟨c, hc⟩ : ∃ c, c = shareF b.2 := ⟨_, rfl⟩
  obtain ⟨d, hd⟩ : ∃ d, d = takeF 9 c.2 := ⟨_, rfl⟩
  obtain ⟨e, he⟩ : ∃ e, e = takeF 4 d.2 := ⟨_, rfl⟩
  have hE : (wishF L ll (p0 :: ps) s).1.2 = [m, m + mkRat ((a.1 : Int) - 1) (1 + b.1), c.1, m + ((0 - (d.1 : Int) : Int) : Rat)].getD e.1 0 := by subst he hd hc hb ha hm hr; rfl
  rw [hE]
  have la : a.1 < 3 := by rw [ha]; exact takeF_lt (by decide)
  have lb : b.1 < 20 := by rw [hb]; exact takeF_lt (by decide)
  have ld : d.1 < 9 := by rw [hd]; exact takeF_lt (by decide)
  have le : e.1 < 4 := by rw [he]; exact takeF_lt (by decide)
  have b2 : Bt 5 (mkRat ((a.1 : Int) - 1) (1 + b.1)) := Bt.mk (by show _ < 32; omega) (by show _ < 32; omega) (by omega)
  have b3 : Bt 6 c.1 := by rw [hc]; exact (shareF_fr b.2).bt (by decide) (by decide) (by decide)
  have b4 : Bt 5 ((0 - (d.1 : Int) : Int) : Rat) := Bt.int (by show _ < 32; omega) (by decide)
  have h4 : e.1 = 0 ∨ e.1 = 1 ∨ e.1 = 2 ∨ e.1 = 3 := by omega
  rcases h4 with h | h | h | h <;> rw [h]
  · exact bm.le (by decide)
  · exact (bm.add b2).le (by decide)
  · exact b3.le (by decide)
  · exact (bm.add b4).le (by decide)
theorem Wd.wish {E : Nat} {L : Lays} {ll : Lay} {lo hi : Rat} {p0 : Rat} {ps : List Rat} (w : Wd E L ll lo hi (p0 :: ps)) (s : S3) : WishB (wishF L ll (p0 :: ps) s).1 ∧ (wishF L ll (p0 :: ps) s).1.1.length = ll.length := w.ptsB.wish s
theorem at_bl {a b : D} {u : Bool} : atI [a, b] (b2n u) = some (if u = true then b else a) := by cases u <;> rfl
theorem eFS_str (z : Fnd) : ∃ x, eFS z = .tup [.str (match z with | .found _ => "found" | .tree _ => "none"), x] := by cases z <;> exact ⟨_, rfl⟩


theorem str_if (u : Bool) (a b : Str) : (if u = true then D.str b else D.str a) = D.str (if u = true then b else a) := by cases u <;> rfl
theorem dc_to {X : Cx} {Z : Zed} {ρ : Rho} {μ μ1 μ2 : Mu} {elt tg iter : Expr} {ifs : List Expr} {scope : Scope} {own : List (Str × Nat)} {d d' : Cell} (h : DC K X Z ρ μ elt tg iter ifs scope own d μ1) (q : d = d') (q2 : μ1 = μ2) : DC K X Z ρ μ elt tg iter ifs scope own d' μ2 := by subst q q2; exact h

theorem c__law_wanted_right (h : Hd P w K mg base) : FC P w K mg base 30 "_law_wanted_right" 5 (R_wanted K) := by
  refine mk_fc (N := ["_law_stream_here", "_law_net", "_law_layers_here", "_law_box_here", "_law_points_here", "_law_wish_here", "_law_told", "_law_due", "_law_wishes", "_law_k"]) (ps := ["_law_stream_here", "_law_net", "_law_layers_here", "_law_box_here", "_law_points_here"]) (V := [2, 3, 2, 3, 2, 3, 3, 3, 3, 0]) (Gs := ["_law_wish", "always_holds", "_law_less", "_law_most", "int", "shows_always", "range", "_law_take", "find_spot", "_law_found_due", "shows_found"]) (k := 29) (d := dd__law_wanted_right) h 130 92 rfl rfl rfl (by decide +kernel) rfl (fun _ _ _ _ _ _ us hl => match us, hl with | [_, _, _, _, _], _ => rfl) fun X Z ds μ r μ' C hR hx hl => ?_
  obtain ⟨q, s, E, L, ll, lo, hi, p0, ps, ⟨ht, w0⟩, rfl, rfl, rfl, rfl⟩ := hR
  show DB K X Z [some (.ref q), some (eNet K L ll), some (eLays (L ++ [ll])), some (eBox lo hi), some (.lst ((p0 :: ps).map eF)), none, none, none, none, none] ([ceT q s]) (defBody (top 153)) _
  have l4 := w0.ok.ll.2
  obtain ⟨wi, hwi⟩ : ∃ wi, wi = wishF L ll (p0 :: ps) s := ⟨_, rfl⟩
  obtain ⟨a, hat⟩ : ∃ a, a = takeF 4 wi.2 := ⟨_, rfl⟩
  obtain ⟨r, hr⟩ : ∃ r, r = seqF (wishF L ll (p0 :: ps)) (List.range a.1) a.2 := ⟨_, rfl⟩
  have hE : wantF L ll (p0 :: ps) s = r.2 := by subst hr hat hwi; rfl
  rw [hE]
  have w1 : WishB wi.1 ∧ wi.1.1.length = ll.length := by rw [hwi]; exact w0.wish s
  have la : a.1 < 4 := by rw [hat]; exact takeF_lt (by decide)
  have ti : TkOk 186 wi.2 := by rw [hwi]; exact wish_ok L ll l4 _ 186 s ht
  have ta : TkOk 185 a.2 := by rw [hat]; exact TkOk.take (k := 185) ti
  have hrl : r.1.length = a.1 := by rw [hr, seqF_len]; simp
  have hrw : ∀ v ∈ r.1, WishB v ∧ v.1.length = ll.length := by rw [hr]; exact seqF_all (fun s => w0.wish s) (List.range a.1) a.2
  obtain ⟨t, v, x, t1, t2, t3, t4, t5, t6, t7, t8, t9⟩ := w0.top w1.1.1
  have sw := w1.1.2.sm (by decide)
  refine db_set 5 C rfl rfl (de_callC (hm := (Eq.refl [q] : [q] = [q])) 1 0 C (c__law_wish h) rfl (da_cons (de_var 0 C rfl rfl rfl) (da_cons (de_var 2 C rfl rfl rfl) (da_cons (de_var 4 C rfl rfl rfl) da_nil))) (show R_law_wish [.ref q, eLays (L ++ [ll]), .lst ((p0 :: ps).map eF)] [ceT q s] (eSum wi.1) [ceT q wi.2] from ⟨q, s, E, L, ll, p0, ps, ⟨ht.le (by omega), w0.ptsB⟩, rfl, rfl, by rw [hwi], by rw [hwi]⟩) rfl (by omega)) ?_
  refine db_set 6 C rfl rfl (de_callP 1 C (c_always_holds h) rfl (da_cons (de_var 1 C rfl rfl rfl) (da_cons (de_var 3 C rfl rfl rfl) (da_cons (de_var 5 C rfl rfl rfl) da_nil))) ⟨L, ll, lo, hi, wi.1, t, v, x, ⟨w0.gok rfl w1.1.1 w1.2, t1, t5, sw⟩, rfl, rfl⟩ rfl (by omega)) ?_
  refine db_set 7 C rfl rfl (de_notv (de_callP 2 C (c__law_less h) rfl (da_cons (de_ixT C (de_var 5 C rfl rfl rfl) de_int rfl) (da_cons (de_callP 3 C (c__law_most h) rfl (da_cons (de_lst (dl_lst (da_cons (de_var 2 C rfl rfl rfl) da_nil))) (da_cons (de_var 4 C rfl rfl rfl) (da_cons (de_ixT C (de_var 5 C rfl rfl rfl) de_int rfl) da_nil))) ⟨L, ll, p0, ps, wi.1.1, w0.ptsB.dot w1.1.1, rfl, by exact congrArg eF t7.symm⟩ rfl (by omega)) da_nil)) ⟨wi.1.2, v, ⟨sw, t5⟩, rfl, rfl⟩ rfl (by omega))) ?_
  have hth : ∃ u th, alwD wi.1 t v x = .tup [.str (if u = true then "true" else "false"), th] ∧ u = (!decide (wi.1.2 < v)) ∧ ((∃ tr : Tr, alwD wi.1 t v x = .tup [.str "true", eTr tr] ∧ tr.dep ≤ 8 ∧ ClOk K (eNets K L ll) L ll lo hi wi.1.1 wi.1.2 tr 0 0) ∨ (∃ y : Rat, alwD wi.1 t v x = .tup [.str "false", .tup [eF y]] ∧ Sm y ∧ lo ≤ y ∧ y ≤ hi ∧ SmZ [y] (stk L ll) ∧ KpOk L ll y wi.1 ∧ wi.1.2 < dot wi.1.1 (outsAt L ll [y]))) := by
    by_cases hlt : wi.1.2 < v
    · have e : alwD wi.1 t v x = .tup [.str "false", .tup [eF x]] := if_pos hlt
      exact ⟨false, _, e, by simp [hlt], .inr ⟨x, e, t4.sm (by decide), t2, t3, w0.z t4, w0.kp t4 w1.1.1 sw, by rw [← t6]; exact hlt⟩⟩
    · have e : alwD wi.1 t v x = .tup [.str "true", eTr t] := if_neg hlt
      exact ⟨true, _, e, by simp [hlt], .inl ⟨t, e, t8, w0.cl rfl w1.1.1 (t9 _ (Rat.not_lt.mp hlt))⟩⟩
  obtain ⟨u, th, e1, e2, e3⟩ := hth
  rw [← e2]
  rw [e1] at e3 ⊢
  refine db_skip (dt_is (dw_or (dt_cp (de_ixT C (de_var 6 C rfl rfl rfl) de_int rfl) (de_is (de_ixL C (de_lst (dl_lst (da_cons de_str (da_cons de_str da_nil)))) (de_intB 4 C rfl (h.free 8 _ rfl) (de_var 7 C rfl rfl rfl)) (by exact at_bl)) (str_if _ _ _)) cp_neS) fun hc0 => (dw_or1 (dt_cp (de_callP 5 C (c_shows_always h) rfl (da_cons (de_var 1 C rfl rfl rfl) (da_cons (de_var 3 C rfl rfl rfl) (da_cons (de_var 5 C rfl rfl rfl) (da_cons (de_var 6 C rfl rfl rfl) da_nil)))) ⟨L, ll, lo, hi, wi.1, _, ⟨w0.ok, w0.h8, w0.box.ok, w1.2, sw, e3⟩, rfl, rfl⟩ rfl (by omega)) de_bl cp_notB))).dt (by cases u <;> rfl)) ?_
  have tl : ∀ l : List Nat, l.length < a.1 → TkOk 14 (seqF (wishF L ll (p0 :: ps)) l a.2).2 := fun l hl => seqF_ok (wish_ok L ll l4 _) l (k := 14) (ta.le (by omega))
  skip
  refine db_setDcF (V' := [1, 0, 1, 0, 1, 0, 0, 0, 0, 3]) (Gs' := ["_law_wish"]) (own := [("_law_k", 9)]) 8 C (by decide +kernel) rfl rfl (by simp) (dc_to (d' := .lst (r.1.map eSum)) (μ2 := [ceT q r.2]) (dc_mapM (List.range a.1) (fun (k : Nat) => .int (k : Int)) (fun l _ => eSum (wishF L ll (p0 :: ps) (seqF (wishF L ll (p0 :: ps)) l a.2).2).1) (fun _ => true) (fun l => [ceT q (seqF (wishF L ll (p0 :: ps)) l a.2).2]) (fun l => (seqF (wishF L ll (p0 :: ps)) l a.2).1.map eSum) [1, 0, 1, 0, 1, 0, 0, 0, 0, 3] ["_law_wish"] [("_law_k", 9)] C (by decide +kernel) (by decide +kernel) (di_is (di_range (n := a.1) 6 C rfl (h.free 16 _ rfl) (de_callC (μ1 := [ceT q wi.2]) (μa' := [ceT q a.2]) (hm := (Eq.refl [q] : [q] = [q])) 1 7 C (c__law_take h) rfl (da_cons (de_var 0 C rfl rfl rfl) (da_cons de_int da_nil)) (show R_law_take [.ref q, .int ((4 : Nat) : Int)] [ceT q wi.2] (.int (a.1 : Int)) [ceT q a.2] from ⟨q, wi.2, 4, ⟨ti.le (by decide), by decide, by decide⟩, rfl, rfl, by rw [hat], by rw [hat]⟩) rfl (by omega)) (by rfl) (by first | rfl | assumption | omega | decide | simp)) (by rfl)) (by simp; omega) rfl (fun l a _ => by rw [seqF_snoc]; simp) (fun l a e => by cases e) fun l a r e => ⟨_, _, (by decide), (fun z => by cases z), fun _ C' => ⟨(dg_name 9 C' rfl rfl), dts_nil, fun _ => de_to (de_callC (hm := (Eq.refl [q] : [q] = [q])) 1 0 C' (c__law_wish h) rfl (da_cons (de_var 0 C' rfl rfl rfl) (da_cons (de_var 2 C' rfl rfl rfl) (da_cons (de_var 4 C' rfl rfl rfl) da_nil))) ⟨q, _, E, L, ll, p0, ps, ⟨(tl l (by have h1 := congrArg List.length e; simp at h1; omega)).le (by omega), w0.ptsB⟩, rfl, rfl, rfl, rfl⟩ rfl (by omega)) (by rfl) (by rw [seqF_snoc]; rfl)⟩⟩) (by rw [hr]) (by rw [hr])) ?_
  have h8 : r.1.length ≤ 8 := by omega
  obtain ⟨dk, fz⟩ := w0.found h8 hrw
  refine db_set 6 C rfl rfl (de_callP 8 C (c_find_spot h) rfl (da_cons (de_var 1 C rfl rfl rfl) (da_cons (de_var 3 C rfl rfl rfl) (da_cons (de_var 8 C rfl rfl rfl) da_nil))) ⟨L, ll, lo, hi, r.1, w0.sok h8 hrw, rfl, rfl⟩ rfl (by omega)) ?_
  refine db_set 7 C rfl rfl (de_callP 9 C (c__law_found_due h) rfl (da_cons (de_var 2 C rfl rfl rfl) (da_cons (de_var 8 C rfl rfl rfl) (da_cons (de_var 4 C rfl rfl rfl) da_nil))) ⟨L, ll, r.1, p0 :: ps, ⟨dk, w0.few⟩, rfl, rfl⟩ rfl (by omega)) ?_
  have hth : ∃ th, eFS (sgrow lo hi L ll r.1 (hid L) 0) = .tup [.str (if duesF L ll r.1 (p0 :: ps) = true then "found" else "none"), th] ∧ FsOk L ll lo hi r.1 (sgrow lo hi L ll r.1 (hid L) 0) := by
    revert fz
    generalize sgrow lo hi L ll r.1 (hid L) 0 = z
    intro fz
    cases z with
    | found y => rw [fz.1]; exact ⟨_, rfl, fz.2⟩
    | tree y => rw [fz.1]; exact ⟨_, rfl, fz.2⟩
  obtain ⟨z, hz⟩ : ∃ z, z = sgrow lo hi L ll r.1 (hid L) 0 := ⟨_, rfl⟩
  rw [← hz] at hth ⊢
  obtain ⟨th2, f1, f2⟩ := hth
  exact db_ret (de_andv (de_cp (de_ixT C (de_is (de_var 6 C rfl rfl rfl) f1) de_int rfl) (de_is (de_ixL C (de_lst (dl_lst (da_cons de_str (da_cons de_str da_nil)))) (de_intB 4 C rfl (h.free 8 _ rfl) (de_var 7 C rfl rfl rfl)) (by exact at_bl)) (str_if _ _ _)) cp_eqS) fun hc0 => (de_one (de_cp (de_callP 10 C (c_shows_found h) rfl (da_cons (de_var 1 C rfl rfl rfl) (da_cons (de_var 3 C rfl rfl rfl) (da_cons (de_var 8 C rfl rfl rfl) (da_cons (de_var 6 C rfl rfl rfl) da_nil)))) ⟨L, ll, lo, hi, r.1, z, ⟨w0.sok h8 hrw, f2⟩, rfl, rfl⟩ rfl (by omega)) de_bl cp_isB))) ⟨(by simp), (by first | exact ⟨[], rfl⟩ | exact ⟨[_], rfl⟩ | exact ⟨[_, _], rfl⟩ | exact ⟨[], by simp⟩)⟩
end
end NC

set_option Elab.async false
set_option linter.all false
set_option autoImplicit false
set_option maxRecDepth 100000
set_option maxHeartbeats 4000000
set_option exponentiation.threshold 100000
namespace NC
open PySem PySem.Spec PyProof.Rows L2

/-! printed by spec24.py: the outs are told right. -/
section
variable {P : Program} {w : World} {K : PySem.W.Frag} {mg : Str → Option Value} {base : Heap}


abbrev R_aright (K : PySem.W.Frag) (ds : List D) (d : D) : Prop := ∃ (E : Nat) (L : Lays) (ll : Lay) (lo hi : Rat) (p0 : Rat) (ps : List Rat) (out : Nat), (Wd E L ll lo hi (p0 :: ps) ∧ out < ll.length) ∧ ds = [eNet K L ll, eLays (L ++ [ll]), eBox lo hi, .lst ((p0 :: ps).map eF), .int (out : Int)] ∧ d = .bl true
abbrev oneI (o k : Nat) : Rat := ((b2n (decide ((k : Int) = (o : Int))) : Int) : Rat)
theorem oneI_sm (o k : Nat) : Sm (oneI o k) := sm_int (by unfold b2n; split <;> decide)
theorem aim_at {n o out : Nat} (h : out < n) : atI ((List.range n).map fun k => eF (oneI o k)) (out : Int) = some (eF (oneI o out)) := by
  unfold atI ixN
  have h1 : (0 : Int) ≤ (out : Int) := by omega
  simp [h]
theorem aim_ix {n o out : Nat} (h : out < n) : ixN ((List.range n).map fun k => eF (oneI o k)).length (out : Int) = some out := by
  unfold ixN
  have h1 : (0 : Int) ≤ (out : Int) := by omega
  simp [h]
theorem aim_set {n o out : Nat} (h : out < n) : ((List.range n).map fun k => eF (oneI o k)).set out (eF (oneI o out + -1)) = (riseL n o out).map eF := by
  unfold riseL
  rw [List.map_map]
  apply List.ext_getElem?
  intro k
  rw [List.getElem?_set]
  by_cases hk : out = k
  · subst hk
    rw [if_pos rfl, if_pos (by simpa using h), List.getElem?_map, List.getElem?_range h]
    show some _ = some (eF (riseQ o out out))
    congr 2
    unfold riseQ oneI
    rw [Rat.intCast_sub, Rat.sub_eq_add_neg]
    have e : b2n (decide ((out : Int) = (out : Int))) = 1 := by unfold b2n; simp
    rw [e]; rfl
  · rw [if_neg hk, List.getElem?_map, List.getElem?_map]
    by_cases h2 : k < n
    · rw [List.getElem?_range h2]
      show some _ = some (eF (riseQ o out k))
      congr 2
      unfold riseQ oneI
      have e : b2n (decide ((k : Int) = (out : Int))) = 0 := by
        unfold b2n
        rw [if_neg]
        simp
        omega
      rw [e, Int.sub_zero]
    · rw [List.getElem?_eq_none (by simp; omega)]
      rfl
theorem dec_le {q : Rat} : decide (q.num ≤ (0 : Int)) = decide (q ≤ 0) := by
  by_cases h : q ≤ 0
  · have : ¬ 0 < q.num := fun z => Rat.not_lt.mpr h (num_pos_iff.mp z)
    have h2 : q.num ≤ 0 := by omega
    simp [h, h2]
  · have h2 : ¬ q.num ≤ 0 := by
      have := num_pos_iff.mpr (Rat.not_le.mp h)
      omega
    simp [h, h2]
/-- what is told of an out, right -/
theorem Wd.abv {E : Nat} {L : Lays} {ll : Lay} {lo hi : Rat} {pts : List Rat} (w : Wd E L ll lo hi pts) {out : Nat} (ho : out < ll.length) : ∃ (tf : Nat → Tr × Rat × Rat) (u : Bool) (th : List D) (z : Abv),
    (∀ o ∈ othL ll.length out, GOk K (eNets K L ll) L ll lo hi (riseL ll.length o out) ∧ topF lo hi L ll (riseL ll.length o out) = ((tf o).1, some ((tf o).2.1, (tf o).2.2)) ∧ Sm (tf o).2.1) ∧
    (∀ o, o < ll.length → mostF L ll (riseL ll.length o out) pts = (tf o).2.1) ∧ z = abF tf (othL ll.length out) [] ∧ AbOk K L ll lo hi out z ∧ eAb z = .tup (.str (if u = true then "true" else "false") :: th) ∧ (List.range ll.length).all (fun o => decide ((tf o).2.1 ≤ 0)) = u := by
  obtain ⟨tf, h1, h2, h3, h4, h5, h6⟩ := w.above (K := K) ho
  have h4 := h4 (othL ll.length out) [] (fun o h => h)
  obtain ⟨z, hz⟩ : ∃ z, z = abF tf (othL ll.length out) [] := ⟨_, rfl⟩
  rw [← hz] at h4
  cases z with
  | yes ts =>
    obtain ⟨k1, k2⟩ := h4
    rw [List.nil_append] at k2
    refine ⟨tf, true, [.tup (ts.map eTr)], .yes ts, h1, h2, hz, ⟨by rw [k2]; simp, fun q hq => ?_⟩, rfl, ?_⟩
    · rw [k2] at hq
      have e : (othL ll.length out).zip ((othL ll.length out).map fun o => (tf o).1) = (othL ll.length out).map fun o => (o, (tf o).1) := by
        generalize othL ll.length out = os
        induction os with
        | nil => rfl
        | cons a os ih => simp [ih]
      rw [e] at hq
      obtain ⟨o, hoo, rfl⟩ := List.mem_map.mp hq
      exact h5 o hoo (k1 o hoo)
    · rw [List.all_eq_true]
      intro o hoo
      by_cases e : o = out
      · rw [e]; exact decide_eq_true h3
      · exact decide_eq_true (k1 o (List.mem_filter.mpr ⟨hoo, by simp; omega⟩))
  | no o x =>
    obtain ⟨k1, k2, k3⟩ := h4
    refine ⟨tf, false, [.int (o : Int), .tup [eF x]], .no o x, h1, h2, hz, by rw [k3]; exact h6 o k1 k2, rfl, ?_⟩
    rw [List.all_eq_false]
    exact ⟨o, List.mem_range.mpr (oth_lt k1).1, by simp only [decide_eq_true_eq]; exact Rat.not_le.mpr k2⟩

theorem c__law_above_right (h : Hd P w K mg base) : FC P w K mg base 30 "_law_above_right" 5 (Pu (R_aright K)) := by
  refine mk_fc (N := ["_law_net", "_law_layers_here", "_law_box_here", "_law_points_here", "_law_out", "_law_due", "_law_other", "_law_aim", "_law_told", "_law_k"]) (ps := ["_law_net", "_law_layers_here", "_law_box_here", "_law_points_here", "_law_out"]) (V := [3, 3, 3, 3, 3, 3, 2, 3, 3, 0]) (Gs := ["range", "len", "_law_plus", "_law_most", "tuple", "above_all", "int", "shows_above"]) (k := 29) (d := dd__law_above_right) h 131 93 rfl rfl rfl (by decide +kernel) rfl (fun _ _ _ _ _ _ us hl => match us, hl with | [_, _, _, _, _], _ => rfl) fun X Z ds μ r μ' C hR hx hl => ?_
  obtain ⟨rfl, rfl, E, L, ll, lo, hi, p0, ps, out, ⟨w0, ho⟩, rfl, rfl⟩ := hR
  show DB K X Z [some (eNet K L ll), some (eLays (L ++ [ll])), some (eBox lo hi), some (.lst ((p0 :: ps).map eF)), some (.int (out : Int)), none, none, none, none, none] ([]) (defBody (top 154)) _
  have l4 := w0.ok.ll.2
  obtain ⟨tf, u, th, z, a1, a2, a3, a4, a5, a6⟩ := w0.abv (K := K) ho
  refine db_set 5 C rfl rfl de_bl ?_
  refine db_forS (S := Bool) (List.range ll.length) (fun (o : Nat) => .int (o : Int)) (fun v r => (v && r.all (fun o => decide ((tf o).2.1 ≤ 0))) = u ∧ ∀ o ∈ r, o < ll.length) (fun v => [some (eNet K L ll), some (eLays (L ++ [ll])), some (eBox lo hi), some (.lst ((p0 :: ps).map eF)), some (.int (out : Int)), some (.bl v), none, none, none, none]) (fun _ => []) true C (di_is (di_range (n := ll.length) 0 C rfl (h.free 16 _ rfl) (de_len 1 C rfl (h.free 0 _ rfl) (de_ixL C (de_var 1 C rfl rfl rfl) (de_neg de_int) (by exact at_last L ll eLayL)) rfl) (by simp) (by first | rfl | assumption | omega | decide | simp)) (by rfl)) rfl (.some (.some (.some (.some (.some (.some (.none (.none (.none (.none .nil)))))))))) (by exact ⟨a6, fun o h => List.mem_range.mp h⟩) (fun v o r hJ ha => ?_) (fun v hJ => ?_)
  · obtain ⟨j1, j2⟩ := hJ
    have hol := j2 o (by simp)
    refine ⟨_, _, _, (dg_name 6 C rfl rfl), ?_⟩
    refine db_setDc (V' := [0, 0, 0, 0, 0, 0, 1, 0, 0, 3]) (Gs' := ["int"]) (own := [("_law_k", 9)]) 7 C (by decide +kernel) rfl rfl (dc_map (List.range ll.length) (fun (k : Nat) => .int (k : Int)) (fun k => eF (oneI o k)) [0, 0, 0, 0, 0, 0, 1, 0, 0, 3] ["int"] [("_law_k", 9)] C (by decide +kernel) (by decide +kernel) (di_is (di_range (n := ll.length) 0 C rfl (h.free 16 _ rfl) (de_len 1 C rfl (h.free 0 _ rfl) (de_ixL C (de_var 1 C rfl rfl rfl) (de_neg de_int) (by exact at_last L ll eLayL)) rfl) (by simp) (by first | rfl | assumption | omega | decide | simp)) (by rfl)) (by simp; omega) fun a ha => ⟨_, _, (by decide), fun _ C' => ⟨(dg_name 9 C' rfl rfl), (de_is (de_tup (da_cons (de_intB 0 C' rfl (h.free 8 _ rfl) (de_cp (de_var 9 C' rfl rfl rfl) (de_var 6 C' rfl rfl rfl) cp_eq)) (da_cons de_int da_nil))) eF_int)⟩⟩) (fun q0 hq0 => ?_)
    refine db_asg (de_callP 2 C (c__law_plus h) rfl (da_cons (de_ixO 0 C (de_var 7 C rfl rfl rfl) (de_var 4 C rfl rfl rfl) rfl (by exact aim_at ho)) (da_cons (de_is (de_tup (da_cons (de_neg de_int) (da_cons de_int da_nil))) (by rfl : _ = eF (-1))) da_nil)) ⟨oneI o out, -1, ⟨oneI_sm o out, sm_int (i := -1) (by decide)⟩, rfl, rfl⟩ rfl (by omega)) (dg_setix 0 (de_var 7 C rfl rfl rfl) (de_var 4 C rfl rfl rfl) rfl (by exact aim_ix ho)) ?_
    show DB K X Z _ [(q0, .lst (((List.range ll.length).map fun k => eF (oneI o k)).set out (eF (oneI o out + -1))))] _ _
    rw [aim_set ho]
    refine db_set 5 C rfl rfl (de_andv (de_var 5 C rfl rfl rfl) fun hc0 => (de_one (de_cp (de_ixT C (de_callP 3 C (c__law_most h) rfl (da_cons (de_lst (dl_lst (da_cons (de_var 1 C rfl rfl rfl) da_nil))) (da_cons (de_var 3 C rfl rfl rfl) (da_cons (de_tupleO 0 4 C rfl (h.free 12 _ rfl) (de_var 7 C rfl rfl rfl) rfl) da_nil))) ⟨L, ll, p0, ps, riseL ll.length o out, w0.ptsB.dot (rise_aim l4 o out), rfl, by exact congrArg eF (a2 o hol).symm⟩ rfl (by omega)) de_int rfl) de_int cp_le))) ?_
    refine db_drop (ν := []) ?_ (fun q hq => by cases hq) (List.nil_sublist _)
    exact db_nil ⟨v && decide ((tf o).2.1 ≤ 0), ⟨by rw [← j1, List.all_cons, Bool.and_assoc], fun x hx => j2 x (by simp [hx])⟩, (by rw [← dec_le]; exact (.some (.some (.some (.some (.some (.some (.none (.none (.none (.none .nil))))))))))), rfl⟩
  have hv : v = u := by rw [← hJ.1, List.all_nil, Bool.and_true]
  rw [hv]
  refine db_set 8 C rfl rfl (de_callP 5 C (c_above_all h) rfl (da_cons (de_var 0 C rfl rfl rfl) (da_cons (de_var 2 C rfl rfl rfl) (da_cons (de_var 4 C rfl rfl rfl) da_nil))) ⟨L, ll, lo, hi, out, tf, ⟨w0.ok, w0.h8, w0.box.ok, ho, a1⟩, rfl, rfl⟩ rfl (by omega)) ?_
  rw [← a3]
  exact db_ret (de_andv (de_cp (de_ixT C (de_is (de_var 8 C rfl rfl rfl) a5) de_int (at_zero _ _)) (de_is (de_ixL C (de_lst (dl_lst (da_cons de_str (da_cons de_str da_nil)))) (de_intB 6 C rfl (h.free 8 _ rfl) (de_var 5 C rfl rfl rfl)) (by exact at_bl)) (str_if _ _ _)) cp_eqS) fun hc0 => (de_one (de_cp (de_callP 7 C (c_shows_above h) rfl (da_cons (de_var 0 C rfl rfl rfl) (da_cons (de_var 2 C rfl rfl rfl) (da_cons (de_var 4 C rfl rfl rfl) (da_cons (de_var 8 C rfl rfl rfl) da_nil)))) ⟨L, ll, lo, hi, out, z, ⟨w0.ok, w0.h8, w0.box.ok, ho, a4⟩, rfl, rfl⟩ rfl (by omega)) de_bl cp_isB))) ⟨(by simp), (by first | exact ⟨[], rfl⟩ | exact ⟨[_], rfl⟩ | exact ⟨[_, _], rfl⟩ | exact ⟨[], by simp⟩)⟩
end
end NC

set_option Elab.async false
set_option linter.all false
set_option autoImplicit false
set_option exponentiation.threshold 100000
set_option maxRecDepth 100000
set_option maxHeartbeats 4000000
/-! The law's nets and boxes are small. -/
namespace NC
open PySem PySem.Spec PyProof.Rows L2
/-! ### shapes -/
def shK (l : List Nat) : Bool := decide (l.length ≤ 3) && decide (l.sum ≤ 8) && l.all (fun n => decide (1 ≤ n) && decide (n ≤ 4))
theorem shK_getD {T : List (List Nat)} (h : T.all shK = true) (i : Nat) : shK (T.getD i []) = true := by
  rw [List.getD_eq_getElem?_getD]
  cases e : T[i]? with
  | none => rfl
  | some l => exact List.all_eq_true.mp h l (List.mem_of_getElem? e)
theorem shape_ok (s : S3) : ∃ hs o, (shapeF s).1 = hs ++ [o] ∧ hs.length ≤ 3 ∧ hs.sum ≤ 8 ∧ (∀ n ∈ hs, 1 ≤ n ∧ n ≤ 4) ∧ 1 ≤ o ∧ o ≤ 3 := by
  obtain ⟨a1, h1⟩ : ∃ a1, a1 = takeF 16 s := ⟨_, rfl⟩
  obtain ⟨a2, h2⟩ : ∃ a2, a2 = takeF 8 a1.2 := ⟨_, rfl⟩
  obtain ⟨a3, h3⟩ : ∃ a3, a3 = takeF 5 a2.2 := ⟨_, rfl⟩
  obtain ⟨a4, h4⟩ : ∃ a4, a4 = takeF 3 a3.2 := ⟨_, rfl⟩
  have hE : (shapeF s).1 = ([[4, 4], moT.getD a3.1 []] ++ List.replicate 14 (smT.getD a2.1 [])).getD a1.1 [] ++ [1 + a4.1] := by subst h4 h3 h2 h1; rfl
  have l4 : a4.1 < 3 := by rw [h4]; exact takeF_lt (by decide)
  have hm : shK (moT.getD a3.1 []) = true := shK_getD (by decide) _
  have hs : shK (smT.getD a2.1 []) = true := shK_getD (by decide) _
  have hb : shK (([[4, 4], moT.getD a3.1 []] ++ List.replicate 14 (smT.getD a2.1 [])).getD a1.1 []) = true := by
    refine shK_getD ?_ _
    rw [List.all_eq_true]
    intro l hl
    simp only [List.mem_append, List.mem_cons, List.not_mem_nil, or_false, List.mem_replicate] at hl
    rcases hl with (rfl | rfl) | ⟨_, rfl⟩
    · decide
    · exact hm
    · exact hs
  refine ⟨_, _, hE, ?_⟩
  unfold shK at hb
  rw [Bool.and_eq_true, Bool.and_eq_true, decide_eq_true_iff, decide_eq_true_iff, List.all_eq_true] at hb
  refine ⟨hb.1.1, hb.1.2, fun n hn => ?_, by omega, by omega⟩
  have := hb.2 n hn
  rw [Bool.and_eq_true, decide_eq_true_iff, decide_eq_true_iff] at this
  exact this
theorem shapeF_take {k : Nat} {s : S3} (h : TkOk (k + 4) s) : TkOk k (shapeF s).2 := TkOk.take (TkOk.take (k := k + 1) (TkOk.take (k := k + 2) (TkOk.take (k := k + 3) h)))
/-! ### layers -/
def NodeG (E m : Nat) (n : Node) : Prop := n.1.length = m ∧ (∀ w ∈ n.1, Fr 6 24 w) ∧ Fr E (2 ^ 104) n.2
def ShG (E : Nat) : Nat → Lays → List Nat → Prop
  | _, [], [] => True
  | m, l :: M, n :: ns => l.length = n ∧ (∀ nd ∈ l, NodeG E m nd) ∧ ShG E n M ns
  | _, _, _ => False
theorem sharesF_all {p : Rat → Prop} (hf : ∀ s, p (shareF s).1) : ∀ (l : List Nat) (s : S3), ∀ x ∈ (sharesF l s).1, p x
  | [], s, x, hx => by cases hx
  | b :: l, s, x, hx => by
    rcases List.mem_cons.mp hx with rfl | hx
    · exact hf s
    · exact sharesF_all hf l _ x hx
theorem nodeF_g {E m : Nat} (hE : ∀ q, Fr 6 24 q → Fr E (2 ^ 104) q) (s : S3) : NodeG E m (nodeF m s).1 :=
  ⟨by show (sharesF (List.range m) s).1.length = m; rw [sharesF_len, List.length_range], sharesF_all shareF_fr _ s, hE _ (shareF_fr _)⟩
theorem nodesF_g {E m : Nat} (hE : ∀ q, Fr 6 24 q → Fr E (2 ^ 104) q) : ∀ (l : List Nat) (s : S3), ∀ nd ∈ (nodesF m l s).1, NodeG E m nd
  | [], s, nd, h => by cases h
  | b :: l, s, nd, h => by
    rcases List.mem_cons.mp h with rfl | h
    · exact nodeF_g hE s
    · exact nodesF_g hE l _ nd h
theorem layZ_g {E : Nat} (hE : ∀ q, Fr 6 24 q → Fr E (2 ^ 104) q) : ∀ (ns : List Nat) (m : Nat) (s : S3), ShG E m (layZ m ns s).1 ns
  | [], m, s => trivial
  | n :: r, m, s => ⟨by rw [nodesF_len, List.length_range], nodesF_g hE _ s, layZ_g hE r n _⟩
theorem putF_len {g : Rat} {l : Lay} : (putF g l).length = l.length := by unfold putF; simp
theorem putF_g {E m : Nat} {g : Rat} {l : Lay} (hg : Fr E (2 ^ 104) g) (h : ∀ nd ∈ l, NodeG E m nd) : ∀ nd ∈ putF g l, NodeG E m nd := fun nd hn => by
  unfold putF at hn
  cases l with
  | nil => simp at hn
  | cons a l =>
    simp only [List.set_cons_zero, List.mem_cons] at hn
    rcases hn with rfl | hn
    · have := h a (by simp)
      exact ⟨this.1, this.2.1, hg⟩
    · exact h nd (by simp [hn])
theorem set_g {E : Nat} {g : Rat} (hg : Fr E (2 ^ 104) g) : ∀ (M : Lays) (m : Nat) (ns : List Nat) (e : Nat), ShG E m M ns → ShG E m (M.set e (putF g (M.getD e []))) ns
  | [], m, ns, e, h => by simpa using h
  | l :: M, m, [], e, h => h.elim
  | l :: M, m, n :: ns, 0, h => ⟨by show (putF g l).length = n; rw [putF_len]; exact h.1, putF_g hg h.2.1, h.2.2⟩
  | l :: M, m, n :: ns, e + 1, h => ⟨h.1, h.2.1, by
    have := set_g hg M n ns e h.2.2
    simpa using this⟩
theorem great_fr {b c f : Nat} (hb : b < 2000) (hc : c < 1000) (hf : f < 2) : Fr (6 * (100000000000000000000000000000 + c)) (2 ^ 104) (greatF b c * ((2 * (f : Int) - 1 : Int) : Rat)) := by
  have h1 := Fr.of (1000000000000000000000000000000 - 1 - (b : Int)) (d := 100000000000000000000000000000 + c) (by omega)
  have h2 : Fr 1 1 ((2 * (f : Int) - 1 : Int) : Rat) := ⟨2 * (f : Int) - 1, by simp, by omega⟩
  have h3 := (h1.mul h2).up 6
  rw [Nat.mul_one, Nat.mul_one] at h3
  have e : (2 : Nat) ^ 104 = 20282409603651670423947251286016 := rfl
  exact h3.le (by omega)
theorem up6 {k : Nat} (hk : k * 24 ≤ 2 ^ 104) (q : Rat) (h : Fr 6 24 q) : Fr (6 * k) (2 ^ 104) q := by
  have := h.up k
  rw [Nat.mul_comm k 6] at this
  exact this.le hk
/-- the law's layers: a net of small numbers -/
theorem layersF_g (m : Nat) (ns : List Nat) (s : S3) : ∃ E, E ≠ 0 ∧ E < 2 ^ 100 ∧ ShG E m (layersF m ns s).1 ns := by
  obtain ⟨z, hz⟩ : ∃ z, z = layZ m ns s := ⟨_, rfl⟩
  obtain ⟨a, ha⟩ : ∃ a, a = takeF 16 z.2 := ⟨_, rfl⟩
  obtain ⟨b, hb⟩ : ∃ b, b = takeF 2000 a.2 := ⟨_, rfl⟩
  obtain ⟨c, hc⟩ : ∃ c, c = takeF 1000 b.2 := ⟨_, rfl⟩
  obtain ⟨e, he⟩ : ∃ e, e = takeF ns.length c.2 := ⟨_, rfl⟩
  obtain ⟨f, hf⟩ : ∃ f, f = takeF 2 e.2 := ⟨_, rfl⟩
  have hE : layersF m ns s = if a.1 = 0 then (z.1.set e.1 (putF (greatF b.1 c.1 * ((2 * (f.1 : Int) - 1 : Int) : Rat)) (z.1.getD e.1 [])), f.2) else (z.1, a.2) := by subst hf he hc hb ha hz; rfl
  have lb : b.1 < 2000 := by rw [hb]; exact takeF_lt (by decide)
  have lc : c.1 < 1000 := by rw [hc]; exact takeF_lt (by decide)
  have lf : f.1 < 2 := by rw [hf]; exact takeF_lt (by decide)
  have e4 : (2 : Nat) ^ 104 = 20282409603651670423947251286016 := rfl
  have e1 : (2 : Nat) ^ 100 = 1267650600228229401496703205376 := rfl
  rw [hE]
  by_cases h : a.1 = 0
  · rw [if_pos h]
    refine ⟨6 * (100000000000000000000000000000 + c.1), by omega, by omega, set_g (great_fr lb lc lf) _ _ _ _ ?_⟩
    rw [hz]
    exact layZ_g (up6 (by omega)) ns m s
  · rw [if_neg h]
    refine ⟨6 * 1, by omega, by omega, ?_⟩
    rw [hz]
    exact layZ_g (up6 (by omega)) ns m s
theorem layersF_take {k m : Nat} {ns : List Nat} {s : S3} (h : TkOk (k + (layT m ns + 5)) s) : TkOk k (layersF m ns s).2 := by
  have hz : TkOk (k + 5) (layZ m ns s).2 := layZ_ok ns m (h.le (by omega))
  unfold layersF
  simp only
  have h1 := TkOk.take (k := k + 4) (m := 16) hz
  split
  · exact TkOk.take (TkOk.take (k := k + 1) (TkOk.take (k := k + 2) (TkOk.take (k := k + 3) h1)))
  · exact h1.le (by omega)
theorem layT_le : ∀ (ns : List Nat) (m : Nat), m ≤ 4 → (∀ n ∈ ns, n ≤ 4) → layT m ns ≤ 40 * ns.length
  | [], m, hm, h => Nat.zero_le _
  | n :: r, m, hm, h => by
    have hn := h n (by simp)
    have ih := layT_le r n hn (fun x hx => h x (by simp [hx]))
    have : (2 * m + 2) * n ≤ 10 * 4 := Nat.mul_le_mul (by omega) hn
    show (2 * m + 2) * n + layT n r ≤ 40 * (r.length + 1)
    omega
theorem shG_net {E : Nat} (e0 : E ≠ 0) (el : E < 2 ^ 100) : ∀ (M : Lays) (m : Nat) (ns : List Nat), ShG E m M ns → m ≤ 4 → (∀ n ∈ ns, 1 ≤ n ∧ n ≤ 4) → NetB E M ∧ Shape m M
  | [], m, ns, h, hm, hn => ⟨⟨e0, el, fun l hl => by cases hl⟩, trivial⟩
  | l :: M, m, [], h, hm, hn => h.elim
  | l :: M, m, n :: ns, h, hm, hn => by
    obtain ⟨h1, h2, h3⟩ := h
    have hn1 := hn n (by simp)
    obtain ⟨i1, i2⟩ := shG_net e0 el M n ns h3 hn1.2 (fun x hx => hn x (by simp [hx]))
    refine ⟨⟨e0, el, fun x hx => ?_⟩, ⟨by omega, by omega, fun nd hnd => (h2 nd hnd).1⟩, by rw [h1]; exact i2⟩
    rcases List.mem_cons.mp hx with rfl | hx
    · exact ⟨by omega, fun nd hnd => ⟨by rw [(h2 nd hnd).1]; exact hm, (h2 nd hnd).2.1, (h2 nd hnd).2.2⟩⟩
    · exact i1.no x hx
theorem shG_len {E : Nat} : ∀ (M : Lays) (m : Nat) (ns : List Nat), ShG E m M ns → M.map List.length = ns
  | [], m, [], h => rfl
  | [], m, n :: ns, h => h.elim
  | l :: M, m, [], h => h.elim
  | l :: M, m, n :: ns, h => by rw [List.map_cons, h.1, shG_len M n ns h.2.2]
/-! ### boxes -/
theorem box_b (s : S3) : BoxB (boxF s).1.1 (boxF s).1.2 := by
  obtain ⟨a1, h1⟩ : ∃ a1, a1 = takeF 19 s := ⟨_, rfl⟩
  obtain ⟨a2, h2⟩ : ∃ a2, a2 = takeF 3 a1.2 := ⟨_, rfl⟩
  obtain ⟨a3, h3⟩ : ∃ a3, a3 = takeF 7 a2.2 := ⟨_, rfl⟩
  obtain ⟨a4, h4⟩ : ∃ a4, a4 = takeF 12 a3.2 := ⟨_, rfl⟩
  obtain ⟨a5, h5⟩ : ∃ a5, a5 = takeF 3 a4.2 := ⟨_, rfl⟩
  obtain ⟨a6, h6⟩ : ∃ a6, a6 = takeF 3 a5.2 := ⟨_, rfl⟩
  have hE : (boxF s).1 = (mkRat ((a1.1 : Int) - 9) (1 + a2.1), mkRat ((a1.1 : Int) - 9) (1 + a2.1) + mkRat (([0, a3.1, 1 + a4.1].getD a5.1 0 : Nat) : Int) (1 + a6.1)) := by subst h6 h5 h4 h3 h2 h1; rfl
  have l1 : a1.1 < 19 := by rw [h1]; exact takeF_lt (by decide)
  have l2 : a2.1 < 3 := by rw [h2]; exact takeF_lt (by decide)
  have l3 : a3.1 < 7 := by rw [h3]; exact takeF_lt (by decide)
  have l4 : a4.1 < 12 := by rw [h4]; exact takeF_lt (by decide)
  have l5 : a5.1 < 3 := by rw [h5]; exact takeF_lt (by decide)
  have l6 : a6.1 < 3 := by rw [h6]; exact takeF_lt (by decide)
  have hw : ([0, a3.1, 1 + a4.1].getD a5.1 0) < 20 := by
    have h5 : a5.1 = 0 ∨ a5.1 = 1 ∨ a5.1 = 2 := by omega
    rcases h5 with e | e | e <;> rw [e] <;> simp <;> omega
  obtain ⟨wd, hwd⟩ : ∃ wd, wd = [0, a3.1, 1 + a4.1].getD a5.1 0 := ⟨_, rfl⟩
  rw [hE, ← hwd]
  rw [← hwd] at hw
  have b1 : Bt 6 (mkRat ((a1.1 : Int) - 9) (1 + a2.1)) := Bt.mk (by show _ < 64; omega) (by show _ < 64; omega) (by omega)
  have b2 : Bt 6 (mkRat ((wd : Nat) : Int) (1 + a6.1)) := Bt.mk (by show _ < 64; omega) (by show _ < 64; omega) (by omega)
  have p : 0 ≤ mkRat ((wd : Nat) : Int) (1 + a6.1) := by
    rw [← Rat.divInt_ofNat]
    exact Rat.divInt_nonneg (by omega) (by omega)
  exact ⟨by show mkRat ((a1.1 : Int) - 9) (1 + a2.1) ≤ mkRat ((a1.1 : Int) - 9) (1 + a2.1) + mkRat ((wd : Nat) : Int) (1 + a6.1); grind, b1.le (by decide), (b1.add b2).le (by decide)⟩
theorem boxF_take {k : Nat} {s : S3} (h : TkOk (k + 6) s) : TkOk k (boxF s).2 :=
  TkOk.take (TkOk.take (k := k + 1) (TkOk.take (k := k + 2) (TkOk.take (k := k + 3) (TkOk.take (k := k + 4) (TkOk.take (k := k + 5) h)))))
/-! ### how many points -/
theorem sort_short : ∀ (n : Nat) (l : List Rat), (sortF n l).length ≤ n
  | 0, l => Nat.le_refl _
  | n + 1, [] => Nat.zero_le _
  | n + 1, f :: r => Nat.succ_le_succ (sort_short n _)
theorem zeros_short {E d : Nat} {M : Lays} (hM : NetB E M) (hd : d < M.length) (a b : Rat) : (zerosF M d a b).length ≤ 4 := by
  refine Nat.le_trans (sort_short _ _) (Nat.le_trans (zfind_len _ _ _) ?_)
  rw [List.length_zip]
  have : (rowD M d a).length ≤ 4 := by
    unfold rowD
    rw [vals_get M d [a] hd, List.length_map, List.getD_eq_getElem?_getD, List.getElem?_eq_getElem hd]
    exact (hM.no _ (List.getElem_mem hd)).1
  omega
theorem cut_short {E d : Nat} {M : Lays} (hM : NetB E M) (hd : d < M.length) : ∀ pts : List Rat, (cutF M d pts).length ≤ 5 * pts.length
  | [] => Nat.le_refl _
  | [p] => by show 1 ≤ 5; decide
  | p :: q :: r => by
    have ih := cut_short hM hd (q :: r)
    have z := zeros_short hM hd p q
    show (p :: (zerosF M d p q ++ cutF M d (q :: r))).length ≤ _
    simp only [List.length_cons, List.length_append] at ih ⊢
    omega
theorem pts_short {E : Nat} {M : Lays} (hM : NetB E M) (lo hi : Rat) : ∀ d : Nat, d ≤ M.length → (ptsF M lo hi d).length ≤ 2 * 5 ^ d
  | 0, h => by
    unfold ptsF
    split <;> simp
  | d + 1, h => by
    have ih := pts_short hM lo hi d (by omega)
    have c := cut_short hM (show d < M.length by omega) (ptsF M lo hi d)
    show (cutF M d (ptsF M lo hi d)).length ≤ _
    rw [Nat.pow_succ]
    omega
theorem pts_w {E : Nat} {L : Lays} {ll : Lay} {lo hi : Rat} (hM : NetB E (L ++ [ll])) (hL : L.length ≤ 3) (hb : BoxB lo hi) : PtsWOk L ll lo hi := fun d hd => by
  obtain ⟨h1, _⟩ := pts_ok hM hb.lo hb.hi hb.le d (by omega) (by simp; omega)
  refine ⟨fun p hp => ?_, ?_⟩
  · have bp := (h1.al p hp).1
    have hv := net_v hM (by simp; omega) bp (by decide)
    exact ⟨hv.1, by simp; omega, bp.le (by decide), fun r hr v hv2 => (hv.2 r hr v hv2).le (by decide)⟩
  · have h := pts_short hM lo hi d (by simp; omega)
    have : 5 ^ d ≤ 5 ^ 3 := Nat.pow_le_pow_right (by decide) (by omega)
    omega
/-- what a cell makes -/
theorem world (ns : List Nat) (s s' : S3) (hns : ∃ hs o, ns = hs ++ [o] ∧ hs.length ≤ 3 ∧ hs.sum ≤ 8 ∧ (∀ n ∈ hs, 1 ≤ n ∧ n ≤ 4) ∧ 1 ≤ o ∧ o ≤ 3) : ∃ E L ll, (layersF 1 ns s).1 = L ++ [ll] ∧ ll.length ≤ 3 ∧ NetOk L ll ∧ PtsWOk L ll (boxF s').1.1 (boxF s').1.2 ∧
    Wd E L ll (boxF s').1.1 (boxF s').1.2 (ptsF (L ++ [ll]) (boxF s').1.1 (boxF s').1.2 L.length) := by
  obtain ⟨hs, o, rfl, h1, h2, h3, h4, h5⟩ := hns
  obtain ⟨E, e0, el, hg⟩ := layersF_g 1 (hs ++ [o]) s
  obtain ⟨M, hMe⟩ : ∃ M, M = (layersF 1 (hs ++ [o]) s).1 := ⟨_, rfl⟩
  rw [← hMe] at hg ⊢
  have hall : ∀ n ∈ hs ++ [o], 1 ≤ n ∧ n ≤ 4 := fun n hn => by
    rcases List.mem_append.mp hn with hn | hn
    · exact h3 n hn
    · rw [List.mem_singleton.mp hn]; omega
  obtain ⟨n1, n2⟩ := shG_net e0 el M 1 _ hg (by decide) hall
  have hl := shG_len M 1 _ hg
  have hne : M ≠ [] := by
    intro e
    rw [e] at hl
    simp at hl
  obtain ⟨L, ll, rfl⟩ : ∃ L ll, M = L ++ [ll] := ⟨M.dropLast, M.getLast hne, (List.dropLast_concat_getLast hne).symm⟩
  rw [List.map_append] at hl
  obtain ⟨g1, g2⟩ := List.append_inj' hl rfl
  have hL : L.length ≤ 3 := by rw [← g1, List.length_map] at h1; exact h1
  have hh : hid L = hs.sum := by unfold hid; rw [g1]
  have hll : ll.length = o := by simpa using g2
  have bx := box_b s'
  have ok : NetOk L ll := ⟨n2, hL⟩
  refine ⟨E, L, ll, rfl, by omega, ok, pts_w n1 hL bx, ok, by omega, bx, pts_all n1 hL bx.lo bx.hi bx.le, ?_⟩
  exact (pts_w n1 hL bx L.length (Nat.le_refl _)).2
end NC

set_option Elab.async false
set_option linter.all false
set_option autoImplicit false
set_option maxRecDepth 100000
set_option maxHeartbeats 4000000
set_option exponentiation.threshold 100000
namespace NC
open PySem PySem.Spec PyProof.Rows L2

/-! printed by spec25.py: a cell of the script; the law. -/
section
variable {P : Program} {w : World} {K : PySem.W.Frag} {mg : Str → Option Value} {base : Heap}


/-! ### a def that reads an object that was handed in -/
def spZ (K : PySem.W.Frag) (n : Nat) (R : Hp → List D → D → Prop) : Sp := fun vs H Q _ => ∃ G ds d, vs.length = n ∧ Ex G H ∧ Reps K G ds vs ∧ R H ds d ∧ ∀ v G' H', Ex G G' → Ex G' H' → Rep K G' d v → (∀ a o, H a = some o → H' a = some o) → (∀ a, H a ≠ none → G a = none → G' a = none) → Q v H'
structure FZ (P : Program) (w : World) (K : PySem.W.Frag) (mg : Str → Option Value) (base : Heap) (k : Nat) (x : Str) (n : Nat) (R : Hp → List D → D → Prop) : Prop where
  ex : ∃ fd ps, mg x = some (.ref (He.ga K x)) ∧ PySem.W.keepIn K (.ref (He.ga K x)) = true ∧ Binds K fd ps [] ∧ FnOk P w K mg base CX0 k (He.ga K x) fd ps (spZ K n R)
section
variable {N ps : List Str} {V : List Nat} {Gs : List Str} {k kf : Nat}
variable {X : Cx} {Z : Zed} {ρ : Rho} {μ μ1 μ2 : Mu} {a b e : Expr} {es : List Expr} {d : D} {ds : List D} {pos p : Pos} {x : Str} {n : Nat} {R : Hp → List D → D → Prop}
theorem fz_ok (h : Hd P w K mg base) (i : Nat) {d : He.DefD} {x : Str} (hi : fnL[i]? = some d) (hat : d.at_ = (x, none)) (hck : defC N ps d.scope V Gs = true) (hn : ps.length = n)
    (hb : ∀ (kV doc pm : Value) (an : Option Addr) (cdv ct : Value) (us : List Value), us.length = ps.length → bindArgs (PySem.W.fnOf d.name d.qual d.params d.body d.scope .none kV doc pm an cdv ct) ⟨us, []⟩ = pure (ps.zip us))
    (hbody : ∀ X Z ds r, Bc X P w K mg base N V Gs k → R Z.H ds r → Z.xs = [] → ds.length = n → DB K X Z (st0 N n ds) [] d.body ⟨fun _ _ => False, fun d2 _ => d2 = r⟩) : ∃ fd, FunD K d.name d.qual d.params d.body d.scope [] [] (He.ga K x) fd ∧ FnOk P w K mg base CX0 (k + 1) (He.ga K x) fd ps (spZ K n R) := by
  obtain ⟨fd, F⟩ := h.sD i d hi
  have hq : He.fAd K d.at_ = He.ga K x := by rw [hat]; rfl
  rw [hq] at F
  refine ⟨fd, F, ?_⟩
  refine F.ok (defC_scope hck) (fun vs H Q E h => ?_) fun cdv A outer s H vs Q E hr hsp => ?_
  · obtain ⟨G, ds, r, hl, _⟩ := h
    rw [hl, hn]
  · obtain ⟨G, ds, r, hl, e, rr, hR, hq⟩ := hsp
    refine ⟨_, PSs.nox pss_wss, ?_⟩
    have B := hbody _ ⟨G, H, []⟩ ds r (bc_def (P := P) (w := w) (K := K) (mg := mg) (base := base) (CX := CX0) (outer := outer) (H := H) (E := E) hck hr) hR rfl (by rw [rr.length]; exact hl)
    refine B _ G H (sat_start (μ := []) hl e rr (fun p c hp => by cases hp) (by simp)) _ (fun ρ' μ2 σ' G' H' hΦ e' S' => hΦ.elim) fun d2 μ2 v ρ' σ' G' H' hΦ e' S' r' => ?_
    rw [hΦ] at r'
    exact hq v G' H' e' S'.gh r' (fun a o h1 => S'.zh a o h1 (by simp)) S'.zn
theorem mk_fz (h : Hd P w K mg base) (i j : Nat) {d : He.DefD} {x : Str} (hi : fnL[i]? = some d) (hj : glos[j]? = some x) (hat : d.at_ = (x, none)) (hck : defC N ps d.scope V Gs = true) (hn : ps.length = n)
    (hb : ∀ (kV doc pm : Value) (an : Option Addr) (cdv ct : Value) (us : List Value), us.length = ps.length → bindArgs (PySem.W.fnOf d.name d.qual d.params d.body d.scope .none kV doc pm an cdv ct) ⟨us, []⟩ = pure (ps.zip us))
    (hbody : ∀ X Z ds r, Bc X P w K mg base N V Gs k → R Z.H ds r → Z.xs = [] → ds.length = n → DB K X Z (st0 N n ds) [] d.body ⟨fun _ _ => False, fun d2 _ => d2 = r⟩) : FZ P w K mg base (k + 1) x n R := by
  obtain ⟨fd, F, ok⟩ := fz_ok h i hi hat hck hn hb hbody
  exact ⟨⟨fd, ps, h.glo j x hj, F.kp, F.bindsN hb, ok⟩⟩
theorem de_callZ (j : Nat) (C : Bc X P w K mg base N V Gs k) (F : FZ P w K mg base kf x n R) (hG : Gs[j]? = some x) (ha : DA K X Z ρ μ (e :: es) ds μ1) (hR : ∀ ν σ G H, Sat K Z ρ (μ1 ++ ν) σ G H → R H ds d) (hn : ds.length = n) (hk : kf ≤ k)
    (he : starEach (e :: es) X.env = (false, eval e X.env) :: starEach es X.env := by rfl) (hpl : (backTo pos (starEach es X.env)).any (·.1) = false := by rfl) : DE K X Z ρ μ (.Call (.Name x p) (e :: es) [] pos) d μ1 := fun ν σ G H S Q q => by
  obtain ⟨fd, ps, h1, h2, h3, h4⟩ := F.ex
  obtain ⟨g1, g2, _⟩ := C.glo j x hG
  have e1 := C.eP; have e2 := C.ew; have e3 := C.eK; have e4 := C.em; have e5 := C.eb
  subst e1 e2 e3 e4 e5
  refine we_of (pe_call h4 (C.room.mono hk) g1 h1 h2 h3 .nil pass0 pa_wa g2 he hpl) (ha ν σ G H S _ fun vs G1 H1 e1 S1 r1 => ?_)
  rw [List.append_nil]
  exact ⟨G1, ds, d, by rw [← r1.length]; exact hn, S1.gh, r1, hR ν σ G1 H1 S1, fun v G2 H2 g gh hr hh hnw => q v G2 H2 (e1.trans g) (S1.ext ⟨g, hh, gh, hnw⟩) hr⟩
/-- what was read at the entry is so still -/
theorem Sat.sqZ {us : List L2.V} {l : Addr} {σ : L2.St} {G H : Hp} (S : Sat K Z ρ μ σ G H) (hx : Z.xs = []) (hl : SqL K Z.H l us) : SqL K H l us := by
  rcases hl with h | h
  · refine .inl ?_
    rcases h with h | ⟨o, h⟩
    · exact .inl (S.zh _ _ h (by rw [hx]; simp))
    · exact .inr ⟨o, S.zh _ _ h (by rw [hx]; simp)⟩
  · exact .inr h
theorem Sat.sqO {ν : Mu} {us : List L2.V} {l : Addr} {σ : L2.St} {G H : Hp} (S : Sat K Z ρ (μ ++ ν) σ G H) (hx : ∀ q, q ∈ Z.xs → Z.H q ≠ none → q ≠ l) (hl : SqL K Z.H l us) : SqL K H l us := by
  rcases hl with h | h
  · refine .inl ?_
    rcases h with h | ⟨o, h⟩
    · exact .inl (S.zh _ _ h (fun z => hx l z (by rw [h]; simp) rfl))
    · exact .inr ⟨o, S.zh _ _ h (fun z => hx l z (by rw [h]; simp) rfl)⟩
  · exact .inr h
theorem de_lenZ (j : Nat) {l : Addr} {us : List L2.V} (C : Bc X P w K mg base N V Gs k) (hG : Gs[j]? = some ("len" : Str)) (hm : mg "len" = none) (ha : DE K X Z ρ μ a (.ref l) μ1) (hx : Z.xs = []) (hl : SqL K Z.H l us) (hs : starEach [a] X.env = [(false, eval a X.env)] := by rfl) : DE K X Z ρ μ (.Call (.Name "len" p) [a] [] pos) (.int (us.length : Int)) μ1 :=
  de_callB j C call_len_seq hG hm bt_len (da_cons ha da_nil hs) (fun ν σ G H vs S r Q q => by
    obtain ⟨v, rfl, h1⟩ := reps1 r
    rw [C.eK, rep_v.mp h1]
    exact ⟨l, us, rfl, .inl (S.sqZ hx hl), q _ G H (.refl S.gh) (rep_v.mpr rfl)⟩) hs
theorem de_ixZ {i : Int} {l : Addr} {us : List L2.V} {z : L2.V} (C : Bc X P w K mg base N V Gs k) (ha : DE K X Z ρ μ a (.ref l) μ1) (hb : DE K X Z ρ μ1 b (.int i) μ2) (hx : Z.xs = []) (hl : SqL K Z.H l us) (h : atI us i = some z) (hs : PlainIx b := by intro _ _; rfl) : DE K X Z ρ μ (.Subscript a b pos) (.v z) μ2 :=
  de_ix ix_list ha hb (fun ν σ G H x y S rx ry Q qq => by
    rw [C.eK]
    exact ⟨l, us, i, z, rep_v.mp rx, rep_v.mp ry, S.sqZ hx hl, h, qq _ G H (.refl S.gh) (rep_v.mpr rfl)⟩) hs
end
/-! ### the cell -/
def cellF (ns : List Int) (k : Nat) : Int := if k < ns.length then ns.getD k 0 else (7919 * (k : Int) + 31) % 2147483629
abbrev iVs (ns : List Int) : List L2.V := ns.map L2.V.int
def R_cell (K : PySem.W.Frag) (H : Hp) (ds : List D) (d : D) : Prop := ∃ (a : Addr) (ns : List Int) (k : Nat), (SqL K H a (iVs ns) ∧ k < 1000) ∧ ds = [.ref a, .int (k : Int)] ∧ d = .int (cellF ns k)
theorem at_iVs {ns : List Int} {k : Nat} (h : k < ns.length) : atI (iVs ns) (k : Int) = some (.int (ns.getD k 0)) := by
  unfold atI ixN
  have h1 : (0 : Int) ≤ (k : Int) := by omega
  simp [h]

theorem c__law_cell (h : Hd P w K mg base) : FZ P w K mg base 1 "_law_cell" 2 (R_cell K) := by
  refine mk_fz (N := ["_law_script", "_law_k"]) (ps := ["_law_script", "_law_k"]) (V := [3, 3]) (Gs := ["len"]) (k := 0) (d := dd__law_cell) h 106 68 rfl rfl rfl (by decide +kernel) rfl (fun _ _ _ _ _ _ us hl => match us, hl with | [_, _], _ => rfl) fun X Z ds r C hR hx hl => ?_
  obtain ⟨a, ns, k, ⟨hs, hk⟩, rfl, rfl⟩ := hR
  show DB K X Z [some (.ref a), some (.int (k : Int))] [] (defBody (top 129)) _
  by_cases hc : k < ns.length
  · have e : cellF ns k = ns.getD k 0 := if_pos hc
    rw [e]
    refine db_if1 (dt_is (dt_cp (de_var 1 C rfl rfl rfl) (de_lenZ 0 C rfl (h.free 0 _ rfl) (de_var 0 C rfl rfl rfl) hx hs) cp_lt) (by simp; exact hc)) ?_
    exact db_ret (de_ixZ C (de_var 0 C rfl rfl rfl) (de_var 1 C rfl rfl rfl) hx hs (at_iVs hc)) rfl
  · have e : cellF ns k = (7919 * (k : Int) + 31) % 2147483629 := if_neg hc
    rw [e]
    refine db_skip (dt_is (dt_cp (de_var 1 C rfl rfl rfl) (de_lenZ 0 C rfl (h.free 0 _ rfl) (de_var 0 C rfl rfl rfl) hx hs) cp_lt) (by simp; omega)) ?_
    exact db_ret (de_mod (de_add (de_mul de_int (de_var 1 C rfl rfl rfl) (by exact smul (lt9 (k := 20) (by decide) (by decide)) (lt9 (k := 10) (by rw [Int.natAbs_natCast]; exact Nat.lt_trans hk (by decide)) (by decide)))) de_int) de_int (by decide)) rfl

/-! ### the law -/
def R_law (K : PySem.W.Frag) (H : Hp) (ds : List D) (d : D) : Prop := ∃ (a : Addr) (ns : List Int), SqL K H a (iVs ns) ∧ ds = [.ref a] ∧ d = .bl true
theorem str_tk (z : Int) : TkOk 600 (strF z) := ⟨by show (z % 2147483629).toNat < 2147483629; omega, by show 0 + 600 ≤ 1000000; decide⟩
theorem want_take {L : Lays} {ll : Lay} (h4 : ll.length ≤ 4) (pts : List Rat) {k : Nat} {s : S3} (h : TkOk (k + 200) s) : TkOk k (wantF L ll pts s) := by
  have la := takeF_lt (m := 4) (s := (wishF L ll pts s).2) (by decide)
  refine seqF_ok (wish_ok L ll h4 pts) (List.range (takeF 4 (wishF L ll pts s).2).1) (k := k) (TkOk.le (k := k + 42) ?_ (by rw [List.length_range]; omega))
  exact TkOk.take (k := k + 42) (wish_ok L ll h4 pts (k + 42 + 1) s (h.le (by omega)))

theorem law_walked (h : Hd P w K mg base) : ∃ fd, FunD K dd_law.name dd_law.qual dd_law.params dd_law.body dd_law.scope [] [] (He.ga K "law") fd ∧ FnOk P w K mg base CX0 31 (He.ga K "law") fd ["_law_script"] (spZ K 1 (R_law K)) := by
  refine fz_ok (N := ["_law_script", "_law_k", "_law_stream_here", "_law_layers_here", "_law_box_here", "_law_net", "_law_points_here"]) (ps := ["_law_script"]) (V := [3, 3, 3, 3, 3, 3, 3]) (Gs := ["range", "max", "min", "len", "_law_stream", "_law_cell", "_law_layers", "_law_shape", "_law_box", "Net", "_law_points", "_law_aims_right", "_law_wanted_right", "_law_above_right", "_law_take"]) (k := 30) (d := dd_law) h 132 rfl  rfl (by decide +kernel) rfl (fun _ _ _ _ _ _ us hl => match us, hl with | [_], _ => rfl) fun X Z ds r C hR hx hl => ?_
  obtain ⟨a, ns, hs, rfl, rfl⟩ := hR
  show DB K X Z [some (.ref a), none, none, none, none, none, none] [] (defBody (top 155)) _
  refine db_forS (S := Unit) (List.range (max 1 (min 3 ns.length))) (fun (k : Nat) => .int (k : Int)) (fun _ r => ∀ k ∈ r, k < 1000) (fun _ => [some (.ref a), none, none, none, none, none, none]) (fun _ => []) () C (di_is (di_range (n := (max 1 (min 3 ns.length))) 0 C rfl (h.free 16 _ rfl) (de_max 1 C rfl (h.free 2 _ rfl) de_int (de_min 2 C rfl (h.free 3 _ rfl) de_int (de_lenZ 3 C rfl (h.free 0 _ rfl) (de_var 0 C rfl rfl rfl) hx hs))) (by rw [List.length_map]; omega) (by omega)) (by rfl)) rfl (.some (.none (.none (.none (.none (.none (.none .nil))))))) (by intro k hk; have := List.mem_range.mp hk; omega) (fun _ k r hJ ha => ?_) (fun _ hJ => ?_)
  · have hk := hJ k (by simp)
    refine ⟨_, _, _, (dg_name 1 C rfl rfl), ?_⟩
    refine db_own 2 C rfl rfl (dl_callL 4 C (l__law_stream h) rfl (da_cons (de_callZ 5 C (c__law_cell h) rfl (da_cons (de_var 0 C rfl rfl rfl) (da_cons (de_var 1 C rfl rfl rfl) da_nil)) (fun ν σ G H S => (⟨a, ns, k, ⟨S.sqZ hx hs, hk⟩, rfl, rfl⟩ : R_cell K H _ _)) rfl (by omega)) da_nil) ⟨cellF ns k, trivial, rfl, rfl⟩ rfl (by omega)) (fun q0 hq0 => ?_)
    obtain ⟨s, hs0⟩ : ∃ s, s = strF (cellF ns k) := ⟨_, rfl⟩
    have ts : TkOk 600 s := by rw [hs0]; exact str_tk _
    show DB K X Z _ [(q0, .lst [.int ((strF (cellF ns k)).1 : Int), .int ((strF (cellF ns k)).2.1 : Int), .int ((strF (cellF ns k)).2.2 : Int)])] _ _
    rw [← hs0]
    clear hs0
    obtain ⟨s1, h1⟩ : ∃ s1, s1 = shapeF s := ⟨_, rfl⟩
    have t1 : TkOk 596 s1.2 := by rw [h1]; exact shapeF_take (k := 596) ts
    have hsh := shape_ok s
    rw [← h1] at hsh
    have hsl : s1.1.length ≤ 4 ∧ 1 ≤ s1.1.length ∧ ∀ n ∈ s1.1, 1 ≤ n ∧ n ≤ 4 := by
      obtain ⟨ss, o, e, b1, b2, b3, b4, b5⟩ := hsh
      rw [e]
      refine ⟨by simp; omega, by simp, fun n hn => ?_⟩
      rcases List.mem_append.mp hn with hn | hn
      · exact b3 n hn
      · rw [List.mem_singleton.mp hn]; omega
    obtain ⟨s2, h2⟩ : ∃ s2, s2 = layersF 1 s1.1 s1.2 := ⟨_, rfl⟩
    have hlt := layT_le s1.1 1 (by decide) (fun n hn => (hsl.2.2 n hn).2)
    have t2 : TkOk 400 s2.2 := by rw [h2]; exact layersF_take (k := 400) (t1.le (by omega))
    obtain ⟨s3, h3⟩ : ∃ s3, s3 = boxF s2.2 := ⟨_, rfl⟩
    have t3 : TkOk 394 s3.2 := by rw [h3]; exact boxF_take (k := 394) t2
    obtain ⟨E, L, ll, e1, l3, ok, pw, wd⟩ := world s1.1 s1.2 s2.2 hsh
    rw [← h2] at e1
    rw [← h3] at pw wd
    obtain ⟨lo, hlo⟩ : ∃ lo, lo = s3.1.1 := ⟨_, rfl⟩
    obtain ⟨hi, hhi⟩ : ∃ hi, hi = s3.1.2 := ⟨_, rfl⟩
    rw [← hlo, ← hhi] at pw wd
    obtain ⟨ps, hps⟩ := wd.pt.cons
    show DB K X Z _ [ceT q0 s] _ _
    refine db_set 3 C rfl rfl (de_callC (hm := (Eq.refl [q0] : [q0] = [q0])) 1 6 C (c__law_layers h) rfl (da_cons (de_var 2 C rfl rfl rfl) (da_cons de_int (da_cons (de_callC (hm := (Eq.refl [q0] : [q0] = [q0])) 1 7 C (c__law_shape h) rfl (da_cons (de_var 2 C rfl rfl rfl) da_nil) (show R_law_shape [.ref q0] [ceT q0 s] (eNats s1.1) [ceT q0 s1.2] from ⟨q0, s, ts.le (by decide), rfl, rfl, by rw [h1], by rw [h1]⟩) rfl (by omega)) da_nil))) (show R_law_layers [.ref q0, .int ((1 : Nat) : Int), eNats s1.1] [ceT q0 s1.2] (eLays (L ++ [ll])) [ceT q0 s2.2] from ⟨q0, s1.2, 1, s1.1, ⟨t1.le (by omega), by decide, hsl.2.2, hsl.2.1, hsl.1⟩, rfl, rfl, by rw [← h2, e1], by rw [h2]⟩) rfl (by omega)) ?_
    refine db_set 4 C rfl rfl (de_callC (hm := (Eq.refl [q0] : [q0] = [q0])) 1 8 C (c__law_box h) rfl (da_cons (de_var 2 C rfl rfl rfl) da_nil) (show R_law_box [.ref q0] [ceT q0 s2.2] (eBox lo hi) [ceT q0 s3.2] from ⟨q0, s2.2, t2.le (by decide), rfl, rfl, by rw [hlo, hhi, h3], by rw [h3]⟩) rfl (by omega)) ?_
    refine db_set 5 C rfl rfl (de_insN (dl_make 9 C (MO.kc (m_Net_init h) h 2 97 rfl rfl) rfl (da_cons de_int (da_cons (de_var 3 C rfl rfl rfl) da_nil)) (fun q => ⟨q, L, ll, ok, rfl, rfl, rfl, rfl⟩) rfl (by omega))) ?_
    refine db_set 6 C rfl rfl (de_callP 10 C (c__law_points h) rfl (da_cons (de_lst (dl_lst (da_cons (de_var 3 C rfl rfl rfl) da_nil))) (da_cons (de_var 4 C rfl rfl rfl) da_nil)) (show R_law_points [eLN L ll, eBox lo hi] (.lst ((lo :: ps).map eF)) from ⟨L, ll, lo, hi, ⟨pw, by have := wd.pt.len; omega⟩, rfl, by rw [hps]⟩) rfl (by omega)) ?_
    rw [hps] at wd
    have l4 := wd.ok.ll.2
    obtain ⟨s4, h4⟩ : ∃ s4, s4 = (seqF shareF ll s3.2).2 := ⟨_, rfl⟩
    have t4 : TkOk 380 s4 := by rw [h4]; exact seqF_ok share_ok ll (k := 380) (t3.le (by omega))
    obtain ⟨s5, h5⟩ : ∃ s5, s5 = wantF L ll (lo :: ps) s4 := ⟨_, rfl⟩
    have t5 : TkOk 100 s5 := by rw [h5]; exact want_take l4 _ (t4.le (by decide))
    refine db_skip (dt_is (dt_not (dt_val (de_callC (hm := (Eq.refl [q0] : [q0] = [q0])) 1 11 C (c__law_aims_right h) rfl (da_cons (de_var 2 C rfl rfl rfl) (da_cons (de_var 5 C rfl rfl rfl) (da_cons (de_var 3 C rfl rfl rfl) (da_cons (de_var 4 C rfl rfl rfl) (da_cons (de_var 6 C rfl rfl rfl) da_nil))))) (show R_aims K [.ref q0, eNet K L ll, eLays (L ++ [ll]), eBox lo hi, .lst ((lo :: ps).map eF)] [ceT q0 s3.2] (.bl true) [ceT q0 s4] from ⟨q0, s3.2, E, L, ll, lo, hi, lo, ps, ⟨t3.le (by omega), wd⟩, rfl, rfl, rfl, by rw [h4]⟩) rfl (by omega)))) (by rfl)) ?_
    refine db_skip (dt_is (dt_not (dt_val (de_callC (hm := (Eq.refl [q0] : [q0] = [q0])) 1 12 C (c__law_wanted_right h) rfl (da_cons (de_var 2 C rfl rfl rfl) (da_cons (de_var 5 C rfl rfl rfl) (da_cons (de_var 3 C rfl rfl rfl) (da_cons (de_var 4 C rfl rfl rfl) (da_cons (de_var 6 C rfl rfl rfl) da_nil))))) (show R_wanted K [.ref q0, eNet K L ll, eLays (L ++ [ll]), eBox lo hi, .lst ((lo :: ps).map eF)] [ceT q0 s4] (.bl true) [ceT q0 s5] from ⟨q0, s4, E, L, ll, lo, hi, lo, ps, ⟨t4.le (by decide), wd⟩, rfl, rfl, rfl, by rw [h5]⟩) rfl (by omega)))) (by rfl)) ?_
    obtain ⟨s6, h6⟩ : ∃ s6, s6 = takeF ll.length s5 := ⟨_, rfl⟩
    have lll := wd.ok.ll.1
    have l6 : s6.1 < ll.length := by rw [h6]; exact takeF_lt (by omega)
    refine db_skip (dt_is (dt_not (dt_val (de_callP 13 C (c__law_above_right h) rfl (da_cons (de_var 5 C rfl rfl rfl) (da_cons (de_var 3 C rfl rfl rfl) (da_cons (de_var 4 C rfl rfl rfl) (da_cons (de_var 6 C rfl rfl rfl) (da_cons (de_callC (hm := (Eq.refl [q0] : [q0] = [q0])) 1 14 C (c__law_take h) rfl (da_cons (de_var 2 C rfl rfl rfl) (da_cons (de_len 3 C rfl (h.free 0 _ rfl) (de_ixL C (de_var 3 C rfl rfl rfl) (de_neg de_int) (by exact at_last L ll eLayL)) rfl) da_nil)) (show R_law_take [.ref q0, .int (((ll.map eSum).length : Nat) : Int)] [ceT q0 s5] (.int (s6.1 : Int)) [ceT q0 s6.2] from by rw [List.length_map]; exact ⟨q0, s5, ll.length, ⟨t5.le (by decide), by omega, by omega⟩, rfl, rfl, by rw [h6], by rw [h6]⟩) rfl (by omega)) da_nil))))) ⟨E, L, ll, lo, hi, lo, ps, s6.1, ⟨wd, l6⟩, rfl, rfl⟩ rfl (by omega)))) (by rfl)) ?_
    refine db_drop (ν := []) ?_ (fun q hq => by cases hq) (List.nil_sublist _)
    exact db_nil ⟨(), fun k hk => hJ k (by simp [hk]), (.some (.none (.none (.none (.none (.none (.none .nil))))))), rfl⟩
  exact db_ret de_bl rfl
end
end NC

set_option Elab.async false
set_option linter.all false
set_option maxRecDepth 100000
set_option maxHeartbeats 0
namespace HX
open PySem PySem.Spec PyProof.Rows L2 NC

theorem no_dfl : fnL.all (fun d => d.dfl.isEmpty && d.kwd.isEmpty) = true := by decide +kernel
theorem nodups : clsL.all (fun q => decide q.2.Nodup) = true := by decide +kernel
theorem al {α : Type} {l : List α} {p : α → Bool} (h : l.all p = true) {i : Nat} {a : α} (e : l[i]? = some a) : p a = true := List.all_eq_true.mp h a (List.mem_of_getElem? e)
theorem hd_of {P : Program} {w : World} {K : PySem.W.Frag} {h : Heap} {mg : Str → Option Value} {base : Heap} (X : K.In h) (G : h.Ns mainGlobals mg) (c : obsX K = valX) : Hd P w K mg base ∧ mg ("law" : Str) = some (.ref (He.ga K "law")) := by
  have c1 : ((fasL.all fun f => f.ok K) && ((fnL.all fun d => d.ok K) && exB K)) = true := congrArg (fun z : He.AlD => z.1) c
  have c2 : fnL.map (fun d => He.fnW K d.at_) = fnL.map He.DefD.val := congrArg (fun z : He.AlD => z.2) c
  obtain ⟨f1, c3⟩ := ba c1
  obtain ⟨f2, ex⟩ := ba c3
  have fa : ∀ f, f ∈ fasL → f.ok K = true := fun f hf => List.all_eq_true.mp f1 f hf
  have m1 : ∀ x, x ∈ glos → He.Fa.glo x ∈ fasL := fun x hx => by
    unfold fasL
    simp only [List.mem_append, List.mem_map]
    exact .inl (.inl (.inl (.inl ⟨x, hx, rfl⟩)))
  have m2 : ∀ x, x ∈ frees → He.Fa.free x ∈ fasL := fun x hx => by
    unfold fasL
    simp only [List.mem_append, List.mem_map]
    exact .inl (.inl (.inl (.inr ⟨x, hx, rfl⟩)))
  have m3 : ∀ q, q ∈ intL → He.Fa.int q.1 q.2 ∈ fasL := fun x hx => by
    unfold fasL
    simp only [List.mem_append, List.mem_map]
    exact .inl (.inl (.inr ⟨x, hx, rfl⟩))
  have m4 : ∀ q, q ∈ tupL → He.Fa.glo q.1 ∈ fasL := fun x hx => by
    unfold fasL
    simp only [List.mem_append, List.mem_map]
    exact .inl (.inr ⟨x, hx, rfl⟩)
  have m5 : He.Fa.glo "law" ∈ fasL := by
    unfold fasL
    simp only [List.mem_append]
    exact .inr List.mem_cons_self
  unfold exB at ex
  obtain ⟨e1, ex⟩ := ba ex
  obtain ⟨e2, ex⟩ := ba ex
  obtain ⟨e3, ex⟩ := ba ex
  obtain ⟨e4, ex⟩ := ba ex
  obtain ⟨e5, ex⟩ := ba ex
  obtain ⟨e6, ex⟩ := ba ex
  obtain ⟨e7, ex⟩ := ba ex
  obtain ⟨e8, e9⟩ := ba ex
  refine ⟨⟨fun i d hi => ?_, fun j x hx => He.glo_ok X G (fa _ (m1 x (List.mem_of_getElem? hx))), fun j x hx => He.free_ok X G (fa _ (m2 x (List.mem_of_getElem? hx))), fun j x i hx => He.int_ok X G (fa _ (m3 (x, i) (List.mem_of_getElem? hx))), fun j x a b hx => ⟨He.glo_ok X G (fa _ (m4 (x, (a, b)) (List.mem_of_getElem? hx))), fun H => He.tupB_ok (al e1 hx) H⟩, fun j C ns hx => ?_, fun j C C' hx => ?_, fun j C m C' hx => ?_, fun j a b u hx => of_decide_eq_true (al e5 hx), of_decide_eq_true e6, of_decide_eq_true e7, fun j a b u hx => ?_, ?_⟩, He.glo_ok X G (fa _ m5)⟩
  · have e : (fnL.map fun d => He.fnW K d.at_)[i]? = (fnL.map He.DefD.val)[i]? := by rw [c2]
    rw [List.getElem?_map, List.getElem?_map, hi] at e
    obtain ⟨fd, F⟩ := He.DefD.funD (Option.some.inj e) (List.all_eq_true.mp f2 d (List.mem_of_getElem? hi))
    obtain ⟨d1, d2⟩ := ba (al no_dfl hi)
    have q1 : d.dvs K = [] := by
      unfold He.DefD.dvs
      rw [List.isEmpty_iff.mp d1]; rfl
    have q2 : d.kws K = [] := by
      unfold He.DefD.kws
      rw [List.isEmpty_iff.mp d2]; rfl
    rw [q1, q2] at F
    exact ⟨fd, F⟩
  · obtain ⟨b1, b2⟩ := ba (show ((He.Fa.cls C).ok K && ns.all fun f => He.eqO (PySem.W.findIn K (.ref (He.ga K C)) f) (some none)) = true from al e2 hx)
    exact ⟨He.cls_ok b1, fun i f hf => He.eqO_ok (al b2 hf), of_decide_eq_true (al nodups hx)⟩
  · obtain ⟨b1, b2⟩ := ba (show (PySem.W.makesIn K (He.ga K C) && _) = true from al e3 hx)
    obtain ⟨b2, b3⟩ := ba b2
    obtain ⟨b3, b4⟩ := ba b3
    exact ⟨b1, He.eqO_ok b2, b3, b4⟩
  · obtain ⟨b1, b2⟩ := ba (show (He.eqO _ _ && _) = true from al e4 hx)
    obtain ⟨b2, b3⟩ := ba b2
    exact ⟨He.eqO_ok b1, b2, b3⟩
  · obtain ⟨b1, b2⟩ := ba (show (decide _ && _) = true from al e8 hx)
    obtain ⟨b2, b3⟩ := ba b2
    obtain ⟨b3, b4⟩ := ba b3
    obtain ⟨b4, b5⟩ := ba b4
    exact ⟨of_decide_eq_true b1, He.eqO_ok b2, He.eqO_ok b3, of_decide_eq_true b4, of_decide_eq_true b5⟩
  · unfold crB at e9
    obtain ⟨b1, b2⟩ := ba e9
    obtain ⟨b2, b3⟩ := ba b2
    obtain ⟨b3, b4⟩ := ba b3
    refine ⟨.type "type", ⟨b1, He.eqO_ok b2⟩, ⟨?_, rfl⟩, b4⟩
    unfold crB.fcB at b3
    split at b3
    · rename_i b hb
      rw [hb, of_decide_eq_true b3]
    · cases b3
theorem fun_uniq {K : PySem.W.Frag} {x q : Str} {p : Arguments} {b : List Stmt} {s : Scope} {f : Addr} {fd fd' : FuncData} (F : FunD K x q p b s [] [] f fd) (F' : FunD K x q p b s [] [] f fd') : fd = fd' := by
  obtain ⟨oc, od, dV, kV, doc, pm, an, cdv, ct, osl, _, lk, _⟩ := F.ex
  obtain ⟨oc', od', dV', kV', doc', pm', an', cdv', ct', osl', _, lk', _⟩ := F'.ex
  rw [lk] at lk'
  have e := Option.some.inj lk'
  injection e with e1 e2 e3 e4
  injection e3
end HX
open PySem PySem.W PySem.Calls PyProof.Rows
theorem PySem.Challenge.cw_noughtcut_k90_whole_one_in_gone_through_holds : PySem.Challenge.rw_noughtcut_k90_whole_one_in_gone_through.Holds := by
  w_on; o_law
  refine HandSHeadRun.head_any (r := HX.R) (q := HX.qv) (H := HX.hk) (ob := HX.ob) (M := 30000) (loose := HX.loose) (d := HandSHeadRun.topDef HX.R.prog 155) (kwd := []) HX.ob_eq
    (by kernel_rfl) (fun s => by kernel_rfl) HX.run (by kernel_rfl) (by kernel_rfl) (by kernel_rfl) (by rfl) (by first | assumption | decide +kernel) (by decide +kernel) ⟨rfl, rfl, rfl, rfl, rfl, by decide +kernel⟩ ?hw ?hc
  case hw => w_witness2
  case hc =>
    refine L2.walk_ofE (l := PySem.Challenge.rw_noughtcut_k90_whole_one_in_gone_through) (n := 63) (k := 31) (x := "_law_script") (CX := L2.CX0) rfl (by decide) (by kernel_rfl) ⟨rfl, by decide, by decide⟩ ?F (fun _ _ _ _ z => z)
    intro w mg fa h Y G hmg0
    obtain ⟨K, KX, c⟩ := Y
    have hmg : mg ("law" : PySem.Str) = some (.ref fa) := by
      have e : (HandSHeadRun.topDef HX.R.prog 155).name = ("law" : PySem.Str) := by kernel_rfl
      rw [← e]
      exact hmg0
    obtain ⟨_, hlaw⟩ := HX.hd_of (P := (PySem.Challenge.rw_noughtcut_k90_whole_one_in_gone_through).prog) (w := w) (base := h) KX G c
    have hfa := hmg.symm.trans hlaw
    cases hfa
    obtain ⟨fd, F, _⟩ := NC.law_walked (HX.hd_of (P := (PySem.Challenge.rw_noughtcut_k90_whole_one_in_gone_through).prog) (w := w) (base := h) KX G c).1
    refine ⟨K, fd, NC.spZ K 1 (NC.R_law K), KX, fun s v => L2.FunD.bindsA (ps := ["_law_script"]) F (fun _ _ _ _ _ _ us hl => match us, hl with | [_], _ => rfl) s [v] rfl, fun H a ns hl _ hS => ?_, fun base _ _ => ?_⟩
    · refine ⟨fun _ => none, [.ref a], .bl true, rfl, fun _ _ e => (by cases e), NC.Reps.cons (NC.rep_v.mpr rfl) NC.Reps.nil, ⟨a, ns, hS, rfl, rfl⟩, fun v G' H' _ _ hr _ _ => NC.rep_v.mp hr⟩
    · obtain ⟨fd', F', ok⟩ := NC.law_walked (HX.hd_of (P := (PySem.Challenge.rw_noughtcut_k90_whole_one_in_gone_through).prog) (w := w) (base := base) KX G c).1
      rw [HX.fun_uniq F F']
      exact ok


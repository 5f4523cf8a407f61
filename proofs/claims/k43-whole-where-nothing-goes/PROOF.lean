import PyProof.Rows.All
import Wide.All
import OpenK.AllK
import Wide.FinOn
import KE.KStateDown
import HandS.ForMost
import HandS.Defaults
import HandS.Head0
import HandS.Head1
import HandS.Head2
import HandS.HeadEnd
import HandS.HeadHook1
import HandS.HeadHook2
import HandS.HeadHook3
import HandS.HeadHook4
import HandS.MakeKw
import HandS.Walk
import HandS.Zip
import HandS.Wide
import HandS.IsInst
import HandS.Deep
import HandS.DictComp
import HandS.TupAny
import KE.KDictZip
import KE.GoesMore
import KE.KDictCopyH
import HandS.Conv
import HandS.DictTup
import KE.KDictKeyed
import HandS.SetFor
import HandS.Strs
import HandS.Style
import KE.GoesEnum
import PySem.Challenge.RW_propfall_k43_whole_where_nothing_goes
section
set_option Elab.async false
set_option linter.all false
set_option maxRecDepth 100000
set_option maxHeartbeats 0
namespace PF
open PySem PySem.Spec PyProof.Rows L2
/-! ### the text by places (printed by genhead.py) -/
def top (i : Nat) : Stmt := PySem.Challenge.pw_propfall_k43_whole_where_nothing_goes.main.body.getD i (.Pass ⟨0, 0, 0, 0⟩)
abbrev s_is_whole : Stmt := top 11
abbrev s_divisor : Stmt := top 12
abbrev s_cut : Stmt := top 13
abbrev s_is_fraction : Stmt := top 14
abbrev s_whole : Stmt := top 15
abbrev s_plus : Stmt := top 16
abbrev s_less : Stmt := top 17
abbrev s_times : Stmt := top 18
abbrev s_over : Stmt := top 19
abbrev s_is_below : Stmt := top 20
abbrev s_sum_of : Stmt := top 21
abbrev s_greatest : Stmt := top 22
abbrev s_least : Stmt := top 23
abbrev s_is_measure : Stmt := top 28
abbrev s_is_prop : Stmt := top 29
abbrev s_are_props : Stmt := top 30
abbrev s_Plank_init : Stmt := inClass (top 31) 0
abbrev s_Plank_length : Stmt := inClass (top 31) 2
abbrev s_Plank_props : Stmt := inClass (top 31) 3
abbrev s_Plank_count : Stmt := inClass (top 31) 5
abbrev s_Plank_place_of : Stmt := inClass (top 31) 6
abbrev s_lot_of : Stmt := top 33
abbrev s_rests_of : Stmt := top 34
abbrev s_is_spot : Stmt := top 36
abbrev s_is_weight : Stmt := top 37
abbrev s_check_weights : Stmt := top 38
abbrev s_slope : Stmt := top 39
abbrev s_Loads_init : Stmt := inClass (top 40) 0
abbrev s_Loads_share : Stmt := inClass (top 40) 1
abbrev s_Loads_lies_on : Stmt := inClass (top 40) 2
abbrev s_Loads_is_overlaid : Stmt := inClass (top 40) 3
abbrev s_loads_of : Stmt := top 41
abbrev s_overlaid_between : Stmt := top 43
abbrev s_without : Stmt := top 44
abbrev s_settled_between : Stmt := top 45
abbrev s_settled : Stmt := top 46
abbrev s_with_sides : Stmt := top 48
abbrev s_spare_at : Stmt := top 49
abbrev s_spares_of : Stmt := top 50
abbrev s_check_weight : Stmt := top 51
abbrev s_weakest : Stmt := top 52
abbrev s_safe : Stmt := top 53
abbrev s_most_borne : Stmt := top 54
abbrev s_law_cell : Stmt := top 56
abbrev s_law_digits : Stmt := top 57
abbrev s_law_cut : Stmt := top 58
abbrev s_law_plus : Stmt := top 59
abbrev s_law_minus : Stmt := top 60
abbrev s_law_by : Stmt := top 61
abbrev s_law_part_of : Stmt := top 62
abbrev s_law_is_below : Stmt := top 63
abbrev s_law_share : Stmt := top 64
abbrev s_law_load : Stmt := top 65
abbrev s_law_keys : Stmt := top 66
abbrev s_law_heavy : Stmt := top 67
abbrev s_law_world : Stmt := top 68
abbrev s_law_made : Stmt := top 69
abbrev s_law_spares : Stmt := top 70
abbrev s_law_greatest : Stmt := top 71
abbrev s_law_left : Stmt := top 72
abbrev s_law_rising : Stmt := top 73
abbrev s_law_amid : Stmt := top 74
abbrev s_law_sides : Stmt := top 75
abbrev s_law_stretches : Stmt := top 76
abbrev s_law_tops : Stmt := top 77
abbrev s_law_stays : Stmt := top 78
abbrev s_law_places : Stmt := top 79
abbrev s_law_right : Stmt := top 80
abbrev s_law_bare_right : Stmt := top 81
abbrev s_law : Stmt := top 82
def d_is_whole : He.DefD := ⟨("is_whole", none), "is_whole", "is_whole", defArgs s_is_whole, defBody s_is_whole, defScope s_is_whole, [], []⟩
def d_divisor : He.DefD := ⟨("divisor", none), "divisor", "divisor", defArgs s_divisor, defBody s_divisor, defScope s_divisor, [], []⟩
def d_cut : He.DefD := ⟨("cut", none), "cut", "cut", defArgs s_cut, defBody s_cut, defScope s_cut, [], []⟩
def d_is_fraction : He.DefD := ⟨("is_fraction", none), "is_fraction", "is_fraction", defArgs s_is_fraction, defBody s_is_fraction, defScope s_is_fraction, [], []⟩
def d_whole : He.DefD := ⟨("whole", none), "whole", "whole", defArgs s_whole, defBody s_whole, defScope s_whole, [], []⟩
def d_plus : He.DefD := ⟨("plus", none), "plus", "plus", defArgs s_plus, defBody s_plus, defScope s_plus, [], []⟩
def d_less : He.DefD := ⟨("less", none), "less", "less", defArgs s_less, defBody s_less, defScope s_less, [], []⟩
def d_times : He.DefD := ⟨("times", none), "times", "times", defArgs s_times, defBody s_times, defScope s_times, [], []⟩
def d_over : He.DefD := ⟨("over", none), "over", "over", defArgs s_over, defBody s_over, defScope s_over, [], []⟩
def d_is_below : He.DefD := ⟨("is_below", none), "is_below", "is_below", defArgs s_is_below, defBody s_is_below, defScope s_is_below, [], []⟩
def d_sum_of : He.DefD := ⟨("sum_of", none), "sum_of", "sum_of", defArgs s_sum_of, defBody s_sum_of, defScope s_sum_of, [], []⟩
def d_greatest : He.DefD := ⟨("greatest", none), "greatest", "greatest", defArgs s_greatest, defBody s_greatest, defScope s_greatest, [], []⟩
def d_least : He.DefD := ⟨("least", none), "least", "least", defArgs s_least, defBody s_least, defScope s_least, [], []⟩
def d_is_measure : He.DefD := ⟨("is_measure", none), "is_measure", "is_measure", defArgs s_is_measure, defBody s_is_measure, defScope s_is_measure, [], []⟩
def d_is_prop : He.DefD := ⟨("is_prop", none), "is_prop", "is_prop", defArgs s_is_prop, defBody s_is_prop, defScope s_is_prop, [], []⟩
def d_are_props : He.DefD := ⟨("are_props", none), "are_props", "are_props", defArgs s_are_props, defBody s_are_props, defScope s_are_props, [], []⟩
def d_Plank_init : He.DefD := ⟨("Plank", some "__init__"), "__init__", "Plank.__init__", defArgs s_Plank_init, defBody s_Plank_init, defScope s_Plank_init, [], [("bend", .non)]⟩
def d_Plank_length : He.DefD := ⟨("Plank", some "length"), "length", "Plank.length", defArgs s_Plank_length, defBody s_Plank_length, defScope s_Plank_length, [], []⟩
def d_Plank_props : He.DefD := ⟨("Plank", some "props"), "props", "Plank.props", defArgs s_Plank_props, defBody s_Plank_props, defScope s_Plank_props, [], []⟩
def d_Plank_count : He.DefD := ⟨("Plank", some "count"), "count", "Plank.count", defArgs s_Plank_count, defBody s_Plank_count, defScope s_Plank_count, [], []⟩
def d_Plank_place_of : He.DefD := ⟨("Plank", some "place_of"), "place_of", "Plank.place_of", defArgs s_Plank_place_of, defBody s_Plank_place_of, defScope s_Plank_place_of, [], []⟩
def d_lot_of : He.DefD := ⟨("lot_of", none), "lot_of", "lot_of", defArgs s_lot_of, defBody s_lot_of, defScope s_lot_of, [], []⟩
def d_rests_of : He.DefD := ⟨("rests_of", none), "rests_of", "rests_of", defArgs s_rests_of, defBody s_rests_of, defScope s_rests_of, [], []⟩
def d_is_spot : He.DefD := ⟨("is_spot", none), "is_spot", "is_spot", defArgs s_is_spot, defBody s_is_spot, defScope s_is_spot, [], []⟩
def d_is_weight : He.DefD := ⟨("is_weight", none), "is_weight", "is_weight", defArgs s_is_weight, defBody s_is_weight, defScope s_is_weight, [], []⟩
def d_check_weights : He.DefD := ⟨("check_weights", none), "check_weights", "check_weights", defArgs s_check_weights, defBody s_check_weights, defScope s_check_weights, [], []⟩
def d_slope : He.DefD := ⟨("slope", none), "slope", "slope", defArgs s_slope, defBody s_slope, defScope s_slope, [], []⟩
def d_Loads_init : He.DefD := ⟨("Loads", some "__init__"), "__init__", "Loads.__init__", defArgs s_Loads_init, defBody s_Loads_init, defScope s_Loads_init, [], []⟩
def d_Loads_share : He.DefD := ⟨("Loads", some "share"), "share", "Loads.share", defArgs s_Loads_share, defBody s_Loads_share, defScope s_Loads_share, [], []⟩
def d_Loads_lies_on : He.DefD := ⟨("Loads", some "lies_on"), "lies_on", "Loads.lies_on", defArgs s_Loads_lies_on, defBody s_Loads_lies_on, defScope s_Loads_lies_on, [], []⟩
def d_Loads_is_overlaid : He.DefD := ⟨("Loads", some "is_overlaid"), "is_overlaid", "Loads.is_overlaid", defArgs s_Loads_is_overlaid, defBody s_Loads_is_overlaid, defScope s_Loads_is_overlaid, [], []⟩
def d_loads_of : He.DefD := ⟨("loads_of", none), "loads_of", "loads_of", defArgs s_loads_of, defBody s_loads_of, defScope s_loads_of, [], []⟩
def d_overlaid_between : He.DefD := ⟨("overlaid_between", none), "overlaid_between", "overlaid_between", defArgs s_overlaid_between, defBody s_overlaid_between, defScope s_overlaid_between, [], []⟩
def d_without : He.DefD := ⟨("without", none), "without", "without", defArgs s_without, defBody s_without, defScope s_without, [], []⟩
def d_settled_between : He.DefD := ⟨("settled_between", none), "settled_between", "settled_between", defArgs s_settled_between, defBody s_settled_between, defScope s_settled_between, [], []⟩
def d_settled : He.DefD := ⟨("settled", none), "settled", "settled", defArgs s_settled, defBody s_settled, defScope s_settled, [], []⟩
def d_with_sides : He.DefD := ⟨("with_sides", none), "with_sides", "with_sides", defArgs s_with_sides, defBody s_with_sides, defScope s_with_sides, [], []⟩
def d_spare_at : He.DefD := ⟨("spare_at", none), "spare_at", "spare_at", defArgs s_spare_at, defBody s_spare_at, defScope s_spare_at, [], []⟩
def d_spares_of : He.DefD := ⟨("spares_of", none), "spares_of", "spares_of", defArgs s_spares_of, defBody s_spares_of, defScope s_spares_of, [], []⟩
def d_check_weight : He.DefD := ⟨("check_weight", none), "check_weight", "check_weight", defArgs s_check_weight, defBody s_check_weight, defScope s_check_weight, [], []⟩
def d_weakest : He.DefD := ⟨("weakest", none), "weakest", "weakest", defArgs s_weakest, defBody s_weakest, defScope s_weakest, [], []⟩
def d_safe : He.DefD := ⟨("safe", none), "safe", "safe", defArgs s_safe, defBody s_safe, defScope s_safe, [], []⟩
def d_most_borne : He.DefD := ⟨("most_borne", none), "most_borne", "most_borne", defArgs s_most_borne, defBody s_most_borne, defScope s_most_borne, [], []⟩
def d_law_cell : He.DefD := ⟨("_law_cell", none), "_law_cell", "_law_cell", defArgs s_law_cell, defBody s_law_cell, defScope s_law_cell, [], []⟩
def d_law_digits : He.DefD := ⟨("_law_digits", none), "_law_digits", "_law_digits", defArgs s_law_digits, defBody s_law_digits, defScope s_law_digits, [], []⟩
def d_law_cut : He.DefD := ⟨("_law_cut", none), "_law_cut", "_law_cut", defArgs s_law_cut, defBody s_law_cut, defScope s_law_cut, [], []⟩
def d_law_plus : He.DefD := ⟨("_law_plus", none), "_law_plus", "_law_plus", defArgs s_law_plus, defBody s_law_plus, defScope s_law_plus, [], []⟩
def d_law_minus : He.DefD := ⟨("_law_minus", none), "_law_minus", "_law_minus", defArgs s_law_minus, defBody s_law_minus, defScope s_law_minus, [], []⟩
def d_law_by : He.DefD := ⟨("_law_by", none), "_law_by", "_law_by", defArgs s_law_by, defBody s_law_by, defScope s_law_by, [], []⟩
def d_law_part_of : He.DefD := ⟨("_law_part_of", none), "_law_part_of", "_law_part_of", defArgs s_law_part_of, defBody s_law_part_of, defScope s_law_part_of, [], []⟩
def d_law_is_below : He.DefD := ⟨("_law_is_below", none), "_law_is_below", "_law_is_below", defArgs s_law_is_below, defBody s_law_is_below, defScope s_law_is_below, [], []⟩
def d_law_share : He.DefD := ⟨("_law_share", none), "_law_share", "_law_share", defArgs s_law_share, defBody s_law_share, defScope s_law_share, [], []⟩
def d_law_load : He.DefD := ⟨("_law_load", none), "_law_load", "_law_load", defArgs s_law_load, defBody s_law_load, defScope s_law_load, [], []⟩
def d_law_keys : He.DefD := ⟨("_law_keys", none), "_law_keys", "_law_keys", defArgs s_law_keys, defBody s_law_keys, defScope s_law_keys, [], []⟩
def d_law_heavy : He.DefD := ⟨("_law_heavy", none), "_law_heavy", "_law_heavy", defArgs s_law_heavy, defBody s_law_heavy, defScope s_law_heavy, [], []⟩
def d_law_world : He.DefD := ⟨("_law_world", none), "_law_world", "_law_world", defArgs s_law_world, defBody s_law_world, defScope s_law_world, [], []⟩
def d_law_made : He.DefD := ⟨("_law_made", none), "_law_made", "_law_made", defArgs s_law_made, defBody s_law_made, defScope s_law_made, [], []⟩
def d_law_spares : He.DefD := ⟨("_law_spares", none), "_law_spares", "_law_spares", defArgs s_law_spares, defBody s_law_spares, defScope s_law_spares, [], []⟩
def d_law_greatest : He.DefD := ⟨("_law_greatest", none), "_law_greatest", "_law_greatest", defArgs s_law_greatest, defBody s_law_greatest, defScope s_law_greatest, [], []⟩
def d_law_left : He.DefD := ⟨("_law_left", none), "_law_left", "_law_left", defArgs s_law_left, defBody s_law_left, defScope s_law_left, [], []⟩
def d_law_rising : He.DefD := ⟨("_law_rising", none), "_law_rising", "_law_rising", defArgs s_law_rising, defBody s_law_rising, defScope s_law_rising, [], []⟩
def d_law_amid : He.DefD := ⟨("_law_amid", none), "_law_amid", "_law_amid", defArgs s_law_amid, defBody s_law_amid, defScope s_law_amid, [], []⟩
def d_law_sides : He.DefD := ⟨("_law_sides", none), "_law_sides", "_law_sides", defArgs s_law_sides, defBody s_law_sides, defScope s_law_sides, [], []⟩
def d_law_stretches : He.DefD := ⟨("_law_stretches", none), "_law_stretches", "_law_stretches", defArgs s_law_stretches, defBody s_law_stretches, defScope s_law_stretches, [], []⟩
def d_law_tops : He.DefD := ⟨("_law_tops", none), "_law_tops", "_law_tops", defArgs s_law_tops, defBody s_law_tops, defScope s_law_tops, [], []⟩
def d_law_stays : He.DefD := ⟨("_law_stays", none), "_law_stays", "_law_stays", defArgs s_law_stays, defBody s_law_stays, defScope s_law_stays, [], []⟩
def d_law_places : He.DefD := ⟨("_law_places", none), "_law_places", "_law_places", defArgs s_law_places, defBody s_law_places, defScope s_law_places, [], []⟩
def d_law_right : He.DefD := ⟨("_law_right", none), "_law_right", "_law_right", defArgs s_law_right, defBody s_law_right, defScope s_law_right, [], []⟩
def d_law_bare_right : He.DefD := ⟨("_law_bare_right", none), "_law_bare_right", "_law_bare_right", defArgs s_law_bare_right, defBody s_law_bare_right, defScope s_law_bare_right, [], []⟩
def d_law : He.DefD := ⟨("law", none), "law", "law", defArgs s_law, defBody s_law, defScope s_law, [], []⟩
def fn : List He.DefD := [d_is_whole, d_divisor, d_cut, d_is_fraction, d_whole, d_plus, d_less, d_times, d_over, d_is_below, d_sum_of, d_greatest, d_least, d_is_measure, d_is_prop, d_are_props, d_Plank_init, d_Plank_length, d_Plank_props, d_Plank_count, d_Plank_place_of, d_lot_of, d_rests_of, d_is_spot, d_is_weight, d_check_weights, d_slope, d_Loads_init, d_Loads_share, d_Loads_lies_on, d_Loads_is_overlaid, d_loads_of, d_overlaid_between, d_without, d_settled_between, d_settled, d_with_sides, d_spare_at, d_spares_of, d_check_weight, d_weakest, d_safe, d_most_borne, d_law_cell, d_law_digits, d_law_cut, d_law_plus, d_law_minus, d_law_by, d_law_part_of, d_law_is_below, d_law_share, d_law_load, d_law_keys, d_law_heavy, d_law_world, d_law_made, d_law_spares, d_law_greatest, d_law_left, d_law_rising, d_law_amid, d_law_sides, d_law_stretches, d_law_tops, d_law_stays, d_law_places, d_law_right, d_law_bare_right, d_law]
def fa : List He.Fa := [.glo "is_whole",
  .glo "divisor",
  .glo "cut",
  .glo "is_fraction",
  .glo "whole",
  .glo "plus",
  .glo "less",
  .glo "times",
  .glo "over",
  .glo "is_below",
  .glo "sum_of",
  .glo "greatest",
  .glo "least",
  .glo "is_measure",
  .glo "is_prop",
  .glo "are_props",
  .glo "lot_of",
  .glo "rests_of",
  .glo "is_spot",
  .glo "is_weight",
  .glo "check_weights",
  .glo "slope",
  .glo "loads_of",
  .glo "overlaid_between",
  .glo "without",
  .glo "settled_between",
  .glo "settled",
  .glo "with_sides",
  .glo "spare_at",
  .glo "spares_of",
  .glo "check_weight",
  .glo "weakest",
  .glo "safe",
  .glo "most_borne",
  .glo "_law_cell",
  .glo "_law_digits",
  .glo "_law_cut",
  .glo "_law_plus",
  .glo "_law_minus",
  .glo "_law_by",
  .glo "_law_part_of",
  .glo "_law_is_below",
  .glo "_law_share",
  .glo "_law_load",
  .glo "_law_keys",
  .glo "_law_heavy",
  .glo "_law_world",
  .glo "_law_made",
  .glo "_law_spares",
  .glo "_law_greatest",
  .glo "_law_left",
  .glo "_law_rising",
  .glo "_law_amid",
  .glo "_law_sides",
  .glo "_law_stretches",
  .glo "_law_tops",
  .glo "_law_stays",
  .glo "_law_places",
  .glo "_law_right",
  .glo "_law_bare_right",
  .glo "law",
  .free "isinstance",
  .free "int",
  .free "bool",
  .free "tuple",
  .free "list",
  .free "abs",
  .free "len",
  .free "all",
  .free "any",
  .free "range",
  .free "zip",
  .free "set",
  .free "sorted",
  .free "dict",
  .free "sum",
  .free "max",
  .free "min",
  .free "enumerate",
  .int "MOST_LENGTH" 1000,
  .int "MOST_PROPS" 12,
  .int "LEFT_WALL" (-1),
  .glo "NOUGHT",
  .glo "ONE",
  .glo "Plank",
  .cls "Plank",
  .mkr "Plank",
  .noat "Plank" "long",
  .noat "Plank" "stakes",
  .noat "Plank" "limit",
  .glo "Loads",
  .cls "Loads",
  .mkr "Loads",
  .noat "Loads" "plank",
  .noat "Loads" "weights",
  .noat "Loads" "known",
  .noat "Loads" "over",
  .meth "Plank" "length",
  .meth "Plank" "props",
  .meth "Plank" "count",
  .meth "Plank" "place_of",
  .meth "Loads" "share",
  .meth "Loads" "lies_on",
  .meth "Loads" "is_overlaid"]
def ex (K : PySem.W.Frag) : Bool := He.tupB K "NOUGHT" [.int 0, .int 1] && He.tupB K "ONE" [.int 1, .int 1]
def names : List PySem.Str :=
  (["_wall", "FallError", "NoPlank", "NoWeights", "NoLot", "NoRest", "NoWeight", "NOUGHT", "ONE", "is_whole", "divisor", "cut", "is_fraction", "whole", "plus", "less", "times", "over", "is_below", "sum_of", "greatest", "least", "MOST_LENGTH", "MOST_PROPS", "LEFT_WALL", "is_measure", "is_prop", "are_props", "Plank", "is_lot"] : List PySem.Str) ++ (["lot_of", "rests_of", "is_spot", "is_weight", "check_weights", "slope", "Loads", "loads_of", "overlaid_between", "without", "settled_between", "settled", "with_sides", "spare_at", "spares_of", "check_weight", "weakest", "safe", "most_borne", "_law_cell", "_law_digits", "_law_cut", "_law_plus", "_law_minus", "_law_by", "_law_part_of", "_law_is_below", "_law_share", "_law_load", "_law_keys"] : List PySem.Str) ++ (["_law_heavy", "_law_world", "_law_made", "_law_spares", "_law_greatest", "_law_left", "_law_rising", "_law_amid", "_law_sides", "_law_stretches", "_law_tops", "_law_stays", "_law_places", "_law_right", "_law_bare_right"] : List PySem.Str)
abbrev R : PySem.W.OpenRow := PySem.W.OpenLaw.row PySem.Challenge.rw_propfall_k43_whole_where_nothing_goes
abbrev hk : PySem.W.Hook := He.hookX 5 fa fn [] [] ex
def ob (s : PySem.W.SharedT) : He.AlX := He.obsX 5 fa fn [] [] ex (HandSHeadRun.getT s)
theorem ob_eq (s : PySem.W.SharedT) : ob s = hk.obs s.abs := He.obsX_eq (HandSHeadRun.getT_eq s)
theorem run (w : World) : HandSHeadRun.RunEq R (PySem.W.view R.prog [82]) hk ob 6000 names w := by
  intro os
  kernel_rfl
end PF
end
section
set_option Elab.async false
set_option linter.all false
set_option maxRecDepth 100000
namespace PF
open PySem PySem.Spec L2
/-! ### data, and what stands for it -/
inductive D where
  | non | bl (b : Bool) | int (i : Int) | str (x : Str)
  | lst (ds : List D) | tup (ds : List D) | slst (ns : List Int) | key (ns : List Int)
  | dK (kvs : List (Key × D)) | dT (kvs : List (List Key × D))
  | obj (C : Addr) (fs : List (Str × D))
  | cell (a : Addr)
  | ty (n : String)
mutual
inductive Rp (K : PySem.W.Frag) (B : Hp) : V → D → Prop
  | non : Rp K B .non .non
  | bl (b : Bool) : Rp K B (.bl b) (.bl b)
  | int (i : Int) : Rp K B (.int i) (.int i)
  | str (x : Str) : Rp K B (.str x) (.str x)
  | lst {a : Addr} {xs : List V} {ds : List D} : B a = some (.lst xs) → RpL K B xs ds → Rp K B (.ref a) (.lst ds)
  | tup {a : Addr} {xs : List V} {ds : List D} : SqT K B a xs → RpL K B xs ds → Rp K B (.ref a) (.tup ds)
  | key {a : Addr} {ns : List Int} : B a = some (.tup (ns.map V.int)) → Rp K B (.ref a) (.key ns)
  | slst {a : Addr} {ns : List Int} : SqL K B a (ns.map V.int) → Rp K B (.ref a) (.slst ns)
  | dK {a : Addr} {ws : List (Key × V)} {kvs : List (Key × D)} : Rd B a (.dK ws) → ws.map (·.1) = kvs.map (·.1) → RpL K B (ws.map (·.2)) (kvs.map (·.2)) → Rp K B (.ref a) (.dK kvs)
  | dT {a : Addr} {ws : List (List Key × V)} {kvs : List (List Key × D)} : Rd B a (.dT ws) → ws.map (·.1) = kvs.map (·.1) → RpL K B (ws.map (·.2)) (kvs.map (·.2)) → Rp K B (.ref a) (.dT kvs)
  | obj {a C dx : Addr} {ws : List (Str × V)} {fs : List (Str × D)} : B a = some (.ins C dx ws) → ws.map (·.1) = fs.map (·.1) → RpL K B (ws.map (·.2)) (fs.map (·.2)) → Rp K B (.ref a) (.obj C fs)
  | cell (a : Addr) : Rp K B (.ref a) (.cell a)
  | ty (n : String) : Rp K B (.ty n) (.ty n)
inductive RpL (K : PySem.W.Frag) (B : Hp) : List V → List D → Prop
  | nil : RpL K B [] []
  | cons {v : V} {vs : List V} {d : D} {ds : List D} : Rp K B v d → RpL K B vs ds → RpL K B (v :: vs) (d :: ds)
end
/-- what a reading of data leans on is kept -/
structure Le (B B' : Hp) : Prop where
  lst : ∀ a xs, B a = some (.lst xs) → B' a = some (.lst xs)
  ins : ∀ a C dx ws, B a = some (.ins C dx ws) → B' a = some (.ins C dx ws)
  tpd : ∀ a xs, B a = some (.tup xs) → B' a = some (.tup xs)
  tup : ∀ a xs, Rd B a (.tup xs) → Rd B' a (.tup xs)
  sls : ∀ a xs, Rd B a (.lst xs) → Rd B' a (.lst xs)
  dK : ∀ a xs, Rd B a (.dK xs) → Rd B' a (.dK xs)
  dT : ∀ a xs, Rd B a (.dT xs) → Rd B' a (.dT xs)
theorem rd_same {B B' : Hp} (e : Same B B') {a : Addr} {u : HO} (h : Rd B a u) : Rd B' a u := by
  rcases h with h | ⟨o, h⟩
  · exact .inl (e _ _ h)
  · exact .inr ⟨o, e _ _ h⟩
theorem sameLe {B B' : Hp} (e : Same B B') : Le B B' :=
  ⟨fun _ _ h => e _ _ h, fun _ _ _ _ h => e _ _ h, fun _ _ h => e _ _ h, fun _ _ h => rd_same e h, fun _ _ h => rd_same e h, fun _ _ h => rd_same e h, fun _ _ h => rd_same e h⟩
theorem sqT_le {K : PySem.W.Frag} {B B' : Hp} (e : Le B B') {a : Addr} {xs : List V} (h : SqT K B a xs) : SqT K B' a xs := by
  rcases h with h | h
  · exact .inl (e.tup _ _ h)
  · exact .inr h
theorem sqL_le {K : PySem.W.Frag} {B B' : Hp} (e : Le B B') {a : Addr} {xs : List V} (h : SqL K B a xs) : SqL K B' a xs := by
  rcases h with h | h
  · exact .inl (e.sls _ _ h)
  · exact .inr h
mutual
theorem Rp.le {K : PySem.W.Frag} {B B' : Hp} (e : Le B B') : ∀ {v : V} {d : D}, Rp K B v d → Rp K B' v d
  | _, _, .non => .non
  | _, _, .bl b => .bl b
  | _, _, .int i => .int i
  | _, _, .str x => .str x
  | _, _, .lst h r => .lst (e.lst _ _ h) (RpL.le e r)
  | _, _, .tup h r => .tup (sqT_le e h) (RpL.le e r)
  | _, _, .slst h => .slst (sqL_le e h)
  | _, _, .key h => .key (e.tpd _ _ h)
  | _, _, .dK h k r => .dK (e.dK _ _ h) k (RpL.le e r)
  | _, _, .dT h k r => .dT (e.dT _ _ h) k (RpL.le e r)
  | _, _, .obj h k r => .obj (e.ins _ _ _ _ h) k (RpL.le e r)
  | _, _, .cell a => .cell a
  | _, _, .ty n => .ty n
theorem RpL.le {K : PySem.W.Frag} {B B' : Hp} (e : Le B B') : ∀ {vs : List V} {ds : List D}, RpL K B vs ds → RpL K B' vs ds
  | _, _, .nil => .nil
  | _, _, .cons h r => .cons (Rp.le e h) (RpL.le e r)
end
theorem Rp.same {K : PySem.W.Frag} {B B' : Hp} (e : Same B B') {v : V} {d : D} (h : Rp K B v d) : Rp K B' v d := h.le (sameLe e)
theorem RpL.same {K : PySem.W.Frag} {B B' : Hp} (e : Same B B') {vs : List V} {ds : List D} (h : RpL K B vs ds) : RpL K B' vs ds := h.le (sameLe e)
theorem RpL.length {K : PySem.W.Frag} {B : Hp} : ∀ {vs : List V} {ds : List D}, RpL K B vs ds → vs.length = ds.length
  | _, _, .nil => rfl
  | _, _, .cons _ r => by rw [List.length_cons, List.length_cons, r.length]
theorem RpL.get {K : PySem.W.Frag} {B : Hp} : ∀ {vs : List V} {ds : List D}, RpL K B vs ds → ∀ {i : Nat} {d : D}, ds[i]? = some d → ∃ v, vs[i]? = some v ∧ Rp K B v d
  | _, _, .nil, _, _, e => by simp at e
  | _, _, .cons h r, 0, d, e => by
    simp at e
    subst e
    exact ⟨_, rfl, h⟩
  | _, _, .cons h r, i + 1, d, e => by
    obtain ⟨v, h1, h2⟩ := r.get (i := i) (by simpa using e)
    exact ⟨v, by simpa using h1, h2⟩
theorem RpL.get' {K : PySem.W.Frag} {B : Hp} : ∀ {vs : List V} {ds : List D}, RpL K B vs ds → ∀ {i : Nat} {v : V}, vs[i]? = some v → ∃ d, ds[i]? = some d ∧ Rp K B v d
  | _, _, .nil, _, _, e => by simp at e
  | _, _, .cons h r, 0, d, e => by
    simp at e
    subst e
    exact ⟨_, rfl, h⟩
  | _, _, .cons h r, i + 1, d, e => by
    obtain ⟨v, h1, h2⟩ := r.get' (i := i) (by simpa using e)
    exact ⟨v, by simpa using h1, h2⟩
theorem RpL.app {K : PySem.W.Frag} {B : Hp} : ∀ {vs : List V} {ds : List D} {ws : List V} {es : List D}, RpL K B vs ds → RpL K B ws es → RpL K B (vs ++ ws) (ds ++ es)
  | _, _, _, _, .nil, s => s
  | _, _, _, _, .cons h r, s => .cons h (r.app s)
theorem RpL.take {K : PySem.W.Frag} {B : Hp} : ∀ {vs : List V} {ds : List D}, RpL K B vs ds → ∀ n, RpL K B (vs.take n) (ds.take n)
  | _, _, .nil, n => by simpa using RpL.nil
  | _, _, .cons h r, 0 => .nil
  | _, _, .cons h r, n + 1 => .cons h (r.take n)
theorem RpL.drop {K : PySem.W.Frag} {B : Hp} : ∀ {vs : List V} {ds : List D}, RpL K B vs ds → ∀ n, RpL K B (vs.drop n) (ds.drop n)
  | _, _, .nil, n => by simpa using RpL.nil
  | _, _, .cons h r, 0 => .cons h r
  | _, _, .cons h r, n + 1 => r.drop n
theorem RpL.one {K : PySem.W.Frag} {B : Hp} {v : V} {d : D} (h : Rp K B v d) : RpL K B [v] [d] := .cons h .nil
theorem RpL.snoc {K : PySem.W.Frag} {B : Hp} {vs : List V} {ds : List D} {v : V} {d : D} (r : RpL K B vs ds) (h : Rp K B v d) : RpL K B (vs ++ [v]) (ds ++ [d]) := r.app (.one h)
theorem RpL.ints {K : PySem.W.Frag} {B : Hp} : ∀ {vs : List V} {ns : List Int}, RpL K B vs (ns.map D.int) → vs = ns.map V.int
  | _, [], .nil => rfl
  | _, n :: ns, .cons h r => by
    cases h
    rw [r.ints]
    rfl
theorem RpL.bls {K : PySem.W.Frag} {B : Hp} : ∀ {vs : List V} {ns : List Bool}, RpL K B vs (ns.map D.bl) → vs = ns.map V.bl
  | _, [], .nil => rfl
  | _, n :: ns, .cons h r => by
    cases h
    rw [r.bls]
    rfl
theorem RpL.ofInts {K : PySem.W.Frag} {B : Hp} : ∀ ns : List Int, RpL K B (ns.map V.int) (ns.map D.int)
  | [] => .nil
  | n :: ns => .cons (.int n) (ofInts ns)

/-! ### the state: B what is known for good, H the heap, cells that change -/
inductive Cel where
  | lst (ds : List D)
  | dK (kvs : List (Key × D))
  | dT (kvs : List (List Key × D))
  | memo (U : List (List Key)) (f : List Key → D)
  | ins (C : Addr) (fs : List (Str × D))
def CelAt (K : PySem.W.Frag) (B H : Hp) (a : Addr) : Cel → Prop
  | .lst ds => ∃ xs, H a = some (.lst xs) ∧ RpL K B xs ds
  | .dK kvs => ∃ ws, H a = some (.dK ws) ∧ ws.map (·.1) = kvs.map (·.1) ∧ RpL K B (ws.map (·.2)) (kvs.map (·.2))
  | .dT kvs => ∃ ws, H a = some (.dT ws) ∧ ws.map (·.1) = kvs.map (·.1) ∧ RpL K B (ws.map (·.2)) (kvs.map (·.2))
  | .memo U f => ∃ ws, H a = some (.dT ws) ∧ (ws.map (·.1)).Nodup ∧ ∀ p ∈ ws, p.1 ∈ U ∧ Rp K B p.2 (f p.1)
  | .ins C fs => ∃ dx ws, H a = some (.ins C dx ws) ∧ ws.map (·.1) = fs.map (·.1) ∧ RpL K B (ws.map (·.2)) (fs.map (·.2))
theorem CelAt.some {K : PySem.W.Frag} {B H : Hp} {a : Addr} : ∀ {c : Cel}, CelAt K B H a c → ∃ o, H a = some o ∧ ∀ xs, o ≠ .tup xs
  | .lst _, ⟨_, h, _⟩ => ⟨_, h, by intros; exact HO.noConfusion⟩
  | .dK _, ⟨_, h, _⟩ => ⟨_, h, by intros; exact HO.noConfusion⟩
  | .dT _, ⟨_, h, _⟩ => ⟨_, h, by intros; exact HO.noConfusion⟩
  | .memo _ _, ⟨_, h, _⟩ => ⟨_, h, by intros; exact HO.noConfusion⟩
  | .ins _ _, ⟨_, _, h, _⟩ => ⟨_, h, by intros; exact HO.noConfusion⟩
theorem CelAt.le {K : PySem.W.Frag} {B B' H H' : Hp} {a : Addr} (e : Le B B') (k : ∀ o, H a = Option.some o → H' a = Option.some o) : ∀ {c : Cel}, CelAt K B H a c → CelAt K B' H' a c
  | .lst _, ⟨xs, h, r⟩ => ⟨xs, k _ h, r.le e⟩
  | .dK _, ⟨xs, h, q, r⟩ => ⟨xs, k _ h, q, r.le e⟩
  | .dT _, ⟨xs, h, q, r⟩ => ⟨xs, k _ h, q, r.le e⟩
  | .memo _ _, ⟨xs, h, n, r⟩ => ⟨xs, k _ h, n, fun p hp => ⟨(r p hp).1, (r p hp).2.le e⟩⟩
  | .ins _ _, ⟨dx, xs, h, q, r⟩ => ⟨dx, xs, k _ h, q, r.le e⟩
structure Ctx where
  c : List (Addr × Cel)
  z : List Addr
def Ctx.ad (Γ : Ctx) : List Addr := Γ.c.map (·.1)
structure Ok (K : PySem.W.Frag) (B H : Hp) (Γ : Ctx) : Prop where
  ext : Same B H
  nd : Γ.ad.Nodup
  cel : ∀ p ∈ Γ.c, B p.1 = none ∧ CelAt K B H p.1 p.2
  fz : ∀ a o u, B a = some (.frz o u) → a ∈ Γ.z ∨ ∃ xs, u = .lst xs
structure Fut (Γ : Ctx) (B H B' H' : Hp) : Prop where
  ex : Same B B'
  fr : ∀ a o, (∀ xs, o ≠ .tup xs) → B a = none → a ∉ Γ.ad → H a = some o → H' a = some o ∧ B' a = none
  tp : ∀ a xs, H a = some (.tup xs) → H' a = some (.tup xs)
  lv : ∀ a, H' a = none → H a = none
theorem Fut.refl {Γ : Ctx} {B H : Hp} : Fut Γ B H B H := ⟨Same.refl _, fun _ _ _ b _ h => ⟨h, b⟩, fun _ _ h => h, fun _ h => h⟩
theorem Fut.trans {Γ Γ' : Ctx} {B H B1 H1 B2 H2 : Hp} (f : Fut Γ B H B1 H1) (g : Fut Γ' B1 H1 B2 H2) (hs : ∀ a ∈ Γ'.ad, a ∈ Γ.ad ∨ H a = none) : Fut Γ B H B2 H2 :=
  ⟨f.ex.trans g.ex, fun a o ht hb ha h => (by
    obtain ⟨h1, b1⟩ := f.fr a o ht hb ha h
    refine g.fr a o ht b1 (fun q => ?_) h1
    rcases hs a q with z | z
    · exact ha z
    · rw [h] at z
      cases z), fun a xs h => g.tp a xs (f.tp a xs h), fun a h => f.lv a (g.lv a h)⟩
theorem Fut.tr {Γ : Ctx} {B H B1 H1 B2 H2 : Hp} (f : Fut Γ B H B1 H1) (g : Fut Γ B1 H1 B2 H2) : Fut Γ B H B2 H2 := f.trans g fun _ h => .inl h
/-- a new object is laid and known -/
theorem Ok.new {K : PySem.W.Frag} {B H : Hp} {Γ : Ctx} (k : Ok K B H Γ) {p : Addr} {o : HO} (hp : H p = none) (ho : ∀ ob u, o ≠ .frz ob u) : Ok K (upd B p o) (upd H p o) Γ := by
  have bp : B p = none := by
    cases e : B p with
    | none => rfl
    | some u => rw [k.ext _ _ e] at hp; cases hp
  have sb : Same B (upd B p o) := fun a u h => by rw [upd_ne (ne_of_none h bp)]; exact h
  refine ⟨fun a u h => ?_, k.nd, fun q hq => ?_, fun a ob u h => ?_⟩
  · by_cases e : a = p
    · subst e; rw [upd_same] at h ⊢; exact h
    · rw [upd_ne e] at h ⊢; exact k.ext _ _ h
  · obtain ⟨b, c⟩ := k.cel q hq
    obtain ⟨u, hu, _⟩ := c.some
    have ne : q.1 ≠ p := ne_of_none hu hp
    exact ⟨by rw [upd_ne ne]; exact b, c.le (sameLe sb) fun u h => by rw [upd_ne ne]; exact h⟩
  · by_cases e : a = p
    · subst e; rw [upd_same] at h; exact absurd (Option.some.inj h) (ho ob u)
    · rw [upd_ne e] at h; exact k.fz _ _ _ h
theorem Ok.newF {K : PySem.W.Frag} {B H : Hp} {Γ : Ctx} (k : Ok K B H Γ) {p : Addr} {o : HO} (hp : H p = none) : Fut Γ B H (upd B p o) (upd H p o) := by
  have bp : B p = none := by
    cases e : B p with
    | none => rfl
    | some u => rw [k.ext _ _ e] at hp; cases hp
  exact ⟨fun a u h => by rw [upd_ne (ne_of_none h bp)]; exact h, fun a u _ b _ h => (by
    have ne := ne_of_none h hp
    rw [upd_ne ne, upd_ne ne]
    exact ⟨h, b⟩), fun a xs h => (by
    rw [upd_ne (ne_of_none h hp)]
    exact h), fun a h => by
    by_cases e : a = p
    · rw [e]; exact hp
    · rw [upd_ne e] at h; exact h⟩
theorem Ok.bnone {K : PySem.W.Frag} {B H : Hp} {Γ : Ctx} (k : Ok K B H Γ) {p : Addr} (hp : H p = none) : B p = none := by
  cases e : B p with
  | none => rfl
  | some u => rw [k.ext _ _ e] at hp; cases hp
theorem sameNew {B : Hp} {p : Addr} {o : HO} (bp : B p = none) : Same B (upd B p o) := fun a u h => by rw [upd_ne (ne_of_none h bp)]; exact h

/-! ### slots -/
abbrev En := List (Option D)
structure Sl (K : PySem.W.Frag) (B : Hp) (σ : St) (ρ : En) : Prop where
  len : σ.length = ρ.length
  at_ : ∀ (i : Nat) (d : D), ρ[i]? = some (some d) → ∃ v, σ[i]? = some (some v) ∧ Rp K B v d
theorem Sl.le {K : PySem.W.Frag} {B B' : Hp} {σ : St} {ρ : En} (s : Sl K B σ ρ) (e : Le B B') : Sl K B' σ ρ := ⟨s.len, fun i d h => let ⟨v, a, b⟩ := s.at_ i d h; ⟨v, a, b.le e⟩⟩
theorem Sl.set {K : PySem.W.Frag} {B : Hp} {σ : St} {ρ : En} (s : Sl K B σ ρ) {i : Nat} {v : V} {d : D} (h : Rp K B v d) : Sl K B (σ.set i (some v)) (ρ.set i (some d)) := by
  refine ⟨by rw [List.length_set, List.length_set]; exact s.len, fun j e q => ?_⟩
  by_cases hj : i = j
  · subst hj
    by_cases hl : i < ρ.length
    · rw [List.getElem?_set_self hl] at q
      have e1 : d = e := by simpa using q
      subst e1
      exact ⟨v, List.getElem?_set_self (by rw [s.len]; exact hl), h⟩
    · rw [List.getElem?_eq_none (by rw [List.length_set]; omega)] at q
      cases q
  · rw [List.getElem?_set_ne hj] at q ⊢
    exact s.at_ j e q
theorem Sl.forget {K : PySem.W.Frag} {B : Hp} {σ : St} {ρ : En} (s : Sl K B σ ρ) {i : Nat} : Sl K B (σ.set i none) (ρ.set i none) := by
  refine ⟨by rw [List.length_set, List.length_set]; exact s.len, fun j e q => ?_⟩
  by_cases hj : i = j
  · subst hj
    by_cases hl : i < ρ.length
    · rw [List.getElem?_set_self hl] at q
      cases q
    · rw [List.getElem?_eq_none (by rw [List.length_set]; omega)] at q
      cases q
  · rw [List.getElem?_set_ne hj] at q ⊢
    exact s.at_ j e q
def wipeR (ρ : En) : List Nat → En
  | [] => ρ
  | v :: vs => (wipeR ρ vs).set v none
theorem Sl.wipe {K : PySem.W.Frag} {B : Hp} {σ : St} {ρ : En} (s : Sl K B σ ρ) : ∀ vs, Sl K B (wipe σ vs) (wipeR ρ vs)
  | [] => s
  | v :: vs => (s.wipe vs).forget
/-- a weaker view of the slots -/
theorem Sl.weak {K : PySem.W.Frag} {B : Hp} {σ : St} {ρ ρ' : En} (s : Sl K B σ ρ) (hl : ρ'.length = ρ.length) (h : ∀ (i : Nat) (d : D), ρ'[i]? = some (some d) → ρ[i]? = some (some d)) : Sl K B σ ρ' :=
  ⟨s.len.trans hl.symm, fun i d q => s.at_ i d (h i d q)⟩
/-- a cell changes -/
theorem Ok.cellSet {K : PySem.W.Frag} {B H : Hp} {p : Addr} {c c' : Cel} {cs : List (Addr × Cel)} {z : List Addr} {o : HO} (k : Ok K B H ⟨(p, c) :: cs, z⟩) (h : CelAt K B (upd H p o) p c') : Ok K B (upd H p o) ⟨(p, c') :: cs, z⟩ := by
  have bp : B p = none := (k.cel (p, c) List.mem_cons_self).1
  have nd := List.nodup_cons.mp (show (p :: cs.map (·.1)).Nodup from k.nd)
  refine ⟨fun a u e => ?_, k.nd, fun q hq => ?_, k.fz⟩
  · rw [upd_ne (ne_of_none e bp)]; exact k.ext _ _ e
  · rcases List.mem_cons.mp hq with rfl | hq
    · exact ⟨bp, h⟩
    · obtain ⟨b, cc⟩ := k.cel q (List.mem_cons_of_mem _ hq)
      have ne : q.1 ≠ p := fun e => nd.1 (e ▸ List.mem_map_of_mem hq)
      exact ⟨b, cc.le (sameLe (Same.refl _)) fun u e => by rw [upd_ne ne]; exact e⟩
/-- a new cell -/
theorem Ok.cellNew {K : PySem.W.Frag} {B H : Hp} {Γ : Ctx} {p : Addr} {c : Cel} {o : HO} (k : Ok K B H Γ) (hp : H p = none) (h : CelAt K B (upd H p o) p c) : Ok K B (upd H p o) ⟨(p, c) :: Γ.c, Γ.z⟩ := by
  have bp : B p = none := k.bnone hp
  refine ⟨fun a u e => ?_, ?_, fun q hq => ?_, k.fz⟩
  · rw [upd_ne (ne_of_none e bp)]; exact k.ext _ _ e
  · refine List.nodup_cons.mpr ⟨fun hm => ?_, k.nd⟩
    obtain ⟨q, hq, e⟩ := List.mem_map.mp hm
    obtain ⟨_, cc⟩ := k.cel q hq
    obtain ⟨u, hu, _⟩ := cc.some
    have e' : q.1 = p := e
    rw [e', hp] at hu
    cases hu
  · rcases List.mem_cons.mp hq with rfl | hq
    · exact ⟨bp, h⟩
    · obtain ⟨b, cc⟩ := k.cel q hq
      obtain ⟨u, hu, _⟩ := cc.some
      have ne : q.1 ≠ p := ne_of_none hu hp
      exact ⟨b, cc.le (sameLe (Same.refl _)) fun u e => by rw [upd_ne ne]; exact e⟩
/-- a cell becomes known data -/
theorem Ok.cellOff {K : PySem.W.Frag} {B H : Hp} {p : Addr} {c : Cel} {cs : List (Addr × Cel)} {z : List Addr} {o : HO} (k : Ok K B H ⟨(p, c) :: cs, z⟩) (h : H p = some o) (ho : ∀ ob u, o ≠ .frz ob u) : Ok K (upd B p o) H ⟨cs, z⟩ := by
  have bp : B p = none := (k.cel (p, c) List.mem_cons_self).1
  have nd := List.nodup_cons.mp (show (p :: cs.map (·.1)).Nodup from k.nd)
  refine ⟨fun a u e => ?_, nd.2, fun q hq => ?_, fun a ob u e => ?_⟩
  · by_cases ea : a = p
    · subst ea; rw [upd_same] at e; rw [h]; exact e
    · rw [upd_ne ea] at e; exact k.ext _ _ e
  · obtain ⟨b, cc⟩ := k.cel q (List.mem_cons_of_mem _ hq)
    have ne : q.1 ≠ p := fun e => nd.1 (e ▸ List.mem_map_of_mem hq)
    exact ⟨by rw [upd_ne ne]; exact b, cc.le (sameLe (sameNew bp)) fun u e => e⟩
  · by_cases ea : a = p
    · subst ea; rw [upd_same] at e; exact absurd (Option.some.inj e) (ho ob u)
    · rw [upd_ne ea] at e; exact k.fz _ _ _ e
end PF
end
section
set_option Elab.async false
set_option linter.all false
set_option maxRecDepth 100000
namespace PF
open PySem PySem.Spec L2
/-! ### readings over data -/
/-- what a value's wish gives -/
def Fin (K : PySem.W.Frag) (Γ : Ctx) (B H : Hp) (R : D → Prop) (Q : VK) : Prop := ∀ v B' H' d, Ok K B' H' Γ → Fut Γ B H B' H' → Rp K B' v d → R d → Q v H'
def EvW (K : PySem.W.Frag) (te : TE) (ρ : En) (Γ : Ctx) (R : D → Prop) : Prop := ∀ B H σ, Ok K B H Γ → Sl K B σ ρ → ∀ Q : VK, Fin K Γ B H R Q → te σ H Q
def EvA (K : PySem.W.Frag) (ta : TA) (ρ : En) (Γ : Ctx) (R : List D → Prop) : Prop := ∀ B H σ, Ok K B H Γ → Sl K B σ ρ → ∀ Q : List V → Hp → Prop,
  (∀ vs B' H' ds, Ok K B' H' Γ → Fut Γ B H B' H' → RpL K B' vs ds → R ds → Q vs H') → ta σ H Q
def EvT (K : PySem.W.Frag) (tt : TT) (ρ : En) (Γ : Ctx) (R : Bool → Prop) : Prop := ∀ B H σ, Ok K B H Γ → Sl K B σ ρ → ∀ Q : Bool → Hp → Prop,
  (∀ b B' H', Ok K B' H' Γ → Fut Γ B H B' H' → R b → Q b H') → tt σ H Q
def OpW (K : PySem.W.Frag) (r : R2) (Γ : Ctx) (x y : D) (R : D → Prop) : Prop := ∀ B H a b, Ok K B H Γ → Rp K B a x → Rp K B b y → ∀ Q : VK, Fin K Γ B H R Q → r a b H Q
def UnW (K : PySem.W.Frag) (r : V → Hp → VK → Prop) (Γ : Ctx) (x : D) (R : D → Prop) : Prop := ∀ B H a, Ok K B H Γ → Rp K B a x → ∀ Q : VK, Fin K Γ B H R Q → r a H Q
def CallW (K : PySem.W.Frag) (r : List V → Hp → VK → Prop) (Γ : Ctx) (ds : List D) (R : D → Prop) : Prop := ∀ B H vs, Ok K B H Γ → RpL K B vs ds → ∀ Q : VK, Fin K Γ B H R Q → r vs H Q
/-- a def's promise: over all states, all cells kept -/
abbrev PT_ := Ctx → List D → (D → Prop) → Prop
def SpG (K : PySem.W.Frag) (P : PT_) : Sp := fun vs H Q _ => ∃ B ds Γ R, Ok K B H Γ ∧ RpL K B vs ds ∧ P Γ ds R ∧ Fin K Γ B H R Q
section
variable {K : PySem.W.Frag} {ρ : En} {Γ : Ctx} {R : D → Prop} {ta tb tc te : TE} {t u : TT} {r : R2}
theorem Fin.tr {B H B1 H1 : Hp} {Q : VK} (f : Fin K Γ B H R Q) (g : Fut Γ B H B1 H1) : Fin K Γ B1 H1 R Q := fun v B' H' d k h rp q => f v B' H' d k (g.tr h) rp q
theorem Fin.now {B H : Hp} {Q : VK} {v : V} {d : D} (f : Fin K Γ B H R Q) (k : Ok K B H Γ) (h : Rp K B v d) (q : R d) : Q v H := f v B H d k Fut.refl h q
theorem EvW.imp {R' : D → Prop} (h : EvW K te ρ Γ R) (i : ∀ d, R d → R' d) : EvW K te ρ Γ R' := fun B H σ k s Q f => h B H σ k s Q fun v B' H' d k' g rp q => f v B' H' d k' g rp (i d q)
theorem w_var {i : Nat} {d : D} (h : ρ[i]? = some (some d)) (q : R d) : EvW K (tVar i) ρ Γ R := fun B H σ k s Q f => by
  obtain ⟨v, e, rp⟩ := s.at_ i d h
  exact ⟨v, e, f.now k rp q⟩
theorem w_int {i : Int} (q : R (.int i)) : EvW K (tC (.int i)) ρ Γ R := fun B H σ k s Q f => f.now k (.int i) q
theorem w_bl {i : Bool} (q : R (.bl i)) : EvW K (tC (.bl i)) ρ Γ R := fun B H σ k s Q f => f.now k (.bl i) q
theorem w_non (q : R .non) : EvW K (tC .non) ρ Γ R := fun B H σ k s Q f => f.now k .non q
theorem w_str {x : Str} (q : R (.str x)) : EvW K (tC (.str x)) ρ Γ R := fun B H σ k s Q f => f.now k (.str x) q
/-- a name of the module that stands for a tuple of ints -/
theorem w_gtup {a : Addr} {ns : List Int} (h : ∀ H, SqT K H a (ns.map V.int)) (q : R (.tup (ns.map D.int))) : EvW K (tC (.ref a)) ρ Γ R := fun B H σ k s Q f => f.now k (.tup (h B) (.ofInts ns)) q
theorem w_op (h : EvW K ta ρ Γ fun x => EvW K tb ρ Γ fun y => OpW K r Γ x y R) : EvW K (tOp r ta tb) ρ Γ R := fun B H σ k s Q f =>
  h B H σ k s _ fun a B1 H1 x k1 f1 r1 h1 => h1 B1 H1 σ k1 (s.le (sameLe f1.ex)) _ fun b B2 H2 y k2 f2 r2 h2 => h2 B2 H2 a b k2 (r1.same f2.ex) r2 Q ((f.tr f1).tr f2)
theorem w_un {r : V → Hp → VK → Prop} (h : EvW K ta ρ Γ fun x => UnW K r Γ x R) : EvW K (tUn r ta) ρ Γ R := fun B H σ k s Q f =>
  h B H σ k s _ fun a B1 H1 x k1 f1 r1 h1 => h1 B1 H1 a k1 r1 Q (f.tr f1)
theorem a_nil {R : List D → Prop} (q : R []) : EvA K tNil ρ Γ R := fun B H σ k s Q f => f [] B H [] k Fut.refl .nil q
theorem a_cons {tr : TA} {R : List D → Prop} (h : EvW K ta ρ Γ fun x => EvA K tr ρ Γ fun ds => R (x :: ds)) : EvA K (tCons ta tr) ρ Γ R := fun B H σ k s Q f =>
  h B H σ k s _ fun a B1 H1 x k1 f1 r1 h1 => h1 B1 H1 σ k1 (s.le (sameLe f1.ex)) _ fun vs B2 H2 ds k2 f2 r2 q => f (a :: vs) B2 H2 (x :: ds) k2 (f1.tr f2) (.cons (r1.same f2.ex) r2) q
theorem w_tup {ta : TA} (h : EvA K ta ρ Γ fun ds => ds.length ≤ 1000 ∧ R (.tup ds)) : EvW K (tTup ta) ρ Γ R := fun B H σ k s Q f =>
  h B H σ k s _ fun vs B1 H1 ds k1 f1 r1 ⟨hl, q⟩ => ⟨Nat.le_of_lt (small1000 (by rw [r1.length]; exact hl)), fun p hp => by
    have e := sameNew (o := .tup vs) (k1.bnone hp)
    exact f _ _ _ _ (k1.new hp (by intros; exact HO.noConfusion)) (f1.tr (k1.newF hp)) (.tup (.inl (.inl upd_same)) (r1.same e)) q⟩
theorem w_lst {ta : TA} (h : EvA K ta ρ Γ fun ds => ds.length ≤ 1000 ∧ R (.lst ds)) : EvW K (tLst ta) ρ Γ R := fun B H σ k s Q f =>
  h B H σ k s _ fun vs B1 H1 ds k1 f1 r1 ⟨hl, q⟩ => ⟨Nat.le_of_lt (small1000 (by rw [r1.length]; exact hl)), fun p hp => by
    have e := sameNew (o := .lst vs) (k1.bnone hp)
    exact f _ _ _ _ (k1.new hp (by intros; exact HO.noConfusion)) (f1.tr (k1.newF hp)) (.lst upd_same (r1.same e)) q⟩
theorem w_cb {rc : List V → Hp → VK → Prop} {ta : TA} (h : EvA K ta ρ Γ fun ds => CallW K rc Γ ds R) : EvW K (tCB rc ta) ρ Γ R := fun B H σ k s Q f =>
  h B H σ k s _ fun vs B1 H1 ds k1 f1 r1 q => q B1 H1 vs k1 r1 Q (f.tr f1)
/-- a call of a def -/
theorem w_call {P : PT_} {E : XK} {ta : TA} (h : EvA K ta ρ Γ fun ds => P Γ ds R) : EvW K (tCall (SpG K P) [] E ta) ρ Γ R := fun B H σ k s Q f =>
  h B H σ k s _ fun vs B1 H1 ds k1 f1 r1 q => by
    show SpG K P (vs ++ []) H1 Q E
    rw [List.append_nil]
    exact ⟨B1, ds, Γ, R, k1, r1, q, f.tr f1⟩
theorem look_none {m : Str} : ∀ {ws : List (Str × V)} {fs : List (Str × D)}, ws.map (·.1) = fs.map (·.1) → fs.lookup m = none → ws.lookup m = none := by
  intro ws
  induction ws with
  | nil => intros; rfl
  | cons w ws ih =>
    intro fs e1 e2
    cases fs with
    | nil => cases e1
    | cons g gs =>
      rw [List.map_cons, List.map_cons] at e1
      injection e1 with h1 h2
      obtain ⟨w1, w2⟩ := w
      obtain ⟨g1, g2⟩ := g
      dsimp only at h1
      subst h1
      rw [List.lookup_cons] at e2 ⊢
      split at e2
      · cases e2
      · exact ih h2 e2
/-- a method's call -/
theorem w_meth {C : Addr} {m : Str} {P : PT_} {E : XK} {ta : TE} {tr : TA} (h : EvW K ta ρ Γ fun x => ∃ fs, x = .obj C fs ∧ fs.lookup m = none ∧ EvA K tr ρ Γ fun ds => P Γ (x :: ds) R) : EvW K (tMeth C m (SpG K P) [] E ta tr) ρ Γ R := fun B H σ k s Q f =>
  h B H σ k s _ fun a B1 H1 x k1 f1 r1 ⟨fs, e, hn, q⟩ => by
    subst e
    cases r1 with
    | @obj p _ dx ws _ ho hk hr =>
      refine ⟨p, dx, ws, rfl, k1.ext _ _ ho, look_none hk hn, ?_⟩
      refine q B1 H1 σ k1 (s.le (sameLe f1.ex)) _ fun vs B2 H2 ds k2 f2 r2 q2 => ?_
      show SpG K P (.ref p :: (vs ++ [])) H2 Q E
      rw [List.append_nil]
      exact ⟨B2, _, Γ, R, k2, .cons (.obj (f2.ex _ _ ho) hk (hr.same f2.ex)) r2, q2, f.tr (f1.tr f2)⟩
/-- a field -/
theorem look_rel {B : Hp} {m : Str} {d : D} : ∀ {ws : List (Str × V)} {fs : List (Str × D)}, ws.map (·.1) = fs.map (·.1) → RpL K B (ws.map (·.2)) (fs.map (·.2)) → fs.lookup m = some d → ∃ v, ws.lookup m = some v ∧ Rp K B v d := by
  intro ws
  induction ws with
  | nil =>
    intro fs e1 _ e2
    cases fs with
    | nil => cases e2
    | cons g gs => cases e1
  | cons w ws ih =>
    intro fs e1 hr e2
    cases fs with
    | nil => cases e1
    | cons g gs =>
      rw [List.map_cons, List.map_cons] at e1 hr
      injection e1 with h1 h2
      obtain ⟨w1, w2⟩ := w
      obtain ⟨g1, g2⟩ := g
      dsimp only at h1 hr
      subst h1
      cases hr with
      | cons ha hb =>
        rw [List.lookup_cons] at e2 ⊢
        split at e2
        · injection e2 with e3
          subst e3
          exact ⟨_, rfl, ha⟩
        · exact ih h2 hb e2
theorem w_fld {f : Str} (h : EvW K ta ρ Γ fun x => ∃ C fs d, x = .obj C fs ∧ Cls K C ∧ NoAttr K C f ∧ fs.lookup f = some d ∧ R d) : EvW K (tFld K ta f) ρ Γ R := fun B H σ k s Q q =>
  h B H σ k s _ fun a B1 H1 x k1 f1 r1 ⟨C, fs, d, e, hc, hn, hl, hR⟩ => by
    subst e
    cases r1 with
    | @obj p _ dx ws _ ho hk hr =>
      obtain ⟨v, hv, rp⟩ := look_rel hk hr hl
      exact ⟨p, C, dx, ws, v, rfl, k1.ext _ _ ho, hc, hn, hv, q v B1 H1 d k1 f1 rp hR⟩
/-! tests -/
theorem t_test (h : EvW K ta ρ Γ fun x => ∃ b, x = .bl b ∧ RT b) : EvT K (tTest ta) ρ Γ RT := fun B H σ k s Q f =>
  h B H σ k s _ fun a B1 H1 x k1 f1 r1 ⟨b, e, q⟩ => by
    subst e
    cases r1
    exact ⟨b, rfl, f b B1 H1 k1 f1 q⟩
theorem t_B (h : EvW K ta ρ Γ fun x => ∃ b, x = .bl b ∧ RT b) : EvT K (tB ta) ρ Γ RT := fun B H σ k s Q f =>
  h B H σ k s _ fun a B1 H1 x k1 f1 r1 ⟨b, e, q⟩ => by
    subst e
    cases r1
    exact ⟨b, rfl, f b B1 H1 k1 f1 q⟩
theorem t_and {RT : Bool → Prop} (h : EvT K t ρ Γ fun b => if b = true then EvT K u ρ Γ RT else RT false) : EvT K (tAnd t u) ρ Γ RT := fun B H σ k s Q f =>
  h B H σ k s _ fun b B1 H1 k1 f1 q => by
    cases b with
    | true =>
      show u σ H1 Q
      exact (show EvT K u ρ Γ RT from q) B1 H1 σ k1 (s.le (sameLe f1.ex)) Q fun c B2 H2 k2 f2 q2 => f c B2 H2 k2 (f1.tr f2) q2
    | false =>
      show Q false H1
      exact f false B1 H1 k1 f1 (show RT false from q)
theorem t_or {RT : Bool → Prop} (h : EvT K t ρ Γ fun b => if b = true then RT true else EvT K u ρ Γ RT) : EvT K (tOr t u) ρ Γ RT := fun B H σ k s Q f =>
  h B H σ k s _ fun b B1 H1 k1 f1 q => by
    cases b with
    | false =>
      show u σ H1 Q
      exact (show EvT K u ρ Γ RT from q) B1 H1 σ k1 (s.le (sameLe f1.ex)) Q fun c B2 H2 k2 f2 q2 => f c B2 H2 k2 (f1.tr f2) q2
    | true =>
      show Q true H1
      exact f true B1 H1 k1 f1 (show RT true from q)
theorem t_not {RT : Bool → Prop} (h : EvT K t ρ Γ fun b => RT (!b)) : EvT K (tNot t) ρ Γ RT := fun B H σ k s Q f =>
  h B H σ k s _ fun b B1 H1 k1 f1 q => f (!b) B1 H1 k1 f1 q
theorem w_andV (h : EvW K ta ρ Γ fun x => ∃ b, x = .bl b ∧ if b = true then EvW K tb ρ Γ R else R (.bl false)) : EvW K (tAndV ta tb) ρ Γ R := fun B H σ k s Q f =>
  h B H σ k s _ fun a B1 H1 x k1 f1 r1 ⟨b, e, q⟩ => by
    subst e
    cases r1
    refine ⟨b, rfl, ?_⟩
    cases b with
    | true =>
      show tb σ H1 Q
      exact (show EvW K tb ρ Γ R from q) B1 H1 σ k1 (s.le (sameLe f1.ex)) Q (f.tr f1)
    | false =>
      show Q (.bl false) H1
      exact f _ B1 H1 _ k1 f1 (.bl false) q
theorem w_orV (h : EvW K ta ρ Γ fun x => ∃ b, x = .bl b ∧ if b = true then R (.bl true) else EvW K tb ρ Γ R) : EvW K (tOrV ta tb) ρ Γ R := fun B H σ k s Q f =>
  h B H σ k s _ fun a B1 H1 x k1 f1 r1 ⟨b, e, q⟩ => by
    subst e
    cases r1
    refine ⟨b, rfl, ?_⟩
    cases b with
    | false =>
      show tb σ H1 Q
      exact (show EvW K tb ρ Γ R from q) B1 H1 σ k1 (s.le (sameLe f1.ex)) Q (f.tr f1)
    | true =>
      show Q (.bl true) H1
      exact f _ B1 H1 _ k1 f1 (.bl true) q
theorem w_notV (h : EvW K ta ρ Γ fun x => ∃ b, x = .bl b ∧ R (.bl (!b))) : EvW K (tNotV ta) ρ Γ R := fun B H σ k s Q f =>
  h B H σ k s _ fun a B1 H1 x k1 f1 r1 ⟨b, e, q⟩ => by
    subst e
    cases r1
    exact ⟨b, rfl, f _ B1 H1 _ k1 f1 (.bl _) q⟩
theorem w_if (h : EvT K t ρ Γ fun b => if b = true then EvW K ta ρ Γ R else EvW K tb ρ Γ R) : EvW K (tIf t ta tb) ρ Γ R := fun B H σ k s Q f =>
  h B H σ k s _ fun b B1 H1 k1 f1 q => by
    cases b with
    | true =>
      show ta σ H1 Q
      exact (show EvW K ta ρ Γ R from q) B1 H1 σ k1 (s.le (sameLe f1.ex)) Q (f.tr f1)
    | false =>
      show tb σ H1 Q
      exact (show EvW K tb ρ Γ R from q) B1 H1 σ k1 (s.le (sameLe f1.ex)) Q (f.tr f1)
theorem w_chain {r' : R2} (h : EvW K ta ρ Γ fun x => EvW K tb ρ Γ fun y => OpW K r Γ x y fun z => ∃ b, z = .bl b ∧ if b = true then EvW K tc ρ Γ fun w' => OpW K r' Γ y w' R else R (.bl false)) : EvW K (tChain r r' ta tb tc) ρ Γ R := fun B H σ k s Q f =>
  h B H σ k s _ fun a B1 H1 x k1 f1 r1 h1 => h1 B1 H1 σ k1 (s.le (sameLe f1.ex)) _ fun b B2 H2 y k2 f2 r2 h2 => h2 B2 H2 a b k2 (r1.same f2.ex) r2 _ fun z B3 H3 d k3 f3 r3 ⟨c, e, q⟩ => by
    subst e
    cases r3
    refine ⟨c, rfl, ?_⟩
    cases c with
    | true =>
      show tc σ H3 _
      exact (show EvW K tc ρ Γ _ from q) B3 H3 σ k3 (s.le (sameLe ((f1.tr f2).tr f3).ex)) _ fun w' B4 H4 e k4 f4 r4 h4 => h4 B4 H4 b w' k4 (r2.same (f3.tr f4).ex) r4 Q (((f.tr f1).tr (f2.tr f3)).tr f4)
    | false =>
      show Q (.bl false) H3
      exact f _ B3 H3 _ k3 ((f1.tr f2).tr f3) (.bl false) q
/-! operations -/
theorem o_I {C : Int → Int → Prop} {g : Int → Int → V} {i j : Int} {d : D} (hc : C i j) (hg : ∀ B, Rp K B (g i j) d) (q : R d) : OpW K (rI C g) Γ (.int i) (.int j) R := fun B H a b k ra rb Q f => by
  cases ra
  cases rb
  exact ⟨i, j, rfl, rfl, hc, f.now k (hg B) q⟩
theorem o_add {i j : Int} (q : R (.int (i + j))) : OpW K (rI0 fun i j => .int (i + j)) Γ (.int i) (.int j) R := fun B H a b k ra rb Q f => by
  cases ra
  cases rb
  exact ⟨i, j, rfl, rfl, f.now k (.int _) q⟩
theorem o_sub {i j : Int} (q : R (.int (i - j))) : OpW K (rI0 fun i j => .int (i - j)) Γ (.int i) (.int j) R := fun B H a b k ra rb Q f => by
  cases ra
  cases rb
  exact ⟨i, j, rfl, rfl, f.now k (.int _) q⟩
theorem o_mulW {i j : Int} (hc : CMulW i j) (q : R (.int (i * j))) : OpW K (rI CMulW fun i j => .int (i * j)) Γ (.int i) (.int j) R := fun B H a b k ra rb Q f => by
  cases ra
  cases rb
  exact ⟨i, j, rfl, rfl, hc, f.now k (.int _) q⟩
theorem o_mul {i j : Int} (hc : CMul i j) (q : R (.int (i * j))) : OpW K (rI CMul fun i j => .int (i * j)) Γ (.int i) (.int j) R := fun B H a b k ra rb Q f => by
  cases ra
  cases rb
  exact ⟨i, j, rfl, rfl, hc, f.now k (.int _) q⟩
theorem o_mod {i j : Int} (hc : 0 < j) (q : R (.int (i % j))) : OpW K (rI (fun _ j => 0 < j) fun i j => .int (i % j)) Γ (.int i) (.int j) R := fun B H a b k ra rb Q f => by
  cases ra
  cases rb
  exact ⟨i, j, rfl, rfl, hc, f.now k (.int _) q⟩
theorem o_fdiv {i j : Int} (hc : CDiv i j) (q : R (.int (i / j))) : OpW K (rI CDiv fun i j => .int (i / j)) Γ (.int i) (.int j) R := fun B H a b k ra rb Q f => by
  cases ra
  cases rb
  exact ⟨i, j, rfl, rfl, hc, f.now k (.int _) q⟩
theorem o_fdivW {i j : Int} (hc : CDivW i j) (q : R (.int (i / j))) : OpW K (rI CDivW fun i j => .int (i / j)) Γ (.int i) (.int j) R := fun B H a b k ra rb Q f => by
  cases ra
  cases rb
  exact ⟨i, j, rfl, rfl, hc, f.now k (.int _) q⟩
theorem o_pow {i j : Int} (hc : CPow i j) (q : R (.int (i ^ j.toNat))) : OpW K (rI CPow fun i j => .int (i ^ j.toNat)) Γ (.int i) (.int j) R := fun B H a b k ra rb Q f => by
  cases ra
  cases rb
  exact ⟨i, j, rfl, rfl, hc, f.now k (.int _) q⟩
theorem o_shl {i j : Int} (hc : CPow i j) (q : R (.int (i * 2 ^ j.toNat))) : OpW K (rI CPow fun i j => .int (i * 2 ^ j.toNat)) Γ (.int i) (.int j) R := fun B H a b k ra rb Q f => by
  cases ra
  cases rb
  exact ⟨i, j, rfl, rfl, hc, f.now k (.int _) q⟩
theorem o_shr {i j : Int} (hc : 0 ≤ j) (q : R (.int (i / 2 ^ j.toNat))) : OpW K (rI (fun _ j => 0 ≤ j) fun i j => .int (i / 2 ^ j.toNat)) Γ (.int i) (.int j) R := fun B H a b k ra rb Q f => by
  cases ra
  cases rb
  exact ⟨i, j, rfl, rfl, hc, f.now k (.int _) q⟩
theorem o_lt {i j : Int} (q : R (.bl (decide (i < j)))) : OpW K (rI0 fun i j => .bl (decide (i < j))) Γ (.int i) (.int j) R := fun B H a b k ra rb Q f => by
  cases ra
  cases rb
  exact ⟨i, j, rfl, rfl, f.now k (.bl _) q⟩
theorem o_gt {i j : Int} (q : R (.bl (decide (j < i)))) : OpW K (rI0 fun i j => .bl (decide (j < i))) Γ (.int i) (.int j) R := fun B H a b k ra rb Q f => by
  cases ra
  cases rb
  exact ⟨i, j, rfl, rfl, f.now k (.bl _) q⟩
theorem o_le {i j : Int} (q : R (.bl (decide (i ≤ j)))) : OpW K (rI0 fun i j => .bl (decide (i ≤ j))) Γ (.int i) (.int j) R := fun B H a b k ra rb Q f => by
  cases ra
  cases rb
  exact ⟨i, j, rfl, rfl, f.now k (.bl _) q⟩
theorem o_ge {i j : Int} (q : R (.bl (decide (j ≤ i)))) : OpW K (rI0 fun i j => .bl (decide (j ≤ i))) Γ (.int i) (.int j) R := fun B H a b k ra rb Q f => by
  cases ra
  cases rb
  exact ⟨i, j, rfl, rfl, f.now k (.bl _) q⟩
theorem o_neg {i : Int} (q : R (.int (-i))) : UnW K (rU fun i => .int (-i)) Γ (.int i) R := fun B H a k ra Q f => by
  cases ra
  exact ⟨i, rfl, f.now k (.int _) q⟩
/-- == of ints -/
theorem o_eqI {i j : Int} (q : R (.bl (decide (i = j)))) : OpW K rEq Γ (.int i) (.int j) R := fun B H a b k ra rb Q f => by
  cases ra
  cases rb
  refine ⟨rfl, ?_⟩
  have e : decide (V.int i = V.int j) = decide (i = j) := by rw [dec_int, Bool.beq_eq_decide_eq]
  rw [e]
  exact f.now k (.bl _) q
theorem o_neI {i j : Int} (q : R (.bl (!decide (i = j)))) : OpW K rNe Γ (.int i) (.int j) R := fun B H a b k ra rb Q f => by
  cases ra
  cases rb
  refine ⟨rfl, ?_⟩
  have e : decide (V.int i = V.int j) = decide (i = j) := by rw [dec_int, Bool.beq_eq_decide_eq]
  rw [e]
  exact f.now k (.bl _) q
theorem o_neB {i j : Bool} (q : R (.bl (!decide (i = j)))) : OpW K rNe Γ (.bl i) (.bl j) R := fun B H a b k ra rb Q f => by
  cases ra
  cases rb
  refine ⟨rfl, ?_⟩
  have e : decide (V.bl i = V.bl j) = decide (i = j) := by rw [dec_bl, Bool.beq_eq_decide_eq]
  rw [e]
  exact f.now k (.bl _) q
def D.isN : D → Bool
  | .non => true
  | _ => false
theorem Rp.isN {B : Hp} {v : V} {d : D} (h : Rp K B v d) : decide (v = V.non) = d.isN := by
  cases h <;> rfl
theorem o_isN {x : D} (q : R (.bl x.isN)) : OpW K (fun x y H Q => y = .non ∧ Q (.bl (decide (x = .non))) H) Γ x .non R := fun B H a b k ra rb Q f => by
  cases rb
  refine ⟨rfl, ?_⟩
  rw [ra.isN]
  exact f.now k (.bl _) q
theorem o_notN {x : D} (q : R (.bl (!x.isN))) : OpW K (fun x y H Q => y = .non ∧ Q (.bl (!decide (x = .non))) H) Γ x .non R := fun B H a b k ra rb Q f => by
  cases rb
  refine ⟨rfl, ?_⟩
  rw [ra.isN]
  exact f.now k (.bl _) q
/-! items -/
theorem atI_rel {B : Hp} {vs : List V} {ds : List D} {i : Int} {d : D} (r : RpL K B vs ds) (h : atI ds i = some d) : ∃ v, atI vs i = some v ∧ Rp K B v d := by
  unfold atI at h ⊢
  rw [r.length]
  cases e : ixN ds.length i with
  | none => rw [e] at h; cases h
  | some j =>
    rw [e] at h
    exact r.get h
theorem o_ixT {ds : List D} {i : Int} {d : D} (h : atI ds i = some d) (q : R d) : OpW K (rIxT K) Γ (.tup ds) (.int i) R := fun B H a b k ra rb Q f => by
  cases rb
  cases ra with
  | tup hs hr =>
    obtain ⟨v, e, rp⟩ := atI_rel hr h
    exact ⟨_, _, i, v, rfl, rfl, sqT_le (sameLe k.ext) hs, e, f.now k rp q⟩
theorem o_ixL {ds : List D} {i : Int} {d : D} (h : atI ds i = some d) (q : R d) : OpW K (rIxL K) Γ (.lst ds) (.int i) R := fun B H a b k ra rb Q f => by
  cases rb
  cases ra with
  | lst hs hr =>
    obtain ⟨v, e, rp⟩ := atI_rel hr h
    exact ⟨_, _, i, v, rfl, rfl, .inl (.inl (k.ext _ _ hs)), e, f.now k rp q⟩
theorem o_ixS {ns : List Int} {i n : Int} (h : atI ns i = some n) (q : R (.int n)) : OpW K (rIxL K) Γ (.slst ns) (.int i) R := fun B H a b k ra rb Q f => by
  cases rb
  cases ra with
  | slst hs =>
    refine ⟨_, _, i, .int n, rfl, rfl, sqL_le (sameLe k.ext) hs, ?_, f.now k (.int n) q⟩
    unfold atI at h ⊢
    rw [List.length_map]
    cases e : ixN ns.length i with
    | none => rw [e] at h; cases h
    | some j =>
      rw [e] at h
      show (ns.map V.int)[j]? = some (V.int n)
      rw [List.getElem?_map, show ns[j]? = some n from h]
      rfl
end
end PF
end
section
set_option Elab.async false
set_option linter.all false
set_option maxRecDepth 100000
namespace PF
open PySem PySem.Spec L2
/-! ### statements over data -/
/-- the state Γ holds all of Γ' -/
def Cov (Γ Γ' : Ctx) : Prop := ∀ K B H, Ok K B H Γ → Ok K B H Γ'
/-- a def's run: where it began, what is wished of its answer; marks: states that all later ones extend -/
structure Sig (K : PySem.W.Frag) where
  B0 : Hp
  H0 : Hp
  C0 : Ctx
  Q : VK
  R : D → Prop
  RR : Ctx → D → Prop
  cov : ∀ Γ d, Cov Γ C0 → R d → RR Γ d
  fin : ∀ v B' H' d Γ', Ok K B' H' Γ' → Fut C0 B0 H0 B' H' → (∀ a ∈ Γ'.ad, a ∈ C0.ad ∨ H0 a = none) → Rp K B' v d → RR Γ' d → Q v H'
structure At {K : PySem.W.Frag} (S : Sig K) (mk : List Hp) (B H : Hp) (σ : L2.St) (ρ : En) (Γ : Ctx) : Prop where
  ok : Ok K B H Γ
  sl : Sl K B σ ρ
  fut : Fut S.C0 S.B0 S.H0 B H
  new : ∀ a ∈ Γ.ad, a ∈ S.C0.ad ∨ S.H0 a = none
  mks : ∀ m ∈ mk, Same m B
def Goes {K : PySem.W.Frag} (S : Sig K) (mk : List Hp) (N : En → Ctx → Prop) (t : TS) (ρ : En) (Γ : Ctx) : Prop := ∀ E : Ends, E.rt = S.Q → (∀ B H σ ρ' Γ', At S mk B H σ ρ' Γ' → N ρ' Γ' → E.nx σ H) → ∀ B H σ, At S mk B H σ ρ Γ → t E σ H
theorem Cov.refl {Γ : Ctx} : Cov Γ Γ := fun _ _ _ h => h
theorem Cov.tail {p : Addr × Cel} {c : List (Addr × Cel)} {z : List Addr} : Cov ⟨p :: c, z⟩ ⟨c, z⟩ := fun K B H k =>
  ⟨k.ext, (List.nodup_cons.mp k.nd).2, fun q hq => k.cel q (List.mem_cons_of_mem _ hq), k.fz⟩
theorem Cov.trans {Γ Γ' Γ'' : Ctx} (a : Cov Γ Γ') (b : Cov Γ' Γ'') : Cov Γ Γ'' := fun K B H k => b K B H (a K B H k)
section
variable {K : PySem.W.Frag} {S : Sig K} {mk : List Hp} {ρ : En} {Γ : Ctx} {N : En → Ctx → Prop} {te ta tb : TE} {tt : TT} {t u ts : TS}
theorem At.step {B H B' H' : Hp} {σ : L2.St} (a : At S mk B H σ ρ Γ) (k : Ok K B' H' Γ) (f : Fut Γ B H B' H') : At S mk B' H' σ ρ Γ :=
  ⟨k, a.sl.le (sameLe f.ex), a.fut.trans f fun q hq => a.new q hq, a.new, fun m hm => (a.mks m hm).trans f.ex⟩
theorem At.setS {B H : Hp} {σ : L2.St} (a : At S mk B H σ ρ Γ) {i : Nat} {v : V} {d : D} (h : Rp K B v d) : At S mk B H (σ.set i (some v)) (ρ.set i (some d)) Γ := ⟨a.ok, a.sl.set h, a.fut, a.new, a.mks⟩
theorem At.env {B H : Hp} {σ : L2.St} (a : At S mk B H σ ρ Γ) {σ' : L2.St} {ρ' : En} (s : Sl K B σ' ρ') : At S mk B H σ' ρ' Γ := ⟨a.ok, s, a.fut, a.new, a.mks⟩
theorem g_asg {i : Nat} (h : EvW K te ρ Γ fun d => Goes S mk N ts (ρ.set i (some d)) Γ) : Goes S mk N (tSeq (tAsg te (gName i)) ts) ρ Γ := fun E hE hN B H σ a =>
  h B H σ a.ok a.sl _ fun v B1 H1 d k1 f1 r1 q => q E hE hN B1 H1 _ ((a.step k1 f1).setS r1)
theorem g_drop (h : EvW K te ρ Γ fun _ => Goes S mk N ts ρ Γ) : Goes S mk N (tSeq (tDrop te) ts) ρ Γ := fun E hE hN B H σ a =>
  h B H σ a.ok a.sl _ fun v B1 H1 d k1 f1 r1 q => q E hE hN B1 H1 _ (a.step k1 f1)
theorem g_ret (h : EvW K te ρ Γ fun d => S.R d) (c : Cov Γ S.C0) : Goes S mk N (tRet te) ρ Γ := fun E hE hN B H σ a =>
  h B H σ a.ok a.sl _ fun v B1 H1 d k1 f1 r1 q => by
    rw [hE]
    exact S.fin v B1 H1 d Γ k1 (a.step k1 f1).fut a.new r1 (S.cov _ _ c q)
theorem g_retX (h : EvW K te ρ Γ fun d => S.RR Γ d) : Goes S mk N (tRet te) ρ Γ := fun E hE hN B H σ a =>
  h B H σ a.ok a.sl _ fun v B1 H1 d k1 f1 r1 q => by
    rw [hE]
    exact S.fin v B1 H1 d Γ k1 (a.step k1 f1).fut a.new r1 q
theorem g_if (h : EvT K tt ρ Γ fun b => if b = true then Goes S mk N (tSeq t ts) ρ Γ else Goes S mk N (tSeq u ts) ρ Γ) : Goes S mk N (tSeq (tIfS tt t u) ts) ρ Γ := fun E hE hN B H σ a =>
  h B H σ a.ok a.sl _ fun b B1 H1 k1 f1 q => by
    cases b with
    | true => exact (show Goes S mk N (tSeq t ts) ρ Γ from q) E hE hN B1 H1 σ (a.step k1 f1)
    | false => exact (show Goes S mk N (tSeq u ts) ρ Γ from q) E hE hN B1 H1 σ (a.step k1 f1)
theorem g_next (h : Goes S mk N ts ρ Γ) : Goes S mk N (tSeq tNext ts) ρ Γ := fun E hE hN B H σ a => h E hE hN B H σ a
theorem g_assoc (h : Goes S mk N (tSeq t (tSeq u ts)) ρ Γ) : Goes S mk N (tSeq (tSeq t u) ts) ρ Γ := h
theorem g_retS (h : Goes S mk (fun _ _ => False) (tRet te) ρ Γ) : Goes S mk N (tSeq (tRet te) ts) ρ Γ := fun E hE hN B H σ a => h { E with nx := ts E } hE (fun _ _ _ _ _ _ z => z.elim) B H σ a
theorem g_one (h : Goes S mk N (tSeq t tNext) ρ Γ) : Goes S mk N t ρ Γ := h
theorem g_done (h : N ρ Γ) : Goes S mk N tNext ρ Γ := fun E hE hN B H σ a => hN B H σ ρ Γ a h
/-- two names at once -/
theorem g_par {i j : Nat} {ta : TA} (h : EvA K ta ρ Γ fun ds => ∃ x y, ds = [x, y] ∧ Goes S mk N ts ((ρ.set i (some x)).set j (some y)) Γ) : Goes S mk N (tSeq (tPar i j ta) ts) ρ Γ := fun E hE hN B H σ a =>
  h B H σ a.ok a.sl _ fun vs B1 H1 ds k1 f1 r1 ⟨x, y, e, q⟩ => by
    subst e
    cases r1 with
    | cons ra rr => cases rr with
      | cons rb rr => cases rr with
        | nil => exact ⟨_, _, rfl, q E hE hN B1 H1 _ (((a.step k1 f1).setS ra).setS rb)⟩
/-! cells -/
theorem At.h0 {B H : Hp} {σ : L2.St} (a : At S mk B H σ ρ Γ) {p : Addr} (hp : H p = none) : S.H0 p = none := a.fut.lv p hp
theorem At.cellNew {B H : Hp} {σ : L2.St} (a : At S mk B H σ ρ Γ) {p : Addr} {c : Cel} {o : HO} (hp : H p = none) (h : CelAt K B (upd H p o) p c) : At S mk B (upd H p o) σ ρ ⟨(p, c) :: Γ.c, Γ.z⟩ := by
  refine ⟨a.ok.cellNew hp h, a.sl, a.fut.tr (Γ := S.C0) ⟨Same.refl _, fun b u _ e _ hu => ⟨by rw [upd_ne (ne_of_none hu hp)]; exact hu, e⟩, fun b xs hu => by rw [upd_ne (ne_of_none hu hp)]; exact hu, fun b e => ?_⟩, fun b hb => ?_, a.mks⟩
  · by_cases eb : b = p
    · rw [eb]; exact hp
    · rw [upd_ne eb] at e; exact e
  · rcases List.mem_cons.mp hb with e | hb
    · rw [e]; exact .inr (a.h0 hp)
    · exact a.new b hb
theorem At.cellSet {B H : Hp} {σ : L2.St} {p : Addr} {c c' : Cel} {cs : List (Addr × Cel)} {z : List Addr} {o : HO} (a : At S mk B H σ ρ ⟨(p, c) :: cs, z⟩) (h : CelAt K B (upd H p o) p c') : At S mk B (upd H p o) σ ρ ⟨(p, c') :: cs, z⟩ := by
  obtain ⟨_, cc⟩ := a.ok.cel (p, c) List.mem_cons_self
  obtain ⟨u, hu, nt⟩ := cc.some
  refine ⟨a.ok.cellSet h, a.sl, a.fut.trans (Γ' := ⟨(p, c) :: cs, z⟩) ⟨Same.refl _, fun b u _ e hb hu => ⟨by
    rw [upd_ne (fun q => hb (by rw [q]; exact List.mem_cons_self))]; exact hu, e⟩, fun b xs hb => by rw [upd_ne (ne_of hb hu (nt xs).symm)]; exact hb, fun b e => ?_⟩ fun b hb => a.new b hb, fun b hb => a.new b hb, a.mks⟩
  by_cases eb : b = p
  · rw [eb, upd_same] at e; cases e
  · rw [upd_ne eb] at e; exact e
theorem At.cellOff {B H : Hp} {σ : L2.St} {p : Addr} {c : Cel} {cs : List (Addr × Cel)} {z : List Addr} {o : HO} (a : At S mk B H σ ρ ⟨(p, c) :: cs, z⟩) (h0 : S.H0 p = none) (h : H p = some o) (ho : ∀ ob u, o ≠ .frz ob u) : At S mk (upd B p o) H σ ρ ⟨cs, z⟩ := by
  have bp : B p = none := (a.ok.cel (p, c) List.mem_cons_self).1
  refine ⟨a.ok.cellOff h ho, a.sl.le (sameLe (sameNew bp)), ⟨a.fut.ex.trans (sameNew bp), fun b u ht e hb hu => ?_, a.fut.tp, a.fut.lv⟩, fun b hb => a.new b (List.mem_cons_of_mem _ hb), fun m hm => (a.mks m hm).trans (sameNew bp)⟩
  obtain ⟨h1, b1⟩ := a.fut.fr b u ht e hb hu
  exact ⟨h1, by rw [upd_ne (ne_of_none hu h0)]; exact b1⟩
/-- xs = [] , a list that will grow -/
theorem g_newL {i : Nat} (h : ∀ p, S.H0 p = none → Goes S mk N ts (ρ.set i (some (.cell p))) ⟨(p, .lst []) :: Γ.c, Γ.z⟩) : Goes S mk N (tSeq (tAsg (tLst tNil) (gName i)) ts) ρ Γ := fun E hE hN B H σ a => by
  refine ⟨Nat.zero_le _, fun p hp => ?_⟩
  exact h p (a.h0 hp) E hE hN B _ _ ((a.cellNew (c := .lst []) hp ⟨[], upd_same, .nil⟩).setS (.cell p))
theorem g_newT {i : Nat} (h : ∀ p, S.H0 p = none → Goes S mk N ts (ρ.set i (some (.cell p))) ⟨(p, .dT []) :: Γ.c, Γ.z⟩) : Goes S mk N (tSeq (tAsg tDNewT (gName i)) ts) ρ Γ := fun E hE hN B H σ a p hp =>
  h p (a.h0 hp) E hE hN B _ _ ((a.cellNew (c := .dT []) hp ⟨[], upd_same, rfl, .nil⟩).setS (.cell p))
theorem g_newK {i : Nat} (h : ∀ p, S.H0 p = none → Goes S mk N ts (ρ.set i (some (.cell p))) ⟨(p, .dK []) :: Γ.c, Γ.z⟩) : Goes S mk N (tSeq (tAsg tDNewK (gName i)) ts) ρ Γ := fun E hE hN B H σ a p hp =>
  h p (a.h0 hp) E hE hN B _ _ ((a.cellNew (c := .dK []) hp ⟨[], upd_same, rfl, .nil⟩).setS (.cell p))
/-- the cell's list becomes data -/
theorem g_offL {i : Nat} {p : Addr} {ds : List D} {cs : List (Addr × Cel)} {z : List Addr} (h0 : S.H0 p = none) (hi : ρ[i]? = some (some (.cell p))) (h : Goes S mk N ts (ρ.set i (some (.lst ds))) ⟨cs, z⟩) : Goes S mk N ts ρ ⟨(p, .lst ds) :: cs, z⟩ := fun E hE hN B H σ a => by
  obtain ⟨bp, xs, hx, hr⟩ := a.ok.cel (p, .lst ds) List.mem_cons_self
  have a1 := a.cellOff h0 hx (by intros; exact HO.noConfusion)
  obtain ⟨v, hv, rv⟩ := a.sl.at_ i _ hi
  cases rv
  have hs : σ.set i (some (.ref p)) = σ := by
    apply List.ext_getElem?
    intro j
    by_cases e : i = j
    · subst e
      rw [List.getElem?_set_self (by rcases List.getElem?_eq_some_iff.mp hv with ⟨w, _⟩; exact w), hv]
    · rw [List.getElem?_set_ne e]
  have a2 := a1.setS (i := i) (v := .ref p) (d := .lst ds) (.lst upd_same (hr.same (sameNew bp)))
  rw [hs] at a2
  exact h E hE hN _ H σ a2
theorem set_self {σ : L2.St} {i : Nat} {x : V} (hv : σ[i]? = some (some x)) : σ.set i (some x) = σ := by
  apply List.ext_getElem?
  intro j
  by_cases e : i = j
  · subst e
    rw [List.getElem?_set_self (by rcases List.getElem?_eq_some_iff.mp hv with ⟨w, _⟩; exact w), hv]
  · rw [List.getElem?_set_ne e]
theorem g_offT {i : Nat} {p : Addr} {ds : List (List Key × D)} {cs : List (Addr × Cel)} {z : List Addr} (h0 : S.H0 p = none) (hi : ρ[i]? = some (some (.cell p))) (h : Goes S mk N ts (ρ.set i (some (.dT ds))) ⟨cs, z⟩) : Goes S mk N ts ρ ⟨(p, .dT ds) :: cs, z⟩ := fun E hE hN B H σ a => by
  obtain ⟨bp, xs, hx, hk, hr⟩ := a.ok.cel (p, .dT ds) List.mem_cons_self
  have a1 := a.cellOff h0 hx (by intros; exact HO.noConfusion)
  obtain ⟨v, hv, rv⟩ := a.sl.at_ i _ hi
  cases rv
  have a2 := a1.setS (i := i) (v := .ref p) (d := .dT ds) (.dT (.inl upd_same) hk (hr.same (sameNew bp)))
  rw [set_self hv] at a2
  exact h E hE hN _ H σ a2
theorem g_offK {i : Nat} {p : Addr} {ds : List (Key × D)} {cs : List (Addr × Cel)} {z : List Addr} (h0 : S.H0 p = none) (hi : ρ[i]? = some (some (.cell p))) (h : Goes S mk N ts (ρ.set i (some (.dK ds))) ⟨cs, z⟩) : Goes S mk N ts ρ ⟨(p, .dK ds) :: cs, z⟩ := fun E hE hN B H σ a => by
  obtain ⟨bp, xs, hx, hk, hr⟩ := a.ok.cel (p, .dK ds) List.mem_cons_self
  have a1 := a.cellOff h0 hx (by intros; exact HO.noConfusion)
  obtain ⟨v, hv, rv⟩ := a.sl.at_ i _ hi
  cases rv
  have a2 := a1.setS (i := i) (v := .ref p) (d := .dK ds) (.dK (.inl upd_same) hk (hr.same (sameNew bp)))
  rw [set_self hv] at a2
  exact h E hE hN _ H σ a2
/-- xs.append(e) -/
theorem g_app {i : Nat} {p : Addr} {ds : List D} {cs : List (Addr × Cel)} {z : List Addr} (hi : ρ[i]? = some (some (.cell p))) (hl : ds.length < 1000)
    (h : EvW K te ρ ⟨(p, .lst ds) :: cs, z⟩ fun d => Goes S mk N ts ρ ⟨(p, .lst (ds ++ [d])) :: cs, z⟩) : Goes S mk N (tSeq (tDrop (tBM K "list" rAppend (tVar i) (tCons te tNil))) ts) ρ ⟨(p, .lst ds) :: cs, z⟩ := fun E hE hN B H σ a => by
  obtain ⟨v, hv, rv⟩ := a.sl.at_ i _ hi
  cases rv
  obtain ⟨bp, xs, hx, hr⟩ := a.ok.cel (p, .lst ds) List.mem_cons_self
  refine ⟨.ref p, hv, .inl ⟨rfl, _, SqL.of hx⟩, ?_⟩
  refine h B H σ a.ok a.sl _ fun v B1 H1 d k1 f1 r1 q => ?_
  have a1 := a.step k1 f1
  obtain ⟨bp1, ys, hy, hry⟩ := k1.cel (p, .lst ds) List.mem_cons_self
  refine ⟨p, ys, v, rfl, rfl, hy, small1000 (by rw [hry.length]; omega), ?_⟩
  exact q E hE hN B1 _ σ (a1.cellSet ⟨_, upd_same, hry.snoc r1⟩)
end
end PF
end
section
set_option Elab.async false
set_option linter.all false
set_option maxRecDepth 100000
namespace PF
open PySem PySem.Spec L2 RZ
/-! ### iterators over data -/
structure WalkD (K : PySem.W.Frag) (J : It) (B : Hp) (ds : List D) : Prop where
  ex : ∃ (G : Hp → Prop) (Y : Nat → Hp → V → Hp → Prop), Walk J ds.length G Y ∧ (∀ H, Same B H → G H) ∧
    ∀ i x H H' d Γ B1, ds[i]? = some d → Y i H x H' → Ok K B1 H Γ → Same B B1 → ∃ B2, Ok K B2 H' Γ ∧ Fut Γ B1 H B2 H' ∧ Rp K B2 x d
theorem WalkD.same {K : PySem.W.Frag} {J : It} {B B' : Hp} {ds : List D} (w : WalkD K J B ds) (e : Same B B') : WalkD K J B' ds := by
  obtain ⟨G, Y, h1, h2, h3⟩ := w.ex
  exact ⟨G, Y, h1, fun H s => h2 H (e.trans s), fun i x H H' d Γ B1 a b c s => h3 i x H H' d Γ B1 a b c (e.trans s)⟩
def ItW (K : PySem.W.Frag) (wi : TI) (ρ : En) (Γ : Ctx) (R : List D → Prop) : Prop := ∀ B H σ, Ok K B H Γ → Sl K B σ ρ → ∀ Rr : It → Hp → Prop,
  (∀ J B' H' ds, Ok K B' H' Γ → Fut Γ B H B' H' → WalkD K J B' ds → R ds → Rr J H') → wi σ H Rr
theorem walkD_list {K : PySem.W.Frag} {B : Hp} {a : Addr} {xs : List V} {ds : List D} (h : SqL K B a xs) (r : RpL K B xs ds) : WalkD K (Itl K a) B ds := by
  refine ⟨fun H => SqL K H a xs, YAt xs, r.length ▸ walk_list, fun H s => sqL_le (sameLe s) h, fun i x H H' d Γ B1 hd y k s => ?_⟩
  obtain ⟨rfl, hx⟩ := y
  obtain ⟨v, hv, rv⟩ := r.get hd
  rw [hx] at hv
  cases hv
  exact ⟨B1, k, Fut.refl, rv.same s⟩
theorem walkD_tup {K : PySem.W.Frag} {B : Hp} {a : Addr} {xs : List V} {ds : List D} (h : SqT K B a xs) (r : RpL K B xs ds) : WalkD K (Itt K a) B ds := by
  refine ⟨fun H => SqT K H a xs, YAt xs, r.length ▸ walk_tup, fun H s => sqT_le (sameLe s) h, fun i x H H' d Γ B1 hd y k s => ?_⟩
  obtain ⟨rfl, hx⟩ := y
  obtain ⟨v, hv, rv⟩ := r.get hd
  rw [hx] at hv
  cases hv
  exact ⟨B1, k, Fut.refl, rv.same s⟩
def rangeD (lo : Int) (n : Nat) : List D := (List.range n).map fun i => .int (lo + (i : Nat))
theorem rangeD_len (lo : Int) (n : Nat) : (rangeD lo n).length = n := by unfold rangeD; rw [List.length_map, List.length_range]
theorem rangeD_get {lo : Int} {n i : Nat} {d : D} (h : (rangeD lo n)[i]? = some d) : i < n ∧ d = .int (lo + (i : Nat)) := by
  have hl := (List.getElem?_eq_some_iff.mp h).1
  rw [rangeD_len] at hl
  unfold rangeD at h
  rw [List.getElem?_map, List.getElem?_range hl] at h
  exact ⟨hl, (Option.some.inj h).symm⟩
theorem walkD_range {K : PySem.W.Frag} {B : Hp} {lo : Int} {n : Nat} : WalkD K (Itr lo n) B (rangeD lo n) := by
  refine ⟨fun _ => True, YFn fun i => .int (lo + i), (rangeD_len lo n).symm ▸ walk_range, fun _ _ => trivial, fun i x H H' d Γ B1 hd y k s => ?_⟩
  obtain ⟨rfl, rfl⟩ := y
  obtain ⟨_, rfl⟩ := rangeD_get hd
  exact ⟨B1, k, Fut.refl, .int _⟩
/-- pairs, each a new tuple -/
theorem walkD_pair {K : PySem.W.Frag} {B : Hp} {J : It} {G : Hp → Prop} {xs ys : Nat → Option V} {dx dy : Nat → D} {n : Nat} {ds : List D} (hn : ds.length = n) (w : Walk J n G (YPair xs ys)) (hG : ∀ H, Same B H → G H)
    (hds : ∀ (i : Nat) (d : D), ds[i]? = some d → d = D.tup [dx i, dy i])
    (hx : ∀ i x, i < n → xs i = some x → Rp K B x (dx i)) (hy : ∀ i x, i < n → ys i = some x → Rp K B x (dy i)) : WalkD K J B ds := by
  refine ⟨G, YPair xs ys, hn ▸ w, hG, fun i x H H' d Γ B1 hd y k s => ?_⟩
  have hi : i < n := hn ▸ (List.getElem?_eq_some_iff.mp hd).1
  obtain ⟨T, a, b, rfl, hT, rfl, ha, hb⟩ := y
  have e := sameNew (o := .tup [a, b]) (k.bnone hT)
  rw [hds i d hd]
  exact ⟨_, k.new hT (by intros; exact HO.noConfusion), k.newF hT, .tup (.inl (.inl upd_same)) (.cons ((hx i a hi ha).same (s.trans e)) (.cons ((hy i b hi hb).same (s.trans e)) .nil))⟩
def zipD (xs ys : List D) : List D := List.zipWith (fun a b => .tup [a, b]) xs ys
def enumD (ds : List D) : List D := ds.mapIdx fun i d => .tup [.int (i : Nat), d]
section
variable {K : PySem.W.Frag} {ρ : En} {Γ : Ctx} {R : List D → Prop} {te ta tb : TE} {tr : TA}
theorem zipD_get {xs ys : List D} {i : Nat} {d : D} (h : (zipD xs ys)[i]? = some d) : ∃ a b, xs[i]? = some a ∧ ys[i]? = some b ∧ d = .tup [a, b] := by
  unfold zipD at h
  rw [List.getElem?_zipWith] at h
  cases e1 : xs[i]? with
  | none => rw [e1] at h; cases h
  | some a =>
    cases e2 : ys[i]? with
    | none => rw [e1, e2] at h; cases h
    | some b =>
      rw [e1, e2] at h
      exact ⟨a, b, rfl, rfl, (Option.some.inj h).symm⟩
theorem getD_of {ds : List D} {i : Nat} {d : D} (h : ds[i]? = some d) : ds.getD i .non = d := by rw [List.getD_eq_getElem?_getD, h]; rfl
theorem rp_at {B : Hp} {vs : List V} {ds : List D} (r : RpL K B vs ds) {i : Nat} {v : V} (h : vs[i]? = some v) : Rp K B v (ds.getD i .non) := by
  obtain ⟨d, hd, rp⟩ := r.get' h
  rw [getD_of hd]
  exact rp
theorem walkD_zipL {B : Hp} {a b : Addr} {xs ys : List V} {ds es : List D} (h1 : SqL K B a xs) (h2 : SqL K B b ys) (r1 : RpL K B xs ds) (r2 : RpL K B ys es) : WalkD K (Itz K a b) B (zipD ds es) :=
  walkD_pair (n := min xs.length ys.length) (dx := fun i => ds.getD i .non) (dy := fun i => es.getD i .non) (by unfold zipD; rw [List.length_zipWith, r1.length, r2.length]) (walk_zip rfl) (fun H s => ⟨sqL_le (sameLe s) h1, sqL_le (sameLe s) h2⟩)
    (fun i d hd => by obtain ⟨x, y, e1, e2, e3⟩ := zipD_get hd; rw [getD_of e1, getD_of e2]; exact e3) (fun i x _ hx => rp_at r1 hx) (fun i x _ hx => rp_at r2 hx)
theorem walk_zipT {a b : Addr} {xs ys : List V} {n : Nat} (hn : n = min xs.length ys.length) : Walk (ItzT K a b) n (fun H => SqT K H a xs ∧ SqT K H b ys) (YPair (fun i => xs[i]?) (fun i => ys[i]?)) := by
  subst hn
  refine ⟨fun i _ hi q => ?_, fun _ q => ⟨xs, ys, q.1, q.2, by omega⟩, fun i H v H' _ q y => ?_⟩
  · have h1 : i < xs.length := by omega
    have h2 : i < ys.length := by omega
    exact ⟨xs, ys, xs[i], ys[i], q.1, q.2, by simp [h1], by simp [h2]⟩
  · obtain ⟨T, x, z, h1, h2, h3, h4, h5⟩ := y
    exact ⟨T, x, z, h1, h2, h3, h4 xs q.1, h5 ys q.2⟩
theorem walkD_zipT {B : Hp} {a b : Addr} {xs ys : List V} {ds es : List D} (h1 : SqT K B a xs) (h2 : SqT K B b ys) (r1 : RpL K B xs ds) (r2 : RpL K B ys es) : WalkD K (ItzT K a b) B (zipD ds es) :=
  walkD_pair (n := min xs.length ys.length) (dx := fun i => ds.getD i .non) (dy := fun i => es.getD i .non) (by unfold zipD; rw [List.length_zipWith, r1.length, r2.length]) (walk_zipT rfl) (fun H s => ⟨sqT_le (sameLe s) h1, sqT_le (sameLe s) h2⟩)
    (fun i d hd => by obtain ⟨x, y, e1, e2, e3⟩ := zipD_get hd; rw [getD_of e1, getD_of e2]; exact e3) (fun i x _ hx => rp_at r1 hx) (fun i x _ hx => rp_at r2 hx)
theorem i_list (h : EvW K te ρ Γ fun x => ∃ ds, x = .lst ds ∧ R ds) : ItW K (iList K te) ρ Γ R := fun B H σ k s Rr f =>
  h B H σ k s _ fun v B1 H1 d k1 f1 r1 ⟨ds, e, q⟩ => by
    subst e
    cases r1 with
    | lst hx hr =>
      have hs := SqL.of (K := K) hx
      exact ⟨_, rfl, ⟨_, sqL_le (sameLe k1.ext) hs⟩, f _ B1 H1 ds k1 f1 (walkD_list hs hr) q⟩
theorem i_tup (h : EvW K te ρ Γ fun x => ∃ ds, x = .tup ds ∧ R ds) : ItW K (iTup K te) ρ Γ R := fun B H σ k s Rr f =>
  h B H σ k s _ fun v B1 H1 d k1 f1 r1 ⟨ds, e, q⟩ => by
    subst e
    cases r1 with
    | tup hx hr => exact ⟨_, rfl, ⟨_, sqT_le (sameLe k1.ext) hx⟩, f _ B1 H1 ds k1 f1 (walkD_tup hx hr) q⟩
theorem i_rng1 (h : EvA K tr ρ Γ fun ds => ∃ n : Int, ds = [.int n] ∧ n ≤ 100000 ∧ 0 ≤ n ∧ R (rangeD 0 n.toNat)) : ItW K (iRng1 tr) ρ Γ R := fun B H σ k s Rr f =>
  h B H σ k s _ fun vs B1 H1 ds k1 f1 r1 ⟨n, e, h1, h2, q⟩ => by
    subst e
    cases r1 with
    | cons ra rr =>
      cases rr
      cases ra
      exact ⟨n, rfl, by omega, by omega, f _ B1 H1 _ k1 f1 walkD_range q⟩
theorem i_rng2 (h : EvA K tr ρ Γ fun ds => ∃ lo n : Int, ds = [.int lo, .int n] ∧ (-100000 ≤ lo ∧ lo ≤ 100000) ∧ (-100000 ≤ n ∧ n ≤ 100000) ∧ R (rangeD lo (n - lo).toNat)) : ItW K (iRng2 tr) ρ Γ R := fun B H σ k s Rr f =>
  h B H σ k s _ fun vs B1 H1 ds k1 f1 r1 ⟨lo, n, e, h1, h2, q⟩ => by
    subst e
    cases r1 with
    | cons ra rr =>
      cases rr with
      | cons rb rr =>
        cases rr
        cases ra
        cases rb
        exact ⟨lo, n, rfl, ⟨by omega, by omega, by omega, by omega⟩, f _ B1 H1 _ k1 f1 walkD_range q⟩
theorem i_zip (h : EvA K tr ρ Γ fun ds => ∃ a b, (ds = [.lst a, .lst b] ∨ ds = [.tup a, .tup b]) ∧ R (zipD a b)) : ItW K (iZipA K tr) ρ Γ R := fun B H σ k s Rr f =>
  h B H σ k s _ fun vs B1 H1 ds k1 f1 r1 ⟨a, b, e, q⟩ => by
    rcases e with e | e
    · subst e
      cases r1 with
      | cons ra rr =>
        cases rr with
        | cons rb rr =>
          cases rr
          cases ra with
          | lst ha hra =>
            cases rb with
            | lst hb hrb =>
              have s1 := SqL.of (K := K) ha
              have s2 := SqL.of (K := K) hb
              exact ⟨_, _, _, _, rfl, .inl ⟨sqL_le (sameLe k1.ext) s1, sqL_le (sameLe k1.ext) s2, f _ B1 H1 _ k1 f1 (walkD_zipL s1 s2 hra hrb) q⟩⟩
    · subst e
      cases r1 with
      | cons ra rr =>
        cases rr with
        | cons rb rr =>
          cases rr
          cases ra with
          | tup s1 hra =>
            cases rb with
            | tup s2 hrb =>
              exact ⟨_, _, _, _, rfl, .inr ⟨sqT_le (sameLe k1.ext) s1, sqT_le (sameLe k1.ext) s2, f _ B1 H1 _ k1 f1 (walkD_zipT s1 s2 hra hrb) q⟩⟩
theorem i_enum (h : EvA K tr ρ Γ fun ds => ∃ a, ds = [.lst a] ∧ R (enumD a)) : ItW K (iEnum K tr) ρ Γ R := fun B H σ k s Rr f =>
  h B H σ k s _ fun vs B1 H1 ds k1 f1 r1 ⟨a, e, q⟩ => by
    subst e
    cases r1 with
    | cons ra rr =>
      cases rr
      cases ra with
      | lst ha hra =>
        have s1 := SqL.of (K := K) ha
        refine ⟨_, _, rfl, sqL_le (sameLe k1.ext) s1, f _ B1 H1 _ k1 f1 ?_ q⟩
        refine walkD_pair (n := _) (dx := fun i => .int (i : Nat)) (dy := fun i => a.getD i .non) ?_ (walk_enum (K := K)) (fun H s => sqL_le (sameLe s) s1) (fun i d hd => ?_) (fun i x _ hx => ?_) (fun i x _ hx => rp_at hra hx)
        · unfold enumD; rw [List.length_mapIdx, hra.length]
        · unfold enumD at hd
          rw [List.getElem?_mapIdx] at hd
          cases e1 : a[i]? with
          | none => rw [e1] at hd; cases hd
          | some y =>
            rw [e1] at hd
            rw [getD_of e1]
            exact (Option.some.inj hd).symm
        · rw [← Option.some.inj hx]
          exact .int _
end
/-! ### targets -/
def GW (K : PySem.W.Frag) (P : Nat → Prop) (g : TG) (ρ : En) (d : D) (R : En → Prop) : Prop := ∀ Γ B H σ v, Ok K B H Γ → Sl K B σ ρ → Rp K B v d → ∀ Q : L2.St → Hp → Prop,
  (∀ σ' ρ', Sl K B σ' ρ' → (∀ i, ¬ P i → σ'[i]? = σ[i]?) → σ'.length = σ.length → R ρ' → Q σ' H) → g v σ H Q
def GWs (K : PySem.W.Frag) (P : Nat → Prop) (g : TGs) (ρ : En) (ds : List D) (R : En → Prop) : Prop := ∀ Γ B H σ vs, Ok K B H Γ → Sl K B σ ρ → RpL K B vs ds → ∀ Q : L2.St → Hp → Prop,
  (∀ σ' ρ', Sl K B σ' ρ' → (∀ i, ¬ P i → σ'[i]? = σ[i]?) → σ'.length = σ.length → R ρ' → Q σ' H) → g vs σ H Q
section
variable {K : PySem.W.Frag} {P : Nat → Prop} {ρ : En} {R : En → Prop}
theorem gw_name {i : Nat} {d : D} (hi : P i) (q : R (ρ.set i (some d))) : GW K P (gName i) ρ d R := fun Γ B H σ v k s r Q f =>
  f _ _ (s.set r) (fun j hj => List.getElem?_set_ne (fun (e : i = j) => hj (e ▸ hi))) (List.length_set ..) q
theorem gws_nil (q : R ρ) : GWs K P gNil ρ [] R := fun Γ B H σ vs k s r Q f => by
  cases r
  exact ⟨rfl, f _ _ s (fun _ _ => rfl) rfl q⟩
theorem gws_cons {g : TG} {gs : TGs} {d : D} {ds : List D} (h : GW K P g ρ d fun ρ' => GWs K P gs ρ' ds R) : GWs K P (gCons g gs) ρ (d :: ds) R := fun Γ B H σ vs k s r Q f => by
  cases r with
  | cons ra rr => exact ⟨_, _, rfl, h Γ B H σ _ k s ra _ fun σ1 ρ1 s1 e1 l1 q1 => q1 Γ B H σ1 _ k s1 rr _ fun σ2 ρ2 s2 e2 l2 q2 => f σ2 ρ2 s2 (fun i hi => (e2 i hi).trans (e1 i hi)) (l2.trans l1) q2⟩
theorem gw_tup {n : Nat} {gs : TGs} {ds : List D} (hn : ds.length = n) (h : GWs K P gs ρ ds R) : GW K P (gTup K n gs) ρ (.tup ds) R := fun Γ B H σ v k s r Q f => by
  cases r with
  | tup hx hr => exact ⟨_, _, rfl, sqT_le (sameLe k.ext) hx, hr.length.trans hn, h Γ B H σ _ k s hr Q f⟩
end
/-! ### wiped slots -/
theorem wipe_get (σ : L2.St) (i : Nat) : ∀ vs : List Nat, (wipe σ vs)[i]? = if i ∈ vs ∧ i < σ.length then some none else σ[i]?
  | [] => by simp [wipe]
  | v :: vs => by
    show ((wipe σ vs).set v none)[i]? = _
    by_cases e : v = i
    · subst e
      by_cases hl : v < σ.length
      · rw [List.getElem?_set_self (by rw [wipe_length]; exact hl), if_pos ⟨List.mem_cons_self, hl⟩]
      · rw [List.getElem?_eq_none (by rw [List.length_set, wipe_length]; omega), if_neg (fun q => hl q.2), List.getElem?_eq_none (by omega)]
    · rw [List.getElem?_set_ne e, wipe_get σ i vs]
      have h : (i ∈ v :: vs ∧ i < σ.length) ↔ (i ∈ vs ∧ i < σ.length) := by
        rw [List.mem_cons]
        constructor
        · rintro ⟨q | q, r⟩
          · exact absurd q.symm e
          · exact ⟨q, r⟩
        · exact fun q => ⟨.inr q.1, q.2⟩
      by_cases hh : i ∈ vs ∧ i < σ.length
      · rw [if_pos hh, if_pos (h.mpr hh)]
      · rw [if_neg hh, if_neg (fun q => hh (h.mp q))]
theorem wipe_ext {σ σ' : L2.St} {vs : List Nat} (hl : σ'.length = σ.length) (h : ∀ i, ¬ i ∈ vs → σ'[i]? = (wipe σ vs)[i]?) : wipe σ' vs = wipe σ vs := by
  apply List.ext_getElem?
  intro i
  rw [wipe_get]
  by_cases hm : i ∈ vs
  · rw [wipe_get, hl]
    by_cases q : i < σ.length
    · rw [if_pos ⟨hm, q⟩, if_pos ⟨hm, q⟩]
    · rw [if_neg (fun z => q z.2), if_neg (fun z => q z.2), List.getElem?_eq_none (by omega), List.getElem?_eq_none (by omega)]
  · rw [if_neg (fun z => hm z.1)]
    exact h i hm
/-! ### comprehensions -/
section
variable {K : PySem.W.Frag} {ρ : En} {Γ : Ctx} {R : D → Prop} {wi : TI} {g : TG} {tt : TT} {te : TE} {vs : List Nat}
theorem Ok.extend {B H : Hp} {D1 : Addr} {c : Cel} (k : Ok K B H ⟨(D1, c) :: Γ.c, Γ.z⟩) : Ok K B H Γ := ⟨k.ext, (List.nodup_cons.mp k.nd).2, fun q hq => k.cel q (List.mem_cons_of_mem _ hq), k.fz⟩
/-- a cell outside Γ is kept by what keeps Γ -/
theorem Ok.carry {B H B' H' : Hp} {D1 : Addr} {ds : List D} (k : Ok K B H ⟨(D1, .lst ds) :: Γ.c, Γ.z⟩) (k' : Ok K B' H' Γ) (f : Fut Γ B H B' H') : Ok K B' H' ⟨(D1, .lst ds) :: Γ.c, Γ.z⟩ := by
  obtain ⟨b, xs, hx, hr⟩ := k.cel (D1, .lst ds) List.mem_cons_self
  have nd := List.nodup_cons.mp (show (D1 :: Γ.c.map (·.1)).Nodup from k.nd)
  obtain ⟨h1, b1⟩ := f.fr D1 _ (by intros; exact HO.noConfusion) b nd.1 hx
  refine ⟨k'.ext, List.nodup_cons.mpr nd, fun q hq => ?_, k'.fz⟩
  rcases List.mem_cons.mp hq with rfl | hq
  · exact ⟨b1, xs, h1, hr.same f.ex⟩
  · exact k'.cel q hq
theorem lc_run {J : It} {B1 H1 : Hp} {σ : L2.St} {ds : List D} {Q : VK} (k1 : Ok K B1 H1 Γ) (s : Sl K B1 σ ρ) (w : WalkD K J B1 ds) (hn : ds.length ≤ 1000) (Acc : Nat → List D → Prop) (h0 : Acc 0 [])
    (hs : ∀ i d acc, ds[i]? = some d → Acc i acc → GW K (· ∈ vs) g (wipeR ρ vs) d fun ρ' => EvT K tt ρ' Γ fun b => if b = true then EvW K te ρ' Γ fun e => Acc (i + 1) (acc ++ [e]) else Acc (i + 1) acc)
    (hd : ∀ acc, Acc ds.length acc → R (.lst acc)) (f : Fin K Γ B1 H1 R Q) : ∀ Dl, H1 Dl = none → ∃ W : Nat → Nat → Hp → Prop, (∃ m, W 0 m (upd H1 Dl (.lst []))) ∧ ∀ i m H, W i m H →
      (J.stop i H ∧ Q (.ref Dl) H) ∨ (J.go i H ∧ ∃ Nx : Hp → Prop, (∀ H', Nx H' → ∃ m', m' < m ∧ W (i + 1) m' H') ∧ ∀ x H', J.yld i H x H' → g x (wipe σ vs) H' fun σ2 H2 => wipe σ2 vs = wipe σ vs ∧ tt σ2 H2 fun b H3 =>
        if b = true then te σ2 H3 fun y H4 => ∃ acc, H4 Dl = some (.lst acc) ∧ acc.length < sizeLine ∧ Nx (upd H4 Dl (.lst (acc ++ [y]))) else Nx H3) := by
  intro Dl hDl
  obtain ⟨G, Y, hw, hG, hY⟩ := w.ex
  have st : ∀ {B2 H2 : Hp} {acc : List D} {B3 H3 : Hp}, Ok K B2 H2 ⟨(Dl, .lst acc) :: Γ.c, Γ.z⟩ → Fut ⟨(Dl, .lst acc) :: Γ.c, Γ.z⟩ B1 (upd H1 Dl (.lst [])) B2 H2 → Ok K B3 H3 Γ → Fut Γ B2 H2 B3 H3 →
      Ok K B3 H3 ⟨(Dl, .lst acc) :: Γ.c, Γ.z⟩ ∧ Fut ⟨(Dl, .lst acc) :: Γ.c, Γ.z⟩ B1 (upd H1 Dl (.lst [])) B3 H3 := fun k2 f2 k3 f3 =>
    ⟨k2.carry k3 f3, f2.trans f3 fun a ha => .inl (List.mem_cons_of_mem _ ha)⟩
  refine lc_it hw (fun i H => ∃ B2 acc, Ok K B2 H ⟨(Dl, .lst acc) :: Γ.c, Γ.z⟩ ∧ Fut ⟨(Dl, .lst acc) :: Γ.c, Γ.z⟩ B1 (upd H1 Dl (.lst [])) B2 H ∧ acc.length ≤ i ∧ Acc i acc)
    ⟨B1, [], k1.cellNew hDl ⟨[], upd_same, .nil⟩, Fut.refl, Nat.le_refl _, h0⟩ (fun i H _ ⟨B2, acc, k2, f2, _⟩ => hG H (f2.ex.trans k2.ext)) ?_ ?_
  · rintro i x H H' hi ⟨B2, acc, k2, f2, hl, ha⟩ y
    have hdi : ds[i]? = some ds[i] := List.getElem?_eq_getElem hi
    obtain ⟨B3, k3, f3, r3⟩ := hY i x H H' _ _ B2 hdi y k2.extend f2.ex
    obtain ⟨k3', f3'⟩ := st k2 f2 k3 f3
    refine hs i _ acc hdi ha Γ B3 H' _ x k3 ((s.wipe vs).le (sameLe f3'.ex)) r3 _ fun σ' ρ' s' e' l' q' => ?_
    refine ⟨wipe_ext (l'.trans (wipe_length _ _)) fun j hj => e' j hj, ?_⟩
    refine q' B3 H' σ' k3 s' _ fun b B4 H4 k4 f4 q4 => ?_
    obtain ⟨k4', f4'⟩ := st k3' f3' k4 f4
    cases b with
    | false => exact ⟨B4, acc, k4', f4', by omega, q4⟩
    | true =>
      refine (show EvW K te ρ' Γ _ from q4) B4 H4 σ' k4 (s'.le (sameLe f4.ex)) _ fun v B5 H5 d k5 f5 r5 q5 => ?_
      obtain ⟨k5', f5'⟩ := st k4' f4' k5 f5
      obtain ⟨b5, xs, hx, hr⟩ := k5'.cel (Dl, .lst acc) List.mem_cons_self
      refine ⟨xs, hx, small1000 (by rw [hr.length]; omega), B5, acc ++ [d], k5'.cellSet ⟨_, upd_same, hr.snoc r5⟩, ?_, by rw [List.length_append, List.length_singleton]; omega, q5⟩
      refine ⟨f5'.ex, fun a o ht hb hc h => ?_, fun a ys h => ?_, fun a h => ?_⟩
      · obtain ⟨z1, z2⟩ := f5'.fr a o ht hb hc h
        rw [upd_ne (fun q => hc (by rw [q]; exact List.mem_cons_self))]
        exact ⟨z1, z2⟩
      · have ne : a ≠ Dl := by
          intro q
          rw [q, upd_same] at h
          cases h
        rw [upd_ne ne]
        exact f5'.tp a ys h
      · by_cases q : a = Dl
        · rw [q, upd_same] at h; cases h
        · rw [upd_ne q] at h; exact f5'.lv a h
  · rintro H ⟨B2, acc, k2, f2, _, ha⟩
    obtain ⟨b2, xs, hx, hr⟩ := k2.cel (Dl, .lst acc) List.mem_cons_self
    refine f (.ref Dl) (upd B2 Dl (.lst xs)) H (.lst acc) (k2.cellOff hx (by intros; exact HO.noConfusion)) ?_ (.lst upd_same (hr.same (sameNew b2))) (hd acc ha)
    refine ⟨f2.ex.trans (sameNew b2), fun a o ht hb hc h => ?_, fun a ys h => ?_, fun a h => ?_⟩
    · have ne : a ≠ Dl := ne_of_none h hDl
      obtain ⟨z1, z2⟩ := f2.fr a o ht hb (fun q => by
        rcases List.mem_cons.mp q with q | q
        · exact ne q
        · exact hc q) (by rw [upd_ne ne]; exact h)
      exact ⟨z1, by rw [upd_ne ne]; exact z2⟩
    · exact f2.tp a ys (by rw [upd_ne (ne_of_none h hDl)]; exact h)
    · have z := f2.lv a h
      by_cases q : a = Dl
      · rw [q]; exact hDl
      · rw [upd_ne q] at z; exact z
theorem w_lc (h : ItW K wi ρ Γ fun ds => ds.length ≤ 1000 ∧ ∃ Acc : Nat → List D → Prop, Acc 0 [] ∧
    (∀ i d acc, ds[i]? = some d → Acc i acc → GW K (· ∈ vs) g (wipeR ρ vs) d fun ρ' => EvT K tt ρ' Γ fun b => if b = true then EvW K te ρ' Γ fun e => Acc (i + 1) (acc ++ [e]) else Acc (i + 1) acc) ∧
    ∀ acc, Acc ds.length acc → R (.lst acc)) : EvW K (tLc wi g tt te vs) ρ Γ R := fun B H σ k s Q f =>
  h B H σ k s _ fun J B1 H1 ds k1 f1 w ⟨hn, Acc, h0, hs, hd⟩ => lc_run k1 (s.le (sameLe f1.ex)) w hn Acc h0 hs hd (f.tr f1)
theorem t_yes {RT : Bool → Prop} (h : RT true) : EvT K tYes ρ Γ RT := fun B H σ k s Q f => f true B H k Fut.refl h
end
/-! ### for, while -/
section
variable {K : PySem.W.Frag} {S : Sig K} {mk : List Hp} {ρ : En} {Γ : Ctx} {N : En → Ctx → Prop} {wi : TI} {g : TG} {te : TE} {tt : TT} {tb ts : TS}
theorem g_for (h : ItW K wi ρ Γ fun ds => ∃ Iv : Nat → En → Ctx → Prop, Iv 0 ρ Γ ∧
    (∀ i d ρ' Γ' B1, ds[i]? = some d → Iv i ρ' Γ' → GW K (fun _ => True) g ρ' d fun ρ'' => Goes S (B1 :: mk) (fun ρ2 Γ2 => Iv (i + 1) ρ2 Γ2) tb ρ'' Γ') ∧
    ∀ ρ' Γ', Iv ds.length ρ' Γ' → Goes S mk N ts ρ' Γ') : Goes S mk N (tSeq (tFor wi g tb) ts) ρ Γ := fun E hE hN B H σ a =>
  h B H σ a.ok a.sl _ fun J B1 H1 ds k1 f1 w ⟨Iv, h0, hs, hd⟩ => by
    obtain ⟨G, Y, hw, hG, hY⟩ := w.ex
    have a1 := a.step k1 f1
    refine ⟨fun i m σ H => m = ds.length - i ∧ i ≤ ds.length ∧ ∃ B ρ Γ, At S (B1 :: mk) B H σ ρ Γ ∧ Iv i ρ Γ, ⟨ds.length, by simp, Nat.zero_le _, B1, ρ, Γ,
      ⟨a1.ok, a1.sl, a1.fut, a1.new, fun m hm => (List.mem_cons.mp hm).elim (fun e => e ▸ Same.refl _) (a1.mks m)⟩, h0⟩, ?_⟩
    rintro i m σ H ⟨rfl, hi, B2, ρ2, Γ2, a2, iv⟩
    have sB : Same B1 B2 := a2.mks B1 List.mem_cons_self
    by_cases hlt : i < ds.length
    · have hdi : ds[i]? = some ds[i] := List.getElem?_eq_getElem hlt
      have gH := hG H (sB.trans a2.ok.ext)
      refine .inr ⟨hw.goes i H hlt gH, fun σ' H' => ∃ B ρ Γ, At S (B1 :: mk) B H' σ' ρ Γ ∧ Iv (i + 1) ρ Γ, fun σ' H' q => ⟨ds.length - (i + 1), by omega, rfl, hlt, q⟩, fun x H' y => ?_⟩
      obtain ⟨B3, k3, f3, r3⟩ := hY i x H H' _ _ B2 hdi (hw.yields i H x H' hlt gH y) a2.ok sB
      have a3 := a2.step k3 f3
      refine hs i _ ρ2 Γ2 B1 hdi iv Γ2 B3 H' σ x k3 a3.sl r3 _ fun σ' ρ' s' _ _ q' => ?_
      refine q' _ (by exact hE) ?_ B3 H' σ' (a3.env s')
      intro B H σ ρ Γ a' n'
      exact ⟨B, ρ, Γ, a', n'⟩
    · have e : i = ds.length := by omega
      subst e
      refine .inl ⟨hw.stops H (hG H (sB.trans a2.ok.ext)), ?_⟩
      exact hd ρ2 Γ2 iv E hE hN B2 H σ ⟨a2.ok, a2.sl, a2.fut, a2.new, fun m hm => a2.mks m (List.mem_cons_of_mem _ hm)⟩
theorem g_while (Iv : Nat → En → Ctx → Prop) (m0 : Nat) (h0 : Iv m0 ρ Γ)
    (hs : ∀ m ρ' Γ', Iv m ρ' Γ' → EvT K tt ρ' Γ' fun b => if b = true then Goes S mk (fun ρ2 Γ2 => ∃ m', m' < m ∧ Iv m' ρ2 Γ2) tb ρ' Γ' else Goes S mk N ts ρ' Γ') : Goes S mk N (tSeq (tWhile tt tb) ts) ρ Γ := fun E hE hN B H σ a => by
  refine ⟨fun m σ H => ∃ B ρ Γ, At S mk B H σ ρ Γ ∧ Iv m ρ Γ, ⟨m0, B, ρ, Γ, a, h0⟩, ?_⟩
  rintro m σ H ⟨B, ρ, Γ, a, iv⟩
  refine hs m ρ Γ iv B H σ a.ok a.sl _ fun b B1 H1 k1 f1 q => ?_
  cases b with
  | true =>
    refine ⟨fun σ' H' => ∃ m' B ρ Γ, m' < m ∧ At S mk B H' σ' ρ Γ ∧ Iv m' ρ Γ, fun σ' H' ⟨m', B, ρ, Γ, l, a', i'⟩ => ⟨m', l, B, ρ, Γ, a', i'⟩, ?_⟩
    refine (show Goes S mk (fun ρ2 Γ2 => ∃ m', m' < m ∧ Iv m' ρ2 Γ2) tb ρ Γ from q) _ (by exact hE) ?_ B1 H1 σ (a.step k1 f1)
    rintro B H σ ρ Γ a' ⟨m', l, i'⟩
    exact ⟨m', B, ρ, Γ, l, a', i'⟩
  | false => exact (show Goes S mk N ts ρ Γ from q) E hE hN B1 H1 σ (a.step k1 f1)
end
end PF
end
section
set_option Elab.async false
set_option linter.all false
set_option maxRecDepth 100000
namespace PF
open PySem PySem.Spec L2
/-! ### a def's promise by its body -/
def startR (n : Nat) (ds : List D) : En := ds.map some ++ List.replicate (n - ds.length) none
theorem sl_start {K : PySem.W.Frag} {B : Hp} {vs : List V} {ds : List D} (r : RpL K B vs ds) (N : List Str) : Sl K B (L2.start N vs) (startR N.length ds) := by
  unfold L2.start startR
  refine ⟨by simp [r.length], fun i d h => ?_⟩
  by_cases hl : i < ds.length
  · rw [List.getElem?_append_left (by simpa using hl), List.getElem?_map] at h
    cases e : ds[i]? with
    | none => rw [e] at h; cases h
    | some d' =>
      rw [e] at h
      have e2 : d' = d := by simpa using h
      subst e2
      obtain ⟨v, hv, rp⟩ := r.get e
      exact ⟨v, by rw [List.getElem?_append_left (by rw [List.length_map, r.length]; exact hl), List.getElem?_map, hv]; rfl, rp⟩
  · rw [List.getElem?_append_right (by simp; omega)] at h
    rw [List.getElem?_replicate] at h
    split at h <;> cases h
def nEnd {K : PySem.W.Frag} (S : Sig K) : En → Ctx → Prop := fun _ Γ => S.RR Γ .non
section
variable {P : Program} {w : World} {K : PySem.W.Frag} {mg : Str → Option Value} {base : Heap}
theorem Goes.use {S : Sig K} {ρ : En} {t : TS} (g : Goes S [] (nEnd S) t ρ S.C0) {σ : L2.St} (k : Ok K S.B0 S.H0 S.C0) (s : Sl K S.B0 σ ρ) : t { nx := fun _ H' => S.Q .non H', rt := S.Q } σ S.H0 :=
  g _ rfl (fun B H σ ρ' Γ' a q => S.fin .non B H .non Γ' a.ok a.fut a.new .non q) S.B0 S.H0 σ ⟨k, s, Fut.refl, fun _ h => .inl h, fun _ h => nomatch h⟩
def sigG {K : PySem.W.Frag} {B H : Hp} {Γ : Ctx} {Q : VK} {R : D → Prop} (fin : Fin K Γ B H R Q) : Sig K := ⟨B, H, Γ, Q, R, fun Γ' d => Cov Γ' Γ ∧ R d, fun _ _ c r => ⟨c, r⟩, fun v B' H' d _ k f _ rp q => fin v B' H' d (q.1 _ _ _ k) f rp q.2⟩
theorem okG {x qual : Str} {params : Arguments} {body : List Stmt} {scope : Scope} {kws : List (Str × V)} {f : Addr} {fd : FuncData} {N ps : List Str} {k : Nat} {P0 : PT_} (F : FunD K x qual params body scope [] kws f fd) (Sc : FnScope N ps scope)
    (len : ∀ Γ ds R, P0 Γ ds R → ds.length = ps.length)
    (hb : ∀ (cdv : Value) (A : Around) (outer : List Env) (s : Shared) (H : Hp) (E : XK), Room k (A.deeper (PyProof.Rows.envOfC qual scope s.heap.objs.size f cdv)) →
      ∃ t, PSs (cxOf CX0 P w K mg base N qual scope f cdv A outer s H E).nox body t ∧ ∀ (S : Sig K) (ds : List D), P0 S.C0 ds S.R → Goes S [] (nEnd S) t (startR N.length ds) S.C0) : FnOk P w K mg base CX0 (k + 1) f fd ps (SpG K P0) := by
  refine F.ok Sc (fun vs H Q E h => ?_) (fun cdv A outer s H vs Q E hr h => ?_)
  · obtain ⟨B, ds, Γ, R, k0, r, p, _⟩ := h
    rw [r.length]
    exact len _ _ _ p
  · obtain ⟨B, ds, Γ, R, k0, r, p, fin⟩ := h
    obtain ⟨t, ht, g⟩ := hb cdv A outer s H E hr
    exact ⟨t, ht.nox, Goes.use (S := sigG fin) (g (sigG fin) ds p) k0 (sl_start r N)⟩
/-- a promise about the cells too -/
def SpX (K : PySem.W.Frag) (P : Ctx → List D → (Ctx → D → Prop) → Prop) : Sp := fun vs H Q _ => ∃ B ds Γ RR, Ok K B H Γ ∧ RpL K B vs ds ∧ P Γ ds RR ∧
  ∀ v B' H' d Γ', Ok K B' H' Γ' → Fut Γ B H B' H' → (∀ a ∈ Γ'.ad, a ∈ Γ.ad ∨ H a = none) → Rp K B' v d → RR Γ' d → Q v H'
theorem okX {x qual : Str} {params : Arguments} {body : List Stmt} {scope : Scope} {kws : List (Str × V)} {f : Addr} {fd : FuncData} {N ps : List Str} {k : Nat} {P0 : Ctx → List D → (Ctx → D → Prop) → Prop} (F : FunD K x qual params body scope [] kws f fd) (Sc : FnScope N ps scope)
    (len : ∀ Γ ds R, P0 Γ ds R → ds.length = ps.length)
    (hb : ∀ (cdv : Value) (A : Around) (outer : List Env) (s : Shared) (H : Hp) (E : XK), Room k (A.deeper (PyProof.Rows.envOfC qual scope s.heap.objs.size f cdv)) →
      ∃ t, PSs (cxOf CX0 P w K mg base N qual scope f cdv A outer s H E).nox body t ∧ ∀ (S : Sig K) (ds : List D), P0 S.C0 ds S.RR → Goes S [] (nEnd S) t (startR N.length ds) S.C0) : FnOk P w K mg base CX0 (k + 1) f fd ps (SpX K P0) := by
  refine F.ok Sc (fun vs H Q E h => ?_) (fun cdv A outer s H vs Q E hr h => ?_)
  · obtain ⟨B, ds, Γ, R, k0, r, p, _⟩ := h
    rw [r.length]
    exact len _ _ _ p
  · obtain ⟨B, ds, Γ, RR, k0, r, p, fin⟩ := h
    obtain ⟨t, ht, g⟩ := hb cdv A outer s H E hr
    exact ⟨t, ht.nox, Goes.use (S := ⟨B, H, Γ, Q, fun _ => False, RR, fun _ _ _ q => q.elim, fin⟩) (g ⟨B, H, Γ, Q, fun _ => False, RR, fun _ _ _ q => q.elim, fin⟩ ds p) k0 (sl_start r N)⟩
end
/-- a def that stands, with its promise -/
structure Fk (P : Program) (w : World) (K : PySem.W.Frag) (mg : Str → Option Value) (base : Heap) (x : Str) (ps : List Str) (k : Nat) (sp : Sp) : Prop where
  ex : ∃ f fd, mg x = some (.ref f) ∧ PySem.W.keepIn K (.ref f) = true ∧ Binds K fd ps [] ∧ FnOk P w K mg base CX0 k f fd ps sp
theorem Fk.mono {P : Program} {w : World} {K : PySem.W.Frag} {mg : Str → Option Value} {base : Heap} {x : Str} {ps : List Str} {j k : Nat} {sp : Sp} (h : Fk P w K mg base x ps j sp) (hk : j ≤ k) : Fk P w K mg base x ps k sp := by
  obtain ⟨f, fd, a, b, c, d⟩ := h.ex
  exact ⟨f, fd, a, b, c, d.mono hk⟩
section
variable {X : Cx} {k : Nat} {x : Str} {ps : List Str} {sp : Sp} {p pos : Pos} {e : Expr} {es : List Expr} {t : TA}
theorem pe_F (F : Fk X.prog X.w X.K X.mg X.base x ps k sp) (hr : Room k X.A) (hg : Gl X x) (ha : PA X (e :: es) t) (hdb : (x == ("__debug__" : Str)) = false := by decide) (he : starEach (e :: es) X.env = (false, eval e X.env) :: starEach es X.env := by rfl) (hpl : (backTo pos (starEach es X.env)).any (·.1) = false := by rfl) : PE X (.Call (.Name x p) (e :: es) [] pos) (tCall sp [] E0 t) := by
  obtain ⟨f, fd, a, b, c, d⟩ := F.ex
  exact pe_call d hr hg a b c .nil pass0 ha hdb he hpl
end
/-- a method -/
structure Fm (P : Program) (w : World) (K : PySem.W.Frag) (mg : Str → Option Value) (base : Heap) (C : Addr) (x : Str) (ps : List Str) (k : Nat) (sp : Sp) : Prop where
  ex : ∃ f fd, Meth K C x f ∧ Binds K fd ps [] ∧ FnOk P w K mg base CX0 k f fd ps sp
theorem Fm.mono {P : Program} {w : World} {K : PySem.W.Frag} {mg : Str → Option Value} {base : Heap} {C : Addr} {x : Str} {ps : List Str} {j k : Nat} {sp : Sp} (h : Fm P w K mg base C x ps j sp) (hk : j ≤ k) : Fm P w K mg base C x ps k sp := by
  obtain ⟨f, fd, a, c, d⟩ := h.ex
  exact ⟨f, fd, a, c, d.mono hk⟩
section
variable {X : Cx} {k : Nat} {C : Addr} {m : Str} {ps : List Str} {sp : Sp} {p pos apos : Pos} {o e : Expr} {es : List Expr} {t : TA} {ta : TE}
theorem pe_M {pl : Sem Bool} (F : Fm X.prog X.w X.K X.mg X.base C m ps k sp) (c : Cls X.K C) (hr : Room k X.A) (ho : PE X o ta) (ha : PA X (e :: es) t)
    (hst : starEach (e :: es) X.env = (false, eval e X.env) :: starEach es X.env := by rfl) (hpl : (backTo pos (starEach es X.env)).any (·.1) = false := by rfl)
    (ht : eval (.Call (.Attribute o m apos) (e :: es) [] pos) X.env = (do
      let ov ← eval o X.env
      standAt apos.atName
      let (f, first) ← holding [ov] (getMethod ov m pl)
      callWith pos f first (backTo pos (starEach (e :: es) X.env)) (backToKw pos (keywordEach [] X.env))) := by rfl) : PE X (.Call (.Attribute o m apos) (e :: es) [] pos) (tMeth C m sp [] E0 ta t) := by
  obtain ⟨f, fd, a, b, d⟩ := F.ex
  exact pe_meth ho c a d hr b .nil pass0 ha hst hpl ht
theorem pe_M0 {pl : Sem Bool} (F : Fm X.prog X.w X.K X.mg X.base C m ps k sp) (c : Cls X.K C) (hr : Room k X.A) (ho : PE X o ta)
    (ht : eval (.Call (.Attribute o m apos) [] [] pos) X.env = (do
      let ov ← eval o X.env
      standAt apos.atName
      let (f, first) ← holding [ov] (getMethod ov m pl)
      callWith pos f first (backTo pos (starEach [] X.env)) (backToKw pos (keywordEach [] X.env))) := by rfl) : PE X (.Call (.Attribute o m apos) [] [] pos) (tMeth C m sp [] E0 ta tNil) := by
  obtain ⟨f, fd, a, b, d⟩ := F.ex
  exact pe_meth0 ho c a d hr b .nil pass0 ht
end
section
variable {K : PySem.W.Frag} {S : Sig K} {mk : List Hp} {ρ : En} {Γ : Ctx} {N : En → Ctx → Prop} {ta : TA} {te tv : TE} {ts : TS} {R : D → Prop}
/-- x = f(..), f a def that leaves cells -/
theorem g_asgX {P : Ctx → List D → (Ctx → D → Prop) → Prop} {E : XK} {i : Nat} (h : EvA K ta ρ Γ fun ds => P Γ ds fun Γ' d => (∀ a ∈ Γ'.ad, a ∈ Γ.ad ∨ S.H0 a = none) → Goes S mk N ts (ρ.set i (some d)) Γ') : Goes S mk N (tSeq (tAsg (tCall (SpX K P) [] E ta) (gName i)) ts) ρ Γ := fun E' hE hN B H σ a =>
  h B H σ a.ok a.sl _ fun vs B1 H1 ds k1 f1 r1 q => by
    show SpX K P (vs ++ []) H1 _ _
    rw [List.append_nil]
    have a1 := a.step k1 f1
    refine ⟨B1, ds, Γ, _, k1, r1, q, fun v B' H' d Γ' k' f' hn' rp q' => ?_⟩
    refine q' (fun b hb => (hn' b hb).imp_right fun z => a1.fut.lv b z) E' hE hN B' H' _ (At.setS ⟨k', a1.sl.le (sameLe f'.ex), a1.fut.trans f' fun b hb => a1.new b hb, fun b hb => ?_, fun m hm => (a1.mks m hm).trans f'.ex⟩ rp)
    rcases hn' b hb with z | z
    · exact a1.new b z
    · exact .inr (a1.fut.lv b z)
/-- C(..): the new instance is data -/
theorem w_make {C : Addr} {P : Ctx → List D → (Ctx → D → Prop) → Prop} {dvs : List V} {E : XK} {fs : List (Str × D)} {dd : List D} (hdd : ∀ B, RpL K B dvs dd) (h : EvA K ta ρ Γ fun ds => (∀ x, P ⟨(x, .ins C []) :: Γ.c, Γ.z⟩ (.cell x :: (ds ++ dd)) fun Γ' d => Γ' = ⟨(x, .ins C fs) :: Γ.c, Γ.z⟩ ∧ d = .non) ∧ R (.obj C fs)) : EvW K (tMake C (SpX K P) dvs E ta) ρ Γ R := fun B H σ k s Q f =>
  h B H σ k s _ fun vs B1 H1 ds k1 f1 r1 ⟨q, qR⟩ x dx hx hdx hne => by
    have kd := k1.new (o := .own x) hdx (by intros; exact HO.noConfusion)
    have fd := k1.newF (o := .own x) hdx
    have hx2 : upd H1 dx (.own x) x = none := by rw [upd_ne (Ne.symm hne)]; exact hx
    have kc : Ok K (upd B1 dx (.own x)) (upd (upd H1 dx (.own x)) x (.ins C dx [])) ⟨(x, .ins C []) :: Γ.c, Γ.z⟩ := kd.cellNew hx2 ⟨dx, [], upd_same, rfl, .nil⟩
    refine ⟨_, .cell x :: (ds ++ dd), _, _, kc, .cons (.cell x) ((r1.le (sameLe fd.ex)).app (hdd _)), q x, fun v B' H' d Γ' k' f' _ rp e => ?_⟩
    obtain ⟨e1, e2⟩ := e
    subst e1 e2
    cases rp
    refine ⟨rfl, ?_⟩
    obtain ⟨bx, dx', ws, hw, hk, hr⟩ := k'.cel (x, .ins C fs) List.mem_cons_self
    refine f (.ref x) (upd B' x (.ins C dx' ws)) H' (.obj C fs) (k'.cellOff hw (by intros; exact HO.noConfusion)) ?_ (.obj upd_same hk (hr.same (sameNew bx))) qR
    refine f1.trans (Γ' := Γ) ?_ fun a ha => .inl ha
    refine fd.trans (Γ' := Γ) ?_ fun a ha => .inl ha
    refine ⟨f'.ex.trans (sameNew bx), fun a o ht hb ha hh => ?_, fun a xs hh => ?_, fun a hh => ?_⟩
    · have hax : a ≠ x := ne_of_none hh hx2
      obtain ⟨g1, g2⟩ := f'.fr a o ht hb (fun z => by
        rcases List.mem_cons.mp z with z | z
        · exact hax z
        · exact ha z) (by rw [upd_ne hax]; exact hh)
      exact ⟨g1, by rw [upd_ne hax]; exact g2⟩
    · have hax : a ≠ x := ne_of_none hh hx2
      exact f'.tp a xs (by rw [upd_ne hax]; exact hh)
    · have z := f'.lv a hh
      by_cases e : a = x
      · rw [e]; exact hx2
      · rw [upd_ne e] at z; exact z
def putFD (f : Str) (d : D) : List (Str × D) → List (Str × D)
  | [] => [(f, d)]
  | (g, x) :: r => if g = f then (g, d) :: r else (g, x) :: putFD f d r
theorem putFD_rel {B : Hp} {f : Str} {v : V} {d : D} (rv : Rp K B v d) : ∀ {ws : List (Str × V)} {fs : List (Str × D)}, ws.map (·.1) = fs.map (·.1) → RpL K B (ws.map (·.2)) (fs.map (·.2)) →
    (putF f v ws).map (·.1) = (putFD f d fs).map (·.1) ∧ RpL K B ((putF f v ws).map (·.2)) ((putFD f d fs).map (·.2))
  | [], [], _, _ => ⟨rfl, .one rv⟩
  | [], _ :: _, e, _ => by cases e
  | _ :: _, [], e, _ => by cases e
  | (g, x) :: ws, (g', y) :: fs, e, r => by
    rw [List.map_cons, List.map_cons] at e r
    injection e with e1 e2
    dsimp only at e1
    subst e1
    cases r with
    | cons ra rr =>
      unfold putF putFD
      by_cases h : g = f
      · rw [if_pos h, if_pos h]
        exact ⟨by rw [List.map_cons, List.map_cons, e2], .cons rv rr⟩
      · rw [if_neg h, if_neg h]
        obtain ⟨i1, i2⟩ := putFD_rel rv e2 rr
        exact ⟨by rw [List.map_cons, List.map_cons, i1], .cons ra i2⟩
/-- x.f = e, x the cell of an instance -/
theorem g_fld {C x : Addr} {f : Str} {fs : List (Str × D)} {cs : List (Addr × Cel)} {z : List Addr} (c : Cls K C) (n : NoAttr K C f) (hl : fs.length < 1000) (h : EvW K tv ρ ⟨(x, .ins C fs) :: cs, z⟩ fun d => EvW K te ρ ⟨(x, .ins C fs) :: cs, z⟩ fun y => y = .cell x ∧ Goes S mk N ts ρ ⟨(x, .ins C (putFD f d fs)) :: cs, z⟩) :
    Goes S mk N (tSeq (sFld K te tv f) ts) ρ ⟨(x, .ins C fs) :: cs, z⟩ := fun E hE hN B H σ a =>
  h B H σ a.ok a.sl _ fun v B1 H1 d k1 f1 r1 q => by
    have a1 := a.step k1 f1
    refine q B1 H1 σ k1 a1.sl _ fun vx B2 H2 y k2 f2 r2 ⟨e, q2⟩ => ?_
    have a2 := a1.step k2 f2
    subst e
    cases r2
    obtain ⟨_, dx, ws, hx, hk, hr⟩ := k2.cel (x, .ins C fs) List.mem_cons_self
    have hl' : ws.length = fs.length := by
      have := congrArg List.length hk
      simpa using this
    refine ⟨x, C, dx, ws, rfl, hx, c, n, by omega, ?_⟩
    obtain ⟨g1, g2⟩ := putFD_rel (f := f) (r1.same f2.ex) hk hr
    exact q2 E hE hN B2 _ σ (a2.cellSet ⟨dx, _, upd_same, g1, g2⟩)
/-- return C(..), where __init__ leaves cells -/
theorem g_retMake {C : Addr} {P : Ctx → List D → (Ctx → D → Prop) → Prop} {E : XK} (h : EvA K ta ρ Γ fun ds => ∀ x, P ⟨(x, .ins C []) :: Γ.c, Γ.z⟩ (.cell x :: ds) fun Γ' d => ∃ cs fs, Γ' = ⟨(x, .ins C fs) :: cs, Γ.z⟩ ∧ d = .non ∧ S.RR ⟨cs, Γ.z⟩ (.obj C fs)) :
    Goes S mk N (tRet (tMake C (SpX K P) [] E ta)) ρ Γ := fun E' hE hN B H σ a =>
  h B H σ a.ok a.sl _ fun vs B1 H1 ds k1 f1 r1 q x dx hx hdx hne => by
    have a1 := a.step k1 f1
    have kd := k1.new (o := .own x) hdx (by intros; exact HO.noConfusion)
    have fd := k1.newF (o := .own x) hdx
    have hx2 : upd H1 dx (.own x) x = none := by rw [upd_ne (Ne.symm hne)]; exact hx
    have kc : Ok K (upd B1 dx (.own x)) (upd (upd H1 dx (.own x)) x (.ins C dx [])) ⟨(x, .ins C []) :: Γ.c, Γ.z⟩ := kd.cellNew hx2 ⟨dx, [], upd_same, rfl, .nil⟩
    rw [List.append_nil]
    refine ⟨_, .cell x :: ds, _, _, kc, .cons (.cell x) (r1.le (sameLe fd.ex)), q x, fun v B' H' d Γ' k' f' hn' rp e => ?_⟩
    obtain ⟨cs, fs, e1, e2, e3⟩ := e
    subst e1 e2
    cases rp
    refine ⟨rfl, ?_⟩
    rw [hE]
    obtain ⟨bx, dx', ws, hw, hk, hr⟩ := k'.cel (x, .ins C fs) List.mem_cons_self
    have hnx : ∀ b ∈ (⟨cs, Γ.z⟩ : Ctx).ad, b ≠ x := fun b hb e => (List.nodup_cons.mp (show (x :: cs.map (·.1)).Nodup from k'.nd)).1 (e ▸ hb)
    have fb : Fut Γ B1 H1 (upd B' x (.ins C dx' ws)) H' := by
      refine fd.trans (Γ' := Γ) ?_ fun a ha => .inl ha
      refine ⟨f'.ex.trans (sameNew bx), fun a o ht hb ha hh => ?_, fun a xs hh => ?_, fun a hh => ?_⟩
      · have hax : a ≠ x := ne_of_none hh hx2
        obtain ⟨g1, g2⟩ := f'.fr a o ht hb (fun z => by
          rcases List.mem_cons.mp z with z | z
          · exact hax z
          · exact ha z) (by rw [upd_ne hax]; exact hh)
        exact ⟨g1, by rw [upd_ne hax]; exact g2⟩
      · have hax : a ≠ x := ne_of_none hh hx2
        exact f'.tp a xs (by rw [upd_ne hax]; exact hh)
      · have z := f'.lv a hh
        by_cases e : a = x
        · rw [e]; exact hx2
        · rw [upd_ne e] at z; exact z
    refine S.fin (.ref x) _ H' (.obj C fs) ⟨cs, Γ.z⟩ (k'.cellOff hw (by intros; exact HO.noConfusion)) (a1.fut.trans fb fun b hb => a1.new b hb) (fun b hb => ?_) (.obj upd_same hk (hr.same (sameNew bx))) e3
    rcases hn' b (List.mem_cons_of_mem _ hb) with z | z
    · rcases List.mem_cons.mp z with z | z
      · exact absurd z (hnx b hb)
      · exact a1.new b z
    · have z1 : b ≠ x := hnx b hb
      rw [upd_ne z1] at z
      refine .inr (a1.fut.lv b (fd.lv b z))
end
end PF
end
section
set_option Elab.async false
set_option linter.all false
set_option maxRecDepth 100000
theorem L2.Room.units65 {k : Nat} {A : PySem.Around} (r : L2.Room k A) : A.units + 65 < PySem.cLine := by have := r.un; omega
namespace PF
open PySem PySem.Spec L2
/-! ### the module's names -/
theorem bt_isinstance : bootBuiltins "isinstance" = some (.builtin "isinstance") := by decide +kernel
theorem bt_int : bootBuiltins "int" = some (.type "int") := by decide +kernel
theorem bt_bool : bootBuiltins "bool" = some (.type "bool") := by decide +kernel
theorem bt_tuple : bootBuiltins "tuple" = some (.type "tuple") := by decide +kernel
theorem bt_list : bootBuiltins "list" = some (.type "list") := by decide +kernel
theorem bt_abs : bootBuiltins "abs" = some (.builtin "abs") := by decide +kernel
theorem bt_len : bootBuiltins "len" = some (.builtin "len") := by decide +kernel
theorem bt_all : bootBuiltins "all" = some (.builtin "all") := by decide +kernel
theorem bt_any : bootBuiltins "any" = some (.builtin "any") := by decide +kernel
theorem bt_range : bootBuiltins "range" = some (.type "range") := by decide +kernel
theorem bt_zip : bootBuiltins "zip" = some (.type "zip") := by decide +kernel
theorem bt_set : bootBuiltins "set" = some (.type "set") := by decide +kernel
theorem bt_sorted : bootBuiltins "sorted" = some (.builtin "sorted") := by decide +kernel
theorem bt_dict : bootBuiltins "dict" = some (.type "dict") := by decide +kernel
theorem bt_sum : bootBuiltins "sum" = some (.builtin "sum") := by decide +kernel
theorem bt_max : bootBuiltins "max" = some (.builtin "max") := by decide +kernel
theorem bt_min : bootBuiltins "min" = some (.builtin "min") := by decide +kernel
theorem bt_enumerate : bootBuiltins "enumerate" = some (.type "enumerate") := by decide +kernel
structure Tp (K : PySem.W.Frag) (mg : Str → Option Value) (aN aO CP CL : Addr) : Prop where
  b_isinstance : mg "isinstance" = none
  b_int : mg "int" = none
  b_bool : mg "bool" = none
  b_tuple : mg "tuple" = none
  b_list : mg "list" = none
  b_abs : mg "abs" = none
  b_len : mg "len" = none
  b_all : mg "all" = none
  b_any : mg "any" = none
  b_range : mg "range" = none
  b_zip : mg "zip" = none
  b_set : mg "set" = none
  b_sorted : mg "sorted" = none
  b_dict : mg "dict" = none
  b_sum : mg "sum" = none
  b_max : mg "max" = none
  b_min : mg "min" = none
  b_enumerate : mg "enumerate" = none
  g_NOUGHT : mg "NOUGHT" = some (.ref aN)
  t_NOUGHT : ∀ H, SqT K H aN ([0, 1].map V.int)
  g_ONE : mg "ONE" = some (.ref aO)
  t_ONE : ∀ H, SqT K H aO ([1, 1].map V.int)
  g_MOST_LENGTH : ∃ t, mg "MOST_LENGTH" = some (.int 1000 t)
  g_MOST_PROPS : ∃ t, mg "MOST_PROPS" = some (.int 12 t)
  g_LEFT_WALL : ∃ t, mg "LEFT_WALL" = some (.int (-1) t)
  g_Plank : mg "Plank" = some (.ref CP)
  g_Loads : mg "Loads" = some (.ref CL)
  cl_Plank : Cls K CP
  cl_Loads : Cls K CL
  n_long : NoAttr K CP "long"
  n_stakes : NoAttr K CP "stakes"
  n_limit : NoAttr K CP "limit"
  n_plank : NoAttr K CL "plank"
  n_weights : NoAttr K CL "weights"
  n_known : NoAttr K CL "known"
  n_over : NoAttr K CL "over"
theorem pe_gint {X : Cx} {x : Str} {i : Int} {pos : Pos} (hg : Gl X x) (h : ∃ t, X.mg x = some (.int i t)) (hd : (x == ("__debug__" : Str)) = false := by decide) : PE X (.Name x pos) (tC (.int i)) := by
  obtain ⟨t, h⟩ := h
  exact pe_glob hg h ⟨t, rfl⟩ hd
theorem pe_gref {X : Cx} {x : Str} {a : Addr} {pos : Pos} (hg : Gl X x) (h : X.mg x = some (.ref a)) (hd : (x == ("__debug__" : Str)) = false := by decide) : PE X (.Name x pos) (tC (.ref a)) := pe_glob hg h rfl hd
/-! ### equality -/
mutual
def D.py : D → PyData
  | .non => .none
  | .bl b => .bool b
  | .int i => .int i
  | .str x => .str x
  | .lst ds => .list (D.pyL ds)
  | .tup ds => .tuple (D.pyL ds)
  | .slst _ => .none
  | .key _ => .none
  | .dK _ => .none
  | .dT _ => .none
  | .obj _ _ => .none
  | .cell _ => .none
  | .ty _ => .none
def D.pyL : List D → List PyData
  | [] => []
  | d :: ds => D.py d :: D.pyL ds
end
/-- numbers, None, lists and tuples of such, at most n deep -/
inductive Pl : Nat → D → Prop
  | non {n : Nat} : Pl n .non
  | int {n : Nat} (i : Int) : Pl n (.int i)
  | lst {n : Nat} {ds : List D} (h : ∀ d ∈ ds, Pl n d) : Pl (n + 1) (.lst ds)
  | tup {n : Nat} {ds : List D} (h : ∀ d ∈ ds, Pl n d) : Pl (n + 1) (.tup ds)
theorem Pl.mono {n m : Nat} {d : D} (h : Pl n d) (hm : n ≤ m) : Pl m d := by
  induction h generalizing m with
  | non => exact .non
  | int i => exact .int i
  | lst _ ih =>
    obtain ⟨k, rfl⟩ : ∃ k, m = k + 1 := ⟨m - 1, by omega⟩
    exact .lst fun d hd => ih d hd (by omega)
  | tup _ ih =>
    obtain ⟨k, rfl⟩ : ∃ k, m = k + 1 := ⟨m - 1, by omega⟩
    exact .tup fun d hd => ih d hd (by omega)
theorem pyL_map : ∀ ds : List D, D.pyL ds = ds.map D.py
  | [] => rfl
  | d :: ds => by rw [D.pyL, pyL_map ds]; rfl
section
variable {K : PySem.W.Frag} {B : Hp}
theorem dp_all {ds : List D} : ∀ {vs : List V}, (∀ d ∈ ds, ∀ v, Rp K B v d → Dp K B v d.py) → RpL K B vs ds → DpAll K B vs (D.pyL ds) := by
  induction ds with
  | nil =>
    intro vs _ r
    cases r
    rw [D.pyL]
    exact .nil
  | cons d ds ih =>
    intro vs h r
    cases r with
    | cons ra rr =>
      rw [D.pyL]
      exact .cons (h d List.mem_cons_self _ ra) (ih (fun e he => h e (List.mem_cons_of_mem _ he)) rr)
theorem Pl.dp {n : Nat} {d : D} (h : Pl n d) : ∀ {v : V}, Rp K B v d → Dp K B v d.py := by
  induction h with
  | non =>
    intro v r
    cases r
    rw [D.py]
    exact .non
  | int i =>
    intro v r
    cases r
    rw [D.py]
    exact .int i
  | lst _ ih =>
    intro v r
    cases r with
    | lst hx hr =>
      rw [D.py]
      exact .lst (.inl (.inl hx)) (dp_all (fun d hd v r => ih d hd r) hr)
  | tup _ ih =>
    intro v r
    cases r with
    | tup hx hr =>
      rw [D.py]
      exact .tup hx (dp_all (fun d hd v r => ih d hd r) hr)
theorem lay_all {ds : List D} (h : ∀ d ∈ ds, d.py.canLay0 = true) : PyData.canLayAll0 (D.pyL ds) = true := by
  induction ds with
  | nil => rw [D.pyL]; rfl
  | cons d ds ih =>
    rw [D.pyL]
    show (d.py.canLay0 && PyData.canLayAll0 (D.pyL ds)) = true
    rw [h d List.mem_cons_self, ih fun e he => h e (List.mem_cons_of_mem _ he)]
    rfl
theorem depth_all {n : Nat} {ds : List D} (h : ∀ d ∈ ds, d.py.depth ≤ n) : PyData.depthAll (D.pyL ds) ≤ n := by
  induction ds with
  | nil => rw [D.pyL]; exact Nat.zero_le _
  | cons d ds ih =>
    rw [D.pyL]
    show max d.py.depth (PyData.depthAll (D.pyL ds)) ≤ n
    exact Nat.max_le.mpr ⟨h d List.mem_cons_self, ih fun e he => h e (List.mem_cons_of_mem _ he)⟩
theorem Pl.lay {n : Nat} {d : D} (h : Pl n d) : d.py.canLay0 = true := by
  induction h with
  | non => rw [D.py]; rfl
  | int i => rw [D.py]; rfl
  | lst _ ih => rw [D.py]; exact lay_all ih
  | tup _ ih => rw [D.py]; exact lay_all ih
theorem Pl.depth {n : Nat} {d : D} (h : Pl n d) : d.py.depth ≤ n := by
  induction h with
  | non => rw [D.py]; exact Nat.zero_le _
  | int i => rw [D.py]; exact Nat.zero_le _
  | lst _ ih => rw [D.py]; exact Nat.succ_le_succ (depth_all ih)
  | tup _ ih => rw [D.py]; exact Nat.succ_le_succ (depth_all ih)
theorem Pl.shaped {n : Nat} {d : D} (h : Pl n d) (hn : n ≤ 64) : SeqAt.shaped d.py = true := by
  unfold SeqAt.shaped
  rw [h.lay, decide_eq_true (Nat.le_trans h.depth hn)]
  rfl
theorem eqv_all {ds es : List D} (h : ∀ d ∈ ds, ∀ e ∈ es, (PyData.eqv d.py e.py = true ↔ d = e)) : PyData.eqvAll (D.pyL ds) (D.pyL es) = true ↔ ds = es := by
  induction ds generalizing es with
  | nil =>
    cases es with
    | nil => rw [D.pyL]; simp [PyData.eqvAll]
    | cons e es => rw [D.pyL, D.pyL]; simp [PyData.eqvAll]
  | cons d ds ih =>
    cases es with
    | nil => rw [D.pyL, D.pyL]; simp [PyData.eqvAll]
    | cons e es =>
      rw [D.pyL, D.pyL]
      show (PyData.eqv d.py e.py && PyData.eqvAll (D.pyL ds) (D.pyL es)) = true ↔ _
      rw [Bool.and_eq_true, h d List.mem_cons_self e List.mem_cons_self, ih fun a ha b hb => h a (List.mem_cons_of_mem _ ha) b (List.mem_cons_of_mem _ hb), List.cons.injEq]
theorem Pl.eqv {n : Nat} {d : D} (h : Pl n d) : ∀ {m : Nat} {e : D}, Pl m e → (PyData.eqv d.py e.py = true ↔ d = e) := by
  induction h with
  | non =>
    intro m e he
    cases he <;> simp [D.py, PyData.eqv]
  | int i =>
    intro m e he
    cases he <;> simp [D.py, PyData.eqv]
  | @lst n ds _ ih =>
    intro m e he
    cases he with
    | @lst m es h2 =>
      rw [D.py, D.py, D.lst.injEq]
      exact eqv_all fun d hd e he => ih d hd (h2 e he)
    | non => simp [D.py, PyData.eqv]
    | int i => simp [D.py, PyData.eqv]
    | tup h2 => simp [D.py, PyData.eqv]
  | @tup n ds _ ih =>
    intro m e he
    cases he with
    | @tup m es h2 =>
      rw [D.py, D.py, D.tup.injEq]
      exact eqv_all fun d hd e he => ih d hd (h2 e he)
    | non => simp [D.py, PyData.eqv]
    | int i => simp [D.py, PyData.eqv]
    | lst h2 => simp [D.py, PyData.eqv]
theorem Dp.same {H H' : Hp} {v : V} {d : PyData} (s : Same H H') (h : Dp K H v d) : Dp K H' v d := by
  have aux : ∀ (n : Nat), (∀ (d : PyData) (v : V), sizeOf d ≤ n → Dp K H v d → Dp K H' v d) := by
    intro n
    induction n with
    | zero => intro d v hs; cases d <;> simp at hs
    | succ n ih =>
      have all : ∀ (ds : List PyData) (vs : List V), sizeOf ds ≤ n → DpAll K H vs ds → DpAll K H' vs ds := by
        intro ds
        induction ds with
        | nil => intro vs _ h; cases h; exact .nil
        | cons d ds ihd =>
          intro vs hs h
          cases h with
          | cons h1 h2 =>
            have e : sizeOf (d :: ds) = 1 + sizeOf d + sizeOf ds := rfl
            exact .cons (ih d _ (by omega) h1) (ihd _ (by omega) h2)
      intro d v hs h
      cases h with
      | non => exact .non
      | bl b => exact .bl b
      | int i => exact .int i
      | str x => exact .str x
      | lst hx hr => exact .lst (sqL_le (sameLe s) hx) (all _ _ (by simp at hs; omega) hr)
      | tup hx hr => exact .tup (sqT_le (sameLe s) hx) (all _ _ (by simp at hs; omega) hr)
  exact aux _ d v (Nat.le_refl _) h
end
abbrev rEqu (K : PySem.W.Frag) : R2 := fun x y H Q => rEq x y H Q ∨ rEqD K x y H Q
abbrev rNeq (K : PySem.W.Frag) : R2 := fun x y H Q => rNe x y H Q ∨ rNeD K x y H Q
theorem op_equ {X : Cx} (hu : X.A.units + 64 < cLine) : OpR X (compareOp .Eq) (rEqu X.K) := op_eq.or (op_eqD hu)
theorem op_neq {X : Cx} (hu : X.A.units + 64 < cLine) : OpR X (compareOp .NotEq) (rNeq X.K) := op_ne.or (op_neD hu)
abbrev rPlus (K : PySem.W.Frag) : R2 := fun x y H Q => rI0 (fun i j => .int (i + j)) x y H Q ∨ (rCat x y H Q ∨ rCatA K x y H Q)
theorem op_plus {X : Cx} : OpR X (binaryOp .Add) (rPlus X.K) := op_add.or (op_cat.or op_catA)
abbrev rSeq (K : PySem.W.Frag) : V → Option Int → Option Int → Hp → VK → Prop := fun x lo hi H Q => rSlL K x lo hi H Q ∨ rSlA K x lo hi H Q
theorem sl_seq {X : Cx} : SlR X (rSeq X.K) := sl_list.or sl_tupA
/-! the rules with the written part named -/
section
open RZ
variable {X : Cx} {K : PySem.W.Frag}
theorem op_equK (h : X.K = K) (hu : X.A.units + 64 < cLine) : OpR X (compareOp .Eq) (rEqu K) := by subst h; exact op_equ hu
theorem op_neqK (h : X.K = K) (hu : X.A.units + 64 < cLine) : OpR X (compareOp .NotEq) (rNeq K) := by subst h; exact op_neq hu
theorem op_plusK (h : X.K = K) : OpR X (binaryOp .Add) (rPlus K) := by subst h; exact op_plus
theorem op_notInDK (h : X.K = K) (hu : X.A.units + 65 < cLine) : OpR X (compareOp .NotIn) (rNotInD K) := by subst h; exact op_notInD hu
theorem sl_seqK (h : X.K = K) : SlR X (rSeq K) := by subst h; exact sl_seq
theorem ix_seqK (h : X.K = K) : IxR X (rIx K) := by subst h; exact ix_seq
theorem call_isiK' (h : X.K = K) : CallR X (.builtin "isinstance") (rIsi K) := by subst h; exact call_isi
theorem cr_sumK (h : X.K = K) (hc : X.calm = true) : CallR X (.builtin "sum") (rSum K) := by subst h; exact cr_sum hc
theorem cr_allK (h : X.K = K) (hc : X.calm = true) : CallR X (.builtin "all") (rAll K) := by subst h; exact cr_all hc
theorem cr_anyK (h : X.K = K) (hc : X.calm = true) : CallR X (.builtin "any") (rAny K) := by subst h; exact cr_any hc
theorem call_list_ofK (h : X.K = K) : CallR X (.type "list") (fun xs H Q => ∃ p ys, xs = [.ref p] ∧ (SqL K H p ys ∨ SqT K H p ys) ∧ ∀ l, H l = none → Q (.ref l) (upd H l (.lst ys))) := by subst h; exact call_list_of
theorem call_tuple_ofK (h : X.K = K) : CallR X (.type "tuple") (fun xs H Q => ∃ p ys, xs = [.ref p] ∧ ((SqL K H p ys ∧ ∀ l, H l = none → Q (.ref l) (upd H l (.tup ys))) ∨ (SqT K H p ys ∧ Q (.ref p) H))) := by subst h; exact call_tuple_of
theorem call_len_seqK (h : X.K = K) : CallR X (.builtin "len") (fun xs H Q => ∃ p ys, xs = [.ref p] ∧ (SqL K H p ys ∨ SqT K H p ys) ∧ Q (.int ys.length) H) := by subst h; exact call_len_seq
variable {es : List Expr} {k n : Nat} {t : TGs} {pos p tpos cpos apos p2 : Pos} {tg l e e2 o : Expr} {tl te to : TE} {ta : TA} {elts : List Expr} {kk : Nat} {f : Str}
theorem pg_tupK (hK : X.K = K) (hc : X.calm = true) (h : PGs X es t) (hn : (assignEach es X.env).length = n := by rfl) (hst : (assignEach es X.env).findIdx? (·.1) = none := by rfl) : PG X (.Tuple es k pos) (gTup K n t) := by subst hK; exact pg_tup hc h hn hst
theorem pi_listK (hK : X.K = K) (hl : PE X l tl) : PI X tg l (iList K tl) := by subst hK; exact pi_list hl
theorem pi_tupK (hK : X.K = K) (hl : PE X l tl) : PI X tg l (iTup K tl) := by subst hK; exact pi_tup hl
theorem pi_zipAK (hK : X.K = K) (hg : Gl X "zip") (hm : X.mg "zip" = none) (ha : PA X [e, e2] ta) (hs : starEach [e, e2] X.env = (false, eval e X.env) :: starEach [e2] X.env := by rfl) (hpl : (backTo pos (starEach [e2] X.env)).any (·.1) = false := by rfl) :
    PI X (.Tuple elts kk tpos) (.Call (.Name "zip" p) [e, e2] [] pos) (iZipA K ta) := by subst hK; exact pi_zipA hg hm ha hs hpl
theorem pi_enumK (hK : X.K = K) (hg : Gl X "enumerate") (hm : X.mg "enumerate" = none) (ha : PA X [e] ta) (hs : starEach [e] X.env = [(false, eval e X.env)] := by rfl) :
    PI X (.Tuple elts kk tpos) (.Call (.Name "enumerate" p) [e] [] pos) (iEnum K ta) := by subst hK; exact pi_enum hg hm ha hs
theorem pe_fldK (hK : X.K = K) (he : PE X e te) (hb : attributeBase e f X.env (eval e X.env) = eval e X.env) : PE X (.Attribute e f pos) (tFld K te f) := by subst hK; exact pe_fld he hb
end
section
variable {K : PySem.W.Frag} {ρ : En} {Γ : Ctx} {R : D → Prop} {ta tb te : TE}
theorem o_equI {i j : Int} (q : R (.bl (decide (i = j)))) : OpW K (rEqu K) Γ (.int i) (.int j) R := fun B H a b k ra rb Q f => .inl (o_eqI (K := K) q B H a b k ra rb Q f)
theorem o_neqI {i j : Int} (q : R (.bl (!decide (i = j)))) : OpW K (rNeq K) Γ (.int i) (.int j) R := fun B H a b k ra rb Q f => .inl (o_neI (K := K) q B H a b k ra rb Q f)
theorem o_neqB {i j : Bool} (q : R (.bl (!decide (i = j)))) : OpW K (rNeq K) Γ (.bl i) (.bl j) R := fun B H a b k ra rb Q f => .inl (o_neB (K := K) q B H a b k ra rb Q f)
theorem o_equD {n m : Nat} {x y : D} (hx : Pl n x) (hy : Pl m y) (hn : n ≤ 64) (hm : m ≤ 64) (q : ∀ b : Bool, (b = true ↔ x = y) → R (.bl b)) : OpW K (rEqu K) Γ x y R := fun B H a b k ra rb Q f =>
  .inr ⟨x.py, y.py, Dp.same k.ext (hx.dp ra), Dp.same k.ext (hy.dp rb), hx.shaped hn, hy.shaped hm, f.now k (.bl _) (q _ (hx.eqv hy))⟩
theorem o_neqD {n m : Nat} {x y : D} (hx : Pl n x) (hy : Pl m y) (hn : n ≤ 64) (hm : m ≤ 64) (q : ∀ b : Bool, (b = true ↔ x = y) → R (.bl (!b))) : OpW K (rNeq K) Γ x y R := fun B H a b k ra rb Q f =>
  .inr ⟨x.py, y.py, Dp.same k.ext (hx.dp ra), Dp.same k.ext (hy.dp rb), hx.shaped hn, hy.shaped hm, f.now k (.bl _) (q _ (hx.eqv hy))⟩
theorem o_plusI {i j : Int} (q : R (.int (i + j))) : OpW K (rPlus K) Γ (.int i) (.int j) R := fun B H a b k ra rb Q f => .inl (o_add (K := K) q B H a b k ra rb Q f)
theorem o_plusL {xs ys : List D} (hl : xs.length + ys.length ≤ 1000) (q : R (.lst (xs ++ ys))) : OpW K (rPlus K) Γ (.lst xs) (.lst ys) R := fun B H a b k ra rb Q f => by
  cases ra with
  | @lst pa vs _ ha hra =>
    cases rb with
    | @lst pb ws _ hb hrb =>
      refine .inr (.inl ⟨_, _, _, _, rfl, rfl, k.ext _ _ ha, k.ext _ _ hb, Nat.le_of_lt (small1000 (by rw [hra.length, hrb.length]; exact hl)), fun p hp => ?_⟩)
      have e := sameNew (o := .lst (vs ++ ws)) (k.bnone hp)
      exact f _ _ _ _ (k.new hp (by intros; exact HO.noConfusion)) (k.newF hp) (.lst upd_same ((hra.app hrb).same e)) q
theorem o_plusT {xs ys : List D} (hl : xs.length + ys.length ≤ 1000) (q : R (.tup (xs ++ ys))) : OpW K (rPlus K) Γ (.tup xs) (.tup ys) R := fun B H a b k ra rb Q f => by
  cases ra with
  | @tup pa vs _ ha hra =>
    cases rb with
    | @tup pb ws _ hb hrb =>
      refine .inr (.inr ?_)
      have ha' := sqT_le (sameLe k.ext) ha
      have hb' := sqT_le (sameLe k.ext) hb
      refine ⟨_, _, _, _, rfl, rfl, ha', hb', Nat.le_of_lt (small1000 (by rw [hra.length, hrb.length]; exact hl)), fun e => ?_, fun _ e => ?_, fun _ _ p hp => ?_⟩
      · subst e
        cases hra
        exact f.now k (.tup hb hrb) q
      · subst e
        cases hrb
        rw [List.append_nil] at q
        exact f.now k (.tup ha hra) q
      · have e := sameNew (o := .tup (vs ++ ws)) (k.bnone hp)
        exact f _ _ _ _ (k.new hp (by intros; exact HO.noConfusion)) (k.newF hp) (.tup (.inl (.inl upd_same)) ((hra.app hrb).same e)) q
/-! slices -/
theorem cut_from (vs : List V) (k : Nat) : cutV vs (some (k : Int)) none = vs.drop k := by
  unfold cutV
  rw [HT.sIx_nat, HT.sIx_none]
  by_cases h : k ≤ vs.length
  · rw [Nat.min_eq_left h]
    exact List.take_of_length_le (by rw [List.length_drop]; exact Nat.le_refl _)
  · rw [Nat.min_eq_right (by omega), List.drop_length, List.drop_eq_nil_of_le (by omega)]
    simp
theorem cut_to (vs : List V) (k : Nat) : cutV vs none (some (k : Int)) = vs.take k := by
  unfold cutV
  rw [HT.sIx_nat, HT.sIx_none, List.drop_zero, Nat.sub_zero]
  by_cases h : k ≤ vs.length
  · rw [Nat.min_eq_left h]
  · rw [Nat.min_eq_right (by omega), List.take_of_length_le (Nat.le_refl _), List.take_of_length_le (by omega)]
theorem sl_go {B H : Hp} {v : V} {x : D} {lo hi : Option Int} {ds es : List D} {Q : VK} (k : Ok K B H Γ) (r : Rp K B v x) (hc : ∀ vs : List V, RpL K B vs ds → RpL K B (cutV vs lo hi) es)
    (h : (x = .lst ds ∧ R (.lst es)) ∨ (x = .tup ds ∧ R (.tup es) ∧ ∀ vs : List V, vs.length = ds.length → HT.sIx vs.length 0 lo = 0 ∧ HT.sIx vs.length vs.length hi = vs.length → es = ds)) (f : Fin K Γ B H R Q) : rSeq K v lo hi H Q := by
  rcases h with ⟨e, q⟩ | ⟨e, q, hw⟩
  · subst e
    cases r with
    | @lst p vs _ hx hr =>
      refine .inl ⟨_, _, rfl, .inl (.inl (k.ext _ _ hx)), fun p hp => ?_⟩
      have e := sameNew (o := .lst (cutV vs lo hi)) (k.bnone hp)
      exact f _ _ _ _ (k.new hp (by intros; exact HO.noConfusion)) (k.newF hp) (.lst upd_same ((hc vs hr).same e)) q
  · subst e
    cases r with
    | @tup p vs _ hx hr =>
      refine .inr ⟨_, _, rfl, sqT_le (sameLe k.ext) hx, fun hh => ?_, fun _ p hp => ?_⟩
      · have e := hw vs hr.length hh
        rw [e] at q
        exact f.now k (.tup hx hr) q
      · have e := sameNew (o := .tup (cutV vs lo hi)) (k.bnone hp)
        exact f _ _ _ _ (k.new hp (by intros; exact HO.noConfusion)) (k.newF hp) (.tup (.inl (.inl upd_same)) ((hc vs hr).same e)) q
theorem w_sliceFrom {tl : TE} (h : EvW K te ρ Γ fun x => EvW K tl ρ Γ fun i => ∃ (k : Nat) (ds : List D), i = .int (k : Int) ∧ ((x = .lst ds ∧ R (.lst (ds.drop k))) ∨ (x = .tup ds ∧ R (.tup (ds.drop k))))) : EvW K (tSl (rSeq K) te (tPart tl) tNoPart) ρ Γ R := fun B H σ k s Q f =>
  h B H σ k s _ fun v B1 H1 x k1 f1 r1 h1 => h1 B1 H1 σ k1 (s.le (sameLe f1.ex)) _ fun vi B2 H2 i k2 f2 r2 ⟨n, ds, ei, hq⟩ => by
    subst ei
    cases r2
    refine ⟨(n : Int), rfl, ?_⟩
    refine sl_go (ds := ds) (es := ds.drop n) k2 (r1.same f2.ex) (fun vs r => by rw [cut_from]; exact r.drop n) ?_ ((f.tr f1).tr f2)
    rcases hq with hq | ⟨e, hq⟩
    · exact .inl hq
    · refine .inr ⟨e, hq, fun vs hl hh => ?_⟩
      have h0 := hh.1
      rw [HT.sIx_nat] at h0
      by_cases hn : n = 0
      · rw [hn]; rfl
      · have : vs.length = 0 := by omega
        rw [List.length_eq_zero_iff.mp (hl.symm.trans this)]
        exact List.drop_nil
theorem w_sliceTo {th : TE} (h : EvW K te ρ Γ fun x => EvW K th ρ Γ fun i => ∃ (k : Nat) (ds : List D), i = .int (k : Int) ∧ x = .lst ds ∧ R (.lst (ds.take k))) : EvW K (tSl (rSeq K) te tNoPart (tPart th)) ρ Γ R := fun B H σ k s Q f =>
  h B H σ k s _ fun v B1 H1 x k1 f1 r1 h1 => h1 B1 H1 σ k1 (s.le (sameLe f1.ex)) _ fun vi B2 H2 i k2 f2 r2 ⟨n, ds, ei, hq⟩ => by
    subst ei
    cases r2
    refine ⟨(n : Int), rfl, ?_⟩
    exact sl_go (ds := ds) (es := ds.take n) k2 (r1.same f2.ex) (fun vs r => by rw [cut_to]; exact r.take n) (.inl hq) ((f.tr f1).tr f2)
/-! built-ins -/
theorem c_len {x : D} {ds : List D} (h : x = .lst ds ∨ x = .tup ds) (q : R (.int (ds.length : Int))) : CallW K (fun xs H Q => ∃ p ys, xs = [.ref p] ∧ (SqL K H p ys ∨ SqT K H p ys) ∧ Q (.int (ys.length : Int)) H) Γ [x] R := fun B H vs k r Q f => by
  cases r with
  | cons ra rr =>
    cases rr
    rcases h with e | e <;> subst e
    · cases ra with
      | lst hx hr => exact ⟨_, _, rfl, .inl (.inl (.inl (k.ext _ _ hx))), by rw [hr.length]; exact f.now k (.int _) q⟩
    · cases ra with
      | tup hx hr => exact ⟨_, _, rfl, .inr (sqT_le (sameLe k.ext) hx), by rw [hr.length]; exact f.now k (.int _) q⟩
theorem c_lenS {ns : List Int} (q : R (.int (ns.length : Int))) : CallW K (fun xs H Q => ∃ p ys, xs = [.ref p] ∧ (SqL K H p ys ∨ SqT K H p ys) ∧ Q (.int (ys.length : Int)) H) Γ [.slst ns] R := fun B H vs k r Q f => by
  cases r with
  | cons ra rr =>
    cases rr
    cases ra with
    | slst hx => exact ⟨_, _, rfl, .inl (sqL_le (sameLe k.ext) hx), by rw [List.length_map]; exact f.now k (.int _) q⟩
theorem c_list {x : D} {ds : List D} (h : x = .lst ds ∨ x = .tup ds) (q : R (.lst ds)) : CallW K (fun xs H Q => ∃ p ys, xs = [.ref p] ∧ (SqL K H p ys ∨ SqT K H p ys) ∧ ∀ l, H l = none → Q (.ref l) (upd H l (.lst ys))) Γ [x] R := fun B H vs k r Q f => by
  cases r with
  | cons ra rr =>
    cases rr
    rcases h with e | e <;> subst e
    · cases ra with
      | @lst p ws _ hx hr =>
        refine ⟨_, _, rfl, .inl (.inl (.inl (k.ext _ _ hx))), fun l hl => ?_⟩
        have e := sameNew (o := .lst ws) (k.bnone hl)
        exact f _ _ _ _ (k.new hl (by intros; exact HO.noConfusion)) (k.newF hl) (.lst upd_same (hr.same e)) q
    · cases ra with
      | @tup p ws _ hx hr =>
        refine ⟨_, _, rfl, .inr (sqT_le (sameLe k.ext) hx), fun l hl => ?_⟩
        have e := sameNew (o := .lst ws) (k.bnone hl)
        exact f _ _ _ _ (k.new hl (by intros; exact HO.noConfusion)) (k.newF hl) (.lst upd_same (hr.same e)) q
theorem c_tuple {ds : List D} (q : R (.tup ds)) : CallW K (fun xs H Q => ∃ p ys, xs = [.ref p] ∧ ((SqL K H p ys ∧ ∀ l, H l = none → Q (.ref l) (upd H l (.tup ys))) ∨ (SqT K H p ys ∧ Q (.ref p) H))) Γ [.lst ds] R := fun B H vs k r Q f => by
  cases r with
  | cons ra rr =>
    cases rr
    cases ra with
    | @lst p ws _ hx hr =>
      refine ⟨_, _, rfl, .inl ⟨.inl (.inl (k.ext _ _ hx)), fun l hl => ?_⟩⟩
      have e := sameNew (o := .tup ws) (k.bnone hl)
      exact f _ _ _ _ (k.new hl (by intros; exact HO.noConfusion)) (k.newF hl) (.tup (.inl (.inl upd_same)) (hr.same e)) q
theorem w_ty {n : String} (q : R (.ty n)) : EvW K (tC (.ty n)) ρ Γ R := fun B H σ k s Q f => f.now k (.ty n) q
def D.tyn : D → Option String
  | .int _ => some "int"
  | .bl _ => some "bool"
  | .lst _ => some "list"
  | .tup _ => some "tuple"
  | _ => none
theorem tyn_ok {B H : Hp} {v : V} {x : D} {m : String} (e : Same B H) (r : Rp K B v x) (h : x.tyn = some m) : TyX K H v (.type m) := by
  cases r with
  | int i => cases h; exact .base (.int i)
  | bl i => cases h; exact .base (.bl i)
  | lst hx _ => cases h; exact .base (.lst (e _ _ hx))
  | tup hx _ =>
    cases h
    rcases hx with (hx | ⟨o, hx⟩) | ⟨o, its, n, hk, hc, _⟩
    · exact .base (.tup (e _ _ hx))
    · exact .fTuple (e _ _ hx)
    · exact .kTuple hk hc
  | _ => cases h
theorem c_isi {x : D} {m n : String} {b : Bool} (h : x.tyn = some m) (hk : kitB m n = some b) (q : R (.bl b)) : CallW K (rIsi K) Γ [x, .ty n] R := fun B H vs k r Q f => by
  cases r with
  | cons ra rr =>
    cases rr with
    | cons rb rr =>
      cases rr
      cases rb
      exact ⟨_, .ty n, .type m, .type n, b, rfl, .ty n, tyn_ok k.ext ra h, kit_ty hk, f.now k (.bl b) q⟩
theorem c_abs {i : Int} (q : R (.int (i.natAbs : Int))) : CallW K (fun xs H Q => ∃ i, xs = [.int i] ∧ Q (.int (if i < 0 then -i else i)) H) Γ [.int i] R := fun B H vs k r Q f => by
  cases r with
  | cons ra rr =>
    cases rr
    cases ra
    refine ⟨i, rfl, ?_⟩
    have e : (if i < 0 then -i else i) = (i.natAbs : Int) := by split <;> omega
    rw [e]
    exact f.now k (.int _) q
theorem c_int {i : Int} (q : R (.int i)) : CallW K (fun xs H Q => (∃ i, xs = [.int i] ∧ Q (.int i) H) ∨ ∃ k, xs = [.bl k] ∧ Q (.int (if k then 1 else 0)) H) Γ [.int i] R := fun B H vs k r Q f => by
  cases r with
  | cons ra rr =>
    cases rr
    cases ra
    exact .inl ⟨i, rfl, f.now k (.int _) q⟩
theorem c_intB {b : Bool} (q : R (.int (if b then 1 else 0))) : CallW K (fun xs H Q => (∃ i, xs = [.int i] ∧ Q (.int i) H) ∨ ∃ k, xs = [.bl k] ∧ Q (.int (if k then 1 else 0)) H) Γ [.bl b] R := fun B H vs k r Q f => by
  cases r with
  | cons ra rr =>
    cases rr
    cases ra
    exact .inr ⟨b, rfl, f.now k (.int _) q⟩
theorem c_sum {ns : List Int} (q : R (.int ns.sum)) : CallW K (rSum K) Γ [.lst (ns.map .int)] R := fun B H vs k r Q f => by
  cases r with
  | cons ra rr =>
    cases rr
    cases ra with
    | lst hx hr =>
      have e := hr.ints
      subst e
      exact ⟨_, ns, rfl, .inl (.inl (k.ext _ _ hx)), f.now k (.int _) q⟩
theorem c_all {bs : List Bool} (q : R (.bl (bs.all id))) : CallW K (rAll K) Γ [.lst (bs.map .bl)] R := fun B H vs k r Q f => by
  cases r with
  | cons ra rr =>
    cases rr
    cases ra with
    | lst hx hr =>
      have e := hr.bls
      subst e
      exact ⟨_, bs, rfl, .inl (.inl (k.ext _ _ hx)), f.now k (.bl _) q⟩
theorem c_any {bs : List Bool} (q : R (.bl (bs.any id))) : CallW K (rAny K) Γ [.lst (bs.map .bl)] R := fun B H vs k r Q f => by
  cases r with
  | cons ra rr =>
    cases rr
    cases ra with
    | lst hx hr =>
      have e := hr.bls
      subst e
      exact ⟨_, bs, rfl, .inl (.inl (k.ext _ _ hx)), f.now k (.bl _) q⟩
theorem c_max {i j : Int} (q : R (.int (if j > i then j else i))) : CallW K (fun xs H Q => ∃ i j, xs = [.int i, .int j] ∧ Q (.int (if j > i then j else i)) H) Γ [.int i, .int j] R := fun B H vs k r Q f => by
  cases r with
  | cons ra rr =>
    cases rr with
    | cons rb rr =>
      cases rr
      cases ra
      cases rb
      exact ⟨i, j, rfl, f.now k (.int _) q⟩
theorem c_min {i j : Int} (q : R (.int (if j < i then j else i))) : CallW K (fun xs H Q => ∃ i j, xs = [.int i, .int j] ∧ Q (.int (if j < i then j else i)) H) Γ [.int i, .int j] R := fun B H vs k r Q f => by
  cases r with
  | cons ra rr =>
    cases rr with
    | cons rb rr =>
      cases rr
      cases ra
      cases rb
      exact ⟨i, j, rfl, f.now k (.int _) q⟩
/-! items -/
theorem o_ixTu {ds : List D} {i : Int} {d : D} (h : atI ds i = some d) (q : R d) : OpW K (rIx K) Γ (.tup ds) (.int i) R := fun B H a b k ra rb Q f => .inr (.inl (o_ixT (K := K) h q B H a b k ra rb Q f))
theorem o_ixLi {ds : List D} {i : Int} {d : D} (h : atI ds i = some d) (q : R d) : OpW K (rIx K) Γ (.lst ds) (.int i) R := fun B H a b k ra rb Q f => .inl (o_ixL (K := K) h q B H a b k ra rb Q f)
theorem o_ixSl {ns : List Int} {i n : Int} (h : atI ns i = some n) (q : R (.int n)) : OpW K (rIx K) Γ (.slst ns) (.int i) R := fun B H a b k ra rb Q f => .inl (o_ixS (K := K) h q B H a b k ra rb Q f)
/-! dicts -/
theorem valV_rel {κ : Type} [DecidableEq κ] {B : Hp} {k : κ} {d : D} : ∀ {ws : List (κ × V)} {kvs : List (κ × D)}, ws.map (·.1) = kvs.map (·.1) → RpL K B (ws.map (·.2)) (kvs.map (·.2)) → (kvs.find? fun kv => decide (kv.1 = k)).map (·.2) = some d → ∃ v, valV ws k = some v ∧ Rp K B v d := by
  intro ws
  induction ws with
  | nil =>
    intro kvs e1 _ e2
    cases kvs with
    | nil => cases e2
    | cons g gs => cases e1
  | cons w ws ih =>
    intro kvs e1 hr e2
    cases kvs with
    | nil => cases e1
    | cons g gs =>
      rw [List.map_cons, List.map_cons] at e1 hr
      injection e1 with h1 h2
      obtain ⟨w1, w2⟩ := w
      obtain ⟨g1, g2⟩ := g
      dsimp only at h1 hr
      subst h1
      cases hr with
      | cons ha hb =>
        by_cases e : w1 = k
        · subst e
          rw [List.find?_cons_of_pos (by simp)] at e2
          have e3 : g2 = d := by simpa using e2
          subst e3
          exact ⟨w2, valV_pos rfl, ha⟩
        · rw [List.find?_cons_of_neg (by simpa using e)] at e2
          obtain ⟨v, q1, q2⟩ := ih h2 hb e2
          exact ⟨v, by rw [valV_neg e]; exact q1, q2⟩
theorem valV_relN {κ : Type} [DecidableEq κ] {k : κ} : ∀ {ws : List (κ × V)} {kvs : List (κ × D)}, ws.map (·.1) = kvs.map (·.1) → ((valV ws k).isSome = true ↔ k ∈ kvs.map (·.1)) := by
  intro ws kvs e
  rw [← e]
  clear e
  induction ws with
  | nil => simp [valV_nil]
  | cons w ws ih =>
    by_cases e : w.1 = k
    · rw [valV_pos e, List.map_cons, List.mem_cons, e]; simp
    · rw [valV_neg e, ih, List.map_cons, List.mem_cons]
      constructor
      · exact .inr
      · rintro (q | q)
        · exact absurd q.symm e
        · exact q
def lookD {κ : Type} [DecidableEq κ] (kvs : List (κ × D)) (k : κ) : Option D := (kvs.find? fun kv => decide (kv.1 = k)).map (·.2)
/-- d[k]: keys that are ints or texts -/
theorem w_dgetK {td ty : TE} (h : EvW K td ρ Γ fun x => EvW K ty ρ Γ fun y => ∃ kvs, x = .dK kvs ∧ ((∃ i d, y = .int i ∧ lookD kvs (Sum.inl i) = some d ∧ R d) ∨ (∃ i d, y = .str i ∧ lookD kvs (Sum.inr i) = some d ∧ R d))) : EvW K (tDGet td ty) ρ Γ R := fun B H σ k s Q f =>
  h B H σ k s _ fun v B1 H1 x k1 f1 r1 h1 => h1 B1 H1 σ k1 (s.le (sameLe f1.ex)) _ fun vi B2 H2 i k2 f2 r2 ⟨kvs, e, hq⟩ => by
    subst e
    cases r1.same f2.ex with
    | @dK a ws _ hx hk hr =>
      have hx' := rd_same k2.ext hx
      rcases hq with ⟨i, d, e, hd, q⟩ | ⟨i, d, e, hd, q⟩
      · subst e
        cases r2
        obtain ⟨v, hv, rv⟩ := valV_rel hk hr hd
        exact ⟨a, v, rfl, .inl ⟨ws, Sum.inl i, hx', rfl, hv.symm⟩, ((f.tr f1).tr f2).now k2 rv q⟩
      · subst e
        cases r2
        obtain ⟨v, hv, rv⟩ := valV_rel hk hr hd
        exact ⟨a, v, rfl, .inl ⟨ws, Sum.inr i, hx', rfl, hv.symm⟩, ((f.tr f1).tr f2).now k2 rv q⟩
/-- k in d -/
theorem w_dinK {td ty : TE} (h : EvW K ty ρ Γ fun y => EvW K td ρ Γ fun x => ∃ kvs i, x = .dK kvs ∧ y = .int i ∧ ∀ b : Bool, (b = true ↔ (Sum.inl i : Key) ∈ kvs.map (·.1)) → R (.bl b)) : EvW K (tDIn ty td) ρ Γ R := fun B H σ k s Q f =>
  h B H σ k s _ fun v B1 H1 y k1 f1 r1 h1 => h1 B1 H1 σ k1 (s.le (sameLe f1.ex)) _ fun vi B2 H2 x k2 f2 r2 ⟨kvs, i, e, e2, q⟩ => by
    subst e e2
    cases r1
    cases r2 with
    | @dK a ws _ hx hk hr =>
      exact ⟨a, _, rfl, .inl ⟨ws, Sum.inl i, rd_same k2.ext hx, rfl, rfl⟩, ((f.tr f1).tr f2).now k2 (.bl _) (q _ (valV_relN hk))⟩
/-- keys that are tuples of ints -/
def ik (ns : List Int) : List Key := ns.map Sum.inl
theorem ik_kV (ns : List Int) : (ik ns).map kV = ns.map V.int := by
  unfold ik
  rw [List.map_map]
  rfl
/-- a tuple of ints, as a key -/
theorem w_tupK {ta : TA} (h : EvA K ta ρ Γ fun ds => ∃ ns : List Int, ds = ns.map .int ∧ ns.length ≤ 1000 ∧ R (.key ns)) : EvW K (tTup ta) ρ Γ R := fun B H σ k s Q f =>
  h B H σ k s _ fun vs B1 H1 ds k1 f1 r1 ⟨ns, e, hl, q⟩ => by
    subst e
    have e2 := r1.ints
    subst e2
    refine ⟨Nat.le_of_lt (small1000 (by rw [List.length_map]; exact hl)), fun p hp => ?_⟩
    have e := sameNew (o := .tup (ns.map V.int)) (k1.bnone hp)
    exact f _ _ _ _ (k1.new hp (by intros; exact HO.noConfusion)) (f1.tr (k1.newF hp)) (.key upd_same) q
theorem o_ixKe {ns : List Int} {i n : Int} (h : atI ns i = some n) (q : R (.int n)) : OpW K (rIx K) Γ (.key ns) (.int i) R := fun B H a b k ra rb Q f => by
  cases rb
  cases ra with
  | key hs =>
    refine .inr (.inl ⟨_, _, i, .int n, rfl, rfl, .inl (.inl (k.ext _ _ hs)), ?_, f.now k (.int n) q⟩)
    unfold atI at h ⊢
    rw [List.length_map]
    cases e : ixN ns.length i with
    | none => rw [e] at h; cases h
    | some j =>
      rw [e] at h
      show (ns.map V.int)[j]? = some (V.int n)
      rw [List.getElem?_map, show ns[j]? = some n from h]
      rfl
theorem i_key {R : List D → Prop} {te : TE} (h : EvW K te ρ Γ fun x => ∃ ns, x = .key ns ∧ R (ns.map .int)) : ItW K (iTup K te) ρ Γ R := fun B H σ k s Rr f =>
  h B H σ k s _ fun v B1 H1 d k1 f1 r1 ⟨ns, e, q⟩ => by
    subst e
    cases r1 with
    | key hx =>
      have hs : SqT K B1 _ (ns.map V.int) := .inl (.inl hx)
      exact ⟨_, rfl, ⟨_, sqT_le (sameLe k1.ext) hs⟩, f _ B1 H1 _ k1 f1 (walkD_tup hs (.ofInts ns)) q⟩
theorem w_dgetT {td ty : TE} (h : EvW K td ρ Γ fun x => EvW K ty ρ Γ fun y => ∃ kvs ns d, x = .dT kvs ∧ y = .key ns ∧ lookD kvs (ik ns) = some d ∧ R d) : EvW K (tDGet td ty) ρ Γ R := fun B H σ k s Q f =>
  h B H σ k s _ fun v B1 H1 x k1 f1 r1 h1 => h1 B1 H1 σ k1 (s.le (sameLe f1.ex)) _ fun vi B2 H2 i k2 f2 r2 ⟨kvs, ns, d, e, e2, hd, q⟩ => by
    subst e e2
    cases r1.same f2.ex with
    | @dT a ws _ hx hk hr =>
      have hx' := rd_same k2.ext hx
      cases r2 with
      | key hb =>
        obtain ⟨v, hv, rv⟩ := valV_rel hk hr hd
        exact ⟨a, v, rfl, .inr ⟨ws, ik ns, _, hx', rfl, by rw [ik_kV]; exact k2.ext _ _ hb, hv.symm⟩, ((f.tr f1).tr f2).now k2 rv q⟩
/-- reading a cell's dict -/
theorem w_dgetTc {td ty : TE} {p : Addr} {kvs : List (List Key × D)} {cs : List (Addr × Cel)} {z : List Addr} (h : EvW K td ρ ⟨(p, .dT kvs) :: cs, z⟩ fun x => EvW K ty ρ ⟨(p, .dT kvs) :: cs, z⟩ fun y => ∃ ns d, x = .cell p ∧ y = .key ns ∧ lookD kvs (ik ns) = some d ∧ R d) : EvW K (tDGet td ty) ρ ⟨(p, .dT kvs) :: cs, z⟩ R := fun B H σ k s Q f =>
  h B H σ k s _ fun v B1 H1 x k1 f1 r1 h1 => h1 B1 H1 σ k1 (s.le (sameLe f1.ex)) _ fun vi B2 H2 i k2 f2 r2 ⟨ns, d, e, e2, hd, q⟩ => by
    subst e e2
    cases r1
    cases r2 with
    | key hb =>
      obtain ⟨_, ws, hx, hk, hr⟩ := k2.cel (p, .dT kvs) List.mem_cons_self
      obtain ⟨v, hv, rv⟩ := valV_rel hk hr hd
      exact ⟨p, v, rfl, .inr ⟨ws, ik ns, _, .inl hx, rfl, by rw [ik_kV]; exact k2.ext _ _ hb, hv.symm⟩, ((f.tr f1).tr f2).now k2 rv q⟩
theorem w_dnotinTc {td ty : TE} {p : Addr} {kvs : List (List Key × D)} {cs : List (Addr × Cel)} {z : List Addr} (h : EvW K ty ρ ⟨(p, .dT kvs) :: cs, z⟩ fun y => EvW K td ρ ⟨(p, .dT kvs) :: cs, z⟩ fun x => ∃ ns, x = .cell p ∧ y = .key ns ∧ ∀ b : Bool, (b = true ↔ ik ns ∈ kvs.map (·.1)) → R (.bl (!b))) : EvW K (tDNotIn ty td) ρ ⟨(p, .dT kvs) :: cs, z⟩ R := fun B H σ k s Q f =>
  h B H σ k s _ fun v B1 H1 x k1 f1 r1 h1 => h1 B1 H1 σ k1 (s.le (sameLe f1.ex)) _ fun vi B2 H2 i k2 f2 r2 ⟨ns, e, e2, q⟩ => by
    subst e e2
    cases r1.same f2.ex with
    | key hb =>
      cases r2
      obtain ⟨_, ws, hx, hk, hr⟩ := k2.cel (p, .dT kvs) List.mem_cons_self
      exact ⟨p, _, rfl, .inr ⟨ws, ik ns, _, .inl hx, rfl, by rw [ik_kV]; exact k2.ext _ _ hb, rfl⟩, ((f.tr f1).tr f2).now k2 (.bl _) (q _ (valV_relN hk))⟩
/-- what a dict is behind d[k] = v -/
def putD {κ : Type} [DecidableEq κ] (kvs : List (κ × D)) (k : κ) (d : D) : List (κ × D) := if kvs.any fun kv => decide (kv.1 = k) then kvs.map fun kv => if kv.1 = k then (kv.1, d) else kv else kvs ++ [(k, d)]
theorem putK_rel {κ : Type} [DecidableEq κ] {B : Hp} {k : κ} {v : V} {d : D} {ws : List (κ × V)} {kvs : List (κ × D)} (e1 : ws.map (·.1) = kvs.map (·.1)) (hr : RpL K B (ws.map (·.2)) (kvs.map (·.2))) (rv : Rp K B v d) :
    (putK ws k v).map (·.1) = (putD kvs k d).map (·.1) ∧ RpL K B ((putK ws k v).map (·.2)) ((putD kvs k d).map (·.2)) := by
  have ha : (ws.any fun kv => decide (kv.1 = k)) = kvs.any fun kv => decide (kv.1 = k) := by
    have h1 : ∀ (l : List (κ × V)), (l.any fun kv => decide (kv.1 = k)) = (l.map (·.1)).any fun x => decide (x = k) := fun l => by rw [List.any_map]; rfl
    have h2 : ∀ (l : List (κ × D)), (l.any fun kv => decide (kv.1 = k)) = (l.map (·.1)).any fun x => decide (x = k) := fun l => by rw [List.any_map]; rfl
    rw [h1, h2, e1]
  unfold putK putD
  rw [ha]
  split
  · clear ha
    induction ws generalizing kvs with
    | nil =>
      cases kvs with
      | nil => exact ⟨rfl, .nil⟩
      | cons g gs => cases e1
    | cons w ws ih =>
      cases kvs with
      | nil => cases e1
      | cons g gs =>
        rw [List.map_cons, List.map_cons] at e1 hr
        injection e1 with h1 h2
        cases hr with
        | cons ra rb =>
          have ih2 : (ws.map fun kv => if kv.1 = k then (kv.1, v) else kv).map (·.1) = (gs.map fun kv => if kv.1 = k then (kv.1, d) else kv).map (·.1) ∧ RpL K B ((ws.map fun kv => if kv.1 = k then (kv.1, v) else kv).map (·.2)) ((gs.map fun kv => if kv.1 = k then (kv.1, d) else kv).map (·.2)) := by
            by_cases hq : (gs.any fun kv => decide (kv.1 = k)) = true
            · exact ih h2 rb hq
            · have z1 : ∀ x ∈ gs, ¬ x.1 = k := fun x hx e => hq (List.any_eq_true.mpr ⟨x, hx, by simpa using e⟩)
              have z2 : ∀ x ∈ ws, ¬ x.1 = k := fun x hx e => by
                have : x.1 ∈ gs.map (·.1) := h2 ▸ List.mem_map_of_mem hx
                obtain ⟨y, hy, ey⟩ := List.mem_map.mp this
                exact z1 y hy (ey.trans e)
              have m1 : (gs.map fun kv => if kv.1 = k then (kv.1, d) else kv) = gs := by
                rw [List.map_congr_left (g := id) fun x hx => by simp [z1 x hx]]; simp
              have m2 : (ws.map fun kv => if kv.1 = k then (kv.1, v) else kv) = ws := by
                rw [List.map_congr_left (g := id) fun x hx => by simp [z2 x hx]]; simp
              rw [m1, m2]
              exact ⟨h2, rb⟩
          rw [List.map_cons, List.map_cons, List.map_cons, List.map_cons, List.map_cons, List.map_cons]
          rw [ih2.1]
          by_cases e : g.1 = k
          · rw [if_pos (h1.trans e), if_pos e]
            exact ⟨by rw [h1], .cons rv ih2.2⟩
          · rw [if_neg (fun q => e (h1.symm.trans q)), if_neg e]
            exact ⟨by rw [h1], .cons ra ih2.2⟩
  · rw [List.map_append, List.map_append, List.map_append, List.map_append]
    exact ⟨by rw [e1]; rfl, hr.app (.one rv)⟩
theorem w_varE {i : Nat} (q : ∃ d, ρ[i]? = some (some d) ∧ R d) : EvW K (tVar i) ρ Γ R := let ⟨_, h, q⟩ := q; w_var h q
theorem o_ixTuE {ds : List D} {i : Int} (q : ∃ d, atI ds i = some d ∧ R d) : OpW K (rIx K) Γ (.tup ds) (.int i) R := let ⟨_, h, q⟩ := q; o_ixTu h q
theorem o_ixLiE {ds : List D} {i : Int} (q : ∃ d, atI ds i = some d ∧ R d) : OpW K (rIx K) Γ (.lst ds) (.int i) R := let ⟨_, h, q⟩ := q; o_ixLi h q
theorem o_ixKeE {ds : List Int} {i : Int} (q : ∃ d, atI ds i = some d ∧ R (.int d)) : OpW K (rIx K) Γ (.key ds) (.int i) R := let ⟨_, h, q⟩ := q; o_ixKe h q
theorem exbl {P : Bool → Prop} {b : Bool} (h : P b) : ∃ c, D.bl b = D.bl c ∧ P c := ⟨b, rfl, h⟩
theorem tT {A B : Prop} (h : A) : if true = true then A else B := by rw [if_pos rfl]; exact h
theorem tF {A B : Prop} (h : B) : if false = true then A else B := by rw [if_neg Bool.false_ne_true]; exact h
theorem ifp {c A B : Prop} [Decidable c] (h : c) (q : A) : if c then A else B := by rw [if_pos h]; exact q
theorem ifn {c A B : Prop} [Decidable c] (h : ¬ c) (q : B) : if c then A else B := by rw [if_neg h]; exact q
theorem ifpB {b : Bool} {A B : Prop} (h : b = true) (q : A) : if b = true then A else B := by rw [if_pos h]; exact q
theorem ifnB {b : Bool} {A B : Prop} (h : b = false) (q : B) : if b = true then A else B := by rw [if_neg (by rw [h]; decide)]; exact q
theorem tNT {A B : Prop} (h : B) : if (!true) = true then A else B := by rw [if_neg (by decide)]; exact h
theorem tNF {A B : Prop} (h : A) : if (!false) = true then A else B := by rw [if_pos (by decide)]; exact h
theorem atI_zero {α : Type} {x : α} {xs : List α} : atI (x :: xs) 0 = some x := atI_nat (j := 0) rfl
theorem tD {c A B : Prop} [Decidable c] (h1 : c → A) (h2 : ¬ c → B) : if decide c = true then A else B := by
  by_cases h : c
  · rw [if_pos (decide_eq_true h)]; exact h1 h
  · rw [if_neg (by rw [decide_eq_false h]; decide)]; exact h2 h
theorem tN {c A B : Prop} [Decidable c] (h1 : ¬ c → A) (h2 : c → B) : if (!decide c) = true then A else B := by
  by_cases h : c
  · rw [if_neg (by rw [decide_eq_true h]; decide)]; exact h2 h
  · rw [if_pos (by rw [decide_eq_false h]; rfl)]; exact h1 h
end
section
variable {K : PySem.W.Frag} {S : Sig K} {mk : List Hp} {ρ : En} {Γ : Ctx} {N : En → Ctx → Prop} {td ty te : TE} {ts : TS}
/-- d[k] = v, d a cell -/
theorem g_putTc {p : Addr} {kvs : List (List Key × D)} {cs : List (Addr × Cel)} {z : List Addr} (hl : kvs.length < 1000) (h : EvW K te ρ ⟨(p, .dT kvs) :: cs, z⟩ fun d => EvW K td ρ ⟨(p, .dT kvs) :: cs, z⟩ fun x => EvW K ty ρ ⟨(p, .dT kvs) :: cs, z⟩ fun y =>
    ∃ ns, x = .cell p ∧ y = .key ns ∧ Goes S mk N ts ρ ⟨(p, .dT (putD kvs (ik ns) d)) :: cs, z⟩) : Goes S mk N (tSeq (sDPut td ty te) ts) ρ ⟨(p, .dT kvs) :: cs, z⟩ := fun E hE hN B H σ a =>
  h B H σ a.ok a.sl _ fun v B1 H1 d k1 f1 r1 q => by
    have a1 := a.step k1 f1
    refine q B1 H1 σ k1 a1.sl _ fun vx B2 H2 x k2 f2 r2 q2 => ?_
    have a2 := a1.step k2 f2
    refine q2 B2 H2 σ k2 a2.sl _ fun vy B3 H3 y k3 f3 r3 ⟨ns, e1, e2, q3⟩ => ?_
    have a3 := a2.step k3 f3
    subst e1 e2
    cases r2
    cases r3 with
    | key hb =>
      obtain ⟨_, ws, hx, hk, hr⟩ := k3.cel (p, .dT kvs) List.mem_cons_self
      have hl' : ws.length = kvs.length := by
        have := congrArg List.length hk
        simpa using this
      refine ⟨p, _, rfl, .inr ⟨ws, ik ns, _, hx, rfl, by rw [ik_kV]; exact k3.ext _ _ hb, small1000 (by omega), rfl⟩, ?_⟩
      obtain ⟨g1, g2⟩ := putK_rel hk hr ((r1.same f2.ex).same f3.ex)
      exact q3 E hE hN B3 _ σ (a3.cellSet ⟨_, upd_same, g1, g2⟩)
theorem g_putKc {p : Addr} {kvs : List (Key × D)} {cs : List (Addr × Cel)} {z : List Addr} (hl : kvs.length < 1000) (h : EvW K te ρ ⟨(p, .dK kvs) :: cs, z⟩ fun d => EvW K td ρ ⟨(p, .dK kvs) :: cs, z⟩ fun x => EvW K ty ρ ⟨(p, .dK kvs) :: cs, z⟩ fun y =>
    ∃ n, x = .cell p ∧ y = .int n ∧ Goes S mk N ts ρ ⟨(p, .dK (putD kvs (Sum.inl n) d)) :: cs, z⟩) : Goes S mk N (tSeq (sDPut td ty te) ts) ρ ⟨(p, .dK kvs) :: cs, z⟩ := fun E hE hN B H σ a =>
  h B H σ a.ok a.sl _ fun v B1 H1 d k1 f1 r1 q => by
    have a1 := a.step k1 f1
    refine q B1 H1 σ k1 a1.sl _ fun vx B2 H2 x k2 f2 r2 q2 => ?_
    have a2 := a1.step k2 f2
    refine q2 B2 H2 σ k2 a2.sl _ fun vy B3 H3 y k3 f3 r3 ⟨n, e1, e2, q3⟩ => ?_
    have a3 := a2.step k3 f3
    subst e1 e2
    cases r2
    cases r3
    obtain ⟨_, ws, hx, hk, hr⟩ := k3.cel (p, .dK kvs) List.mem_cons_self
    have hl' : ws.length = kvs.length := by
      have := congrArg List.length hk
      simpa using this
    refine ⟨p, _, rfl, .inl ⟨ws, Sum.inl n, hx, rfl, small1000 (by omega), rfl⟩, ?_⟩
    obtain ⟨g1, g2⟩ := putK_rel hk hr ((r1.same f2.ex).same f3.ex)
    exact q3 E hE hN B3 _ σ (a3.cellSet ⟨_, upd_same, g1, g2⟩)
end
end PF
end
section
set_option Elab.async false
set_option linter.all false
set_option maxRecDepth 100000
set_option maxHeartbeats 2000000
namespace PF
open PySem PySem.Spec L2 RZ
local macro_rules | `(tactic| walk_at "pf1") => `(tactic| first
  | ((with_reducible refine' w_var ?pfh ?_); (case pfh => rfl))
  | with_reducible refine w_int ?_
  | with_reducible refine w_ty ?_
  | with_reducible refine w_op ?_
  | with_reducible refine w_cb ?_
  | with_reducible refine w_call ?_
  | with_reducible refine a_cons ?_
  | with_reducible refine a_nil ?_
  | with_reducible refine o_sub ?_
  | with_reducible refine o_plusI ?_
  | ((with_reducible refine' o_ixTu ?pfh ?_); (case pfh => rfl))
  | ((with_reducible refine' o_ixLi ?pfh ?_); (case pfh => rfl))
  | ((with_reducible refine' o_ixKe ?pfh ?_); (case pfh => rfl))
  | with_reducible refine w_bl ?_
  | with_reducible refine w_non ?_
  | with_reducible refine w_str ?_
  | with_reducible refine w_un ?_
  | with_reducible refine w_fld ?_
  | with_reducible refine w_meth ?_
  | with_reducible refine t_test ?_
  | with_reducible refine t_B ?_
  | with_reducible refine t_and ?_
  | with_reducible refine t_or ?_
  | with_reducible refine t_not ?_
  | with_reducible refine w_andV ?_
  | with_reducible refine w_orV ?_
  | with_reducible refine w_notV ?_
  | with_reducible refine w_if ?_
  | with_reducible refine w_chain ?_
  | with_reducible refine o_lt ?_
  | with_reducible refine o_gt ?_
  | with_reducible refine o_le ?_
  | with_reducible refine o_ge ?_
  | with_reducible refine o_equI ?_
  | with_reducible refine o_neqI ?_
  | with_reducible refine o_neg ?_
  | with_reducible refine c_abs ?_
  | with_reducible refine c_int ?_
  | with_reducible refine g_asg ?_
  | with_reducible refine g_drop ?_
  | with_reducible refine g_if ?_
  | with_reducible refine g_next ?_
  | with_reducible refine g_assoc ?_
  | with_reducible refine g_retS ?_
  | with_reducible refine exbl ?_
  | with_reducible refine tT ?_
  | with_reducible refine tF ?_
  | with_reducible refine tNT ?_
  | with_reducible refine tNF ?_
  | ((with_reducible refine' ifpB ?pfh ?_); (case pfh => rfl))
  | ((with_reducible refine' ifnB ?pfh ?_); (case pfh => rfl)))
local macro_rules | `(tactic| walk_at "fl") => `(tactic| first
  | refine ⟨_, _, _, rfl, Tp.cl_Plank ‹_›, Tp.n_long ‹_›, rfl, ?_⟩
  | refine ⟨_, _, _, rfl, Tp.cl_Plank ‹_›, Tp.n_stakes ‹_›, rfl, ?_⟩
  | refine ⟨_, _, _, rfl, Tp.cl_Plank ‹_›, Tp.n_limit ‹_›, rfl, ?_⟩
  | refine ⟨_, _, _, rfl, Tp.cl_Loads ‹_›, Tp.n_plank ‹_›, rfl, ?_⟩
  | refine ⟨_, _, _, rfl, Tp.cl_Loads ‹_›, Tp.n_weights ‹_›, rfl, ?_⟩
  | refine ⟨_, _, _, rfl, Tp.cl_Loads ‹_›, Tp.n_known ‹_›, rfl, ?_⟩
  | refine ⟨_, _, _, rfl, Tp.cl_Loads ‹_›, Tp.n_over ‹_›, rfl, ?_⟩)
local macro_rules | `(tactic| walk_at "pf") => `(tactic| repeat (walk_at "pf1"))

/-! ### fractions -/
def fr (q : Rat) : D := .tup [.int q.num, .int (q.den : Int)]
def Sm (q : Rat) : Prop := q.num.natAbs < 2 ^ 4000 ∧ q.den < 2 ^ 4000
theorem fr_inj {p q : Rat} (h : fr p = fr q) : p = q := by
  unfold fr at h
  injection h with h
  injection h with h1 h
  injection h with h2 _
  injection h1 with h1
  injection h2 with h2
  exact Rat.ext h1 (by omega)
theorem fr_pl (q : Rat) : Pl 1 (fr q) := .tup fun d hd => by
  rcases List.mem_cons.mp hd with rfl | hd
  · exact .int _
  · rcases List.mem_cons.mp hd with rfl | hd
    · exact .int _
    · cases hd
def pDivisor : PT_ := fun Γ ds R => ∃ a b : Nat, ds = [.int a, .int b] ∧ R (.int (Nat.gcd a b))
abbrev N_divisor : List Str := ["one", "other"]
theorem sc_divisor : FnScope N_divisor ["one", "other"] (defScope s_divisor) := ⟨rfl, rfl, rfl, by decide +kernel, rfl, by decide +kernel, by decide +kernel⟩
theorem ok_divisor {P : Program} {w : World} {K : PySem.W.Frag} {mg : Str → Option Value} {base : Heap} {aN aO CP CL : Addr} (T : Tp K mg aN aO CP CL)   {f : Addr} {fd : FuncData} (F : FunD K "divisor" "divisor" (defArgs s_divisor) (defBody s_divisor) (defScope s_divisor) [] [] f fd) : FnOk P w K mg base CX0 1 f fd ["one", "other"] (SpG K (pDivisor)) := by
  refine okG F sc_divisor (by intro Γ ds R h; repeat' (first | (obtain ⟨e, _⟩ := h; subst e; rfl) | (obtain ⟨_, h⟩ := h))) (fun cdv A outer s H E hr => ?_)
  refine ⟨_, (pss_cons (ps_while PassesOwn.never (pt_cmpR (op_neqK (K := K) rfl hr.units) (pv 1) pe_int (nomark _)) 
          (pss_one (ps_par (i := 0) (j := 1) (by rfl) sc_divisor.nd rfl rfl (by decide) rfl rfl (pa_cons (pv 1) (pa_cons (pe_op op_mod (pv 0) (pv 1)) pa_nil)) (by rfl))))
      (pss_one (ps_ret (pv 0)))), ?_⟩
  try dsimp only [cxOf, Cx.nox, Cx.wish]
  rintro S ds ⟨a, b, rfl, q⟩
  show Goes S [] (nEnd S) _ [some (.int a), some (.int b)] S.C0
  refine g_while (fun m ρ Γ => ∃ x y : Nat, ρ = [some (.int x), some (.int y)] ∧ Γ = S.C0 ∧ m = y ∧ Nat.gcd x y = Nat.gcd a b) b ⟨a, b, rfl, rfl, rfl, rfl⟩ ?_
  rintro m ρ Γ ⟨x, y, rfl, rfl, rfl, e⟩
  walk_at "pf"
  refine tN ?_ ?_ <;> intro hy
  · refine g_one (g_par ?_)
    walk_at "pf"
    refine o_mod (by omega) ?_
    walk_at "pf"
    refine ⟨_, _, rfl, g_done ?_⟩
    refine ⟨x % m, Nat.mod_lt _ (by omega), m, x % m, rfl, rfl, rfl, ?_⟩
    rw [← e, Nat.gcd_comm x m, Nat.gcd_rec m x, Nat.gcd_comm]
  · refine g_ret (w_var rfl ?_) Cov.refl
    have hm : m = 0 := by omega
    subst hm
    rw [Nat.gcd_zero_right] at e
    rw [e]
    exact q
/-- numbers below 2 ^ 8100: products and sums of two small fractions' parts -/
def pCut : PT_ := fun Γ ds R => ∃ (n : Int) (d : Nat), ds = [.int n, .int d] ∧ 0 < d ∧ n.natAbs < 2 ^ 8900 ∧ d < 2 ^ 8900 ∧ R (fr (mkRat n d))
theorem cut_eq (n : Int) (d : Nat) (hd : 0 < d) : fr (mkRat n d) = .tup [.int (n / (Nat.gcd n.natAbs d : Nat)), .int ((d : Int) / (Nat.gcd n.natAbs d : Nat))] := by
  unfold fr
  rw [Rat.num_mkRat, Rat.den_mkRat, if_neg (by omega), if_neg (by omega), Nat.gcd_comm]
  rfl
abbrev N_cut : List Str := ["top", "bottom", "common"]
theorem sc_cut : FnScope N_cut ["top", "bottom"] (defScope s_cut) := ⟨rfl, rfl, rfl, by decide +kernel, rfl, by decide +kernel, by decide +kernel⟩
theorem ok_cut {P : Program} {w : World} {K : PySem.W.Frag} {mg : Str → Option Value} {base : Heap} {aN aO CP CL : Addr} (T : Tp K mg aN aO CP CL)  (F_divisor : Fk P w K mg base "divisor" ["one", "other"] 1 (SpG K (pDivisor))) {f : Addr} {fd : FuncData} (F : FunD K "cut" "cut" (defArgs s_cut) (defBody s_cut) (defScope s_cut) [] [] f fd) : FnOk P w K mg base CX0 2 f fd ["top", "bottom"] (SpG K (pCut)) := by
  refine okG F sc_cut (by intro Γ ds R h; repeat' (first | (obtain ⟨e, _⟩ := h; subst e; rfl) | (obtain ⟨_, h⟩ := h))) (fun cdv A outer s H E hr => ?_)
  refine ⟨_, (pss_cons (ps_set (i := 2) sc_cut.nd rfl (by first | exact Or.inl rfl | exact Or.inr rfl) (pe_F F_divisor (hr.mono (by decide)) rfl (pa_cons (pe_callB call_abs (by rfl) T.b_abs bt_abs (pa_cons (pv 0) pa_nil)) (pa_cons (pv 1) pa_nil))))
      (pss_one (ps_ret (pe_tup (pa_cons (pe_op op_fdivW (pv 0) (pv 2)) (pa_cons (pe_op op_fdivW (pv 1) (pv 2)) pa_nil)))))), ?_⟩
  try dsimp only [cxOf, Cx.nox, Cx.wish]
  rintro S ds ⟨n, d, rfl, hd, hn, hd2, q⟩
  show Goes S [] (nEnd S) _ [some (.int n), some (.int d), none] S.C0
  have hg : 0 < Nat.gcd n.natAbs d := Nat.gcd_pos_of_pos_right _ hd
  have hg2 : Nat.gcd n.natAbs d < 2 ^ 8900 := Nat.lt_of_le_of_lt (Nat.gcd_le_right _ hd) hd2
  have hw : ∀ i : Int, CDivW i (Nat.gcd n.natAbs d : Nat) := fun i => wide_div (b := 8900) (by omega) (by rw [Int.natAbs_natCast]; exact hg2) (by decide) (by decide)
  walk_at "pf"
  refine ⟨_, _, rfl, ?_⟩
  refine g_ret (w_tup ?_) Cov.refl
  walk_at "pf"
  refine o_fdivW (hw _) ?_
  walk_at "pf"
  refine o_fdivW (hw _) ?_
  walk_at "pf"
  exact ⟨by simp, by rw [← cut_eq n d hd]; exact q⟩
def pIsWhole : PT_ := fun Γ ds R => ∃ i, ds = [.int i] ∧ R (.bl true)
abbrev N_is_whole : List Str := ["thing"]
theorem sc_is_whole : FnScope N_is_whole ["thing"] (defScope s_is_whole) := ⟨rfl, rfl, rfl, by decide +kernel, rfl, by decide +kernel, by decide +kernel⟩
theorem ok_is_whole {P : Program} {w : World} {K : PySem.W.Frag} {mg : Str → Option Value} {base : Heap} {aN aO CP CL : Addr} (T : Tp K mg aN aO CP CL)   {f : Addr} {fd : FuncData} (F : FunD K "is_whole" "is_whole" (defArgs s_is_whole) (defBody s_is_whole) (defScope s_is_whole) [] [] f fd) : FnOk P w K mg base CX0 1 f fd ["thing"] (SpG K (pIsWhole)) := by
  refine okG F sc_is_whole (by intro Γ ds R h; repeat' (first | (obtain ⟨e, _⟩ := h; subst e; rfl) | (obtain ⟨_, h⟩ := h))) (fun cdv A outer s H E hr => ?_)
  refine ⟨_, (pss_one (ps_ret (pe_and (pe_callB (call_isiK' (K := K) rfl) (by rfl) T.b_isinstance bt_isinstance (pa_cons (pv 0) (pa_cons (pe_bltn (v := .ty "int") rfl T.b_int bt_int rfl) pa_nil))) (pe_one (pe_not (pe_callB (call_isiK' (K := K) rfl) (by rfl) T.b_isinstance bt_isinstance (pa_cons (pv 0) (pa_cons (pe_bltn (v := .ty "bool") rfl T.b_bool bt_bool rfl) pa_nil)))))))), ?_⟩
  try dsimp only [cxOf, Cx.nox, Cx.wish]
  rintro S ds ⟨i, rfl, q⟩
  show Goes S [] (nEnd S) _ [some (.int i)] S.C0
  refine g_ret ?_ Cov.refl
  walk_at "pf"
  refine c_isi (b := true) rfl (by decide +kernel) ?_
  walk_at "pf"
  refine c_isi (b := false) rfl (by decide +kernel) ?_
  walk_at "pf"
  exact q
theorem smW {p q : Rat} (hp : Sm p) (hq : Sm q) : CMulW p.num q.den ∧ CMulW p.num q.num ∧ CMulW (p.den : Int) q.den ∧ CMulW (p.den : Int) q.num := by
  have h1 : ((p.den : Int)).natAbs < 2 ^ 4000 := by rw [Int.natAbs_natCast]; exact hp.2
  have h2 : ((q.den : Int)).natAbs < 2 ^ 4000 := by rw [Int.natAbs_natCast]; exact hq.2
  exact ⟨wide_mul hp.1 h2 (by decide) (by decide) (by decide), wide_mul hp.1 hq.1 (by decide) (by decide) (by decide), wide_mul h1 h2 (by decide) (by decide) (by decide), wide_mul h1 hq.1 (by decide) (by decide) (by decide)⟩
theorem smB {p q : Rat} (hp : Sm p) (hq : Sm q) : (p.num * (q.den : Int)).natAbs < 2 ^ 8000 ∧ (p.num * q.num).natAbs < 2 ^ 8000 ∧ p.den * q.den < 2 ^ 8000 ∧ ((p.den : Int) * q.num).natAbs < 2 ^ 8000 := by
  have h1 : ((p.den : Int)).natAbs < 2 ^ 4000 := by rw [Int.natAbs_natCast]; exact hp.2
  have h2 : ((q.den : Int)).natAbs < 2 ^ 4000 := by rw [Int.natAbs_natCast]; exact hq.2
  refine ⟨wide_lt (a := 4000) (b := 4000) hp.1 h2, wide_lt (a := 4000) (b := 4000) hp.1 hq.1, ?_, wide_lt (a := 4000) (b := 4000) h1 hq.1⟩
  have := wide_lt (a := 4000) (b := 4000) h1 h2
  rw [← Int.natCast_mul, Int.natAbs_natCast] at this
  exact this
theorem up8900 {n : Nat} (h : n < 2 ^ 8000) : n < 2 ^ 8900 := Nat.lt_of_lt_of_le h (Nat.pow_le_pow_right (by decide) (by decide))
theorem up2 {a b : Int} (ha : a.natAbs < 2 ^ 8000) (hb : b.natAbs < 2 ^ 8000) : (a + b).natAbs < 2 ^ 8900 ∧ (a - b).natAbs < 2 ^ 8900 := by
  have h : (2 : Nat) ^ 8001 ≤ 2 ^ 8900 := Nat.pow_le_pow_right (by decide) (by decide)
  have e : (2 : Nat) ^ 8001 = 2 ^ 8000 + 2 ^ 8000 := by rw [Nat.pow_succ]; omega
  generalize (2 : Nat) ^ 8000 = x at ha hb e
  generalize (2 : Nat) ^ 8900 = y at h ⊢
  omega
def pPlus : PT_ := fun Γ ds R => ∃ p q, ds = [fr p, fr q] ∧ Sm p ∧ Sm q ∧ R (fr (p + q))
def pLess : PT_ := fun Γ ds R => ∃ p q, ds = [fr p, fr q] ∧ Sm p ∧ Sm q ∧ R (fr (p - q))
def pTimes : PT_ := fun Γ ds R => ∃ p q, ds = [fr p, fr q] ∧ Sm p ∧ Sm q ∧ R (fr (p * q))
def pOver : PT_ := fun Γ ds R => ∃ p q, ds = [fr p, fr q] ∧ Sm p ∧ Sm q ∧ 0 < q ∧ R (fr (p / q))
def pBelow : PT_ := fun Γ ds R => ∃ p q, ds = [fr p, fr q] ∧ Sm p ∧ Sm q ∧ R (.bl (decide (p < q)))
abbrev N_plus : List Str := ["one", "other"]
theorem sc_plus : FnScope N_plus ["one", "other"] (defScope s_plus) := ⟨rfl, rfl, rfl, by decide +kernel, rfl, by decide +kernel, by decide +kernel⟩
theorem ok_plus {P : Program} {w : World} {K : PySem.W.Frag} {mg : Str → Option Value} {base : Heap} {aN aO CP CL : Addr} (T : Tp K mg aN aO CP CL)  (F_cut : Fk P w K mg base "cut" ["top", "bottom"] 2 (SpG K (pCut))) {f : Addr} {fd : FuncData} (F : FunD K "plus" "plus" (defArgs s_plus) (defBody s_plus) (defScope s_plus) [] [] f fd) : FnOk P w K mg base CX0 3 f fd ["one", "other"] (SpG K (pPlus)) := by
  refine okG F sc_plus (by intro Γ ds R h; repeat' (first | (obtain ⟨e, _⟩ := h; subst e; rfl) | (obtain ⟨_, h⟩ := h))) (fun cdv A outer s H E hr => ?_)
  refine ⟨_, (pss_one (ps_ret (pe_F F_cut (hr.mono (by decide)) rfl (pa_cons (pe_op (op_plusK (K := K) rfl) (pe_op op_mulW (pe_ix (ix_seqK (K := K) rfl) (pv 0) pe_int (fun _ _ => rfl)) (pe_ix (ix_seqK (K := K) rfl) (pv 1) pe_int (fun _ _ => rfl))) (pe_op op_mulW (pe_ix (ix_seqK (K := K) rfl) (pv 1) pe_int (fun _ _ => rfl)) (pe_ix (ix_seqK (K := K) rfl) (pv 0) pe_int (fun _ _ => rfl)))) (pa_cons (pe_op op_mulW (pe_ix (ix_seqK (K := K) rfl) (pv 0) pe_int (fun _ _ => rfl)) (pe_ix (ix_seqK (K := K) rfl) (pv 1) pe_int (fun _ _ => rfl))) pa_nil))))), ?_⟩
  try dsimp only [cxOf, Cx.nox, Cx.wish]
  rintro S ds ⟨p, q, rfl, hp, hq, hR⟩
  show Goes S [] (nEnd S) _ [some (.tup [.int p.num, .int (p.den : Int)]), some (.tup [.int q.num, .int (q.den : Int)])] S.C0
  refine g_ret ?_ Cov.refl
  walk_at "pf"
  refine o_mulW (smW hp hq).1 ?_
  walk_at "pf"
  refine o_mulW (smW hq hp).1 ?_
  walk_at "pf"
  refine o_mulW (smW hp hq).2.2.1 ?_
  walk_at "pf"
  exact ⟨_, p.den * q.den, rfl, Nat.mul_pos p.den_pos q.den_pos, (up2 (smB hp hq).1 (smB hq hp).1).1, up8900 (smB hp hq).2.2.1, by rw [← Rat.add_def']; exact hR⟩
abbrev N_less : List Str := ["one", "other"]
theorem sc_less : FnScope N_less ["one", "other"] (defScope s_less) := ⟨rfl, rfl, rfl, by decide +kernel, rfl, by decide +kernel, by decide +kernel⟩
theorem ok_less {P : Program} {w : World} {K : PySem.W.Frag} {mg : Str → Option Value} {base : Heap} {aN aO CP CL : Addr} (T : Tp K mg aN aO CP CL)  (F_cut : Fk P w K mg base "cut" ["top", "bottom"] 2 (SpG K (pCut))) {f : Addr} {fd : FuncData} (F : FunD K "less" "less" (defArgs s_less) (defBody s_less) (defScope s_less) [] [] f fd) : FnOk P w K mg base CX0 3 f fd ["one", "other"] (SpG K (pLess)) := by
  refine okG F sc_less (by intro Γ ds R h; repeat' (first | (obtain ⟨e, _⟩ := h; subst e; rfl) | (obtain ⟨_, h⟩ := h))) (fun cdv A outer s H E hr => ?_)
  refine ⟨_, (pss_one (ps_ret (pe_F F_cut (hr.mono (by decide)) rfl (pa_cons (pe_op op_sub (pe_op op_mulW (pe_ix (ix_seqK (K := K) rfl) (pv 0) pe_int (fun _ _ => rfl)) (pe_ix (ix_seqK (K := K) rfl) (pv 1) pe_int (fun _ _ => rfl))) (pe_op op_mulW (pe_ix (ix_seqK (K := K) rfl) (pv 1) pe_int (fun _ _ => rfl)) (pe_ix (ix_seqK (K := K) rfl) (pv 0) pe_int (fun _ _ => rfl)))) (pa_cons (pe_op op_mulW (pe_ix (ix_seqK (K := K) rfl) (pv 0) pe_int (fun _ _ => rfl)) (pe_ix (ix_seqK (K := K) rfl) (pv 1) pe_int (fun _ _ => rfl))) pa_nil))))), ?_⟩
  try dsimp only [cxOf, Cx.nox, Cx.wish]
  rintro S ds ⟨p, q, rfl, hp, hq, hR⟩
  show Goes S [] (nEnd S) _ [some (.tup [.int p.num, .int (p.den : Int)]), some (.tup [.int q.num, .int (q.den : Int)])] S.C0
  refine g_ret ?_ Cov.refl
  walk_at "pf"
  refine o_mulW (smW hp hq).1 ?_
  walk_at "pf"
  refine o_mulW (smW hq hp).1 ?_
  walk_at "pf"
  refine o_mulW (smW hp hq).2.2.1 ?_
  walk_at "pf"
  exact ⟨_, p.den * q.den, rfl, Nat.mul_pos p.den_pos q.den_pos, (up2 (smB hp hq).1 (smB hq hp).1).2, up8900 (smB hp hq).2.2.1, by rw [← Rat.sub_def']; exact hR⟩
abbrev N_times : List Str := ["one", "other"]
theorem sc_times : FnScope N_times ["one", "other"] (defScope s_times) := ⟨rfl, rfl, rfl, by decide +kernel, rfl, by decide +kernel, by decide +kernel⟩
theorem ok_times {P : Program} {w : World} {K : PySem.W.Frag} {mg : Str → Option Value} {base : Heap} {aN aO CP CL : Addr} (T : Tp K mg aN aO CP CL)  (F_cut : Fk P w K mg base "cut" ["top", "bottom"] 2 (SpG K (pCut))) {f : Addr} {fd : FuncData} (F : FunD K "times" "times" (defArgs s_times) (defBody s_times) (defScope s_times) [] [] f fd) : FnOk P w K mg base CX0 3 f fd ["one", "other"] (SpG K (pTimes)) := by
  refine okG F sc_times (by intro Γ ds R h; repeat' (first | (obtain ⟨e, _⟩ := h; subst e; rfl) | (obtain ⟨_, h⟩ := h))) (fun cdv A outer s H E hr => ?_)
  refine ⟨_, (pss_one (ps_ret (pe_F F_cut (hr.mono (by decide)) rfl (pa_cons (pe_op op_mulW (pe_ix (ix_seqK (K := K) rfl) (pv 0) pe_int (fun _ _ => rfl)) (pe_ix (ix_seqK (K := K) rfl) (pv 1) pe_int (fun _ _ => rfl))) (pa_cons (pe_op op_mulW (pe_ix (ix_seqK (K := K) rfl) (pv 0) pe_int (fun _ _ => rfl)) (pe_ix (ix_seqK (K := K) rfl) (pv 1) pe_int (fun _ _ => rfl))) pa_nil))))), ?_⟩
  try dsimp only [cxOf, Cx.nox, Cx.wish]
  rintro S ds ⟨p, q, rfl, hp, hq, hR⟩
  show Goes S [] (nEnd S) _ [some (.tup [.int p.num, .int (p.den : Int)]), some (.tup [.int q.num, .int (q.den : Int)])] S.C0
  refine g_ret ?_ Cov.refl
  walk_at "pf"
  refine o_mulW (smW hp hq).2.1 ?_
  walk_at "pf"
  refine o_mulW (smW hp hq).2.2.1 ?_
  walk_at "pf"
  exact ⟨_, p.den * q.den, rfl, Nat.mul_pos p.den_pos q.den_pos, up8900 (smB hp hq).2.1, up8900 (smB hp hq).2.2.1, by rw [← Rat.mul_def']; exact hR⟩
theorem div_mk {p q : Rat} (hq : 0 < q) : p / q = mkRat (p.num * (q.den : Int)) (p.den * q.num.natAbs) := by
  have hn : 0 < q.num := by
    have := (Rat.lt_iff 0 q).mp hq
    simpa using this
  obtain ⟨n, hn2⟩ : ∃ n : Nat, q.num = (n : Int) := ⟨q.num.natAbs, by omega⟩
  rw [Rat.div_def, Rat.inv_def, hn2, Rat.divInt_ofNat]
  conv => lhs; rw [← Rat.mkRat_self p]
  rw [Rat.mkRat_mul_mkRat, Int.natAbs_natCast]
theorem num_pos {q : Rat} (hq : 0 < q) : 0 < q.num := by
  have := (Rat.lt_iff 0 q).mp hq
  simpa using this
abbrev N_over : List Str := ["one", "other"]
theorem sc_over : FnScope N_over ["one", "other"] (defScope s_over) := ⟨rfl, rfl, rfl, by decide +kernel, rfl, by decide +kernel, by decide +kernel⟩
theorem ok_over {P : Program} {w : World} {K : PySem.W.Frag} {mg : Str → Option Value} {base : Heap} {aN aO CP CL : Addr} (T : Tp K mg aN aO CP CL)  (F_cut : Fk P w K mg base "cut" ["top", "bottom"] 2 (SpG K (pCut))) {f : Addr} {fd : FuncData} (F : FunD K "over" "over" (defArgs s_over) (defBody s_over) (defScope s_over) [] [] f fd) : FnOk P w K mg base CX0 3 f fd ["one", "other"] (SpG K (pOver)) := by
  refine okG F sc_over (by intro Γ ds R h; repeat' (first | (obtain ⟨e, _⟩ := h; subst e; rfl) | (obtain ⟨_, h⟩ := h))) (fun cdv A outer s H E hr => ?_)
  refine ⟨_, (pss_cons (ps_if (pt_cmpR op_lt (pe_ix (ix_seqK (K := K) rfl) (pv 1) pe_int (fun _ _ => rfl)) pe_int (nomark _)) 
          (pss_one (ps_ret (pe_F F_cut (hr.mono (by decide)) rfl (pa_cons (pe_op op_mulW (pe_un un_neg (pe_ix (ix_seqK (K := K) rfl) (pv 0) pe_int (fun _ _ => rfl))) (pe_ix (ix_seqK (K := K) rfl) (pv 1) pe_int (fun _ _ => rfl))) (pa_cons (pe_op op_mulW (pe_un un_neg (pe_ix (ix_seqK (K := K) rfl) (pv 0) pe_int (fun _ _ => rfl))) (pe_ix (ix_seqK (K := K) rfl) (pv 1) pe_int (fun _ _ => rfl))) pa_nil))))) pss_nil)
      (pss_one (ps_ret (pe_F F_cut (hr.mono (by decide)) rfl (pa_cons (pe_op op_mulW (pe_ix (ix_seqK (K := K) rfl) (pv 0) pe_int (fun _ _ => rfl)) (pe_ix (ix_seqK (K := K) rfl) (pv 1) pe_int (fun _ _ => rfl))) (pa_cons (pe_op op_mulW (pe_ix (ix_seqK (K := K) rfl) (pv 0) pe_int (fun _ _ => rfl)) (pe_ix (ix_seqK (K := K) rfl) (pv 1) pe_int (fun _ _ => rfl))) pa_nil)))))), ?_⟩
  try dsimp only [cxOf, Cx.nox, Cx.wish]
  rintro S ds ⟨p, q, rfl, hp, hq, h0, hR⟩
  have hn := num_pos h0
  show Goes S [] (nEnd S) _ [some (.tup [.int p.num, .int (p.den : Int)]), some (.tup [.int q.num, .int (q.den : Int)])] S.C0
  walk_at "pf"
  rw [if_neg (by rw [decide_eq_true_eq]; omega)]
  walk_at "pf"
  refine g_ret ?_ Cov.refl
  walk_at "pf"
  refine o_mulW (smW hp hq).1 ?_
  walk_at "pf"
  refine o_mulW (smW hp hq).2.2.2 ?_
  walk_at "pf"
  have e : (p.den : Int) * q.num = ((p.den * q.num.natAbs : Nat) : Int) := by rw [Int.natCast_mul]; congr 1; omega
  have hb := (smB hp hq).2.2.2
  rw [e, Int.natAbs_natCast] at hb
  exact ⟨_, p.den * q.num.natAbs, by rw [e], Nat.mul_pos p.den_pos (by omega), up8900 (smB hp hq).1, up8900 hb, by rw [← div_mk h0]; exact hR⟩
abbrev N_is_below : List Str := ["one", "other"]
theorem sc_is_below : FnScope N_is_below ["one", "other"] (defScope s_is_below) := ⟨rfl, rfl, rfl, by decide +kernel, rfl, by decide +kernel, by decide +kernel⟩
theorem ok_is_below {P : Program} {w : World} {K : PySem.W.Frag} {mg : Str → Option Value} {base : Heap} {aN aO CP CL : Addr} (T : Tp K mg aN aO CP CL)   {f : Addr} {fd : FuncData} (F : FunD K "is_below" "is_below" (defArgs s_is_below) (defBody s_is_below) (defScope s_is_below) [] [] f fd) : FnOk P w K mg base CX0 1 f fd ["one", "other"] (SpG K (pBelow)) := by
  refine okG F sc_is_below (by intro Γ ds R h; repeat' (first | (obtain ⟨e, _⟩ := h; subst e; rfl) | (obtain ⟨_, h⟩ := h))) (fun cdv A outer s H E hr => ?_)
  refine ⟨_, (pss_one (ps_ret (pe_cmpR op_lt (pe_op op_mulW (pe_ix (ix_seqK (K := K) rfl) (pv 0) pe_int (fun _ _ => rfl)) (pe_ix (ix_seqK (K := K) rfl) (pv 1) pe_int (fun _ _ => rfl))) (pe_op op_mulW (pe_ix (ix_seqK (K := K) rfl) (pv 1) pe_int (fun _ _ => rfl)) (pe_ix (ix_seqK (K := K) rfl) (pv 0) pe_int (fun _ _ => rfl))) (nomark _)))), ?_⟩
  try dsimp only [cxOf, Cx.nox, Cx.wish]
  rintro S ds ⟨p, q, rfl, hp, hq, hR⟩
  show Goes S [] (nEnd S) _ [some (.tup [.int p.num, .int (p.den : Int)]), some (.tup [.int q.num, .int (q.den : Int)])] S.C0
  refine g_ret ?_ Cov.refl
  walk_at "pf"
  refine o_mulW (smW hp hq).1 ?_
  walk_at "pf"
  refine o_mulW (smW hq hp).1 ?_
  walk_at "pf"
  rw [show decide (p.num * (q.den : Int) < q.num * (p.den : Int)) = decide (p < q) from by simp only [Rat.lt_iff]]
  exact hR
def pWhole : PT_ := fun Γ ds R => ∃ i : Int, ds = [.int i] ∧ R (fr (i : Rat))
abbrev N_whole : List Str := ["number"]
theorem sc_whole : FnScope N_whole ["number"] (defScope s_whole) := ⟨rfl, rfl, rfl, by decide +kernel, rfl, by decide +kernel, by decide +kernel⟩
theorem ok_whole {P : Program} {w : World} {K : PySem.W.Frag} {mg : Str → Option Value} {base : Heap} {aN aO CP CL : Addr} (T : Tp K mg aN aO CP CL)   {f : Addr} {fd : FuncData} (F : FunD K "whole" "whole" (defArgs s_whole) (defBody s_whole) (defScope s_whole) [] [] f fd) : FnOk P w K mg base CX0 1 f fd ["number"] (SpG K (pWhole)) := by
  refine okG F sc_whole (by intro Γ ds R h; repeat' (first | (obtain ⟨e, _⟩ := h; subst e; rfl) | (obtain ⟨_, h⟩ := h))) (fun cdv A outer s H E hr => ?_)
  refine ⟨_, (pss_one (ps_ret (pe_tup (pa_cons (pv 0) (pa_cons pe_int pa_nil))))), ?_⟩
  try dsimp only [cxOf, Cx.nox, Cx.wish]
  rintro S ds ⟨i, rfl, hR⟩
  show Goes S [] (nEnd S) _ [some (.int i)] S.C0
  refine g_ret (w_tup ?_) Cov.refl
  walk_at "pf"
  exact ⟨by simp, hR⟩
end PF
end
section
set_option Elab.async false
set_option linter.all false
set_option maxRecDepth 100000
set_option maxHeartbeats 2000000
namespace PF
open PySem PySem.Spec L2 RZ
local macro_rules | `(tactic| walk_at "pf1") => `(tactic| first
  | ((with_reducible refine' w_var ?pfh ?_); (case pfh => rfl))
  | with_reducible refine w_int ?_
  | with_reducible refine w_ty ?_
  | with_reducible refine w_op ?_
  | with_reducible refine w_cb ?_
  | with_reducible refine w_call ?_
  | with_reducible refine a_cons ?_
  | with_reducible refine a_nil ?_
  | with_reducible refine o_sub ?_
  | with_reducible refine o_plusI ?_
  | ((with_reducible refine' o_ixTu ?pfh ?_); (case pfh => rfl))
  | ((with_reducible refine' o_ixLi ?pfh ?_); (case pfh => rfl))
  | ((with_reducible refine' o_ixKe ?pfh ?_); (case pfh => rfl))
  | with_reducible refine w_bl ?_
  | with_reducible refine w_non ?_
  | with_reducible refine w_str ?_
  | with_reducible refine w_un ?_
  | with_reducible refine w_fld ?_
  | with_reducible refine w_meth ?_
  | with_reducible refine t_test ?_
  | with_reducible refine t_B ?_
  | with_reducible refine t_and ?_
  | with_reducible refine t_or ?_
  | with_reducible refine t_not ?_
  | with_reducible refine w_andV ?_
  | with_reducible refine w_orV ?_
  | with_reducible refine w_notV ?_
  | with_reducible refine w_if ?_
  | with_reducible refine w_chain ?_
  | with_reducible refine o_lt ?_
  | with_reducible refine o_gt ?_
  | with_reducible refine o_le ?_
  | with_reducible refine o_ge ?_
  | with_reducible refine o_equI ?_
  | with_reducible refine o_neqI ?_
  | with_reducible refine o_neg ?_
  | with_reducible refine c_abs ?_
  | with_reducible refine c_int ?_
  | with_reducible refine g_asg ?_
  | with_reducible refine g_drop ?_
  | with_reducible refine g_if ?_
  | with_reducible refine g_next ?_
  | with_reducible refine g_assoc ?_
  | with_reducible refine g_retS ?_
  | with_reducible refine exbl ?_
  | with_reducible refine tT ?_
  | with_reducible refine tF ?_
  | with_reducible refine tNT ?_
  | with_reducible refine tNF ?_
  | ((with_reducible refine' ifpB ?pfh ?_); (case pfh => rfl))
  | ((with_reducible refine' ifnB ?pfh ?_); (case pfh => rfl)))
local macro_rules | `(tactic| walk_at "fl") => `(tactic| first
  | refine ⟨_, _, _, rfl, Tp.cl_Plank ‹_›, Tp.n_long ‹_›, rfl, ?_⟩
  | refine ⟨_, _, _, rfl, Tp.cl_Plank ‹_›, Tp.n_stakes ‹_›, rfl, ?_⟩
  | refine ⟨_, _, _, rfl, Tp.cl_Plank ‹_›, Tp.n_limit ‹_›, rfl, ?_⟩
  | refine ⟨_, _, _, rfl, Tp.cl_Loads ‹_›, Tp.n_plank ‹_›, rfl, ?_⟩
  | refine ⟨_, _, _, rfl, Tp.cl_Loads ‹_›, Tp.n_weights ‹_›, rfl, ?_⟩
  | refine ⟨_, _, _, rfl, Tp.cl_Loads ‹_›, Tp.n_known ‹_›, rfl, ?_⟩
  | refine ⟨_, _, _, rfl, Tp.cl_Loads ‹_›, Tp.n_over ‹_›, rfl, ?_⟩)
local macro_rules | `(tactic| walk_at "pf") => `(tactic| repeat (walk_at "pf1"))

theorem map_get {α : Type} {f : α → D} {xs : List α} {i : Nat} {d : D} (h : (xs.map f)[i]? = some d) : ∃ x, xs[i]? = some x ∧ d = f x := by
  rw [List.getElem?_map] at h
  cases e : xs[i]? with
  | none => rw [e] at h; cases h
  | some x => rw [e] at h; exact ⟨x, rfl, (Option.some.inj h).symm⟩
theorem take_succ {α : Type} {xs : List α} {i : Nat} {x : α} (h : xs[i]? = some x) : xs.take (i + 1) = xs.take i ++ [x] := by
  rw [List.take_add_one, h]; rfl
def sumQ (qs : List Rat) : Rat := qs.foldl (· + ·) 0
theorem sumQ_snoc (qs : List Rat) (q : Rat) : sumQ (qs ++ [q]) = sumQ qs + q := by unfold sumQ; rw [List.foldl_append]; rfl
def pSum : PT_ := fun Γ ds R => ∃ qs : List Rat, ds = [.lst (qs.map fr)] ∧ (∀ q ∈ qs, Sm q) ∧ (∀ i, Sm (sumQ (qs.take i))) ∧ R (fr (sumQ qs))
abbrev N_sum_of : List Str := ["some", "found", "one"]
theorem sc_sum_of : FnScope N_sum_of ["some"] (defScope s_sum_of) := ⟨rfl, rfl, rfl, by decide +kernel, rfl, by decide +kernel, by decide +kernel⟩
theorem ok_sum_of {P : Program} {w : World} {K : PySem.W.Frag} {mg : Str → Option Value} {base : Heap} {aN aO CP CL : Addr} (T : Tp K mg aN aO CP CL)  (F_plus : Fk P w K mg base "plus" ["one", "other"] 3 (SpG K (pPlus))) {f : Addr} {fd : FuncData} (F : FunD K "sum_of" "sum_of" (defArgs s_sum_of) (defBody s_sum_of) (defScope s_sum_of) [] [] f fd) : FnOk P w K mg base CX0 4 f fd ["some"] (SpG K (pSum)) := by
  refine okG F sc_sum_of (by intro Γ ds R h; repeat' (first | (obtain ⟨e, _⟩ := h; subst e; rfl) | (obtain ⟨_, h⟩ := h))) (fun cdv A outer s H E hr => ?_)
  refine ⟨_, (pss_cons (ps_set (i := 1) sc_sum_of.nd rfl (by first | exact Or.inl rfl | exact Or.inr rfl) (pe_gref rfl T.g_NOUGHT))
      (pss_cons (ps_for PassesOwn.never rfl (pi_listK (K := K) rfl (pv 0)) (pg_name (i := 2) sc_sum_of.nd rfl (by first | exact Or.inl rfl | exact Or.inr rfl)) 
          (pss_one (ps_set (i := 1) sc_sum_of.nd rfl (by first | exact Or.inl rfl | exact Or.inr rfl) (pe_F F_plus (hr.mono (by decide)) rfl (pa_cons (pv 1) (pa_cons (pv 2) pa_nil))))))
      (pss_one (ps_ret (pv 1))))), ?_⟩
  try dsimp only [cxOf, Cx.nox, Cx.wish]
  rintro S ds ⟨qs, rfl, h1, h2, hR⟩
  show Goes S [] (nEnd S) _ [some (.lst (qs.map fr)), none, none] S.C0
  walk_at "pf"
  refine w_gtup T.t_NOUGHT ?_
  refine g_for (i_list (w_var rfl ⟨_, rfl, fun i ρ Γ => ∃ x, ρ = [some (.lst (qs.map fr)), some (fr (sumQ (qs.take i))), x] ∧ Γ = S.C0, ⟨_, rfl, rfl⟩, ?_, ?_⟩))
  · rintro i d ρ Γ B1 hd ⟨x, rfl, rfl⟩
    obtain ⟨q, hq, rfl⟩ := map_get hd
    refine gw_name trivial (g_one ?_)
    walk_at "pf"
    refine ⟨_, _, rfl, h2 i, h1 q (List.mem_of_getElem? hq), g_done ⟨some (fr q), ?_, rfl⟩⟩
    rw [take_succ hq, sumQ_snoc]
    rfl
  · rintro ρ Γ ⟨x, rfl, rfl⟩
    refine g_ret (w_var rfl ?_) Cov.refl
    rw [List.length_map, List.take_length]
    exact hR
def maxQ (q0 : Rat) (qs : List Rat) : Rat := qs.foldl (fun f q => if f < q then q else f) q0
def minQ (q0 : Rat) (qs : List Rat) : Rat := qs.foldl (fun f q => if q < f then q else f) q0
theorem maxQ_snoc (q0 : Rat) (qs : List Rat) (q : Rat) : maxQ q0 (qs ++ [q]) = if maxQ q0 qs < q then q else maxQ q0 qs := by unfold maxQ; rw [List.foldl_append]; rfl
theorem minQ_snoc (q0 : Rat) (qs : List Rat) (q : Rat) : minQ q0 (qs ++ [q]) = if q < minQ q0 qs then q else minQ q0 qs := by unfold minQ; rw [List.foldl_append]; rfl
theorem maxQ_mem {P : Rat → Prop} {q0 : Rat} (h0 : P q0) : ∀ {qs : List Rat}, (∀ q ∈ qs, P q) → P (maxQ q0 qs) := by
  intro qs
  induction qs generalizing q0 with
  | nil => intro _; exact h0
  | cons q qs ih =>
    intro h
    show P (maxQ (if q0 < q then q else q0) qs)
    refine ih ?_ fun x hx => h x (List.mem_cons_of_mem _ hx)
    split
    · exact h q List.mem_cons_self
    · exact h0
theorem minQ_mem {P : Rat → Prop} {q0 : Rat} (h0 : P q0) : ∀ {qs : List Rat}, (∀ q ∈ qs, P q) → P (minQ q0 qs) := by
  intro qs
  induction qs generalizing q0 with
  | nil => intro _; exact h0
  | cons q qs ih =>
    intro h
    show P (minQ (if q < q0 then q else q0) qs)
    refine ih ?_ fun x hx => h x (List.mem_cons_of_mem _ hx)
    split
    · exact h q List.mem_cons_self
    · exact h0
def pGreatest : PT_ := fun Γ ds R => ∃ q0 qs, ds = [.lst ((q0 :: qs).map fr)] ∧ (∀ q ∈ q0 :: qs, Sm q) ∧ R (fr (maxQ q0 (q0 :: qs)))
def pLeast : PT_ := fun Γ ds R => ∃ q0 qs, ds = [.lst ((q0 :: qs).map fr)] ∧ (∀ q ∈ q0 :: qs, Sm q) ∧ R (fr (minQ q0 (q0 :: qs)))
abbrev N_greatest : List Str := ["some", "found", "one"]
theorem sc_greatest : FnScope N_greatest ["some"] (defScope s_greatest) := ⟨rfl, rfl, rfl, by decide +kernel, rfl, by decide +kernel, by decide +kernel⟩
theorem ok_greatest {P : Program} {w : World} {K : PySem.W.Frag} {mg : Str → Option Value} {base : Heap} {aN aO CP CL : Addr} (T : Tp K mg aN aO CP CL)  (F_is_below : Fk P w K mg base "is_below" ["one", "other"] 1 (SpG K (pBelow))) {f : Addr} {fd : FuncData} (F : FunD K "greatest" "greatest" (defArgs s_greatest) (defBody s_greatest) (defScope s_greatest) [] [] f fd) : FnOk P w K mg base CX0 2 f fd ["some"] (SpG K (pGreatest)) := by
  refine okG F sc_greatest (by intro Γ ds R h; repeat' (first | (obtain ⟨e, _⟩ := h; subst e; rfl) | (obtain ⟨_, h⟩ := h))) (fun cdv A outer s H E hr => ?_)
  refine ⟨_, (pss_cons (ps_set (i := 1) sc_greatest.nd rfl (by first | exact Or.inl rfl | exact Or.inr rfl) (pe_ix (ix_seqK (K := K) rfl) (pv 0) pe_int (fun _ _ => rfl)))
      (pss_cons (ps_for PassesOwn.never rfl (pi_listK (K := K) rfl (pv 0)) (pg_name (i := 2) sc_greatest.nd rfl (by first | exact Or.inl rfl | exact Or.inr rfl)) 
          (pss_one (ps_set (i := 1) sc_greatest.nd rfl (by first | exact Or.inl rfl | exact Or.inr rfl) (pe_ifExp (pt_val (pe_F F_is_below (hr.mono (by decide)) rfl (pa_cons (pv 1) (pa_cons (pv 2) pa_nil))) (by intro _; rfl)) (pv 2) (pv 1)))))
      (pss_one (ps_ret (pv 1))))), ?_⟩
  try dsimp only [cxOf, Cx.nox, Cx.wish]
  rintro S ds ⟨q0, qs, rfl, h1, hR⟩
  show Goes S [] (nEnd S) _ [some (.lst ((q0 :: qs).map fr)), none, none] S.C0
  walk_at "pf"
  refine o_ixLi (d := fr q0) atI_zero ?_
  walk_at "pf"
  refine g_for (i_list (w_var rfl ⟨_, rfl, fun i ρ Γ => ∃ x, ρ = [some (.lst ((q0 :: qs).map fr)), some (fr (maxQ q0 ((q0 :: qs).take i))), x] ∧ Γ = S.C0, ⟨_, rfl, rfl⟩, ?_, ?_⟩))
  · rintro i d ρ Γ B1 hd ⟨x, rfl, rfl⟩
    obtain ⟨q, hq, rfl⟩ := map_get hd
    refine gw_name trivial (g_one ?_)
    walk_at "pf"
    have hm : Sm (maxQ q0 ((q0 :: qs).take i)) := maxQ_mem (h1 q0 List.mem_cons_self) fun y hy => h1 y (List.mem_of_mem_take hy)
    refine ⟨_, _, rfl, hm, h1 q (List.mem_of_getElem? hq), ?_⟩
    refine ⟨_, rfl, ?_⟩
    by_cases hc : maxQ q0 ((q0 :: qs).take i) < q
    · rw [if_pos (decide_eq_true hc)]
      walk_at "pf"
      refine g_done ⟨some (fr q), ?_, rfl⟩
      rw [take_succ hq, maxQ_snoc, if_pos hc]
      rfl
    · rw [if_neg (by rw [decide_eq_true_eq]; exact hc)]
      walk_at "pf"
      refine g_done ⟨some (fr q), ?_, rfl⟩
      rw [take_succ hq, maxQ_snoc, if_neg hc]
      rfl
  · rintro ρ Γ ⟨x, rfl, rfl⟩
    refine g_ret (w_var rfl ?_) Cov.refl
    rw [List.length_map, List.take_length]
    exact hR
abbrev N_least : List Str := ["some", "found", "one"]
theorem sc_least : FnScope N_least ["some"] (defScope s_least) := ⟨rfl, rfl, rfl, by decide +kernel, rfl, by decide +kernel, by decide +kernel⟩
theorem ok_least {P : Program} {w : World} {K : PySem.W.Frag} {mg : Str → Option Value} {base : Heap} {aN aO CP CL : Addr} (T : Tp K mg aN aO CP CL)  (F_is_below : Fk P w K mg base "is_below" ["one", "other"] 1 (SpG K (pBelow))) {f : Addr} {fd : FuncData} (F : FunD K "least" "least" (defArgs s_least) (defBody s_least) (defScope s_least) [] [] f fd) : FnOk P w K mg base CX0 2 f fd ["some"] (SpG K (pLeast)) := by
  refine okG F sc_least (by intro Γ ds R h; repeat' (first | (obtain ⟨e, _⟩ := h; subst e; rfl) | (obtain ⟨_, h⟩ := h))) (fun cdv A outer s H E hr => ?_)
  refine ⟨_, (pss_cons (ps_set (i := 1) sc_least.nd rfl (by first | exact Or.inl rfl | exact Or.inr rfl) (pe_ix (ix_seqK (K := K) rfl) (pv 0) pe_int (fun _ _ => rfl)))
      (pss_cons (ps_for PassesOwn.never rfl (pi_listK (K := K) rfl (pv 0)) (pg_name (i := 2) sc_least.nd rfl (by first | exact Or.inl rfl | exact Or.inr rfl)) 
          (pss_one (ps_set (i := 1) sc_least.nd rfl (by first | exact Or.inl rfl | exact Or.inr rfl) (pe_ifExp (pt_val (pe_F F_is_below (hr.mono (by decide)) rfl (pa_cons (pv 2) (pa_cons (pv 1) pa_nil))) (by intro _; rfl)) (pv 2) (pv 1)))))
      (pss_one (ps_ret (pv 1))))), ?_⟩
  try dsimp only [cxOf, Cx.nox, Cx.wish]
  rintro S ds ⟨q0, qs, rfl, h1, hR⟩
  show Goes S [] (nEnd S) _ [some (.lst ((q0 :: qs).map fr)), none, none] S.C0
  walk_at "pf"
  refine o_ixLi (d := fr q0) atI_zero ?_
  walk_at "pf"
  refine g_for (i_list (w_var rfl ⟨_, rfl, fun i ρ Γ => ∃ x, ρ = [some (.lst ((q0 :: qs).map fr)), some (fr (minQ q0 ((q0 :: qs).take i))), x] ∧ Γ = S.C0, ⟨_, rfl, rfl⟩, ?_, ?_⟩))
  · rintro i d ρ Γ B1 hd ⟨x, rfl, rfl⟩
    obtain ⟨q, hq, rfl⟩ := map_get hd
    refine gw_name trivial (g_one ?_)
    walk_at "pf"
    have hm : Sm (minQ q0 ((q0 :: qs).take i)) := minQ_mem (h1 q0 List.mem_cons_self) fun y hy => h1 y (List.mem_of_mem_take hy)
    refine ⟨_, _, rfl, h1 q (List.mem_of_getElem? hq), hm, ?_⟩
    refine ⟨_, rfl, ?_⟩
    by_cases hc : q < minQ q0 ((q0 :: qs).take i)
    · rw [if_pos (decide_eq_true hc)]
      walk_at "pf"
      refine g_done ⟨some (fr q), ?_, rfl⟩
      rw [take_succ hq, minQ_snoc, if_pos hc]
      rfl
    · rw [if_neg (by rw [decide_eq_true_eq]; exact hc)]
      walk_at "pf"
      refine g_done ⟨some (fr q), ?_, rfl⟩
      rw [take_succ hq, minQ_snoc, if_neg hc]
      rfl
  · rintro ρ Γ ⟨x, rfl, rfl⟩
    refine g_ret (w_var rfl ?_) Cov.refl
    rw [List.length_map, List.take_length]
    exact hR
def pIsFraction : PT_ := fun Γ ds R => ∃ q, ds = [fr q] ∧ R (.bl true)
abbrev N_is_fraction : List Str := ["thing", "one"]
theorem sc_is_fraction : FnScope N_is_fraction ["thing"] (defScope s_is_fraction) := ⟨rfl, rfl, rfl, by decide +kernel, rfl, by decide +kernel, by decide +kernel⟩
theorem ok_is_fraction {P : Program} {w : World} {K : PySem.W.Frag} {mg : Str → Option Value} {base : Heap} {aN aO CP CL : Addr} (T : Tp K mg aN aO CP CL)  (F_divisor : Fk P w K mg base "divisor" ["one", "other"] 1 (SpG K (pDivisor))) (F_is_whole : Fk P w K mg base "is_whole" ["thing"] 1 (SpG K (pIsWhole))) {f : Addr} {fd : FuncData} (F : FunD K "is_fraction" "is_fraction" (defArgs s_is_fraction) (defBody s_is_fraction) (defScope s_is_fraction) [] [] f fd) : FnOk P w K mg base CX0 2 f fd ["thing"] (SpG K (pIsFraction)) := by
  refine okG F sc_is_fraction (by intro Γ ds R h; repeat' (first | (obtain ⟨e, _⟩ := h; subst e; rfl) | (obtain ⟨_, h⟩ := h))) (fun cdv A outer s H E hr => ?_)
  refine ⟨_, (pss_cons (ps_if (PW.pt (pw_or (pt_not (pt_val (pe_callB (call_isiK' (K := K) rfl) (by rfl) T.b_isinstance bt_isinstance (pa_cons (pv 0) (pa_cons (pe_bltn (v := .ty "tuple") rfl T.b_tuple bt_tuple rfl) pa_nil))) (by intro _; rfl))) (pw_or (pt_cmpR (op_neqK (K := K) rfl hr.units) (pe_callB (call_len_seqK (K := K) rfl) (by rfl) T.b_len bt_len (pa_cons (pv 0) pa_nil)) pe_int (nomark _)) (pw_or1 (pt_not (pt_val (pe_callB (cr_allK (K := K) rfl rfl) (by rfl) T.b_all bt_all (pa_cons (pe_lc (own := [("one", 1)]) rfl sc_is_fraction.nd (pi_tupK (K := K) rfl (pv 0)) (blkOk_by (own := [("one", 1)]) (N := N_is_fraction) (sc := defScope s_is_fraction) (by decide +kernel)) (fun _ _ _ _ _ => (pg_name (i := 1) sc_is_fraction.nd rfl (by first | exact Or.inl rfl | exact Or.inr rfl))) (fun _ _ _ _ _ => pts_nil) (fun _ _ _ _ _ => (pe_F F_is_whole (hr.mono (by decide)) rfl (pa_cons (pv 1) pa_nil)))) pa_nil)) (by intro _; rfl))))))) 
          (pss_one (ps_ret pe_bl)) pss_nil)
      (pss_one (ps_ret (pe_and (pe_cmpR op_gt (pe_ix (ix_seqK (K := K) rfl) (pv 0) pe_int (fun _ _ => rfl)) pe_int (nomark _)) (pe_one (pe_cmpR (op_equK (K := K) rfl hr.units) (pe_F F_divisor (hr.mono (by decide)) rfl (pa_cons (pe_callB call_abs (by rfl) T.b_abs bt_abs (pa_cons (pe_ix (ix_seqK (K := K) rfl) (pv 0) pe_int (fun _ _ => rfl)) pa_nil)) (pa_cons (pe_ix (ix_seqK (K := K) rfl) (pv 0) pe_int (fun _ _ => rfl)) pa_nil))) pe_int (nomark _))))))), ?_⟩
  try dsimp only [cxOf, Cx.nox, Cx.wish]
  rintro S ds ⟨q, rfl, hR⟩
  show Goes S [] (nEnd S) _ [some (.tup [.int q.num, .int (q.den : Int)]), none] S.C0
  walk_at "pf"
  refine c_isi (b := true) rfl (by decide +kernel) ?_
  walk_at "pf"
  refine c_len (.inr rfl) ?_
  walk_at "pf"
  refine w_lc (i_tup (w_var rfl ⟨_, rfl, by simp, fun i acc => acc = List.replicate i (D.bl true), rfl, ?_, ?_⟩))
  · intro i d acc hd ha
    refine gw_name (by simp) (t_yes (tT ?_))
    walk_at "pf"
    match i, hd with
    | 0, rfl => exact ⟨_, rfl, by rw [ha]; rfl⟩
    | 1, rfl => exact ⟨_, rfl, by rw [ha]; rfl⟩
  · rintro acc rfl
    walk_at "pf"
    refine c_all (bs := [true, true]) ?_
    walk_at "pf"
    refine g_ret ?_ Cov.refl
    walk_at "pf"
    have hp := q.den_pos
    rw [if_pos (by rw [decide_eq_true_eq]; omega)]
    walk_at "pf"
    refine ⟨q.num.natAbs, q.den, rfl, ?_⟩
    walk_at "pf"
    rw [decide_eq_true (by rw [q.reduced]; rfl)]
    exact hR
def pIsMeasure : PT_ := fun Γ ds R => ∃ q, ds = [fr q] ∧ Sm q ∧ 0 ≤ q ∧ R (.bl true)
theorem sm0 : Sm 0 := ⟨Nat.two_pow_pos _, Nat.one_lt_two_pow (by decide)⟩
abbrev N_is_measure : List Str := ["thing"]
theorem sc_is_measure : FnScope N_is_measure ["thing"] (defScope s_is_measure) := ⟨rfl, rfl, rfl, by decide +kernel, rfl, by decide +kernel, by decide +kernel⟩
theorem ok_is_measure {P : Program} {w : World} {K : PySem.W.Frag} {mg : Str → Option Value} {base : Heap} {aN aO CP CL : Addr} (T : Tp K mg aN aO CP CL)  (F_is_below : Fk P w K mg base "is_below" ["one", "other"] 1 (SpG K (pBelow))) (F_is_fraction : Fk P w K mg base "is_fraction" ["thing"] 2 (SpG K (pIsFraction))) {f : Addr} {fd : FuncData} (F : FunD K "is_measure" "is_measure" (defArgs s_is_measure) (defBody s_is_measure) (defScope s_is_measure) [] [] f fd) : FnOk P w K mg base CX0 3 f fd ["thing"] (SpG K (pIsMeasure)) := by
  refine okG F sc_is_measure (by intro Γ ds R h; repeat' (first | (obtain ⟨e, _⟩ := h; subst e; rfl) | (obtain ⟨_, h⟩ := h))) (fun cdv A outer s H E hr => ?_)
  refine ⟨_, (pss_one (ps_ret (pe_and (pe_F F_is_fraction (hr.mono (by decide)) rfl (pa_cons (pv 0) pa_nil)) (pe_one (pe_not (pe_F F_is_below (hr.mono (by decide)) rfl (pa_cons (pv 0) (pa_cons (pe_gref rfl T.g_NOUGHT) pa_nil)))))))), ?_⟩
  try dsimp only [cxOf, Cx.nox, Cx.wish]
  rintro S ds ⟨q, rfl, hs, h0, hR⟩
  show Goes S [] (nEnd S) _ [some (fr q)] S.C0
  refine g_ret ?_ Cov.refl
  walk_at "pf"
  refine ⟨_, rfl, ?_⟩
  walk_at "pf"
  refine w_gtup T.t_NOUGHT ?_
  walk_at "pf"
  refine ⟨q, 0, rfl, hs, sm0, ?_⟩
  walk_at "pf"
  rw [decide_eq_false (Rat.not_lt.mpr h0)]
  exact hR
abbrev prD (p : Int × Rat) : D := .tup [.int p.1, fr p.2]
def pIsProp : PT_ := fun Γ ds R => ∃ p L, ds = [prD p, .int L] ∧ 0 < p.1 ∧ p.1 < L ∧ Sm p.2 ∧ 0 ≤ p.2 ∧ R (.bl true)
abbrev N_is_prop : List Str := ["thing", "length"]
theorem sc_is_prop : FnScope N_is_prop ["thing", "length"] (defScope s_is_prop) := ⟨rfl, rfl, rfl, by decide +kernel, rfl, by decide +kernel, by decide +kernel⟩
theorem ok_is_prop {P : Program} {w : World} {K : PySem.W.Frag} {mg : Str → Option Value} {base : Heap} {aN aO CP CL : Addr} (T : Tp K mg aN aO CP CL)  (F_is_measure : Fk P w K mg base "is_measure" ["thing"] 3 (SpG K (pIsMeasure))) (F_is_whole : Fk P w K mg base "is_whole" ["thing"] 1 (SpG K (pIsWhole))) {f : Addr} {fd : FuncData} (F : FunD K "is_prop" "is_prop" (defArgs s_is_prop) (defBody s_is_prop) (defScope s_is_prop) [] [] f fd) : FnOk P w K mg base CX0 4 f fd ["thing", "length"] (SpG K (pIsProp)) := by
  refine okG F sc_is_prop (by intro Γ ds R h; repeat' (first | (obtain ⟨e, _⟩ := h; subst e; rfl) | (obtain ⟨_, h⟩ := h))) (fun cdv A outer s H E hr => ?_)
  refine ⟨_, (pss_cons (ps_if (PW.pt (pw_or (pt_not (pt_val (pe_callB (call_isiK' (K := K) rfl) (by rfl) T.b_isinstance bt_isinstance (pa_cons (pv 0) (pa_cons (pe_bltn (v := .ty "tuple") rfl T.b_tuple bt_tuple rfl) pa_nil))) (by intro _; rfl))) (pw_or (pt_cmpR (op_neqK (K := K) rfl hr.units) (pe_callB (call_len_seqK (K := K) rfl) (by rfl) T.b_len bt_len (pa_cons (pv 0) pa_nil)) pe_int (nomark _)) (pw_or1 (pt_not (pt_val (pe_F F_is_whole (hr.mono (by decide)) rfl (pa_cons (pe_ix (ix_seqK (K := K) rfl) (pv 0) pe_int (fun _ _ => rfl)) pa_nil)) (by intro _; rfl))))))) 
          (pss_one (ps_ret pe_bl)) pss_nil)
      (pss_one (ps_ret (pe_and (pe_chain op_lt op_lt pe_int (pe_ix (ix_seqK (K := K) rfl) (pv 0) pe_int (fun _ _ => rfl)) (pv 1)) (pe_one (pe_F F_is_measure (hr.mono (by decide)) rfl (pa_cons (pe_ix (ix_seqK (K := K) rfl) (pv 0) pe_int (fun _ _ => rfl)) pa_nil))))))), ?_⟩
  try dsimp only [cxOf, Cx.nox, Cx.wish]
  rintro S ds ⟨p, L, rfl, h1, h2, h3, h4, hR⟩
  show Goes S [] (nEnd S) _ [some (.tup [.int p.1, fr p.2]), some (.int L)] S.C0
  walk_at "pf"
  refine c_isi (b := true) rfl (by decide +kernel) ?_
  walk_at "pf"
  refine c_len (.inr rfl) ?_
  walk_at "pf"
  refine ⟨_, rfl, ?_⟩
  walk_at "pf"
  refine g_ret ?_ Cov.refl
  walk_at "pf"
  refine ifpB (decide_eq_true h1) ?_
  walk_at "pf"
  refine ifpB (decide_eq_true h2) ?_
  walk_at "pf"
  exact ⟨_, rfl, h3, h4, hR⟩
def pAreProps : PT_ := fun Γ ds R => ∃ (ps : List (Int × Rat)) (L : Int), ds = [.lst (ps.map prD), .int L] ∧ ps.length ≤ 12 ∧ (∀ p ∈ ps, 0 < p.1 ∧ p.1 < L ∧ Sm p.2 ∧ 0 ≤ p.2) ∧ (∀ i a b, ps[i]? = some a → ps[i + 1]? = some b → a.1 < b.1) ∧ R (.bl true)
theorem rep_snoc {α : Type} (n : Nat) (a : α) : List.replicate n a ++ [a] = List.replicate (n + 1) a := by
  rw [List.replicate_succ']
theorem all_rep (n : Nat) : (List.replicate n true).all id = true := by simp
theorem map_rep (n : Nat) : (List.replicate n true).map D.bl = List.replicate n (D.bl true) := by simp
abbrev N_are_props : List Str := ["thing", "length", "one", "other"]
theorem sc_are_props : FnScope N_are_props ["thing", "length"] (defScope s_are_props) := ⟨rfl, rfl, rfl, by decide +kernel, rfl, by decide +kernel, by decide +kernel⟩
theorem ok_are_props {P : Program} {w : World} {K : PySem.W.Frag} {mg : Str → Option Value} {base : Heap} {aN aO CP CL : Addr} (T : Tp K mg aN aO CP CL)  (F_is_prop : Fk P w K mg base "is_prop" ["thing", "length"] 4 (SpG K (pIsProp))) {f : Addr} {fd : FuncData} (F : FunD K "are_props" "are_props" (defArgs s_are_props) (defBody s_are_props) (defScope s_are_props) [] [] f fd) : FnOk P w K mg base CX0 5 f fd ["thing", "length"] (SpG K (pAreProps)) := by
  refine okG F sc_are_props (by intro Γ ds R h; repeat' (first | (obtain ⟨e, _⟩ := h; subst e; rfl) | (obtain ⟨_, h⟩ := h))) (fun cdv A outer s H E hr => ?_)
  refine ⟨_, (pss_cons (ps_if (PW.pt (pw_or (pt_not (pt_val (pe_callB (call_isiK' (K := K) rfl) (by rfl) T.b_isinstance bt_isinstance (pa_cons (pv 0) (pa_cons (pe_bltn (v := .ty "list") rfl T.b_list bt_list rfl) pa_nil))) (by intro _; rfl))) (pw_or (pt_cmpR op_gt (pe_callB (call_len_seqK (K := K) rfl) (by rfl) T.b_len bt_len (pa_cons (pv 0) pa_nil)) (pe_gint rfl T.g_MOST_PROPS) (nomark _)) (pw_or1 (pt_not (pt_val (pe_callB (cr_allK (K := K) rfl rfl) (by rfl) T.b_all bt_all (pa_cons (pe_lc (own := [("one", 2)]) rfl sc_are_props.nd (pi_listK (K := K) rfl (pv 0)) (blkOk_by (own := [("one", 2)]) (N := N_are_props) (sc := defScope s_are_props) (by decide +kernel)) (fun _ _ _ _ _ => (pg_name (i := 2) sc_are_props.nd rfl (by first | exact Or.inl rfl | exact Or.inr rfl))) (fun _ _ _ _ _ => pts_nil) (fun _ _ _ _ _ => (pe_F F_is_prop (hr.mono (by decide)) rfl (pa_cons (pv 2) (pa_cons (pv 1) pa_nil))))) pa_nil)) (by intro _; rfl))))))) 
          (pss_one (ps_ret pe_bl)) pss_nil)
      (pss_one (ps_ret (pe_callB (cr_allK (K := K) rfl rfl) (by rfl) T.b_all bt_all (pa_cons (pe_lc (own := [("one", 2), ("other", 3)]) rfl sc_are_props.nd (pi_zipAK (K := K) rfl (by rfl) T.b_zip (pa_cons (pv 0) (pa_cons (pe_slice (sl_seqK (K := K) rfl) (pv 0) (po_some pe_int) po_none) pa_nil))) (blkOk_by (own := [("one", 2), ("other", 3)]) (N := N_are_props) (sc := defScope s_are_props) (by decide +kernel)) (fun _ _ _ _ _ => (pg_tupK (K := K) (n := 2) rfl rfl (pgs_cons (pg_name (i := 2) sc_are_props.nd rfl (by first | exact Or.inl rfl | exact Or.inr rfl)) (pgs_cons (pg_name (i := 3) sc_are_props.nd rfl (by first | exact Or.inl rfl | exact Or.inr rfl)) pgs_nil)))) (fun _ _ _ _ _ => pts_nil) (fun _ _ _ _ _ => (pe_cmpR op_lt (pe_ix (ix_seqK (K := K) rfl) (pv 2) pe_int (fun _ _ => rfl)) (pe_ix (ix_seqK (K := K) rfl) (pv 3) pe_int (fun _ _ => rfl)) (nomark _)))) pa_nil))))), ?_⟩
  try dsimp only [cxOf, Cx.nox, Cx.wish]
  rintro S ds ⟨ps, L, rfl, h1, h2, h3, hR⟩
  show Goes S [] (nEnd S) _ [some (.lst (ps.map prD)), some (.int L), none, none] S.C0
  have hl : (ps.map prD).length = ps.length := List.length_map ..
  walk_at "pf"
  refine c_isi (b := true) rfl (by decide +kernel) ?_
  walk_at "pf"
  refine c_len (.inl rfl) ?_
  walk_at "pf"
  refine ifnB (decide_eq_false (by rw [hl]; omega)) ?_
  walk_at "pf"
  refine w_lc (i_list (w_var rfl ⟨_, rfl, by rw [hl]; omega, fun i acc => acc = List.replicate i (D.bl true), rfl, ?_, ?_⟩))
  · rintro i d acc hd rfl
    obtain ⟨p, hp, rfl⟩ := map_get hd
    obtain ⟨a, b, c, d⟩ := h2 p (List.mem_of_getElem? hp)
    refine gw_name (by simp) (t_yes (tT ?_))
    walk_at "pf"
    exact ⟨p, L, rfl, a, b, c, d, rep_snoc _ _⟩
  · rintro acc rfl
    walk_at "pf"
    rw [← map_rep]
    refine c_all ?_
    rw [all_rep]
    walk_at "pf"
    refine g_ret ?_ Cov.refl
    walk_at "pf"
    refine w_lc (i_zip ?_)
    walk_at "pf"
    refine w_sliceFrom ?_
    walk_at "pf"
    refine ⟨1, _, rfl, .inl ⟨rfl, ?_⟩⟩
    walk_at "pf"
    refine ⟨_, _, .inl rfl, ?_, fun i acc => acc = List.replicate i (D.bl true), rfl, ?_, ?_⟩
    · unfold zipD
      rw [List.length_zipWith, hl]
      omega
    · rintro i d acc hd rfl
      obtain ⟨a, b, ha, hb, rfl⟩ := zipD_get hd
      rw [List.getElem?_drop] at hb
      obtain ⟨p, hp, rfl⟩ := map_get ha
      obtain ⟨q, hq, rfl⟩ := map_get hb
      refine gw_tup rfl (gws_cons (gw_name (by simp) (gws_cons (gw_name (by simp) (gws_nil (t_yes (tT ?_)))))))
      walk_at "pf"
      rw [decide_eq_true (h3 i p q hp (by rw [Nat.add_comm]; exact hq))]
      exact rep_snoc _ _
    · rintro acc rfl
      walk_at "pf"
      rw [← map_rep]
      refine c_all ?_
      rw [all_rep]
      exact hR
end PF
end
section
set_option Elab.async false
set_option linter.all false
set_option maxRecDepth 100000
set_option maxHeartbeats 2000000
namespace PF
open PySem PySem.Spec L2 RZ
local macro_rules | `(tactic| walk_at "pf1") => `(tactic| first
  | ((with_reducible refine' w_var ?pfh ?_); (case pfh => rfl))
  | with_reducible refine w_int ?_
  | with_reducible refine w_ty ?_
  | with_reducible refine w_op ?_
  | with_reducible refine w_cb ?_
  | with_reducible refine w_call ?_
  | with_reducible refine a_cons ?_
  | with_reducible refine a_nil ?_
  | with_reducible refine o_sub ?_
  | with_reducible refine o_plusI ?_
  | ((with_reducible refine' o_ixTu ?pfh ?_); (case pfh => rfl))
  | ((with_reducible refine' o_ixLi ?pfh ?_); (case pfh => rfl))
  | ((with_reducible refine' o_ixKe ?pfh ?_); (case pfh => rfl))
  | with_reducible refine w_bl ?_
  | with_reducible refine w_non ?_
  | with_reducible refine w_str ?_
  | with_reducible refine w_un ?_
  | with_reducible refine w_fld ?_
  | with_reducible refine w_meth ?_
  | with_reducible refine t_test ?_
  | with_reducible refine t_B ?_
  | with_reducible refine t_and ?_
  | with_reducible refine t_or ?_
  | with_reducible refine t_not ?_
  | with_reducible refine w_andV ?_
  | with_reducible refine w_orV ?_
  | with_reducible refine w_notV ?_
  | with_reducible refine w_if ?_
  | with_reducible refine w_chain ?_
  | with_reducible refine o_lt ?_
  | with_reducible refine o_gt ?_
  | with_reducible refine o_le ?_
  | with_reducible refine o_ge ?_
  | with_reducible refine o_equI ?_
  | with_reducible refine o_neqI ?_
  | with_reducible refine o_neg ?_
  | with_reducible refine c_abs ?_
  | with_reducible refine c_int ?_
  | with_reducible refine g_asg ?_
  | with_reducible refine g_drop ?_
  | with_reducible refine g_if ?_
  | with_reducible refine g_next ?_
  | with_reducible refine g_assoc ?_
  | with_reducible refine g_retS ?_
  | with_reducible refine exbl ?_
  | with_reducible refine tT ?_
  | with_reducible refine tF ?_
  | with_reducible refine tNT ?_
  | with_reducible refine tNF ?_
  | ((with_reducible refine' ifpB ?pfh ?_); (case pfh => rfl))
  | ((with_reducible refine' ifnB ?pfh ?_); (case pfh => rfl)))
local macro_rules | `(tactic| walk_at "fl") => `(tactic| first
  | refine ⟨_, _, _, rfl, Tp.cl_Plank ‹_›, Tp.n_long ‹_›, rfl, ?_⟩
  | refine ⟨_, _, _, rfl, Tp.cl_Plank ‹_›, Tp.n_stakes ‹_›, rfl, ?_⟩
  | refine ⟨_, _, _, rfl, Tp.cl_Plank ‹_›, Tp.n_limit ‹_›, rfl, ?_⟩
  | refine ⟨_, _, _, rfl, Tp.cl_Loads ‹_›, Tp.n_plank ‹_›, rfl, ?_⟩
  | refine ⟨_, _, _, rfl, Tp.cl_Loads ‹_›, Tp.n_weights ‹_›, rfl, ?_⟩
  | refine ⟨_, _, _, rfl, Tp.cl_Loads ‹_›, Tp.n_known ‹_›, rfl, ?_⟩
  | refine ⟨_, _, _, rfl, Tp.cl_Loads ‹_›, Tp.n_over ‹_›, rfl, ?_⟩)
local macro_rules | `(tactic| walk_at "pf") => `(tactic| repeat (walk_at "pf1"))

/-! ### the law's own fractions -/
abbrev N_law_cut : List Str := ["_law_top", "_law_bottom", "_law_one", "_law_other"]
theorem sc_law_cut : FnScope N_law_cut ["_law_top", "_law_bottom"] (defScope s_law_cut) := ⟨rfl, rfl, rfl, by decide +kernel, rfl, by decide +kernel, by decide +kernel⟩
theorem ok_law_cut {P : Program} {w : World} {K : PySem.W.Frag} {mg : Str → Option Value} {base : Heap} {aN aO CP CL : Addr} (T : Tp K mg aN aO CP CL)   {f : Addr} {fd : FuncData} (F : FunD K "_law_cut" "_law_cut" (defArgs s_law_cut) (defBody s_law_cut) (defScope s_law_cut) [] [] f fd) : FnOk P w K mg base CX0 1 f fd ["_law_top", "_law_bottom"] (SpG K (pCut)) := by
  refine okG F sc_law_cut (by intro Γ ds R h; repeat' (first | (obtain ⟨e, _⟩ := h; subst e; rfl) | (obtain ⟨_, h⟩ := h))) (fun cdv A outer s H E hr => ?_)
  refine ⟨_, (pss_cons (ps_par (i := 2) (j := 3) (by rfl) sc_law_cut.nd rfl rfl (by decide) rfl rfl (pa_cons (pe_callB call_abs (by rfl) T.b_abs bt_abs (pa_cons (pv 0) pa_nil)) (pa_cons (pv 1) pa_nil)) (by rfl))
      (pss_cons (ps_while PassesOwn.never (pt_cmpR op_gt (pv 3) pe_int (nomark _)) 
          (pss_one (ps_par (i := 2) (j := 3) (by rfl) sc_law_cut.nd rfl rfl (by decide) rfl rfl (pa_cons (pv 3) (pa_cons (pe_op op_mod (pe_callTy call_int1 (by rfl) T.b_int bt_int (pa_cons (pv 2) pa_nil)) (pv 3)) pa_nil)) (by rfl))))
      (pss_one (ps_ret (pe_tup (pa_cons (pe_op op_fdivW (pv 0) (pv 2)) (pa_cons (pe_op op_fdivW (pv 1) (pv 2)) pa_nil))))))), ?_⟩
  try dsimp only [cxOf, Cx.nox, Cx.wish]
  rintro S ds ⟨n, d, rfl, hd, hn, hd2, q⟩
  show Goes S [] (nEnd S) _ [some (.int n), some (.int d), none, none] S.C0
  have hg : 0 < Nat.gcd n.natAbs d := Nat.gcd_pos_of_pos_right _ hd
  have hg2 : Nat.gcd n.natAbs d < 2 ^ 8900 := Nat.lt_of_le_of_lt (Nat.gcd_le_right _ hd) hd2
  have hw : ∀ i : Int, CDivW i (Nat.gcd n.natAbs d : Nat) := fun i => wide_div (b := 8900) (by omega) (by rw [Int.natAbs_natCast]; exact hg2) (by decide) (by decide)
  refine g_par ?_
  walk_at "pf"
  refine ⟨_, _, rfl, ?_⟩
  refine g_while (fun m ρ Γ => ∃ x y : Nat, ρ = [some (.int n), some (.int d), some (.int x), some (.int y)] ∧ Γ = S.C0 ∧ m = y ∧ Nat.gcd x y = Nat.gcd n.natAbs d) d ⟨_, _, rfl, rfl, rfl, rfl⟩ ?_
  rintro m ρ Γ ⟨x, y, rfl, rfl, rfl, e⟩
  walk_at "pf"
  by_cases hy : (0 : Int) < (m : Nat)
  · refine ifpB (decide_eq_true hy) ?_
    refine g_one (g_par ?_)
    walk_at "pf"
    refine o_mod hy ?_
    walk_at "pf"
    refine ⟨_, _, rfl, g_done ?_⟩
    refine ⟨x % m, Nat.mod_lt _ (by omega), m, x % m, rfl, rfl, rfl, ?_⟩
    rw [← e, Nat.gcd_comm x m, Nat.gcd_rec m x, Nat.gcd_comm]
  · refine ifnB (decide_eq_false hy) ?_
    have hm : m = 0 := by omega
    subst hm
    rw [Nat.gcd_zero_right] at e
    subst e
    refine g_ret (w_tup ?_) Cov.refl
    walk_at "pf"
    refine o_fdivW (hw _) ?_
    walk_at "pf"
    refine o_fdivW (hw _) ?_
    walk_at "pf"
    exact ⟨by simp, by rw [← cut_eq n d hd]; exact q⟩
abbrev N_law_plus : List Str := ["_law_one", "_law_other"]
theorem sc_law_plus : FnScope N_law_plus ["_law_one", "_law_other"] (defScope s_law_plus) := ⟨rfl, rfl, rfl, by decide +kernel, rfl, by decide +kernel, by decide +kernel⟩
theorem ok_law_plus {P : Program} {w : World} {K : PySem.W.Frag} {mg : Str → Option Value} {base : Heap} {aN aO CP CL : Addr} (T : Tp K mg aN aO CP CL)  (F_law_cut : Fk P w K mg base "_law_cut" ["_law_top", "_law_bottom"] 1 (SpG K (pCut))) {f : Addr} {fd : FuncData} (F : FunD K "_law_plus" "_law_plus" (defArgs s_law_plus) (defBody s_law_plus) (defScope s_law_plus) [] [] f fd) : FnOk P w K mg base CX0 2 f fd ["_law_one", "_law_other"] (SpG K (pPlus)) := by
  refine okG F sc_law_plus (by intro Γ ds R h; repeat' (first | (obtain ⟨e, _⟩ := h; subst e; rfl) | (obtain ⟨_, h⟩ := h))) (fun cdv A outer s H E hr => ?_)
  refine ⟨_, (pss_one (ps_ret (pe_F F_law_cut (hr.mono (by decide)) rfl (pa_cons (pe_op (op_plusK (K := K) rfl) (pe_op op_mulW (pe_ix (ix_seqK (K := K) rfl) (pv 0) pe_int (fun _ _ => rfl)) (pe_ix (ix_seqK (K := K) rfl) (pv 1) pe_int (fun _ _ => rfl))) (pe_op op_mulW (pe_ix (ix_seqK (K := K) rfl) (pv 1) pe_int (fun _ _ => rfl)) (pe_ix (ix_seqK (K := K) rfl) (pv 0) pe_int (fun _ _ => rfl)))) (pa_cons (pe_op op_mulW (pe_ix (ix_seqK (K := K) rfl) (pv 0) pe_int (fun _ _ => rfl)) (pe_ix (ix_seqK (K := K) rfl) (pv 1) pe_int (fun _ _ => rfl))) pa_nil))))), ?_⟩
  try dsimp only [cxOf, Cx.nox, Cx.wish]
  rintro S ds ⟨p, q, rfl, hp, hq, hR⟩
  show Goes S [] (nEnd S) _ [some (.tup [.int p.num, .int (p.den : Int)]), some (.tup [.int q.num, .int (q.den : Int)])] S.C0
  refine g_ret ?_ Cov.refl
  walk_at "pf"
  refine o_mulW (smW hp hq).1 ?_
  walk_at "pf"
  refine o_mulW (smW hq hp).1 ?_
  walk_at "pf"
  refine o_mulW (smW hp hq).2.2.1 ?_
  walk_at "pf"
  exact ⟨_, p.den * q.den, rfl, Nat.mul_pos p.den_pos q.den_pos, (up2 (smB hp hq).1 (smB hq hp).1).1, up8900 (smB hp hq).2.2.1, by rw [← Rat.add_def']; exact hR⟩
abbrev N_law_minus : List Str := ["_law_one", "_law_other"]
theorem sc_law_minus : FnScope N_law_minus ["_law_one", "_law_other"] (defScope s_law_minus) := ⟨rfl, rfl, rfl, by decide +kernel, rfl, by decide +kernel, by decide +kernel⟩
theorem ok_law_minus {P : Program} {w : World} {K : PySem.W.Frag} {mg : Str → Option Value} {base : Heap} {aN aO CP CL : Addr} (T : Tp K mg aN aO CP CL)  (F_law_cut : Fk P w K mg base "_law_cut" ["_law_top", "_law_bottom"] 1 (SpG K (pCut))) {f : Addr} {fd : FuncData} (F : FunD K "_law_minus" "_law_minus" (defArgs s_law_minus) (defBody s_law_minus) (defScope s_law_minus) [] [] f fd) : FnOk P w K mg base CX0 2 f fd ["_law_one", "_law_other"] (SpG K (pLess)) := by
  refine okG F sc_law_minus (by intro Γ ds R h; repeat' (first | (obtain ⟨e, _⟩ := h; subst e; rfl) | (obtain ⟨_, h⟩ := h))) (fun cdv A outer s H E hr => ?_)
  refine ⟨_, (pss_one (ps_ret (pe_F F_law_cut (hr.mono (by decide)) rfl (pa_cons (pe_op op_sub (pe_op op_mulW (pe_ix (ix_seqK (K := K) rfl) (pv 0) pe_int (fun _ _ => rfl)) (pe_ix (ix_seqK (K := K) rfl) (pv 1) pe_int (fun _ _ => rfl))) (pe_op op_mulW (pe_ix (ix_seqK (K := K) rfl) (pv 1) pe_int (fun _ _ => rfl)) (pe_ix (ix_seqK (K := K) rfl) (pv 0) pe_int (fun _ _ => rfl)))) (pa_cons (pe_op op_mulW (pe_ix (ix_seqK (K := K) rfl) (pv 0) pe_int (fun _ _ => rfl)) (pe_ix (ix_seqK (K := K) rfl) (pv 1) pe_int (fun _ _ => rfl))) pa_nil))))), ?_⟩
  try dsimp only [cxOf, Cx.nox, Cx.wish]
  rintro S ds ⟨p, q, rfl, hp, hq, hR⟩
  show Goes S [] (nEnd S) _ [some (.tup [.int p.num, .int (p.den : Int)]), some (.tup [.int q.num, .int (q.den : Int)])] S.C0
  refine g_ret ?_ Cov.refl
  walk_at "pf"
  refine o_mulW (smW hp hq).1 ?_
  walk_at "pf"
  refine o_mulW (smW hq hp).1 ?_
  walk_at "pf"
  refine o_mulW (smW hp hq).2.2.1 ?_
  walk_at "pf"
  exact ⟨_, p.den * q.den, rfl, Nat.mul_pos p.den_pos q.den_pos, (up2 (smB hp hq).1 (smB hq hp).1).2, up8900 (smB hp hq).2.2.1, by rw [← Rat.sub_def']; exact hR⟩
abbrev N_law_by : List Str := ["_law_one", "_law_other"]
theorem sc_law_by : FnScope N_law_by ["_law_one", "_law_other"] (defScope s_law_by) := ⟨rfl, rfl, rfl, by decide +kernel, rfl, by decide +kernel, by decide +kernel⟩
theorem ok_law_by {P : Program} {w : World} {K : PySem.W.Frag} {mg : Str → Option Value} {base : Heap} {aN aO CP CL : Addr} (T : Tp K mg aN aO CP CL)  (F_law_cut : Fk P w K mg base "_law_cut" ["_law_top", "_law_bottom"] 1 (SpG K (pCut))) {f : Addr} {fd : FuncData} (F : FunD K "_law_by" "_law_by" (defArgs s_law_by) (defBody s_law_by) (defScope s_law_by) [] [] f fd) : FnOk P w K mg base CX0 2 f fd ["_law_one", "_law_other"] (SpG K (pTimes)) := by
  refine okG F sc_law_by (by intro Γ ds R h; repeat' (first | (obtain ⟨e, _⟩ := h; subst e; rfl) | (obtain ⟨_, h⟩ := h))) (fun cdv A outer s H E hr => ?_)
  refine ⟨_, (pss_one (ps_ret (pe_F F_law_cut (hr.mono (by decide)) rfl (pa_cons (pe_op op_mulW (pe_ix (ix_seqK (K := K) rfl) (pv 0) pe_int (fun _ _ => rfl)) (pe_ix (ix_seqK (K := K) rfl) (pv 1) pe_int (fun _ _ => rfl))) (pa_cons (pe_op op_mulW (pe_ix (ix_seqK (K := K) rfl) (pv 0) pe_int (fun _ _ => rfl)) (pe_ix (ix_seqK (K := K) rfl) (pv 1) pe_int (fun _ _ => rfl))) pa_nil))))), ?_⟩
  try dsimp only [cxOf, Cx.nox, Cx.wish]
  rintro S ds ⟨p, q, rfl, hp, hq, hR⟩
  show Goes S [] (nEnd S) _ [some (.tup [.int p.num, .int (p.den : Int)]), some (.tup [.int q.num, .int (q.den : Int)])] S.C0
  refine g_ret ?_ Cov.refl
  walk_at "pf"
  refine o_mulW (smW hp hq).2.1 ?_
  walk_at "pf"
  refine o_mulW (smW hp hq).2.2.1 ?_
  walk_at "pf"
  exact ⟨_, p.den * q.den, rfl, Nat.mul_pos p.den_pos q.den_pos, up8900 (smB hp hq).2.1, up8900 (smB hp hq).2.2.1, by rw [← Rat.mul_def']; exact hR⟩
abbrev N_law_is_below : List Str := ["_law_one", "_law_other"]
theorem sc_law_is_below : FnScope N_law_is_below ["_law_one", "_law_other"] (defScope s_law_is_below) := ⟨rfl, rfl, rfl, by decide +kernel, rfl, by decide +kernel, by decide +kernel⟩
theorem ok_law_is_below {P : Program} {w : World} {K : PySem.W.Frag} {mg : Str → Option Value} {base : Heap} {aN aO CP CL : Addr} (T : Tp K mg aN aO CP CL)   {f : Addr} {fd : FuncData} (F : FunD K "_law_is_below" "_law_is_below" (defArgs s_law_is_below) (defBody s_law_is_below) (defScope s_law_is_below) [] [] f fd) : FnOk P w K mg base CX0 1 f fd ["_law_one", "_law_other"] (SpG K (pBelow)) := by
  refine okG F sc_law_is_below (by intro Γ ds R h; repeat' (first | (obtain ⟨e, _⟩ := h; subst e; rfl) | (obtain ⟨_, h⟩ := h))) (fun cdv A outer s H E hr => ?_)
  refine ⟨_, (pss_one (ps_ret (pe_cmpR op_lt (pe_op op_mulW (pe_ix (ix_seqK (K := K) rfl) (pv 0) pe_int (fun _ _ => rfl)) (pe_ix (ix_seqK (K := K) rfl) (pv 1) pe_int (fun _ _ => rfl))) (pe_op op_mulW (pe_ix (ix_seqK (K := K) rfl) (pv 1) pe_int (fun _ _ => rfl)) (pe_ix (ix_seqK (K := K) rfl) (pv 0) pe_int (fun _ _ => rfl))) (nomark _)))), ?_⟩
  try dsimp only [cxOf, Cx.nox, Cx.wish]
  rintro S ds ⟨p, q, rfl, hp, hq, hR⟩
  show Goes S [] (nEnd S) _ [some (.tup [.int p.num, .int (p.den : Int)]), some (.tup [.int q.num, .int (q.den : Int)])] S.C0
  refine g_ret ?_ Cov.refl
  walk_at "pf"
  refine o_mulW (smW hp hq).1 ?_
  walk_at "pf"
  refine o_mulW (smW hq hp).1 ?_
  walk_at "pf"
  rw [show decide (p.num * (q.den : Int) < q.num * (p.den : Int)) = decide (p < q) from by simp only [Rat.lt_iff]]
  exact hR
abbrev N_law_part_of : List Str := ["_law_one", "_law_other"]
theorem sc_law_part_of : FnScope N_law_part_of ["_law_one", "_law_other"] (defScope s_law_part_of) := ⟨rfl, rfl, rfl, by decide +kernel, rfl, by decide +kernel, by decide +kernel⟩
theorem ok_law_part_of {P : Program} {w : World} {K : PySem.W.Frag} {mg : Str → Option Value} {base : Heap} {aN aO CP CL : Addr} (T : Tp K mg aN aO CP CL)  (F_law_cut : Fk P w K mg base "_law_cut" ["_law_top", "_law_bottom"] 1 (SpG K (pCut))) {f : Addr} {fd : FuncData} (F : FunD K "_law_part_of" "_law_part_of" (defArgs s_law_part_of) (defBody s_law_part_of) (defScope s_law_part_of) [] [] f fd) : FnOk P w K mg base CX0 2 f fd ["_law_one", "_law_other"] (SpG K (pOver)) := by
  refine okG F sc_law_part_of (by intro Γ ds R h; repeat' (first | (obtain ⟨e, _⟩ := h; subst e; rfl) | (obtain ⟨_, h⟩ := h))) (fun cdv A outer s H E hr => ?_)
  refine ⟨_, (pss_one (ps_ret (pe_F F_law_cut (hr.mono (by decide)) rfl (pa_cons (pe_op op_mulW (pe_ix (ix_seqK (K := K) rfl) (pv 0) pe_int (fun _ _ => rfl)) (pe_ix (ix_seqK (K := K) rfl) (pv 1) pe_int (fun _ _ => rfl))) (pa_cons (pe_op op_mulW (pe_ix (ix_seqK (K := K) rfl) (pv 0) pe_int (fun _ _ => rfl)) (pe_ix (ix_seqK (K := K) rfl) (pv 1) pe_int (fun _ _ => rfl))) pa_nil))))), ?_⟩
  try dsimp only [cxOf, Cx.nox, Cx.wish]
  rintro S ds ⟨p, q, rfl, hp, hq, h0, hR⟩
  have hn := num_pos h0
  show Goes S [] (nEnd S) _ [some (.tup [.int p.num, .int (p.den : Int)]), some (.tup [.int q.num, .int (q.den : Int)])] S.C0
  refine g_ret ?_ Cov.refl
  walk_at "pf"
  refine o_mulW (smW hp hq).1 ?_
  walk_at "pf"
  refine o_mulW (smW hp hq).2.2.2 ?_
  walk_at "pf"
  have e : (p.den : Int) * q.num = ((p.den * q.num.natAbs : Nat) : Int) := by rw [Int.natCast_mul]; congr 1; omega
  have hb := (smB hp hq).2.2.2
  rw [e, Int.natAbs_natCast] at hb
  exact ⟨_, p.den * q.num.natAbs, by rw [e], Nat.mul_pos p.den_pos (by omega), up8900 (smB hp hq).1, up8900 hb, by rw [← div_mk h0]; exact hR⟩
end PF
end
section
set_option Elab.async false
set_option linter.all false
set_option maxRecDepth 100000
namespace PF
open PySem PySem.Spec L2
/-! ### sizes -/
def Sz (n : Nat) (q : Rat) : Prop := q.num.natAbs < 2 ^ n ∧ q.den < 2 ^ n
theorem Sz.sm {n : Nat} {q : Rat} (h : Sz n q) (hn : n ≤ 4000) : Sm q :=
  ⟨Nat.lt_of_lt_of_le h.1 (Nat.pow_le_pow_right (by decide) hn), Nat.lt_of_lt_of_le h.2 (Nat.pow_le_pow_right (by decide) hn)⟩
theorem Sz.mono {n m : Nat} {q : Rat} (h : Sz n q) (hn : n ≤ m) : Sz m q :=
  ⟨Nat.lt_of_lt_of_le h.1 (Nat.pow_le_pow_right (by decide) hn), Nat.lt_of_lt_of_le h.2 (Nat.pow_le_pow_right (by decide) hn)⟩
theorem mk_num (n : Int) (d : Nat) : (mkRat n d).num.natAbs ≤ n.natAbs := by
  rw [Rat.num_mkRat]
  split
  · exact Nat.zero_le _
  · rename_i h
    rw [Int.natAbs_ediv_of_dvd (Int.dvd_natAbs.mp (Int.natCast_dvd_natCast.mpr (Nat.gcd_dvd_right d n.natAbs)))]
    exact Nat.div_le_self _ _
theorem mk_den {n : Int} {d : Nat} (hd : 0 < d) : (mkRat n d).den ≤ d := by
  rw [Rat.den_mkRat, if_neg (by omega)]
  exact Nat.div_le_self _ _
theorem Sz.mk {a b k : Nat} {n : Int} {d : Nat} (hd : 0 < d) (hn : n.natAbs < 2 ^ a) (h2 : d < 2 ^ b) (ha : a ≤ k) (hb : b ≤ k) : Sz k (mkRat n d) :=
  ⟨Nat.lt_of_le_of_lt (mk_num n d) (Nat.lt_of_lt_of_le hn (Nat.pow_le_pow_right (by decide) ha)), Nat.lt_of_le_of_lt (mk_den hd) (Nat.lt_of_lt_of_le h2 (Nat.pow_le_pow_right (by decide) hb))⟩
theorem mul_pow {a b x y : Nat} (hx : x < 2 ^ a) (hy : y < 2 ^ b) : x * y < 2 ^ (a + b) := by
  rw [Nat.pow_add]
  exact Nat.mul_lt_mul'' hx hy
theorem Sz.mulB {a b : Nat} {p q : Rat} (hp : Sz a p) (hq : Sz b q) : (p.num * (q.den : Int)).natAbs < 2 ^ (a + b) ∧ (q.num * (p.den : Int)).natAbs < 2 ^ (a + b) ∧ (p.num * q.num).natAbs < 2 ^ (a + b) ∧ p.den * q.den < 2 ^ (a + b) := by
  refine ⟨?_, ?_, ?_, mul_pow hp.2 hq.2⟩
  · rw [Int.natAbs_mul, Int.natAbs_natCast]; exact mul_pow hp.1 hq.2
  · rw [Int.natAbs_mul, Int.natAbs_natCast, Nat.add_comm]; exact mul_pow hq.1 hp.2
  · rw [Int.natAbs_mul]; exact mul_pow hp.1 hq.1
theorem Sz.add {a b : Nat} {p q : Rat} (hp : Sz a p) (hq : Sz b q) : Sz (a + b + 1) (p + q) := by
  rw [Rat.add_def']
  obtain ⟨h1, h2, _, h4⟩ := hp.mulB hq
  refine Sz.mk (a := a + b + 1) (b := a + b) (Nat.mul_pos p.den_pos q.den_pos) ?_ h4 (Nat.le_refl _) (Nat.le_succ _)
  have e : 2 ^ (a + b + 1) = 2 ^ (a + b) + 2 ^ (a + b) := by rw [Nat.pow_succ]; omega
  rw [e]
  generalize 2 ^ (a + b) = x at h1 h2
  omega
theorem Sz.sub {a b : Nat} {p q : Rat} (hp : Sz a p) (hq : Sz b q) : Sz (a + b + 1) (p - q) := by
  rw [Rat.sub_def']
  obtain ⟨h1, h2, _, h4⟩ := hp.mulB hq
  refine Sz.mk (a := a + b + 1) (b := a + b) (Nat.mul_pos p.den_pos q.den_pos) ?_ h4 (Nat.le_refl _) (Nat.le_succ _)
  have e : 2 ^ (a + b + 1) = 2 ^ (a + b) + 2 ^ (a + b) := by rw [Nat.pow_succ]; omega
  rw [e]
  generalize 2 ^ (a + b) = x at h1 h2
  omega
theorem Sz.mul {a b : Nat} {p q : Rat} (hp : Sz a p) (hq : Sz b q) : Sz (a + b) (p * q) := by
  rw [Rat.mul_def']
  obtain ⟨_, _, h3, h4⟩ := hp.mulB hq
  exact Sz.mk (Nat.mul_pos p.den_pos q.den_pos) h3 h4 (Nat.le_refl _) (Nat.le_refl _)
theorem Sz.div {a b : Nat} {p q : Rat} (hp : Sz a p) (hq : Sz b q) (h0 : 0 < q) : Sz (a + b) (p / q) := by
  rw [div_mk h0]
  have hn := num_pos h0
  obtain ⟨h1, _, _, _⟩ := hp.mulB hq
  exact Sz.mk (Nat.mul_pos p.den_pos (by omega)) h1 (mul_pow hp.2 hq.1) (Nat.le_refl _) (Nat.le_refl _)
theorem Sz.int {n : Nat} {i : Int} (h : i.natAbs < 2 ^ n) (h0 : 0 < n) : Sz n (i : Rat) :=
  ⟨by rw [Rat.num_intCast]; exact h, by rw [Rat.den_intCast]; exact Nat.one_lt_two_pow (by omega)⟩
theorem Sz.zero : Sz 1 0 := ⟨by decide, by decide⟩
theorem Sz.one : Sz 1 1 := ⟨by decide, by decide⟩
/-! ### the world -/
structure Wd where
  L : Int
  ps : List (Int × Rat)
  hs : List (Rat × Rat)
def Wd.n (w : Wd) : Nat := w.ps.length
def Wd.pos (w : Wd) (r : Int) : Int := if r = -1 then 0 else if r = (w.n : Int) then w.L else (w.ps.getD r.toNat (0, 0)).1
def Wd.str (w : Wd) (r : Int) : Rat := (w.ps.getD r.toNat (0, 0)).2
def shr (a b c : Int) (q : Rat) : Rat := if (a : Rat) < q ∧ ¬ (b : Rat) < q then (q - a) / ((b - a : Int) : Rat) else if (b : Rat) < q ∧ q < (c : Rat) then ((c : Rat) - q) / ((c - b : Int) : Rat) else 0
def Wd.sh (w : Wd) (l r e : Int) (q : Rat) : Rat := shr (w.pos l) (w.pos r) (w.pos e) q
def Wd.lds (w : Wd) (hs : List (Rat × Rat)) (l r e : Int) : Rat := sumQ (hs.map fun h => h.2 * w.sh l r e h.1)
def Wd.ld (w : Wd) (l r e : Int) : Rat := w.lds w.hs l r e
structure Wd.Ok (w : Wd) : Prop where
  hL : 2 ≤ w.L ∧ w.L ≤ 180
  hn : w.n ≤ 5
  hp : ∀ p ∈ w.ps, 0 < p.1 ∧ p.1 < w.L ∧ Sz 180 p.2 ∧ 0 ≤ p.2
  inc : ∀ (i : Nat) (a b : Int × Rat), w.ps[i]? = some a → w.ps[i + 1]? = some b → a.1 < b.1
  hh : w.hs.length ≤ 5
  hw : ∀ h ∈ w.hs, 0 ≤ h.1 ∧ h.1 ≤ (w.L : Rat) ∧ Sz 10 h.1 ∧ 0 < h.2 ∧ Sz 4 h.2
/-- a place between the walls -/
def Wd.Rest (w : Wd) (r : Int) : Prop := -1 ≤ r ∧ r ≤ (w.n : Int)
section
variable {w : Wd}
theorem getD_some {α : Type} {l : List α} {i : Nat} {x d : α} (h : l[i]? = some x) : l.getD i d = x := by rw [List.getD_eq_getElem?_getD, h]; rfl
theorem pos_in {i : Nat} {p : Int × Rat} (h : w.ps[i]? = some p) : w.pos (i : Int) = p.1 := by
  have hi := (List.getElem?_eq_some_iff.mp h).1
  unfold Wd.pos Wd.n
  rw [if_neg (by omega), if_neg (by omega), Int.toNat_natCast, getD_some h]
theorem str_in {i : Nat} {p : Int × Rat} (h : w.ps[i]? = some p) : w.str (i : Int) = p.2 := by
  unfold Wd.str
  rw [Int.toNat_natCast, getD_some h]
theorem pos_left : w.pos (-1) = 0 := by unfold Wd.pos; rw [if_pos rfl]
theorem pos_right : w.pos (w.n : Int) = w.L := by unfold Wd.pos; rw [if_neg (by omega), if_pos rfl]
theorem ps_at {i : Nat} (h : i < w.n) : ∃ p, w.ps[i]? = some p ∧ p ∈ w.ps := ⟨w.ps[i]'h, List.getElem?_eq_getElem h, List.getElem_mem h⟩
theorem Wd.Ok.pos_succ (ok : w.Ok) {r : Int} (h1 : -1 ≤ r) (h2 : r < (w.n : Int)) : w.pos r < w.pos (r + 1) := by
  by_cases e : r = -1
  · subst e
    rw [pos_left]
    by_cases hn : w.n = 0
    · have : (-1 + 1 : Int) = (w.n : Int) := by omega
      rw [this, pos_right]
      have := ok.hL
      omega
    · obtain ⟨p, hp, hm⟩ := ps_at (w := w) (i := 0) (by omega)
      have e0 : (-1 + 1 : Int) = ((0 : Nat) : Int) := by omega
      rw [e0, pos_in hp]
      exact (ok.hp p hm).1
  · obtain ⟨i, rfl⟩ : ∃ i : Nat, r = (i : Int) := ⟨r.toNat, by omega⟩
    obtain ⟨p, hp, hm⟩ := ps_at (w := w) (i := i) (by omega)
    rw [pos_in hp]
    by_cases hn : i + 1 = w.n
    · have e0 : ((i : Int) + 1) = (w.n : Int) := by omega
      rw [e0, pos_right]
      exact (ok.hp p hm).2.1
    · obtain ⟨p2, hp2, hm2⟩ := ps_at (w := w) (i := i + 1) (by omega)
      have e0 : ((i : Int) + 1) = ((i + 1 : Nat) : Int) := by omega
      rw [e0, pos_in hp2]
      exact ok.inc i p p2 hp hp2
theorem Wd.Ok.pos_lt (ok : w.Ok) {a b : Int} (ha : -1 ≤ a) (hb : b ≤ (w.n : Int)) (h : a < b) : w.pos a < w.pos b := by
  obtain ⟨k, hk⟩ : ∃ k : Nat, b = a + 1 + (k : Int) := ⟨(b - a - 1).toNat, by omega⟩
  induction k generalizing b with
  | zero =>
    have : b = a + 1 := by omega
    subst this
    exact ok.pos_succ ha (by omega)
  | succ k ih =>
    have h1 := ih (b := a + 1 + (k : Int)) (by omega) (by omega) rfl
    have h2 := ok.pos_succ (r := a + 1 + (k : Int)) (by omega) (by omega)
    have e : a + 1 + (k : Int) + 1 = b := by omega
    rw [e] at h2
    omega
theorem Wd.Ok.pos_bd (ok : w.Ok) {a : Int} (ha : -1 ≤ a) (hb : a ≤ (w.n : Int)) : 0 ≤ w.pos a ∧ w.pos a ≤ w.L := by
  constructor
  · by_cases e : a = -1
    · subst e; rw [pos_left]; exact Int.le_refl _
    · have := ok.pos_lt (a := -1) (b := a) (by omega) hb (by omega)
      rw [pos_left] at this
      omega
  · by_cases e : a = (w.n : Int)
    · subst e; rw [pos_right]; exact Int.le_refl _
    · have := ok.pos_lt (a := a) (b := (w.n : Int)) ha (Int.le_refl _) (by omega)
      rw [pos_right] at this
      omega
theorem Wd.Ok.pos_sz (ok : w.Ok) {a : Int} (ha : -1 ≤ a) (hb : a ≤ (w.n : Int)) : Sz 8 (w.pos a : Rat) := by
  have h := ok.pos_bd ha hb
  have := ok.hL
  refine Sz.int ?_ (by decide)
  have e : (2 : Nat) ^ 8 = 256 := by decide
  omega
theorem diff_sz (ok : w.Ok) {a b : Int} (ha : -1 ≤ a) (hb : b ≤ (w.n : Int)) (h : a < b) : Sz 8 ((w.pos b - w.pos a : Int) : Rat) ∧ (0 : Rat) < ((w.pos b - w.pos a : Int) : Rat) := by
  have h1 := ok.pos_bd ha (by omega)
  have h2 := ok.pos_bd (a := b) (by omega) hb
  have h3 := ok.pos_lt ha hb h
  have := ok.hL
  refine ⟨Sz.int ?_ (by decide), ?_⟩
  · have e : (2 : Nat) ^ 8 = 256 := by decide
    omega
  · have : ((0 : Int) : Rat) < ((w.pos b - w.pos a : Int) : Rat) := Rat.intCast_lt_intCast.mpr (by omega)
    exact this
theorem Wd.Ok.sh_sz (ok : w.Ok) {l r e : Int} (h1 : -1 ≤ l) (h2 : l < r) (h3 : r < e) (h4 : e ≤ (w.n : Int)) {k : Nat} {q : Rat} (hq : Sz k q) : Sz (k + 17) (w.sh l r e q) := by
  unfold Wd.sh shr
  split
  · exact ((hq.sub (ok.pos_sz h1 (by omega))).div (diff_sz ok h1 (by omega) h2).1 (diff_sz ok h1 (by omega) h2).2).mono (by omega)
  · split
    · exact (((ok.pos_sz (by omega) h4).sub hq).div (diff_sz ok (by omega) h4 h3).1 (diff_sz ok (by omega) h4 h3).2).mono (by omega)
    · exact Sz.zero.mono (by omega)
theorem sumQ_sz {k : Nat} : ∀ (qs : List Rat) (m : Nat) (q0 : Rat), Sz m q0 → (∀ q ∈ qs, Sz k q) → Sz (m + qs.length * (k + 1)) (qs.foldl (· + ·) q0)
  | [], m, q0, h, _ => by simpa using h
  | q :: qs, m, q0, h, hq => by
    have h1 := (h.add (hq q List.mem_cons_self))
    have := sumQ_sz qs _ _ h1 fun x hx => hq x (List.mem_cons_of_mem _ hx)
    rw [List.foldl_cons, List.length_cons]
    refine this.mono ?_
    rw [Nat.succ_mul]
    omega
theorem sumQ_sz' {k n : Nat} {qs : List Rat} (hq : ∀ q ∈ qs, Sz k q) (hn : qs.length ≤ n) : Sz (1 + n * (k + 1)) (sumQ qs) :=
  (sumQ_sz qs 1 0 Sz.zero hq).mono (Nat.add_le_add_left (Nat.mul_le_mul_right _ hn) 1)
theorem Wd.Ok.ld_sz (ok : w.Ok) {l r e : Int} (h1 : -1 ≤ l) (h2 : l < r) (h3 : r < e) (h4 : e ≤ (w.n : Int)) : (∀ q ∈ w.hs.map fun h => h.2 * w.sh l r e h.1, Sz 31 q) ∧ Sz 161 (w.ld l r e) := by
  have hq : ∀ q ∈ w.hs.map fun h => h.2 * w.sh l r e h.1, Sz 31 q := by
    intro q hq
    obtain ⟨h, hh, rfl⟩ := List.mem_map.mp hq
    obtain ⟨_, _, s1, _, s2⟩ := ok.hw h hh
    exact (s2.mul (ok.sh_sz h1 h2 h3 h4 s1)).mono (by decide)
  exact ⟨hq, sumQ_sz' (n := 5) hq (by rw [List.length_map]; exact ok.hh)⟩
end
end PF
end
section
set_option Elab.async false
set_option linter.all false
set_option maxRecDepth 100000
set_option maxHeartbeats 4000000
namespace PF
open PySem PySem.Spec L2
/-! ### list(zip(..)): the tuples stay, held by the list -/
structure TupSrc (prog : Program) (w : World) (A : Around) (z S : Addr) (own : List Addr) (n : Nat) (Pt : Nat → Array Value → Prop) (St : Nat → Heap → Prop) : Prop where
  frame : ∀ i h h', St i h → (∀ b o, b ≠ S → h.get? b = some o → h'.get? b = some o) → St i h'
  item : ∀ i (s : Shared) (Q : Option Value → Shared → Prop) (E : Value → Shared → Prop), i < n → St i s.heap → s.heap.objs.size ≠ S →
    (∀ vals h' tk, Pt i vals → h'.get? s.heap.objs.size = some { cls := .type "tuple", data := .seq vals } → St (i + 1) h' → (∀ b o, b ∉ own → s.heap.get? b = some o → h'.get? b = some o) → Q (some (.ref s.heap.objs.size)) { s with heap := h', toks := tk }) →
    wpAny (model prog w) A (pyNext (.ref z)) Q E s
  done : ∀ (s : Shared) (Q : Option Value → Shared → Prop) (E : Value → Shared → Prop), St n s.heap →
    (∀ h' tk, (∀ b o, b ∉ own → s.heap.get? b = some o → h'.get? b = some o) → Q none { s with heap := h', toks := tk }) → wpAny (model prog w) A (pyNext (.ref z)) Q E s
def MadeT (Pt : Nat → Array Value → Prop) (lo : Addr) (h : Heap) (as : List Addr) : Prop := as.Nodup ∧ ∀ j a, as[j]? = some a → lo ≤ a ∧ ∃ vals, Pt j vals ∧ h.get? a = some { cls := .type "tuple", data := .seq vals }
section
variable {prog : Program} {w : World} {A : Around} {E : Value → Shared → Prop} {s : Shared} {z S : Addr} {own : List Addr} {n : Nat} {Pt : Nat → Array Value → Prop} {St : Nat → Heap → Prop}
theorem loopT {R : Result → Shared → Prop} (W : TupSrc prog w A.in1 z S own n Pt St) (hn : n ≤ sizeLine) (hSo : S ∉ own) (lo : Addr) (hSl : S < lo) (hol : ∀ b ∈ own, b < lo) (res : Value) (h₀ : Heap)
    (hR : ∀ h' tk acc' c' as, (∀ b o, b ≠ S → b ∉ own → h₀.get? b = some o → h'.get? b = some o) → h'.get? S = some { cls := .type "list", dict := none, data := .seq acc' c', slots := #[] } → as.length = n → MadeT Pt lo h' as → acc'.toList = as.map Value.ref → R (.ok (.ret res)) { s with heap := h', toks := tk }) :
    ∀ (k i : Nat) (h : Heap) (tk c : Nat) (acc : Array Value) (as : List Addr), n - i = k → i ≤ n → St i h → (∀ b o, b ≠ S → b ∉ own → h₀.get? b = some o → h.get? b = some o) →
      h.get? S = some { cls := .type "list", dict := none, data := .seq acc c, slots := #[] } → acc.toList = as.map Value.ref → as.length = i → MadeT Pt lo h as → lo ≤ h.objs.size →
      codeAny (model prog w) A (.builtin "list.extend.loop" ⟨[.ref S, .ref z, res], []⟩) R { s with heap := h, toks := tk } := by
  intro k
  induction k with
  | zero =>
    intro i h tk c acc as hk hi hst hkeep hS hacc hal hG hlo
    have hin : i = n := by omega
    subst hin
    refine codeAny_builtin PySem.F.entry_extend_loop ?_
    rw [Around.under_plainId PySem.F.plain_extend_loop _]
    show wpAny _ A.in1 (pyNext (.ref z) >>= _) _ _ _
    refine wpAny_bind (W.done { s with heap := h, toks := tk } _ _ hst fun h' tk' he => ?_)
    refine wpAny_pure (hR h' tk' acc c as (fun b o h1 h2 e => he b o h2 (hkeep b o h1 h2 e)) (he S _ hSo hS) hal ⟨hG.1, fun j a hj => ?_⟩ hacc)
    obtain ⟨l, vals, e1, e3⟩ := hG.2 j a hj
    exact ⟨l, vals, e1, he a _ (fun hm => Nat.lt_irrefl _ (Nat.lt_of_lt_of_le (hol a hm) l)) e3⟩
  | succ k ih =>
    intro i h tk c acc as hk hi hst hkeep hS hacc hal hG hlo
    have hlt : i < n := by omega
    have hsz : acc.size = i := by rw [← Array.length_toList, hacc, List.length_map, hal]
    have hneS : h.objs.size ≠ S := Nat.ne_of_gt (Nat.lt_of_lt_of_le hSl hlo)
    refine codeAny_builtin PySem.F.entry_extend_loop ?_
    rw [Around.under_plainId PySem.F.plain_extend_loop _]
    show wpAny _ A.in1 (pyNext (.ref z) >>= _) _ _ _
    refine wpAny_bind (W.item i { s with heap := h, toks := tk } _ _ hlt hst hneS fun vals h' tk' hp ht hst' hkp => ?_)
    dsimp only at ht hkp ⊢
    have hS' := hkp S _ hSo hS
    have up : ∀ b o, b ≠ S → h'.get? b = some o → (h'.update S (Obj.mapSeq (·.push (Value.ref h.objs.size)))).get? b = some o := fun b o hb e => (Heap.get?_update_other _ _ (Ne.symm hb)).trans e
    show wpAny _ A.in1 (updateSeq S (·.push (Value.ref h.objs.size)) >>= _) _ _ _
    refine wpAny_bind ?_
    refine wpAny_updateSeq hS' rfl (wpAny_pure ⟨plainId_quiet PySem.F.plain_extend_loop _, ih (i + 1) _ tk' _ (acc.push (Value.ref h.objs.size)) (as ++ [h.objs.size]) (by omega) hlt (W.frame _ _ _ hst' up)
      (fun b o h1 h2 e => up b o h1 (hkp b o h2 (hkeep b o h1 h2 e))) (Heap.get?_update_self _ hS' rfl) (by rw [Array.toList_push, hacc, List.map_append]; rfl) (by rw [List.length_append, hal]; rfl) ?_ ?_⟩) (by rw [hsz]; omega) (by show (acc.push (Value.ref h.objs.size)).size ≤ sizeLine + 1; rw [Array.size_push, hsz]; omega)
    · refine ⟨List.nodup_append.mpr ⟨hG.1, by simp, fun a ha b hb => ?_⟩, fun j b hj => ?_⟩
      · rw [List.mem_singleton.mp hb]
        obtain ⟨j, hj⟩ := List.mem_iff_getElem?.mp ha
        obtain ⟨_, _, _, e3⟩ := hG.2 j a hj
        exact Nat.ne_of_lt (Heap.lt_size e3)
      rcases Nat.lt_trichotomy j as.length with h1 | h1 | h1
      · rw [List.getElem?_append_left h1] at hj
        obtain ⟨l, vs, e1, e3⟩ := hG.2 j b hj
        exact ⟨l, vs, e1, up b _ (Nat.ne_of_gt (Nat.lt_of_lt_of_le hSl l)) (hkp b _ (fun hm => Nat.lt_irrefl _ (Nat.lt_of_lt_of_le (hol b hm) l)) e3)⟩
      · subst h1
        have hb : h.objs.size = b := by simpa using hj
        subst hb
        exact ⟨hlo, vals, by rw [hal]; exact hp, up _ _ hneS ht⟩
      · have hnone : (as ++ [h.objs.size])[j]? = none := List.getElem?_eq_none (by rw [List.length_append, List.length_singleton]; omega)
        rw [hnone] at hj; cases hj
    · have e : (h'.update S (Obj.mapSeq (·.push (Value.ref h.objs.size)))).get? h.objs.size = _ := up _ _ hneS ht
      exact Nat.le_trans hlo (Nat.le_of_lt (Heap.lt_size e))
theorem zip_no_len : typeLookup (.type "zip") "__len__" = pure none := by rw [typeLookup_type, builtinLookup_eq_fast]; kernel_rfl
theorem zip_no_hint : typeLookup (.type "zip") "__length_hint__" = pure none := by rw [typeLookup_type, builtinLookup_eq_fast]; kernel_rfl
theorem hint_zip {Q : Bool → Shared → Prop} (hT : s.TypeIs (.ref z) "zip") (h : Q true s) : wpAny (model prog w) A (Builtin.List.listLengthHint (.ref z)) Q E s := by
  unfold Builtin.List.listLengthHint
  refine wpAny_bind (wpAny_specialOf hT zip_no_len ?_)
  show wpAny _ A (specialOf (Value.ref z) (Str.ofString "__length_hint__") >>= _) _ _ _
  refine wpAny_bind (wpAny_specialOf hT zip_no_hint ?_)
  exact wpAny_pure h
theorem extT {R : Result → Shared → Prop} (W : TupSrc prog w A.in1 z S own n Pt St) (hn : n ≤ sizeLine) (hSo : S ∉ own) (hzS : S ≠ z) (lo : Addr) (hSl : S < lo) (hol : ∀ b ∈ own, b < lo) (res : Value) (c₀ : Nat) (hlo : lo ≤ s.heap.objs.size)
    (hT : s.TypeIs (.ref z) "zip") (hst : St 0 s.heap) (hS : s.heap.get? S = some { cls := .type "list", data := .seq #[] c₀ })
    (hit : ∀ (Q : Value → Shared → Prop) (E : Value → Shared → Prop), Q (.ref z) s → wpAny (model prog w) A.in1 (pyIter (.ref z)) Q E s)
    (hR : ∀ h' tk acc' c' as, (∀ b o, b ≠ S → b ∉ own → s.heap.get? b = some o → h'.get? b = some o) → h'.get? S = some { cls := .type "list", dict := none, data := .seq acc' c', slots := #[] } → as.length = n → MadeT Pt lo h' as → acc'.toList = as.map Value.ref → R (.ok (.ret res)) { s with heap := h', toks := tk }) :
    wpAny (model prog w) A.in1 (Builtin.List.listExtendWith (.ref S) (.ref z) res)
      (fun fin s' => match fin with | .done f => R (.ok f) s' | .again c' => c'.quiet = true ∧ codeAny (model prog w) A c' R s') (fun e s' => R (.error e) s') s := by
  unfold Builtin.List.listExtendWith
  refine wpAny_bind (wpAny_typeOf hT ?_)
  have h1 : Builtin.List.listSameRef (.ref S) (.ref z) = false := by simp [Builtin.List.listSameRef, hzS]
  have h2 : (Value.type "zip" == Value.type "list") = false := by decide
  have h3 : (Value.type "zip" == Value.type "tuple") = false := by decide
  simp only [h1, h2, h3, Bool.or_false, Bool.false_eq_true, if_false]
  refine wpAny_bind (hit _ _ ?_)
  refine wpAny_bind (wpAny_holding (hint_zip hT ?_))
  refine wpAny_ite_split (fun _ => ?_) (fun q => absurd rfl q)
  refine wpAny_bind (wpAny_rule ?_)
  refine wpAny_bind ?_
  show wpAny _ _ (updateSeq S (·.push .none) >>= fun _ => updateSeq S (·.pop)) _ _ _
  refine wpAny_bind (wpAny_updateSeq hS rfl ?_)
  have hS₂ := Heap.get?_update_self (Obj.mapSeq (·.push Value.none)) hS rfl
  refine wpAny_updateSeq (hz := by seq_fits) hS₂ rfl ?_
  have hS₃ := Heap.get?_update_self (Obj.mapSeq (·.pop)) hS₂ rfl
  have oth : ∀ b o, b ≠ S → s.heap.get? b = some o → ((s.heap.update S (Obj.mapSeq (·.push Value.none))).update S (Obj.mapSeq (·.pop))).get? b = some o :=
    fun b o hb e => (Heap.get?_update_other _ _ (Ne.symm hb)).trans ((Heap.get?_update_other _ _ (Ne.symm hb)).trans e)
  exact wpAny_pure ⟨plainId_quiet PySem.F.plain_extend_loop _, loopT (s := s) W hn hSo lo hSl hol res s.heap hR n 0 _ s.toks _ _ [] (Nat.sub_zero _) (Nat.zero_le _) (W.frame 0 _ _ hst oth) (fun b o hb _ e => oth b o hb e) hS₃ rfl rfl ⟨List.nodup_nil, fun j a hj => by simp at hj⟩ (by show lo ≤ ((s.heap.update S (Obj.mapSeq (·.push Value.none))).update S (Obj.mapSeq (·.pop))).objs.size; rw [Heap.size_update, Heap.size_update]; exact hlo)⟩
end
end PF
end
section
set_option Elab.async false
set_option linter.all false
set_option maxRecDepth 100000
set_option maxHeartbeats 4000000
namespace PF
open PySem PySem.Spec L2
section
variable {prog : Program} {w : World} {A : Around} {E : Value → Shared → Prop} {s : Shared} {z TI TO T i1 i2 i3 : Addr} {f : Bool} {oT : Obj} {fp1 fp2 fp3 : List Addr} {n1 n2 n3 i : Nat} {P1 P2 P3 : Nat → Value → Prop} {St1 St2 St3 : Nat → Heap → Prop}
theorem zip3_next_held {Q : Value → Shared → Prop} (S : ZipSep3 z TI TO i1 i2 i3 fp1 fp2 fp3) (D1 : Draws prog w A i1 fp1 n1 P1 St1) (D2 : Draws prog w A i2 fp2 n2 P2 St2) (D3 : Draws prog w A i3 fp3 n3 P3 St3)
    (hz : IsZipHeld s.heap z TI TO T f) (hT : s.heap.get? T = some oT) (hTI : IsTupOf3 s.heap TI (.ref i1) (.ref i2) (.ref i3)) (st1 : St1 i s.heap) (st2 : St2 i s.heap) (st3 : St3 i s.heap) (hlt1 : i < n1) (hlt2 : i < n2) (hlt3 : i < n3)
    (hQ : ∀ x1 x2 x3 h' tk, P1 i x1 → P2 i x2 → P3 i x3 → IsZipHeld h' z TI TO T true → St1 (i + 1) h' → St2 (i + 1) h' → St3 (i + 1) h' → IsTupOf3 h' s.heap.objs.size x1 x2 x3 →
      (∀ c o, c ≠ z → c ≠ i1 → c ≠ i2 → c ≠ i3 → s.heap.get? c = some o → h'.get? c = some o) → Q (.ref s.heap.objs.size) { s with heap := h', toks := tk }) :
    wpAny (model prog w) A (Builtin.«zip.__next__» ⟨[.ref z], []⟩) (fun fin s' => ∃ v, fin = .done (.ret v) ∧ Q v s') E s := by
  obtain ⟨hp, g, d, tk0, os⟩ := s
  show wpAny _ _ (field (.ref z) 2 >>= _) _ _ _
  refine wpAny_bind (wpAny_field hz rfl (x := .bool false) rfl ?_)
  show wpAny _ _ (field (.ref z) 3 >>= _) _ _ _
  refine wpAny_bind (wpAny_field hz rfl (x := .ref TI) rfl ?_)
  refine wpAny_bind (wpAny_seqItems hTI rfl ?_)
  show wpAny _ _ (Builtin.SmallTypes.ownedTupleIsFree (.ref z) >>= _) _ _ _
  refine wpAny_bind (wpAny_tupleHeld_zip hz hT fun g0 hz0 hs0 => ?_)
  replace hs0 : Heap.SameBut z hp g0 := hs0
  simp only [Bool.false_eq_true, if_false]
  refine wpAny_bind ?_
  rw [← Array.forIn_toList]
  simp only [List.forIn_cons, List.forIn_nil]
  refine wpAny_bind (wpAny_bind (wpAny_holding ?_))
  show wpAny _ _ (Builtin.SmallTypes.nextOf (.ref i1) >>= _) _ _ _
  refine wpAny_bind (D1.item i _ _ _ hlt1 (D1.over st1 hs0 S.zf1) fun x1 p1 tk1 hx1 sn1 hp1 => wpAny_pure ?_)
  replace hp1 : Heap.SameBut i1 g0 p1 := hp1
  refine wpAny_pure ?_
  refine wpAny_bind (wpAny_bind (wpAny_holding ?_))
  show wpAny _ _ (Builtin.SmallTypes.nextOf (.ref i2) >>= _) _ _ _
  refine wpAny_bind (D2.item i _ _ _ hlt2 (D2.over (D2.over st2 hs0 S.zf2) hp1 S.sep1_2) fun x2 p2 tk2 hx2 sn2 hp2 => wpAny_pure ?_)
  replace hp2 : Heap.SameBut i2 p1 p2 := hp2
  refine wpAny_pure ?_
  refine wpAny_bind (wpAny_bind (wpAny_holding ?_))
  show wpAny _ _ (Builtin.SmallTypes.nextOf (.ref i3) >>= _) _ _ _
  refine wpAny_bind (D3.item i _ _ _ hlt3 (D3.over (D3.over (D3.over st3 hs0 S.zf3) hp1 S.sep1_3) hp2 S.sep2_3) fun x3 p3 tk3 hx3 sn3 hp3 => wpAny_pure ?_)
  replace hp3 : Heap.SameBut i3 p2 p3 := hp3
  refine wpAny_pure (wpAny_pure ?_)
  show wpAny _ _ (newTuple [x1, x2, x3] >>= _) _ _ _
  refine wpAny_bind (wpAny_newTuple ?_)
  have hsz : p3.objs.size = hp.objs.size := by rw [hp3.1, hp2.1, hp1.1, hs0.1]
  have hzz : IsZipHeld p3 z TI TO T true := hp3.extBut _ _ S.zi3 (hp2.extBut _ _ S.zi2 (hp1.extBut _ _ S.zi1 hz0))
  have hkk : ∀ c o, c ≠ z → c ≠ i1 → c ≠ i2 → c ≠ i3 → hp.get? c = some o → p3.get? c = some o := fun c o cz c1 c2 c3 e => hp3.extBut _ _ c3 (hp2.extBut _ _ c2 (hp1.extBut _ _ c1 (hs0.extBut _ _ cz e)))
  have hj1 : St1 (i + 1) p3 := D1.over (D1.over sn1 hp2 S.sep2_1) hp3 S.sep3_1
  have hj2 : St2 (i + 1) p3 := D2.over sn2 hp3 S.sep3_2
  refine wpAny_pure ⟨_, rfl, ?_⟩
  show Q (.ref p3.objs.size) _
  have hp' : IsTupOf3 (p3.push { cls := .type "tuple", data := .seq #[x1, x2, x3] }) p3.objs.size x1 x2 x3 := Heap.get?_push_size _ rfl
  rw [hsz] at hp' ⊢
  exact hQ x1 x2 x3 _ tk3 hx1 hx2 hx3 (Heap.get?_push_of_some _ hzz) (D1.frame _ _ _ hj1 fun b _ o e => Heap.get?_push_of_some _ e) (D2.frame _ _ _ hj2 fun b _ o e => Heap.get?_push_of_some _ e) (D3.frame _ _ _ sn3 fun b _ o e => Heap.get?_push_of_some _ e) hp' fun c o cz c1 c2 c3 e => Heap.get?_push_of_some _ (hkk c o cz c1 c2 c3 e)
theorem zip3_end_held {Q : PySem.Fin → Shared → Prop} (S : ZipSep3 z TI TO i1 i2 i3 fp1 fp2 fp3) (D1 : Draws prog w A i1 fp1 n1 P1 St1) (D2 : Draws prog w A i2 fp2 n2 P2 St2) (D3 : Draws prog w A i3 fp3 n3 P3 St3)
    (hz : IsZipHeld s.heap z TI TO T f) (hT : s.heap.get? T = some oT) (hTI : IsTupOf3 s.heap TI (.ref i1) (.ref i2) (.ref i3)) (st1 : St1 i s.heap) (st2 : St2 i s.heap) (st3 : St3 i s.heap) (hle1 : i ≤ n1) (hle2 : i ≤ n2) (hle3 : i ≤ n3) (hend : i = n1 ∨ i = n2 ∨ i = n3)
    (hE : ∀ h' tk e, (∀ c o, c ≠ z → c ≠ i1 → c ≠ i2 → c ≠ i3 → s.heap.get? c = some o → h'.get? c = some o) → (∃ o, h'.get? e = some o ∧ o.cls = .type "StopIteration") → E (.ref e) { s with heap := h', toks := tk }) :
    wpAny (model prog w) A (Builtin.«zip.__next__» ⟨[.ref z], []⟩) Q E s := by
  obtain ⟨hp, g, d, tk0, os⟩ := s
  show wpAny _ _ (field (.ref z) 2 >>= _) _ _ _
  refine wpAny_bind (wpAny_field hz rfl (x := .bool false) rfl ?_)
  show wpAny _ _ (field (.ref z) 3 >>= _) _ _ _
  refine wpAny_bind (wpAny_field hz rfl (x := .ref TI) rfl ?_)
  refine wpAny_bind (wpAny_seqItems hTI rfl ?_)
  show wpAny _ _ (Builtin.SmallTypes.ownedTupleIsFree (.ref z) >>= _) _ _ _
  refine wpAny_bind (wpAny_tupleHeld_zip hz hT fun g0 hz0 hs0 => ?_)
  replace hs0 : Heap.SameBut z hp g0 := hs0
  simp only [Bool.false_eq_true, if_false]
  refine wpAny_bind ?_
  rw [← Array.forIn_toList]
  simp only [List.forIn_cons, List.forIn_nil]
  refine wpAny_bind (wpAny_bind (wpAny_holding ?_))
  show wpAny _ _ (Builtin.SmallTypes.nextOf (.ref i1) >>= _) _ _ _
  by_cases hlt1 : i < n1
  · refine wpAny_bind (D1.item i _ _ _ hlt1 (D1.over st1 hs0 S.zf1) fun x1 p1 tk1 hx1 sn1 hp1 => wpAny_pure ?_)
    replace hp1 : Heap.SameBut i1 g0 p1 := hp1
    refine wpAny_pure ?_
    refine wpAny_bind (wpAny_bind (wpAny_holding ?_))
    show wpAny _ _ (Builtin.SmallTypes.nextOf (.ref i2) >>= _) _ _ _
    by_cases hlt2 : i < n2
    · refine wpAny_bind (D2.item i _ _ _ hlt2 (D2.over (D2.over st2 hs0 S.zf2) hp1 S.sep1_2) fun x2 p2 tk2 hx2 sn2 hp2 => wpAny_pure ?_)
      replace hp2 : Heap.SameBut i2 p1 p2 := hp2
      refine wpAny_pure ?_
      refine wpAny_bind (wpAny_bind (wpAny_holding ?_))
      show wpAny _ _ (Builtin.SmallTypes.nextOf (.ref i3) >>= _) _ _ _
      have hi3 : i = n3 := by omega
      refine wpAny_bind (D3.done ⟨p2, g, d, tk2, os⟩ _ _ (by rw [← hi3]; exact D3.over (D3.over (D3.over st3 hs0 S.zf3) hp1 S.sep1_3) hp2 S.sep2_3) fun q e hq he => ?_)
      exact hE q tk2 e (fun c o cz c1 c2 c3 x => hq _ _ c3 (hp2.extBut _ _ c2 (hp1.extBut _ _ c1 (hs0.extBut _ _ cz x)))) he
    · have hi2 : i = n2 := by omega
      refine wpAny_bind (D2.done ⟨p1, g, d, tk1, os⟩ _ _ (by rw [← hi2]; exact D2.over (D2.over st2 hs0 S.zf2) hp1 S.sep1_2) fun q e hq he => ?_)
      exact hE q tk1 e (fun c o cz c1 c2 c3 x => hq _ _ c2 (hp1.extBut _ _ c1 (hs0.extBut _ _ cz x))) he
  · have hi1 : i = n1 := by omega
    refine wpAny_bind (D1.done ⟨g0, g, d, tk0, os⟩ _ _ (by rw [← hi1]; exact D1.over st1 hs0 S.zf1) fun q e hq he => ?_)
    exact hE q tk0 e (fun c o cz c1 c2 c3 x => hq _ _ c1 (hs0.extBut _ _ cz x)) he
theorem pyNext3_held {Q : Option Value → Shared → Prop} (S : ZipSep3 z TI TO i1 i2 i3 fp1 fp2 fp3) (D1 : Draws prog w A.in1 i1 fp1 n1 P1 St1) (D2 : Draws prog w A.in1 i2 fp2 n2 P2 St2) (D3 : Draws prog w A.in1 i3 fp3 n3 P3 St3)
    (hz : IsZipHeld s.heap z TI TO T f) (hT : s.heap.get? T = some oT) (hTI : IsTupOf3 s.heap TI (.ref i1) (.ref i2) (.ref i3)) (st1 : St1 i s.heap) (st2 : St2 i s.heap) (st3 : St3 i s.heap) (hlt1 : i < n1) (hlt2 : i < n2) (hlt3 : i < n3)
    (hQ : ∀ x1 x2 x3 h' tk, P1 i x1 → P2 i x2 → P3 i x3 → IsZipHeld h' z TI TO T true → St1 (i + 1) h' → St2 (i + 1) h' → St3 (i + 1) h' → IsTupOf3 h' s.heap.objs.size x1 x2 x3 →
      (∀ c o, c ≠ z → c ≠ i1 → c ≠ i2 → c ≠ i3 → s.heap.get? c = some o → h'.get? c = some o) → Q (some (.ref s.heap.objs.size)) { s with heap := h', toks := tk }) :
    wpAny (model prog w) A (pyNext (.ref z)) Q E s := by
  have hTy : s.TypeIs (.ref z) "zip" := ⟨_, hz, rfl⟩
  unfold pyNext
  exact wpAny_bind (wpAny_attempt (wpAny_callSpecial?_slot (name := Str.ofString "__next__") hTy F.slot_zip_next
    (wpAny_call_entry F.slot_zip_next hTy F.entry_zip_next
      (zip3_next_held S D1 D2 D3 hz hT hTI st1 st2 st3 hlt1 hlt2 hlt3 fun x1 x2 x3 h' tk y1 y2 y3 b1 d1 d2 d3 b5 b7 => wpAny_pure (hQ x1 x2 x3 h' tk y1 y2 y3 b1 d1 d2 d3 b5 b7)) (F.args_zip_next_1 _))))
theorem pyNext3_end_held {Q : Option Value → Shared → Prop} (S : ZipSep3 z TI TO i1 i2 i3 fp1 fp2 fp3) (D1 : Draws prog w A.in1 i1 fp1 n1 P1 St1) (D2 : Draws prog w A.in1 i2 fp2 n2 P2 St2) (D3 : Draws prog w A.in1 i3 fp3 n3 P3 St3)
    (hz : IsZipHeld s.heap z TI TO T f) (hT : s.heap.get? T = some oT) (hTI : IsTupOf3 s.heap TI (.ref i1) (.ref i2) (.ref i3)) (st1 : St1 i s.heap) (st2 : St2 i s.heap) (st3 : St3 i s.heap) (hle1 : i ≤ n1) (hle2 : i ≤ n2) (hle3 : i ≤ n3) (hend : i = n1 ∨ i = n2 ∨ i = n3)
    (hQ : ∀ h' tk, (∀ c o, c ≠ z → c ≠ i1 → c ≠ i2 → c ≠ i3 → s.heap.get? c = some o → h'.get? c = some o) → Q none { s with heap := h', toks := tk }) : wpAny (model prog w) A (pyNext (.ref z)) Q E s := by
  have hTy : s.TypeIs (.ref z) "zip" := ⟨_, hz, rfl⟩
  unfold pyNext
  refine wpAny_bind (wpAny_attempt (wpAny_callSpecial?_slot (name := Str.ofString "__next__") hTy F.slot_zip_next
    (wpAny_call_entry F.slot_zip_next hTy F.entry_zip_next (zip3_end_held S D1 D2 D3 hz hT hTI st1 st2 st3 hle1 hle2 hle3 hend fun h' tk e hk he => ?_) (F.args_zip_next_1 _))))
  obtain ⟨o, ho, hc⟩ := he
  refine wpAny_bind (wpAny_isInstance (T := "StopIteration") (b := true) ⟨o, ho, hc⟩ isSubtype_stop ?_)
  exact wpAny_pure (hQ _ _ hk)
end
section
variable {prog : Program} {w : World} {A : Around} {z TI TO i1 i2 i3 S : Addr} {fp1 fp2 fp3 : List Addr} {n : Nat} {P1 P2 P3 : Nat → Value → Prop} {St1 St2 St3 : Nat → Heap → Prop}
/-- three iterators of which the shortest has n turns -/
theorem src3 {n1 n2 n3 : Nat} (Z : ZipSep3 z TI TO i1 i2 i3 fp1 fp2 fp3) (D1 : Draws prog w A.in1 i1 fp1 n1 P1 St1) (D2 : Draws prog w A.in1 i2 fp2 n2 P2 St2) (D3 : Draws prog w A.in1 i3 fp3 n3 P3 St3) (hn : min (min n1 n2) n3 = n)
    (hSz : S ≠ z) (hSTI : S ≠ TI) (hSTO : S ≠ TO) (h1 : S ∉ fp1) (h2 : S ∉ fp2) (h3 : S ∉ fp3) :
    TupSrc prog w A z S [z, TO, i1, i2, i3] n (fun i vals => ∃ x1 x2 x3, P1 i x1 ∧ P2 i x2 ∧ P3 i x3 ∧ vals = #[x1, x2, x3])
      (fun i h => ((i = 0 ∧ IsZip h z TI TO .none ∧ ∃ a1 a2 a3, IsTupOf3 h TO a1 a2 a3) ∨ (∃ T f oT, IsZipHeld h z TI TO T f ∧ T ≠ S ∧ T ∉ [z, TO, i1, i2, i3] ∧ h.get? T = some oT)) ∧ IsTupOf3 h TI (.ref i1) (.ref i2) (.ref i3) ∧ St1 i h ∧ St2 i h ∧ St3 i h) where
  frame := fun i h h' st hk => by
    obtain ⟨c, hTI, s1, s2, s3⟩ := st
    refine ⟨?_, hk _ _ (Ne.symm hSTI) hTI, D1.frame _ _ _ s1 fun b hb o e => hk b o (fun q => h1 (q ▸ hb)) e, D2.frame _ _ _ s2 fun b hb o e => hk b o (fun q => h2 (q ▸ hb)) e, D3.frame _ _ _ s3 fun b hb o e => hk b o (fun q => h3 (q ▸ hb)) e⟩
    rcases c with ⟨e, c, a1, a2, a3, hTO⟩ | ⟨T, f, oT, c, t1, t2, t3⟩
    · exact .inl ⟨e, hk _ _ (Ne.symm hSz) c, a1, a2, a3, hk _ _ (Ne.symm hSTO) hTO⟩
    · exact .inr ⟨T, f, oT, hk _ _ (Ne.symm hSz) c, t1, t2, hk _ _ t1 t3⟩
  item := fun i s Q E hi st hneS hQ => by
    obtain ⟨c, hTI, s1, s2, s3⟩ := st
    have lt : ∀ {c o}, s.heap.get? c = some o → s.heap.objs.size ≠ c := fun e => Nat.ne_of_gt (Heap.lt_size e)
    have l1 : s.heap.objs.size ≠ i1 := by obtain ⟨_, e⟩ := D1.live _ _ s1; exact lt e
    have l2 : s.heap.objs.size ≠ i2 := by obtain ⟨_, e⟩ := D2.live _ _ s2; exact lt e
    have l3 : s.heap.objs.size ≠ i3 := by obtain ⟨_, e⟩ := D3.live _ _ s3; exact lt e
    rcases c with ⟨e, c, a1, a2, a3, hTO⟩ | ⟨T, f, oT, c, t1, t2, t3⟩
    · have lz := lt c
      have lO := lt hTO
      refine wpAny_pyNext_zipD3_item Z D1 D2 D3 c hTI hTO s1 s2 s3 (by omega) (by omega) (by omega) fun x1 x2 x3 h' tk y1 y2 y3 b1 b2 d1 d2 d3 b5 b6 hk => ?_
      refine hQ _ h' tk ⟨x1, x2, x3, y1, y2, y3, rfl⟩ b5 ⟨.inr ⟨s.heap.objs.size, false, _, b1, hneS, by simp [lz, lO, l1, l2, l3], b5⟩, hk _ _ Z.TIz Z.TITO Z.TIi1 Z.TIi2 Z.TIi3 hTI, d1, d2, d3⟩ fun b o hb e => ?_
      simp only [List.mem_cons, List.not_mem_nil, or_false, not_or] at hb
      exact hk b o hb.1 hb.2.1 hb.2.2.1 hb.2.2.2.1 hb.2.2.2.2 e
    · refine pyNext3_held Z D1 D2 D3 c t3 hTI s1 s2 s3 (by omega) (by omega) (by omega) fun x1 x2 x3 h' tk y1 y2 y3 b1 d1 d2 d3 b5 hk => ?_
      have t2' := t2
      simp only [List.mem_cons, List.not_mem_nil, or_false, not_or] at t2'
      refine hQ _ h' tk ⟨x1, x2, x3, y1, y2, y3, rfl⟩ b5 ⟨.inr ⟨T, true, oT, b1, t1, t2, hk _ _ t2'.1 t2'.2.2.1 t2'.2.2.2.1 t2'.2.2.2.2 t3⟩, hk _ _ Z.TIz Z.TIi1 Z.TIi2 Z.TIi3 hTI, d1, d2, d3⟩ fun b o hb e => ?_
      simp only [List.mem_cons, List.not_mem_nil, or_false, not_or] at hb
      exact hk b o hb.1 hb.2.2.1 hb.2.2.2.1 hb.2.2.2.2 e
  done := fun s Q E st hQ => by
    obtain ⟨c, hTI, s1, s2, s3⟩ := st
    rcases c with ⟨e, c, a1, a2, a3, hTO⟩ | ⟨T, f, oT, c, t1, t2, t3⟩
    · refine wpAny_pyNext_zipD3_end Z D1 D2 D3 c hTI hTO s1 s2 s3 (by omega) (by omega) (by omega) (by omega) fun h' tk hk => hQ h' tk fun b o hb e => ?_
      simp only [List.mem_cons, List.not_mem_nil, or_false, not_or] at hb
      exact hk b o hb.1 hb.2.1 hb.2.2.1 hb.2.2.2.1 hb.2.2.2.2 e
    · refine pyNext3_end_held Z D1 D2 D3 c t3 hTI s1 s2 s3 (by omega) (by omega) (by omega) (by omega) fun h' tk hk => hQ h' tk fun b o hb e => ?_
      simp only [List.mem_cons, List.not_mem_nil, or_false, not_or] at hb
      exact hk b o hb.1 hb.2.2.1 hb.2.2.2.1 hb.2.2.2.2 e
/-- two lists -/
theorem src2 {l1 l2 : Addr} {xs ys : Array Value} (hh : A.handled = none) (Z : ZipApart z TI TO i1 i2 l1 l2) (hn : min xs.size ys.size = n)
    (hSz : S ≠ z) (hSTI : S ≠ TI) (hSTO : S ≠ TO) (h1 : S ≠ i1) (h2 : S ≠ i2) (h3 : S ≠ l1) (h4 : S ≠ l2) :
    TupSrc prog w A z S [z, TO, i1, i2] n (fun i vals => ∃ x y, xs[i]? = some x ∧ ys[i]? = some y ∧ vals = #[x, y])
      (fun i h => ((i = 0 ∧ IsZip h z TI TO .none ∧ ∃ a1 a2, IsPair h TO a1 a2) ∨ (∃ T f oT, IsZipHeld h z TI TO T f ∧ T ≠ S ∧ T ∉ [z, TO, i1, i2] ∧ h.get? T = some oT)) ∧ IsPair h TI (.ref i1) (.ref i2) ∧ h.IsListIter i1 l1 i ∧ h.IsListIter i2 l2 i ∧ h.IsList l1 xs ∧ h.IsList l2 ys) where
  frame := fun i h h' st hk => by
    obtain ⟨c, hTI, s1, s2, s3, s4⟩ := st
    refine ⟨?_, hk _ _ (Ne.symm hSTI) hTI, s1.at fun o e => hk _ o (Ne.symm h1) e, s2.at fun o e => hk _ o (Ne.symm h2) e, s3.at fun o e => hk _ o (Ne.symm h3) e, s4.at fun o e => hk _ o (Ne.symm h4) e⟩
    rcases c with ⟨e, c, a1, a2, hTO⟩ | ⟨T, f, oT, c, t1, t2, t3⟩
    · exact .inl ⟨e, hk _ _ (Ne.symm hSz) c, a1, a2, hk _ _ (Ne.symm hSTO) hTO⟩
    · exact .inr ⟨T, f, oT, hk _ _ (Ne.symm hSz) c, t1, t2, hk _ _ t1 t3⟩
  item := fun i s Q E hi st hneS hQ => by
    obtain ⟨c, hTI, s1, s2, s3, s4⟩ := st
    have lt : ∀ {c o}, s.heap.get? c = some o → s.heap.objs.size ≠ c := fun e => Nat.ne_of_gt (Heap.lt_size e)
    have l1' : s.heap.objs.size ≠ i1 := by obtain ⟨_, e, _⟩ := s1; exact lt e
    have l2' : s.heap.objs.size ≠ i2 := by obtain ⟨_, e, _⟩ := s2; exact lt e
    have hx : xs[i]? = some (xs[i]'(by omega)) := Array.getElem?_eq_getElem _
    have hy : ys[i]? = some (ys[i]'(by omega)) := Array.getElem?_eq_getElem _
    rcases c with ⟨e, c, a1, a2, hTO⟩ | ⟨T, f, oT, c, t1, t2, t3⟩
    · have lz := lt c
      have lO := lt hTO
      refine wpAny_pyNext_zip_item Z c hTI hTO s1 s2 s3 s4 hx hy fun h' b1 b2 b3 b4 b5 b6 hk => ?_
      refine hQ _ h' s.toks ⟨_, _, hx, hy, rfl⟩ b5 ⟨.inr ⟨s.heap.objs.size, false, _, b1, hneS, by simp [lz, lO, l1', l2'], b5⟩, hk _ _ Z.TIz Z.TITO Z.TIi1 Z.TIi2 hTI, b3, b4, s3.at fun o e => hk _ _ Z.l1z Z.l1TO Z.l1i1 Z.l1i2 e, s4.at fun o e => hk _ _ Z.l2z Z.l2TO Z.l2i1 Z.l2i2 e⟩ fun b o hb e => ?_
      simp only [List.mem_cons, List.not_mem_nil, or_false, not_or] at hb
      exact hk b o hb.1 hb.2.1 hb.2.2.1 hb.2.2.2 e
    · refine wpAny_pyNext_zip_item_held Z c t3 hTI s1 s2 s3 s4 hx hy fun h' b1 b3 b4 b5 b6 hk => ?_
      have t2' := t2
      simp only [List.mem_cons, List.not_mem_nil, or_false, not_or] at t2'
      refine hQ _ h' s.toks ⟨_, _, hx, hy, rfl⟩ b5 ⟨.inr ⟨T, true, oT, b1, t1, t2, hk _ _ t2'.1 t2'.2.2.1 t2'.2.2.2 t3⟩, hk _ _ Z.TIz Z.TIi1 Z.TIi2 hTI, b3, b4, s3.at fun o e => hk _ _ Z.l1z Z.l1i1 Z.l1i2 e, s4.at fun o e => hk _ _ Z.l2z Z.l2i1 Z.l2i2 e⟩ fun b o hb e => ?_
      simp only [List.mem_cons, List.not_mem_nil, or_false, not_or] at hb
      exact hk b o hb.1 hb.2.2.1 hb.2.2.2 e
  done := fun s Q E st hQ => by
    obtain ⟨c, hTI, s1, s2, s3, s4⟩ := st
    have hend : xs[n]? = none ∨ ys[n]? = none := by
      rw [Array.getElem?_eq_none_iff, Array.getElem?_eq_none_iff]
      omega
    rcases c with ⟨e, c, a1, a2, hTO⟩ | ⟨T, f, oT, c, t1, t2, t3⟩
    · refine wpAny_pyNext_zip_end hh Z c hTI hTO s1 s2 s3 s4 hend fun h' hk => hQ h' s.toks fun b o hb e => ?_
      simp only [List.mem_cons, List.not_mem_nil, or_false, not_or] at hb
      exact hk b o hb.1 hb.2.1 hb.2.2.1 hb.2.2.2 e
    · refine wpAny_pyNext_zip_end_held hh Z c t3 hTI s1 s2 s3 s4 hend fun h' hk => hQ h' s.toks fun b o hb e => ?_
      simp only [List.mem_cons, List.not_mem_nil, or_false, not_or] at hb
      exact hk b o hb.1 hb.2.2.1 hb.2.2.2 e
end
end PF
end
section
set_option Elab.async false
set_option linter.all false
set_option maxRecDepth 100000
set_option maxHeartbeats 4000000
namespace PF
open PySem PySem.Spec L2
section
variable {prog : Program} {w : World} {A : Around} {E : Value → Shared → Prop} {s : Shared}
theorem ne2 {a b c : Nat} (h1 : ¬ a = b) (h2 : ¬ a = c) : a ∉ [b, c] := by simp only [List.mem_cons, List.not_mem_nil, or_false, not_or]; exact ⟨h1, h2⟩
theorem initT {R : Result → Shared → Prop} {z S : Addr} {own : List Addr} {n : Nat} {Pt : Nat → Array Value → Prop} {St : Nat → Heap → Prop} (W : TupSrc prog w A.in1 z S own n Pt St) (hn : n ≤ sizeLine) (hSo : S ∉ own) (hzS : S ≠ z) (lo : Addr) (hSl : S < lo) (hol : ∀ b ∈ own, b < lo) (hlo : lo ≤ s.heap.objs.size)
    (hz : ∃ o, s.heap.get? z = some o ∧ o.cls = .type "zip") (hst : St 0 s.heap) (hS : s.heap.get? S = some { cls := .type "list", data := .seq #[] })
    (hit : ∀ (s' : Shared), St 0 s'.heap → ∀ (Q : Value → Shared → Prop) (E : Value → Shared → Prop), Q (.ref z) s' → wpAny (model prog w) A.in1 (pyIter (.ref z)) Q E s')
    (hR : ∀ h' tk acc' c' as, (∀ b o, b ≠ S → b ∉ own → s.heap.get? b = some o → h'.get? b = some o) → h'.get? S = some { cls := .type "list", dict := none, data := .seq acc' c', slots := #[] } → as.length = n → MadeT Pt lo h' as → acc'.toList = as.map Value.ref → R (.ok (.ret .none)) { s with heap := h', toks := tk }) :
    wpAny (model prog w) A.in1 (Builtin.«list.__init__» ⟨[.ref S, .ref z], []⟩)
      (fun fin s' => match fin with | .done f => R (.ok f) s' | .again c' => c'.quiet = true ∧ codeAny (model prog w) A c' R s') (fun e s' => R (.error e) s') s := by
  show wpAny _ _ (do let old ← Builtin.List.listItems (.ref S); Builtin.List.listUpdate (.ref S) (fun _ => #[]); letGo old.toList.reverse; Builtin.List.listExtendWith (.ref S) (.ref z) .none) _ _ s
  refine wpAny_bind ?_
  unfold Builtin.List.listItems
  refine wpAny_bind (wpAny_seqItems hS rfl (wpAny_pure ?_))
  show wpAny _ _ (updateSeq S (fun _ => #[]) >>= fun _ => letGo (#[] : Array Value).toList.reverse >>= fun _ => Builtin.List.listExtendWith (.ref S) (.ref z) .none) _ _ s
  refine wpAny_bind (wpAny_updateSeq hS rfl ?_)
  have hS₂ := Heap.get?_update_self (Obj.mapSeq (fun _ => (#[] : Array Value))) hS rfl
  have oth : ∀ b o, b ≠ S → s.heap.get? b = some o → (s.heap.update S (Obj.mapSeq (fun _ => (#[] : Array Value)))).get? b = some o :=
    fun b o hb e => (Heap.get?_update_other _ _ (Ne.symm hb)).trans e
  refine wpAny_bind (wpAny_letGo ?_)
  obtain ⟨o, ho, hc⟩ := hz
  have hst' := W.frame 0 _ _ hst oth
  refine extT W hn hSo hzS lo hSl hol .none _ (by show lo ≤ (s.heap.update S _).objs.size; rw [Heap.size_update]; exact hlo) ⟨o, oth _ _ (Ne.symm hzS) ho, hc⟩ hst' hS₂ (fun Q E q => hit _ hst' Q E q) (fun h' tk acc' c' as hk hS' h1 h2 h3 => ?_)
  exact hR h' tk acc' c' as (fun b o hb hb2 e => hk b o hb hb2 (oth b o hb e)) hS' h1 h2 h3
/-- list(z) of an iterator that makes tuples -/
theorem call_listT {Q : Value → Shared → Prop} {z : Addr} {own : List Addr} {n : Nat} {Pt : Nat → Array Value → Prop} {St : Nat → Heap → Prop} (W : TupSrc prog w A.in1.in1 z s.heap.objs.size own n Pt St) (hn : n ≤ sizeLine) (hol : ∀ b ∈ own, b < s.heap.objs.size)
    (hz : ∃ o, s.heap.get? z = some o ∧ o.cls = .type "zip") (hst : ∀ o, St 0 (s.heap.push o))
    (hit : ∀ (s' : Shared), St 0 s'.heap → ∀ (Q : Value → Shared → Prop) (E : Value → Shared → Prop), Q (.ref z) s' → wpAny (model prog w) A.in1.in1 (pyIter (.ref z)) Q E s')
    (hQ : ∀ h' tk acc' c' as, (∀ b o, b ∉ own → s.heap.get? b = some o → h'.get? b = some o) → h'.get? s.heap.objs.size = some { cls := .type "list", dict := none, data := .seq acc' c', slots := #[] } → as.length = n → MadeT Pt (s.heap.objs.size + 1) h' as → acc'.toList = as.map Value.ref → Q (.ref s.heap.objs.size) { s with heap := h', toks := tk }) :
    wpAny (model prog w) A (call (.type "list") [.ref z]) Q E s := by
  refine callType_codes (Q₁ := fun obj s₁ => obj = .ref s.heap.objs.size ∧ s₁ = { s with heap := s.heap.push { cls := .type "list", data := .seq #[] } }) PySem.F.called_list (PySem.F.typeCall_list_1 _) PySem.F.entry_list_init
    (code_list_new _ ⟨rfl, rfl⟩) fun obj s₁ h₁ => ?_
  obtain ⟨rfl, rfl⟩ := h₁
  have hS : (s.heap.push { cls := .type "list", data := .seq #[] }).get? s.heap.objs.size = some { cls := .type "list", data := .seq #[] } := Heap.get?_push_size _ rfl
  obtain ⟨o, ho, hc⟩ := hz
  have hso : s.heap.objs.size ∉ own := fun hm => Nat.lt_irrefl _ (hol _ hm)
  refine ⟨⟨_, hS, rfl⟩, PySem.F.args_list_init_2 _ _, initT (A := A.in1) W hn hso (Nat.ne_of_gt (Heap.lt_size ho)) (s.heap.objs.size + 1) (Nat.lt_succ_self _) (fun b hb => Nat.lt_succ_of_lt (hol b hb)) (by show _ ≤ (s.heap.push _).objs.size; rw [Heap.size_push]; exact Nat.le_refl _) ⟨o, Heap.get?_push_of_some _ ho, hc⟩ (hst _) hS hit (fun h' tk acc' c' as hk hS' h1 h2 h3 => ?_)⟩
  exact ⟨rfl, hQ h' tk acc' c' as (fun b o hb e => hk b o (Nat.ne_of_lt (Heap.lt_size e)) hb (Heap.get?_push_of_some _ e)) hS' h1 h2 h3⟩
theorem zip_again {z TI TO : Addr} {s' : Shared} {f0 : Value} {Q : Value → Shared → Prop} {E : Value → Shared → Prop} (hz : IsZip s'.heap z TI TO f0) (q : Q (.ref z) s') : wpAny (model prog w) A (pyIter (.ref z)) Q E s' := wpAny_pyIter_zip hz q
/-- list(zip(a, b)) of two lists -/
theorem call_listZip2 {Q : Value → Shared → Prop} {l1 l2 : Addr} {xs ys : Array Value} (hh : A.handled = none) (h1 : s.heap.IsList l1 xs) (h2 : s.heap.IsList l2 ys) (hx : xs.size ≤ sizeLine)
    (hQ : ∀ h' tk p acc' c' as, (∀ b o, s.heap.get? b = some o → h'.get? b = some o) → s.heap.objs.size ≤ p → h'.get? p = some { cls := .type "list", dict := none, data := .seq acc' c', slots := #[] } → as.length = min xs.size ys.size →
      MadeT (fun i vals => ∃ x y, xs[i]? = some x ∧ ys[i]? = some y ∧ vals = #[x, y]) (p + 1) h' as → acc'.toList = as.map Value.ref → Q (.ref p) { s with heap := h', toks := tk }) :
    wpAny (model prog w) A (call (.type "zip") [.ref l1, .ref l2]) (fun v s1 => wpAny (model prog w) A (call (.type "list") [v]) Q E s1) E s := by
  refine call_zip_2 h1 h2 fun h' hz hTI hTO b1 b2 hs hk => ?_
  obtain ⟨o1, e1, _⟩ := id h1
  obtain ⟨o2, e2, _⟩ := id h2
  have g1 : @LT.lt Nat instLTNat l1 s.heap.objs.size := Heap.lt_size e1
  have g2 : @LT.lt Nat instLTNat l2 s.heap.objs.size := Heap.lt_size e2
  have Z : ZipApart (s.heap.objs.size + 4) (s.heap.objs.size + 2) (s.heap.objs.size + 3) s.heap.objs.size (s.heap.objs.size + 1) l1 l2 := by
    constructor <;> (refine fun e => ?_; replace e := (show (_ : Nat) = _ from e); omega)
  have k1 : h'.IsList l1 xs := h1.at fun o e => hk _ _ e
  have k2 : h'.IsList l2 ys := h2.at fun o e => hk _ _ e
  have hS : h'.objs.size = s.heap.objs.size + 5 := hs
  refine call_listT (s := { s with heap := h' }) (src2 (A := A.in1.in1) (by simp [hh]) Z rfl (by show h'.objs.size ≠ _; omega) (by show h'.objs.size ≠ _; omega) (by show h'.objs.size ≠ _; omega) (by show h'.objs.size ≠ _; omega) (by show h'.objs.size ≠ _; omega) (by show h'.objs.size ≠ _; omega) (by show h'.objs.size ≠ _; omega)) (by omega) (fun b hb => ?_) ⟨_, hz, rfl⟩
    (fun o => ⟨.inl ⟨rfl, Heap.get?_push_of_some _ hz, _, _, Heap.get?_push_of_some _ hTO⟩, Heap.get?_push_of_some _ hTI, b1.at fun o e => Heap.get?_push_of_some _ e, b2.at fun o e => Heap.get?_push_of_some _ e, k1.at fun o e => Heap.get?_push_of_some _ e, k2.at fun o e => Heap.get?_push_of_some _ e⟩)
    (fun s' st Q E q => ?_) (fun h'' tk acc' c' as hk2 hS2 ha hm hl => ?_)
  · simp only [List.mem_cons, List.not_mem_nil, or_false] at hb
    show @LT.lt Nat instLTNat b h'.objs.size
    rcases hb with hb | hb | hb | hb
    all_goals (replace hb := (show (_ : Nat) = _ from hb); omega)
  · rcases st.1 with ⟨_, hz', _⟩ | ⟨_, _, _, hz', _⟩
    · exact wpAny_pyIter_zip hz' q
    · refine wpAny_pyIter_slot ⟨_, hz', rfl⟩ F.slot_zip_iter (wpAny_call_entry F.slot_zip_iter ⟨_, hz', rfl⟩ F.entry_zip_iter ?_ (F.args_zip_iter_1 _))
      exact wpAny_pure ⟨_, rfl, "zip", _, ⟨_, hz', rfl⟩, F.slot_zip_next.lookup, q⟩
  · refine hQ h'' tk h'.objs.size acc' c' as (fun b o e => hk2 b o (fun hb => ?_) (hk b o e)) (by omega) hS2 ha hm hl
    have : @LT.lt Nat instLTNat b s.heap.objs.size := Heap.lt_size e
    simp only [List.mem_cons, List.not_mem_nil, or_false] at hb
    rcases hb with hb | hb | hb | hb
    all_goals (replace hb := (show (_ : Nat) = _ from hb); omega)
/-- list(zip(a, b, c)) of three tuples -/
theorem call_listZip3 {Q : Value → Shared → Prop} {l1 l2 l3 : Addr} {xs ys zs : Array Value} (hh : A.handled = none) (h1 : s.heap.IsTuple l1 xs) (h2 : s.heap.IsTuple l2 ys) (h3 : s.heap.IsTuple l3 zs) (hx : xs.size ≤ sizeLine)
    (hQ : ∀ h' tk p acc' c' as, (∀ b o, s.heap.get? b = some o → h'.get? b = some o) → s.heap.objs.size ≤ p → h'.get? p = some { cls := .type "list", dict := none, data := .seq acc' c', slots := #[] } → as.length = min (min xs.size ys.size) zs.size →
      MadeT (fun i vals => ∃ x y z, xs[i]? = some x ∧ ys[i]? = some y ∧ zs[i]? = some z ∧ vals = #[x, y, z]) (p + 1) h' as → acc'.toList = as.map Value.ref → Q (.ref p) { s with heap := h', toks := tk }) :
    wpAny (model prog w) A (call (.type "zip") [.ref l1, .ref l2, .ref l3]) (fun v s1 => wpAny (model prog w) A (call (.type "list") [v]) Q E s1) E s := by
  refine zip_begins3 (begins_tuple l1 xs) (begins_tuple l2 ys) (begins_tuple l3 zs) h1 h2 h3 fun h' hz hTI hTO b1 b2 b3 hs hk => ?_
  obtain ⟨o1, e1, _⟩ := id h1
  obtain ⟨o2, e2, _⟩ := id h2
  obtain ⟨o3, e3, _⟩ := id h3
  have g1 : @LT.lt Nat instLTNat l1 s.heap.objs.size := Heap.lt_size e1
  have g2 : @LT.lt Nat instLTNat l2 s.heap.objs.size := Heap.lt_size e2
  have g3 : @LT.lt Nat instLTNat l3 s.heap.objs.size := Heap.lt_size e3
  have Z : ZipSep3 (s.heap.objs.size + 5) (s.heap.objs.size + 3) (s.heap.objs.size + 4) s.heap.objs.size (s.heap.objs.size + 1) (s.heap.objs.size + 2) [s.heap.objs.size, l1] [s.heap.objs.size + 1, l2] [s.heap.objs.size + 2, l3] := by
    constructor <;> first | (refine fun e => ?_; replace e := (show (_ : Nat) = _ from e); omega) | exact List.mem_cons_self | (simp only [List.mem_cons, List.not_mem_nil, or_false, not_or]; refine ⟨fun e => ?_, fun e => ?_⟩ <;> (replace e := (show (_ : Nat) = _ from e); omega))
  have k1 : h'.IsTuple l1 xs := h1.at fun o e => hk _ _ e
  have k2 : h'.IsTuple l2 ys := h2.at fun o e => hk _ _ e
  have k3 : h'.IsTuple l3 zs := h3.at fun o e => hk _ _ e
  have hS : h'.objs.size = s.heap.objs.size + 6 := hs
  have hh' : A.in1.in1.in1.handled = none := by simp [hh]
  refine call_listT (s := { s with heap := h' }) (src3 (A := A.in1.in1) Z (Draws.tuple hh' _ l1 (Nat.ne_of_lt g1) xs) (Draws.tuple hh' _ l2 (Nat.ne_of_lt (Nat.lt_succ_of_lt g2)) ys) (Draws.tuple hh' _ l3 (Nat.ne_of_lt (Nat.lt_succ_of_lt (Nat.lt_succ_of_lt g3))) zs) rfl (by show h'.objs.size ≠ _; omega) (by show h'.objs.size ≠ _; omega) (by show h'.objs.size ≠ _; omega) (ne2 (by show ¬ h'.objs.size = _; omega) (by show ¬ h'.objs.size = _; omega)) (ne2 (by show ¬ h'.objs.size = _; omega) (by show ¬ h'.objs.size = _; omega)) (ne2 (by show ¬ h'.objs.size = _; omega) (by show ¬ h'.objs.size = _; omega))) (by omega) (fun b hb => ?_) ⟨_, hz, rfl⟩
    (fun o => ⟨.inl ⟨rfl, Heap.get?_push_of_some _ hz, _, _, _, Heap.get?_push_of_some _ hTO⟩, Heap.get?_push_of_some _ hTI, ⟨⟨_, Heap.get?_push_of_some _ b1, rfl, rfl⟩, k1.at fun o e => Heap.get?_push_of_some _ e⟩, ⟨⟨_, Heap.get?_push_of_some _ b2, rfl, rfl⟩, k2.at fun o e => Heap.get?_push_of_some _ e⟩, ⟨⟨_, Heap.get?_push_of_some _ b3, rfl, rfl⟩, k3.at fun o e => Heap.get?_push_of_some _ e⟩⟩)
    (fun s' st Q E q => ?_) (fun h'' tk acc' c' as hk2 hS2 ha hm hl => ?_)
  · simp only [List.mem_cons, List.not_mem_nil, or_false] at hb
    show @LT.lt Nat instLTNat b h'.objs.size
    rcases hb with hb | hb | hb | hb | hb
    all_goals (replace hb := (show (_ : Nat) = _ from hb); omega)
  · rcases st.1 with ⟨_, hz', _⟩ | ⟨_, _, _, hz', _⟩
    · exact wpAny_pyIter_zip hz' q
    · refine wpAny_pyIter_slot ⟨_, hz', rfl⟩ F.slot_zip_iter (wpAny_call_entry F.slot_zip_iter ⟨_, hz', rfl⟩ F.entry_zip_iter ?_ (F.args_zip_iter_1 _))
      exact wpAny_pure ⟨_, rfl, "zip", _, ⟨_, hz', rfl⟩, F.slot_zip_next.lookup, q⟩
  · refine hQ h'' tk h'.objs.size acc' c' as (fun b o e => hk2 b o (fun hb => ?_) (hk b o e)) (by omega) hS2 ha ⟨hm.1, fun j a hj => ?_⟩ hl
    · have : @LT.lt Nat instLTNat b s.heap.objs.size := Heap.lt_size e
      simp only [List.mem_cons, List.not_mem_nil, or_false] at hb
      rcases hb with hb | hb | hb | hb | hb
      all_goals (replace hb := (show (_ : Nat) = _ from hb); omega)
    · obtain ⟨l, vals, ⟨x1, x2, x3, y1, y2, y3, e⟩, q⟩ := hm.2 j a hj
      exact ⟨l, vals, ⟨x1, x2, x3, y1, y2, y3, e⟩, q⟩
end
end PF
end
section
set_option Elab.async false
set_option linter.all false
set_option maxRecDepth 100000
set_option maxHeartbeats 4000000
namespace PF
open PySem PySem.Spec L2
/-- many new objects are laid -/
structure Many (H H2 : Hp) : Prop where
  keep : ∀ b o, H b = some o → H2 b = some o
  frz : ∀ b o u, H2 b = some (.frz o u) → H b = some (.frz o u)
theorem Ok.many {K : PySem.W.Frag} {B H H2 : Hp} {Γ : Ctx} (k : Ok K B H Γ) (m : Many H H2) : ∃ B2, Ok K B2 H2 Γ ∧ Fut Γ B H B2 H2 ∧ ∀ a o, H a = none → H2 a = some o → B2 a = some o := by
  refine ⟨fun a => match H a with | none => H2 a | some _ => B a, ?_, ?_, fun a o h h2 => by show (match H a with | none => H2 a | some _ => B a) = some o; rw [h]; exact h2⟩
  · have eB : ∀ a o, B a = some o → (match H a with | none => H2 a | some _ => B a) = some o := fun a o h => by rw [k.ext _ _ h]; exact h
    refine ⟨fun a o h => ?_, k.nd, fun q hq => ?_, fun a o u h => ?_⟩
    · cases e : H a with
      | none => rw [e] at h; exact h
      | some x => rw [e] at h; exact m.keep _ _ (k.ext _ _ h)
    · obtain ⟨b, c⟩ := k.cel q hq
      obtain ⟨o, ho, _⟩ := c.some
      exact ⟨by show (match H q.1 with | none => H2 q.1 | some _ => B q.1) = none; rw [ho]; exact b, c.le (sameLe eB) fun u hu => m.keep _ _ hu⟩
    · cases e : H a with
      | none =>
        have h' : H2 a = some (.frz o u) := by rw [e] at h; exact h
        have := m.frz _ _ _ h'
        rw [e] at this; cases this
      | some x => rw [e] at h; exact k.fz _ _ _ h
  · have eB : Same B (fun a => match H a with | none => H2 a | some _ => B a) := fun a o h => by show (match H a with | none => H2 a | some _ => B a) = some o; rw [k.ext _ _ h]; exact h
    refine ⟨eB, fun a o _ hb _ h => ⟨m.keep _ _ h, by show (match H a with | none => H2 a | some _ => B a) = none; rw [h]; exact hb⟩, fun a xs h => m.keep _ _ h, fun a h => ?_⟩
    cases e : H a with
    | none => rfl
    | some x => rw [m.keep _ _ e] at h; cases h
section
variable {X : Cx}
theorem takeN {pins : List (Addr × Obj)} {σ : St} {H0 : Hp} {s : Shared} {h' : Heap} {tk : Nat} (I0 : Inv X pins σ H0 s) : ∀ (L : List (Addr × List V)) (H1 : Hp), Inv X pins σ H1 { s with heap := h', toks := tk } → (L.map (·.1)).Nodup →
    (∀ p ∈ L, s.heap.objs.size ≤ p.1 ∧ H1 p.1 = none ∧ ∀ H2, ObjOk X.prog X.w H2 h' p.1 (.tup p.2)) →
    ∃ H2, Inv X pins σ H2 { s with heap := h', toks := tk } ∧ Many H1 H2 ∧ ∀ p ∈ L, H2 p.1 = some (.tup p.2)
  | [], H1, I1, _, _ => ⟨H1, I1, ⟨fun _ _ e => e, fun _ _ _ e => e⟩, fun _ h => nomatch h⟩
  | p :: L, H1, I1, hn, h => by
    obtain ⟨hb, hnone, ok⟩ := h p (List.mem_cons_self ..)
    have I2 : Inv X pins σ (upd H1 p.1 (.tup p.2)) { s with heap := h', toks := tk } := I1.take (h' := h') (t' := tk) (fun b ob _ e => e) (I0.fpOk hb hnone) (ok _)
    have hn' : p.1 ∉ L.map (·.1) ∧ (L.map (·.1)).Nodup := List.nodup_cons.mp hn
    obtain ⟨H2, I3, g, q⟩ := takeN I0 L (upd H1 p.1 (.tup p.2)) I2 hn'.2 fun c hc => by
      obtain ⟨c1, c2, c3⟩ := h c (List.mem_cons_of_mem _ hc)
      exact ⟨c1, by rw [upd_ne (fun z => hn'.1 (by rw [← z]; exact List.mem_map_of_mem hc))]; exact c2, c3⟩
    refine ⟨H2, I3, ⟨fun b o e => g.keep b o (by rw [upd_ne (ne_of_none e hnone)]; exact e), fun b o u e => ?_⟩, fun c hc => ?_⟩
    · have e2 := g.frz b o u e
      by_cases eb : b = p.1
      · rw [eb, upd_same] at e2; cases e2
      · rw [upd_ne eb] at e2; exact e2
    · rcases List.mem_cons.mp hc with rfl | hc
      · exact g.keep _ _ upd_same
      · exact q c hc
/-- what a list of new tuples is, Pv : the j-th tuple's values -/
def TupsAt (H1 H2 : Hp) (p : Addr) (n : Nat) (Pv : Nat → List V → Prop) : Prop := Many H1 H2 ∧ H1 p = none ∧ ∃ as : List Addr, H2 p = some (.lst (as.map V.ref)) ∧ as.length = n ∧ ∀ (j : Nat) (a : Addr), as[j]? = some a → H1 a = none ∧ ∃ vs, Pv j vs ∧ H2 a = some (.tup vs)
theorem tups_at {pins : List (Addr × Obj)} {σ : St} {H : Hp} {s : Shared} {h' : Heap} {tk p n c' : Nat} {acc' : Array Value} {as : List Addr} {Pt : Nat → Array Value → Prop} {Pv : Nat → List V → Prop} (I : Inv X pins σ H s) (hk : ∀ b o, s.heap.get? b = some o → h'.get? b = some o) (hp : s.heap.objs.size ≤ p)
    (hS : h'.get? p = some { cls := .type "list", dict := none, data := .seq acc' c', slots := #[] }) (hl : as.length = n) (hn : n ≤ sizeLine) (hm : MadeT Pt (p + 1) h' as) (ha : acc'.toList = as.map Value.ref)
    (hv : ∀ j vals, Pt j vals → ∃ vs, Pv j vs ∧ Vals vs vals.toList ∧ vals.size ≤ sizeLine) : ∃ H2, Inv X pins σ H2 { s with heap := h', toks := tk } ∧ TupsAt H H2 p n Pv := by
  have hpn : H p = none := I.hok.fresh hp
  have hnd := hm.1
  have I1 : Inv X pins σ (upd H p (.lst (as.map V.ref))) { s with heap := h', toks := tk } := I.laid (t' := tk) hk hp (show ObjOk X.prog X.w _ _ _ (.lst (as.map V.ref)) from ⟨by rw [List.length_map, hl]; exact hn, acc'.toList, c', by rw [ha]; exact vals_refs as, by rw [Array.toArray_toList]; exact hS⟩)
  have hsome : ∀ a ∈ as, p + 1 ≤ a ∧ ∃ j vals vs, as[j]? = some a ∧ Pt j vals ∧ Pv j vs ∧ Vals vs vals.toList ∧ vals.size ≤ sizeLine ∧ h'.get? a = some { cls := .type "tuple", data := .seq vals } := by
    intro a h
    obtain ⟨j, hj⟩ := List.mem_iff_getElem?.mp h
    obtain ⟨l, vals, q1, q2⟩ := hm.2 j a hj
    obtain ⟨vs, r1, r2, r3⟩ := hv j vals q1
    exact ⟨l, j, vals, vs, hj, q1, r1, r2, r3, q2⟩
  -- choose
  have cho : ∀ L : List Addr, (∀ a ∈ L, a ∈ as) → L.Nodup → ∃ M : List (Addr × List V), M.map (·.1) = L ∧ ∀ q ∈ M, s.heap.objs.size ≤ q.1 ∧ (upd H p (.lst (as.map V.ref))) q.1 = none ∧ (∀ H2, ObjOk X.prog X.w H2 h' q.1 (.tup q.2)) ∧ ∃ j : Nat, as[j]? = some q.1 ∧ Pv j q.2 := by
    intro L
    induction L with
    | nil => intro _ _; exact ⟨[], rfl, fun _ h => nomatch h⟩
    | cons a L ih =>
      intro hL hd
      obtain ⟨M, e, hM⟩ := ih (fun b hb => hL b (List.mem_cons_of_mem _ hb)) (List.nodup_cons.mp hd).2
      obtain ⟨l, j, vals, vs, q0, q1, r1, r2, r3, q2⟩ := hsome a (hL a List.mem_cons_self)
      refine ⟨(a, vs) :: M, by rw [List.map_cons, e], fun q hq => ?_⟩
      rcases List.mem_cons.mp hq with rfl | hq
      · refine ⟨Nat.le_trans hp (Nat.le_of_succ_le l), ?_, fun H2 => ⟨by rw [r2.length, Array.length_toList]; exact r3, vals.toList, r2, ⟨_, q2, rfl, 0, by simp⟩⟩, j, q0, r1⟩
        show upd H p (.lst (as.map V.ref)) a = none
        rw [upd_ne (Nat.ne_of_gt l)]
        exact I.hok.fresh (Nat.le_trans hp (Nat.le_of_succ_le l))
      · exact hM q hq
  obtain ⟨M, e, hM⟩ := cho as (fun _ h => h) hnd
  obtain ⟨H2, I2, g, q⟩ := takeN I M _ I1 (by rw [e]; exact hnd) fun q hq => ⟨(hM q hq).1, (hM q hq).2.1, (hM q hq).2.2.1⟩
  refine ⟨H2, I2, ⟨fun b o eb => g.keep b o (by rw [upd_ne (ne_of_none eb hpn)]; exact eb), fun b o u eb => ?_⟩, hpn, as, g.keep _ _ upd_same, hl, fun j a hj => ?_⟩
  · have e2 := g.frz b o u eb
    by_cases e3 : b = p
    · rw [e3, upd_same] at e2; cases e2
    · rw [upd_ne e3] at e2; exact e2
  · have hmem : a ∈ M.map (·.1) := by rw [e]; exact List.mem_of_getElem? hj
    obtain ⟨q', hq', e4⟩ := List.mem_map.mp hmem
    obtain ⟨f1, f2, f3, j', f4, f5⟩ := hM q' hq'
    have ej : j' = j := by
      rw [e4] at f4
      exact (List.getElem?_inj (List.getElem?_eq_some_iff.mp f4).1 hnd).mp (f4.trans hj.symm)
    subst ej
    refine ⟨?_, q'.2, f5, by rw [← e4]; exact q q' hq'⟩
    have l := (hsome a (List.mem_of_getElem? hj)).1
    exact I.hok.fresh (Nat.le_trans hp (Nat.le_of_succ_le l))
end
end PF
end
section
set_option Elab.async false
set_option linter.all false
set_option maxRecDepth 100000
set_option maxHeartbeats 4000000
namespace PF
open PySem PySem.Spec L2 RZ PyProof.Rows
section
variable {X : Cx}
/-! ### list(zip(a, b)), list(zip(a, b, c)) -/
def tLZ2 (K : PySem.W.Frag) (ta : TA) : TE := fun σ H Q => ta σ H fun vs H1 => ∃ a b xs ys, vs = [.ref a, .ref b] ∧ SqL K H1 a xs ∧ SqL K H1 b ys ∧
  ∀ p H2, TupsAt H1 H2 p (min xs.length ys.length) (fun j vs => ∃ x y, xs[j]? = some x ∧ ys[j]? = some y ∧ vs = [x, y]) → Q (.ref p) H2
def tLZ3 (K : PySem.W.Frag) (ta : TA) : TE := fun σ H Q => ta σ H fun vs H1 => ∃ a b c xs ys zs, vs = [.ref a, .ref b, .ref c] ∧ SqT K H1 a xs ∧ SqT K H1 b ys ∧ SqT K H1 c zs ∧
  ∀ p H2, TupsAt H1 H2 p (min (min xs.length ys.length) zs.length) (fun j vs => ∃ x y z, xs[j]? = some x ∧ ys[j]? = some y ∧ zs[j]? = some z ∧ vs = [x, y, z]) → Q (.ref p) H2
theorem vals_at {xs : List V} {its : List Value} (rv : Vals xs its) {j : Nat} {u : Value} (h : its.toArray[j]? = some u) : ∃ x, xs[j]? = some x ∧ RelV x u := by
  have h' : its[j]? = some u := by simpa using h
  cases e : xs[j]? with
  | none => rw [rv.none_of e] at h'; cases h'
  | some x =>
    obtain ⟨u', e1, e2⟩ := rv.get e
    rw [h'] at e1
    cases e1
    exact ⟨x, rfl, e2⟩
theorem pe_listZip2 {e e2 : Expr} {ta : TA} {p p2 q pos : Pos} (hg : Gl X "list") (hm : X.mg "list" = none) (hgz : Gl X "zip") (hmz : X.mg "zip" = none) (ha : PA X [e, e2] ta) (hc : X.calm = true := by rfl)
    (hs : starEach [e, e2] X.env = (false, eval e X.env) :: starEach [e2] X.env := by rfl) (hpl : (backTo q (starEach [e2] X.env)).any (·.1) = false := by rfl)
    (na : starEach [.Call (.Name "zip" p2) [e, e2] [] q] X.env = (false, eval (.Call (.Name "zip" p2) [e, e2] [] q) X.env) :: starEach [] X.env := by rfl) :
    PE X (.Call (.Name "list" p) [.Call (.Name "zip" p2) [e, e2] [] q] [] pos) (tLZ2 X.K ta) := by
  refine ⟨fun pins s σ H Q I h => ?_⟩
  refine Call_ (ld_blt I hg hm boot_list (callWith_type1 (args_cons ?_ na) na))
  refine Call_ (ld_blt I hgz hmz PyProof.Rows.boot_zip (PyProof.Rows.callWith_type1 (thn (ha.run q pins s σ H _ I h) fun us s1 ⟨vs, H1, I1, r1, q1⟩ => ?_) hs hpl))
  obtain ⟨a, b, xs, ys, ex, ha1, hb1, q1⟩ := q1
  subst ex
  cases r1 with
  | cons r rr =>
    cases rr with
    | cons r' rr =>
      cases rr
      cases r
      cases r'
      obtain ⟨its, rv, p1, z1⟩ := I1.list ha1
      obtain ⟨its2, rv2, p2, z2⟩ := I1.list hb1
      refine thn (call_listZip2 (I1.ok.hd hc) p1.isList p2.isList (by rw [List.size_toArray, ← rv.length]; exact z1) fun h' tk p acc' c' as hk hp hS hl hmd hacc => ?_) fun v s2 h2 => args_nil h2
      obtain ⟨H2, I2, tt⟩ := tups_at (Pv := fun j vs => ∃ x y, xs[j]? = some x ∧ ys[j]? = some y ∧ vs = [x, y]) (n := min xs.length ys.length) I1 hk hp hS (by rw [hl, List.size_toArray, List.size_toArray, ← rv.length, ← rv2.length]) (by omega) hmd hacc fun j vals hj => by
        obtain ⟨x, y, e1, e2, e3⟩ := hj
        obtain ⟨x', f1, g1⟩ := vals_at rv e1
        obtain ⟨y', f2, g2⟩ := vals_at rv2 e2
        subst e3
        exact ⟨[x', y'], ⟨x', y', f1, f2, rfl⟩, .cons g1 (.cons g2 .nil), by simp [sizeLine_eq]⟩
      exact ⟨.ref p, H2, I2, rfl, q1 p H2 tt⟩
theorem pe_listZip3 {e e2 e3 : Expr} {ta : TA} {p p2 q pos : Pos} (hg : Gl X "list") (hm : X.mg "list" = none) (hgz : Gl X "zip") (hmz : X.mg "zip" = none) (ha : PA X [e, e2, e3] ta) (hc : X.calm = true := by rfl)
    (hs : starEach [e, e2, e3] X.env = (false, eval e X.env) :: starEach [e2, e3] X.env := by rfl) (hpl : (backTo q (starEach [e2, e3] X.env)).any (·.1) = false := by rfl)
    (na : starEach [.Call (.Name "zip" p2) [e, e2, e3] [] q] X.env = (false, eval (.Call (.Name "zip" p2) [e, e2, e3] [] q) X.env) :: starEach [] X.env := by rfl) :
    PE X (.Call (.Name "list" p) [.Call (.Name "zip" p2) [e, e2, e3] [] q] [] pos) (tLZ3 X.K ta) := by
  refine ⟨fun pins s σ H Q I h => ?_⟩
  refine Call_ (ld_blt I hg hm boot_list (callWith_type1 (args_cons ?_ na) na))
  refine Call_ (ld_blt I hgz hmz PyProof.Rows.boot_zip (PyProof.Rows.callWith_type1 (thn (ha.run q pins s σ H _ I h) fun us s1 ⟨vs, H1, I1, r1, q1⟩ => ?_) hs hpl))
  obtain ⟨a, b, c, xs, ys, zs, ex, ha1, hb1, hc1, q1⟩ := q1
  subst ex
  cases r1 with
  | cons r rr =>
    cases rr with
    | cons r' rr =>
      cases rr with
      | cons r'' rr =>
        cases rr
        cases r
        cases r'
        cases r''
        obtain ⟨its, rv, p1, z1⟩ := I1.tuple ha1
        obtain ⟨its2, rv2, p2, z2⟩ := I1.tuple hb1
        obtain ⟨its3, rv3, p3, z3⟩ := I1.tuple hc1
        refine thn (call_listZip3 (I1.ok.hd hc) (show s1.heap.IsTuple a its.toArray from p1) (show s1.heap.IsTuple b its2.toArray from p2) (show s1.heap.IsTuple c its3.toArray from p3) (by rw [List.size_toArray, ← rv.length]; exact z1) fun h' tk p acc' c' as hk hp hS hl hmd hacc => ?_) fun v s2 h2 => args_nil h2
        obtain ⟨H2, I2, tt⟩ := tups_at (Pv := fun j vs => ∃ x y z, xs[j]? = some x ∧ ys[j]? = some y ∧ zs[j]? = some z ∧ vs = [x, y, z]) (n := min (min xs.length ys.length) zs.length) I1 hk hp hS (by rw [hl, List.size_toArray, List.size_toArray, List.size_toArray, ← rv.length, ← rv2.length, ← rv3.length]) (by omega) hmd hacc fun j vals hj => by
          obtain ⟨x, y, z, e1, e2, e3, e4⟩ := hj
          obtain ⟨x', f1, g1⟩ := vals_at rv e1
          obtain ⟨y', f2, g2⟩ := vals_at rv2 e2
          obtain ⟨z', f3, g3⟩ := vals_at rv3 e3
          subst e4
          exact ⟨[x', y', z'], ⟨x', y', z', f1, f2, f3, rfl⟩, .cons g1 (.cons g2 (.cons g3 .nil)), by simp [sizeLine_eq]⟩
        exact ⟨.ref p, H2, I2, rfl, q1 p H2 tt⟩
/-! ### list(d.values()) -/
theorem kv_vals {κ : Type} : ∀ {kvs : List (κ × V)} {vs : List (κ × Value)}, KV kvs vs → Vals (kvs.map (·.2)) (vs.map (·.2))
  | [], [], _ => .nil
  | _ :: _, _ :: _, .cons h t => .cons h.2 (kv_vals t)
def valsO (p d : Addr) : HO := .ext fun h => h.IsValuesView p d
def rValues : V → List V → Hp → VK → Prop := fun x xs H Q => ∃ (a : Addr) (kvs : List (Key × V)), x = .ref a ∧ xs = [] ∧ Rd H a (.dK kvs) ∧ ∀ p, H p = none → Q (.ref p) (upd H p (valsO p a))
theorem mt_values : MtR X "dict.values" rValues := by
  intro pins s σ H x xs v us Q I rx rxs h
  obtain ⟨a, kvs, rfl, rfl, ha, q⟩ := h
  cases rx
  cases rxs
  obtain ⟨z, lo, vs, rk, hd⟩ := (show ObjOk X.prog X.w H s.heap a (.dK kvs) from ha.ok I.hok)
  have hf : H s.heap.objs.size = none := I.hok.fresh (Nat.le_refl _)
  refine call_meetsIn PySem.F.slot_dict_values hd.typeIs PySem.F.entry_dict_values (PySem.F.args_dict_values_1 _) (meets_dict_values (mixKind X.prog X.w) a lo) ⟨⟨vs, hd⟩, ?_⟩
  have hg : (s.heap.push { cls := .type "dict_values", data := .fields #[.ref a] }).get? s.heap.objs.size = some { cls := .type "dict_values", data := .fields #[.ref a] } := Heap.get?_push_size _ rfl
  exact ⟨.ref s.heap.objs.size, upd H s.heap.objs.size (valsO s.heap.objs.size a), I.laid (t' := s.toks) (fun b u e => Heap.get?_push_of_some _ e) (Nat.le_refl _) ⟨⟨_, hg, rfl, rfl⟩, ⟨_, hg⟩, fun h1 h2 x k => let ⟨o, ho, r⟩ := x; ⟨o, k o ho, r⟩⟩, rfl, q _ hf⟩
theorem call_listV (hc : X.calm = true) : CallR X (.type "list") (fun xs H Q => ∃ (v a : Addr) (kvs : List (Key × V)), xs = [.ref v] ∧ H v = some (valsO v a) ∧ Rd H a (.dK kvs) ∧ ∀ q, H q = none → Q (.ref q) (upd H q (.lst (kvs.map (·.2))))) := by
  intro pins s σ H xs us Q I r h
  obtain ⟨v, a, kvs, rfl, hv, ha, q⟩ := h
  obtain rfl := Vals.ref1 r
  have view : s.heap.IsValuesView v a := (show ObjOk X.prog X.w H s.heap v (valsO v a) from I.hok v _ hv).1
  obtain ⟨z, lo, vs, rk, hd⟩ := (show ObjOk X.prog X.w H s.heap a (.dK kvs) from ha.ok I.hok)
  obtain ⟨ep, hat⟩ := hd.dictAt
  have hl : kvs.length = vs.length := Paired.length rk
  refine PySem.W.kdl_call (PySem.W.kdl_values (knd := mixKind X.prog X.w) (r := v) (kvs := vs) (ep := ep)) (I.ok.hd hc) ⟨view, hat⟩ (by rw [← hl]; exact z) fun h' tk acc' c' hkeep hS hacc => ?_
  refine ⟨.ref s.heap.objs.size, upd H s.heap.objs.size (.lst (kvs.map (·.2))), I.laid hkeep (Nat.le_refl _) (show ObjOk X.prog X.w _ _ _ (.lst (kvs.map (·.2))) from ⟨by rw [List.length_map]; exact z, acc'.toList, c', ?_, by rw [Array.toArray_toList]; exact hS⟩), rfl, q _ (I.hok.fresh (Nat.le_refl _))⟩
  rw [PySem.W.kdl_vals_eq (kvs := vs) acc'.toList (by rw [Array.length_toList, hacc.1]) fun j v hj => hacc.2 j v (by rw [← Array.getElem?_toList]; exact hj)]
  clear hacc hS hat hd z hl q ha
  exact kv_vals rk
/-! ### d == {} -/
def rEqE : R2 := fun x y H Q => ∃ a b kvs, x = .ref a ∧ y = .ref b ∧ Rd H a (.dK kvs) ∧ Rd H b (.dK []) ∧ Q (.bl kvs.isEmpty) H
theorem op_eqE (hu : X.A.units < cLine) : OpR X (compareOp .Eq) rEqE := by
  intro pins s σ H x y v u Q I rx ry h
  obtain ⟨a, b, ks, rfl, rfl, ea, eb, q⟩ := h
  obtain rfl : v = Value.ref a := rx
  obtain rfl : u = Value.ref b := ry
  obtain ⟨_, ya, va, ra, da⟩ := (show ObjOk X.prog X.w H s.heap a (.dK ks) from ea.ok I.hok)
  obtain ⟨_, yb, vb, rb, db⟩ := (show ObjOk X.prog X.w H s.heap b (.dK []) from eb.ok I.hok)
  cases rb
  refine PySem.W.keq_eq (knd := mixKind X.prog X.w) (r := true) ya yb da db hu (fun e => ?_) (fin_bl I q ?_)
  · cases ra with
    | nil => exact .nil
    | cons _ _ => simp at e
  · cases ra with
    | nil => rfl
    | cons _ _ => rfl
end
end PF
end
section
set_option Elab.async false
set_option linter.all false
set_option maxRecDepth 100000
set_option maxHeartbeats 4000000
namespace PF
open PySem PySem.Spec L2 RZ PyProof.Rows
section
variable {P : Program} {w : World} {A : Around} {E : Value → Shared → Prop} {s : Shared}
set_option maxRecDepth 100000 in
set_option maxHeartbeats 3200000 in
theorem call_set_lstI {l : Addr} {items : Array Value} (ns : List Int) {Q : Value → Shared → Prop} (hh : A.handled = none) (hl : s.heap.IsList l items) (hit : IntsAre items.toList ns) (hb : ns.length + 1 < scanBound)
    (h : ∀ (h' : Heap) (tk c : Nat), SetR w h' s.heap.objs.size (fun j => decide (j ∈ ns)) c → c ≤ ns.length → (∀ b o, s.heap.get? b = some o → h'.get? b = some o) → Q (.ref s.heap.objs.size) { s with heap := h', toks := tk }) :
    wpAny (model P w) A (call (.type "set") [.ref l]) Q E s := by
  have hisz : items.size = ns.length := by
    have q := IntsAre.length hit
    rw [Array.length_toList] at q
    exact q
  obtain ⟨c, tl, hmro⟩ := F.called_set.mro
  have hmade := F.called_set.made
  have hsub := F.called_set.sub
  refine wpAny_call (codeAny_of_tree ?_)
  show wpAny _ _ (callAny (.type "set") _) _ _ _
  refine wpAny_pure ⟨Code.quiet_builtin _ (by decide +kernel), codeAny_builtin F.entry_type_call ?_⟩
  rw [Around.under_plain (weight_type_call_type "set" [.ref l] []) rfl]
  have h1 := F.called_set.notType
  have h2 := F.called_set.canCreate
  have hct := F.typeCall_set_1 (.ref l)
  repeat (any_goals (first | assumption | wp_step))

  refine codeAny_mono (code_set_led1 (.ref l) (E := E) (Q₁ := fun obj s₁ => obj = .ref s.heap.objs.size ∧ s₁ = { s with heap := s.heap.push { cls := .type "set", dict := none, data := .set #[] 0 (.fresh 0 0 (!w.params.followText "set-order")) } }) ⟨rfl, rfl⟩) fun r s₁ hr => ?_
  cases r with
  | error e => exact hr
  | ok fl =>
    cases fl with
    | ret obj =>
      obtain ⟨rfl, rfl⟩ := hr
      have hS : (s.heap.push { cls := .type "set", dict := none, data := .set #[] 0 (.fresh 0 0 (!w.params.followText "set-order")) }).get? s.heap.objs.size = some { cls := .type "set", dict := none, data := .set #[] 0 (.fresh 0 0 (!w.params.followText "set-order")) } := Heap.get?_push_size _ rfl
      have hT : Shared.TypeIs { s with heap := s.heap.push { cls := .type "set", dict := none, data := .set #[] 0 (.fresh 0 0 (!w.params.followText "set-order")) } } (.ref s.heap.objs.size) "set" := ⟨_, hS, rfl⟩
      have hli := F.called_set.init.lookup
      have hbi := F.called_set.init.bind (.ref s.heap.objs.size)
      repeat (any_goals (first | assumption | wp_step))

      refine codeAny_mono (codeAny_call_builtin (R := wants (fun r s₂ => r = .none ∧ ∃ h' tk c, s₂ = { s with heap := h', toks := tk } ∧ SetR w h' s.heap.objs.size (fun j => decide (j ∈ ns)) c ∧ c ≤ ns.length ∧
          (∀ b o, s.heap.get? b = some o → h'.get? b = some o)) E) F.called_set.init.plain F.entry_set_init (check_set_init_1 hT ?_)) fun r₂ s₂ hr₂ => ?_
      · obtain ⟨ol, hol, hcl, nl, hdl⟩ := hl
        obtain ⟨ocls, odict, odata, oslots⟩ := ol
        simp only at hcl hdl
        subst hcl; subst hdl
        have hol' : (s.heap.push { cls := .type "set", dict := none, data := .set #[] 0 (.fresh 0 0 (!w.params.followText "set-order")) }).get? l = some { cls := .type "list", dict := odict, data := .seq items nl, slots := oslots } := Heap.get?_push_of_some _ hol
        have hsls := F.sub_list_set
        have hslf := F.sub_list_frozenset
        have hne : (Value.type "list" == Value.type "dict") = false := by decide
        have hl1 : (s.heap.push { cls := .type "set", dict := none, data := .set #[] 0 (.fresh 0 0 (!w.params.followText "set-order")) }).IsList l items := ⟨_, hol', rfl, nl, rfl⟩
        unfold Builtin.«set.__init__» noKeywords Builtin.Frozenset.updateFrom
        generalize hPI : pyIter = PI
        wp_walk
        subst hPI

        refine wpAny_pyIter_list hl1 ?_
        refine wpAny_bind (wpAny_runValue ?_)
        have hlS : l < s.heap.objs.size := Heap.lt_size hol
        have hh3 : A.in1.in1.in1.handled = none := by simp [hh]
        have hz1 : (s.heap.push { cls := .type "set", dict := none, data := .set #[] 0 (.fresh 0 0 (!w.params.followText "set-order")) }).objs.size = s.heap.objs.size + 1 := Heap.size_push ..
        have hneI : l ≠ (s.heap.push { cls := .type "set", dict := none, data := .set #[] 0 (.fresh 0 0 (!w.params.followText "set-order")) }).objs.size := by
          rw [Heap.size_push]; exact Nat.ne_of_lt (Nat.lt_succ_of_lt hlS)
        have hSf : s.heap.objs.size ∉ [(s.heap.push { cls := .type "set", dict := none, data := .set #[] 0 (.fresh 0 0 (!w.params.followText "set-order")) }).objs.size, l] := by
          rw [Heap.size_push]; simp only [List.mem_cons, List.mem_singleton, List.not_mem_nil, or_false, not_or]
          exact ⟨Nat.ne_of_lt (Nat.lt_succ_self _), Nat.ne_of_gt hlS⟩
        have hval : ∀ (i : Nat) (v : Value), items[i]? = some v → ∃ k t, ns[i]? = some k ∧ v = .int k t := fun i v hv => by
          have hi : i < ns.length := by rw [← hisz]; exact (Array.getElem?_eq_some_iff.mp hv).1
          obtain ⟨t, e⟩ := PyProof.Rows.IntsAre.int_at hit i v (by rw [Array.getElem?_toList]; exact hv)
          refine ⟨ns[i], t, List.getElem?_eq_getElem hi, ?_⟩
          rw [e, List.getD_eq_getElem?_getD, List.getElem?_eq_getElem hi] <;> rfl
        refine set_update_ints ((Walks.list hh3 _ l hneI items).toS) s.heap.objs.size
          hSf ns hisz hb hval (items.size - 0) 0 _ (by omega) (Nat.zero_le _)
          ⟨⟨_, Heap.get?_push_size _ rfl, rfl, rfl⟩, (hl1.push _)⟩ ?hS0 ?hR
        case hS0 =>
          have hget : ((s.heap.push { cls := .type "set", dict := none, data := .set #[] 0 (.fresh 0 0 (!w.params.followText "set-order")) }).push { cls := .type "list_iterator", data := .fields #[.ref l, .int 0 0] }).get? s.heap.objs.size
              = some { cls := .type "set", dict := none, data := .set #[] 0 (.fresh 0 0 (!w.params.followText "set-order")) } := Heap.get?_push_of_some _ hS
          exact ⟨0, Nat.le_refl 0, setR_new_at hget⟩
        case hR =>
          intro s' c' hm hc' hS'
          obtain ⟨h', g2, d', tk', os'⟩ := s'
          have eg : g2 = s.gens := hm.gens
          have ed : d' = s.drawn := hm.drawn
          have eo : os' = s.os := hm.os
          subst eg; subst ed; subst eo
          show wpAny _ _ _ _ _ _
          refine wpAny_pure ?_
          show wpAny _ _ (ret Value.none) _ _ _
          rw [hisz] at hc'
          refine wpAny_pure ⟨rfl, h', tk', c', rfl, hS', hc', fun b o e => ?_⟩
          have hb0 : b < s.heap.objs.size := Heap.lt_size e
          have hb1 : b ≠ s.heap.objs.size := Nat.ne_of_lt hb0
          have hb2 : b ≠ (s.heap.push { cls := .type "set", dict := none, data := .set #[] 0 (.fresh 0 0 (!w.params.followText "set-order")) }).objs.size := by
            rw [Heap.size_push]; exact Nat.ne_of_lt (Nat.lt_succ_of_lt hb0)
          exact hm.heap b o (by simp only [List.mem_cons, List.mem_singleton, List.not_mem_nil, or_false, not_or]; exact ⟨hb1, hb2⟩) (Heap.get?_push_of_some _ (Heap.get?_push_of_some _ e))

      · cases r₂ with
        | error e => exact hr₂
        | ok fl₂ =>
          cases fl₂ with
          | ret r =>
            obtain ⟨rfl, h', tk, c', rfl, hS', hc', hk'⟩ := hr₂
            repeat (any_goals (first | assumption | wp_step))
            exact h _ _ _ hS' hc' hk'
          | _ => exact hr₂.elim
    | _ => exact hr.elim

end
section
variable {X : Cx}
/-- sorted(set(x)), x a list of ints -/
def tSortSet (K : PySem.W.Frag) (ta : TE) : TE := fun σ H Q => ta σ H fun x H1 => ∃ (l : Addr) (ns : List Int), x = .ref l ∧ SqL K H1 l (ns.map V.int) ∧ ns.length < 60 ∧
  ∀ p H2 (ms : List Int), Many H1 H2 → H1 p = none → H2 p = some (.lst (ms.map V.int)) → ms.Pairwise (· < ·) → (∀ k, k ∈ ms ↔ k ∈ ns) → Q (.ref p) H2
theorem pe_sortedSet {a : Expr} {ta : TA} {te : TE} {p p2 q pos : Pos} (hg : Gl X "sorted") (hm : X.mg "sorted" = none) (hg2 : Gl X "set") (hm2 : X.mg "set" = none) (ha : PE X a te) (hc : X.calm = true := by rfl)
    (na : starEach [a] X.env = (false, eval a X.env) :: starEach [] X.env := by rfl) (nb : starEach [.Call (.Name "set" p2) [a] [] q] X.env = (false, eval (.Call (.Name "set" p2) [a] [] q) X.env) :: starEach [] X.env := by rfl) :
    PE X (.Call (.Name "sorted" p) [.Call (.Name "set" p2) [a] [] q] [] pos) (tSortSet X.K te) := by
  refine ⟨fun pins s σ H Q I h => ?_⟩
  refine Call_ (ld_blt I hg hm bt_sorted ?_)
  refine PyProof.Rows.callWith_builtin1 (PyProof.Rows.args_cons ?_ nb) nb rfl
  refine Call_ (ld_blt I hg2 hm2 boot_set ?_)
  refine PyProof.Rows.callWith_type1 (PyProof.Rows.args_cons (thn (ha.run pins s σ H _ I h) fun v s1 ⟨x, H1, I1, r1, q1⟩ => PyProof.Rows.args_nil ?_) na) na rfl
  obtain ⟨l, ns, rfl, hq, hl, q1⟩ := q1
  cases r1
  obtain ⟨its, r, pl, hz⟩ := I1.list hq
  refine call_set_lstI ns (I1.ok.hd hc) pl.isList (by simpa using intsAre_vals r) (by unfold scanBound; omega) fun h' tk c hS hcl hk => ?_
  refine PyProof.Rows.args_nil ?_
  have hn : H1 s1.heap.objs.size = none := I1.hok.fresh (Nat.le_refl _)
  have I2 : Inv X pins σ (upd H1 s1.heap.objs.size (SetO X.w s1.heap.objs.size (fun j => decide (j ∈ ns)) c)) { s1 with heap := h', toks := tk } := I1.laid (t' := tk) hk (Nat.le_refl _) (setO_new hS)
  refine cr_sortedSet hc pins _ σ _ [V.ref s1.heap.objs.size] [Value.ref s1.heap.objs.size] Q I2 (.cons rfl .nil) ⟨_, _, c, rfl, upd_same, by omega, fun ms p hs hm hlen hp => ?_⟩
  have hpn : p ≠ s1.heap.objs.size := by
    intro e
    rw [e, upd_same] at hp
    cases hp
  have hp1 : H1 p = none := by rw [upd_ne hpn] at hp; exact hp
  refine q1 p _ ms ⟨fun b o e => ?_, fun b o u e => ?_⟩ hp1 upd_same hs fun k => by rw [hm k, decide_eq_true_eq]
  · rw [upd_ne (ne_of_none e hp1), upd_ne (ne_of_none e hn)]; exact e
  · by_cases e1 : b = p
    · rw [e1, upd_same] at e; cases e
    · rw [upd_ne e1] at e
      by_cases e2 : b = s1.heap.objs.size
      · rw [e2, upd_same] at e; cases e
      · rw [upd_ne e2] at e; exact e
/-! ### dict of a list of pairs (tuple, value) -/
def rDictT (K : PySem.W.Frag) : List V → Hp → VK → Prop := fun xs H Q => ∃ (a : Addr) (ts : List Addr) (ps : List (List Key × Addr × V)), xs = [.ref a] ∧ SqL K H a (ts.map V.ref) ∧ Paired (fun t (q : List Key × Addr × V) => SqT K H t [.ref q.2.1, q.2.2] ∧ H q.2.1 = some (.tup (q.1.map kV))) ts ps ∧ (ps.map (·.1)).Nodup ∧
  ∀ p, H p = none → Q (.ref p) (upd H p (.dT (ps.map fun q => (q.1, q.2.2))))
theorem pgetL {α β : Type} {F : α → β → Prop} : ∀ {l₁ : List α} {l₂ : List β} {j : Nat} {x : α}, Paired F l₁ l₂ → l₁[j]? = some x → ∃ y, l₂[j]? = some y ∧ F x y
  | _, _, _, _, .nil, e => by simp at e
  | _, _, 0, _, .cons h _, e => by simp at e; subst e; exact ⟨_, rfl, h⟩
  | _, _, j + 1, _, .cons _ t, e => by
    obtain ⟨y, e1, h⟩ := pgetL (j := j) t (by simpa using e)
    exact ⟨y, by simpa using e1, h⟩
theorem dt_pairs {pins : List (Addr × Obj)} {σ : L2.St} {H : Hp} {s : Shared} (I : L2.Inv X pins σ H s) : ∀ {ts : List Addr} {ps : List (List Key × Addr × V)}, Paired (fun t (q : List Key × Addr × V) => SqT X.K H t [.ref q.2.1, q.2.2] ∧ H q.2.1 = some (.tup (q.1.map kV))) ts ps →
    ∃ us : List (List Key × Addr × Value), us.length = ts.length ∧ Paired (fun (p : List Key × V) (q : List Key × Addr × Value) => p.1 = q.1 ∧ H q.2.1 = some (.tup (p.1.map kV)) ∧ RelV p.2 q.2.2) (ps.map fun q => (q.1, q.2.2)) us ∧ us.map (·.1) = ps.map (·.1) ∧
      ∀ (j : Nat) (u : List Key × Addr × Value), us[j]? = some u → ∃ t, ts[j]? = some t ∧ s.heap.IsTuple t #[.ref u.2.1, u.2.2] ∧ (tupleKind (mixKind X.prog X.w)).is s.heap u.1 u.2.1
  | _, _, .nil => ⟨[], rfl, .nil, rfl, fun _ _ h => by simp at h⟩
  | t :: ts, q :: ps, .cons h r => by
    obtain ⟨us, h1, h2, h3, h4⟩ := dt_pairs I r
    obtain ⟨its, rv, pl, _⟩ := I.tuple h.1
    cases rv with
    | cons ra rr =>
      cases rr with
      | cons rb rr =>
        cases rr
        cases ra
        refine ⟨(q.1, q.2.1, _) :: us, by simp [h1], .cons ⟨rfl, h.2, rb⟩ h2, by simp [h3], fun j u e => ?_⟩
        cases j with
        | zero =>
          simp at e
          subst e
          exact ⟨t, rfl, pl, key_of I.hok h.2⟩
        | succ j =>
          obtain ⟨t', e1, e2⟩ := h4 j u (by simpa using e)
          exact ⟨t', by simpa using e1, e2⟩
theorem call_dictT (hcalm : X.calm = true) (hu : X.A.units + 64 < cLine) : CallR X (.type "dict") (rDictT X.K) := by
  intro pins s σ H xs us Q I r h
  obtain ⟨a, ts, ps, rfl, hq, hp, hnd, q⟩ := h
  obtain rfl := Vals.ref1 r
  obtain ⟨its, rv, pl, hz⟩ := I.list hq
  have ei := refs_at rv
  subst ei
  rw [List.length_map] at hz
  obtain ⟨ws, h1, h2, h3, h4⟩ := dt_pairs I hp
  obtain ⟨o, n, ho, hc, hd, hdat⟩ := pl
  have ok : PlainSeq "list" s.heap a (ts.map Value.ref).toArray ∧ PairItems s.heap (ts.map Value.ref).toArray (fun j => ts.getD j 0) (ws.map fun u => (Value.ref u.2.1, u.2.2)) := by
    refine ⟨⟨o, n, ho, hc, hd, hdat⟩, by simp [h1], fun j k v e => ?_⟩
    rw [List.getElem?_map] at e
    cases eu : ws[j]? with
    | none => rw [eu] at e; cases e
    | some u =>
      rw [eu] at e
      obtain ⟨t, e1, e2, _⟩ := h4 j u eu
      cases e
      have et : ts.getD j 0 = t := by rw [List.getD_eq_getElem?_getD, e1]; rfl
      show _ = some (Value.ref (ts.getD j 0)) ∧ PairAt s.heap (ts.getD j 0) _ _
      rw [et]
      exact ⟨by simp [e1], .inl e2⟩
  have hkey : ∀ x ∈ ws, (tupleKind (mixKind X.prog X.w)).is s.heap x.1 x.2.1 := fun x hx => by
    obtain ⟨j, hj⟩ := List.mem_iff_getElem?.mp hx
    obtain ⟨_, _, _, e⟩ := h4 j x hj
    exact e
  refine call_dict_pairsH (knd := tupleKind (mixKind X.prog X.w)) (ps := ws) (PairArg.list a _ (fun j => ts.getD j 0) (ws.map fun u => (Value.ref u.2.1, u.2.2))) (I.ok.hd hcalm) ?hroom ok ⟨by simp, fun i key v e => ?_⟩ (fun h' hk x hx => ?_) (by simp [h1]; exact hz) fun h' tk hd' hk => ?_
  case hroom => show X.A.units + 1 + 1 < cLine; omega
  · have e' : (ws.map fun u => (Value.ref u.2.1, u.2.2))[i]? = some (key, v) := e
    rw [List.getElem?_map] at e'
    cases eu : ws[i]? with
    | none => rw [eu] at e'; cases e'
    | some u =>
      rw [eu] at e'
      cases e'
      exact ⟨u.1, u.2.1, rfl, rfl⟩
  · refine tupleKind_stays.stays (fun b o vs n e ed => hk b o (Nat.ne_of_lt (Heap.lt_size e)) (fun z => nomatch z) e) (hkey x hx)
  · have hk' : ∀ b o, s.heap.get? b = some o → h'.get? b = some o := fun b o e => hk b o (fun z => nomatch z) e
    have hm : (s.heap.objs.size == sysModules) = false := beq_eq_false_iff_ne.mpr (Nat.ne_of_gt I.big)
    rw [storedAllH_nil_of_nodup ws (by rw [h3]; exact hnd)] at hd'
    obtain ⟨o2, es, ep, ho2, hx2, hdt2, hes, _, hn2⟩ := hd'
    have hl : (ps.map fun q => (q.1, q.2.2)).length ≤ sizeLine := by
      rw [Paired.length h2, h1]; exact hz
    have hn : H s.heap.objs.size = none := I.hok.fresh (Nat.le_refl _)
    refine ⟨.ref s.heap.objs.size, upd H s.heap.objs.size (.dT (ps.map fun q => (q.1, q.2.2))), I.laid (t' := tk) hk' (Nat.le_refl _) (show ObjOk X.prog X.w _ _ _ (.dT (ps.map fun q => (q.1, q.2.2))) from ⟨hl, hm, ws, ?_, o2, es, ep, ho2, hx2, hdt2, hes, hn2⟩), rfl, q _ hn⟩
    refine KT.keeps h2 fun c ys ec => ?_
    rw [upd_ne (ne_of_none ec hn)]; exact ec
end
end PF
end
section
set_option Elab.async false
set_option linter.all false
set_option maxRecDepth 100000
namespace PF
open PySem PySem.Spec L2 RZ
section
variable {K : PySem.W.Frag} {ρ : En} {Γ : Ctx} {R : D → Prop} {ta : TA} {te td ty : TE}
theorem RpL.of_get {B : Hp} : ∀ {vs : List V} {ds : List D}, vs.length = ds.length → (∀ (i : Nat) (v : V) (d : D), vs[i]? = some v → ds[i]? = some d → Rp K B v d) → RpL K B vs ds
  | [], [], _, _ => .nil
  | [], _ :: _, h, _ => by simp at h
  | _ :: _, [], h, _ => by simp at h
  | v :: vs, d :: ds, h, f => .cons (f 0 v d rfl rfl) (RpL.of_get (by simpa using h) fun i x y h1 h2 => f (i + 1) x y (by simpa using h1) (by simpa using h2))
theorem tups_rp {B H H2 : Hp} {Q : VK} {p n : Nat} {Pv : Nat → List V → Prop} {ds : List D} (k : Ok K B H Γ) (t : TupsAt H H2 p n Pv) (hn : ds.length = n) (hd : ∀ (j : Nat) (vs : List V) (d : D), Pv j vs → ds[j]? = some d → ∃ es, d = .tup es ∧ RpL K B vs es) (q : R (.lst ds)) (f : Fin K Γ B H R Q) : Q (.ref p) H2 := by
  obtain ⟨m, hp, as, h1, h2, h3⟩ := t
  obtain ⟨B2, k2, f2, new⟩ := k.many m
  refine f (.ref p) B2 H2 (.lst ds) k2 f2 (.lst (new _ _ hp h1) (RpL.of_get (by rw [List.length_map, h2, hn]) fun i v d hv hd' => ?_)) q
  rw [List.getElem?_map] at hv
  cases ha : as[i]? with
  | none => rw [ha] at hv; cases hv
  | some a =>
    rw [ha] at hv
    cases hv
    obtain ⟨hna, vs, pv, hvs⟩ := h3 i a ha
    obtain ⟨es, e, rp⟩ := hd i vs d pv hd'
    subst e
    exact .tup (.inl (.inl (new _ _ hna hvs))) (rp.same f2.ex)
theorem w_listZip2 (h : EvA K ta ρ Γ fun ds => ∃ xs ys, ds = [.lst xs, .lst ys] ∧ R (.lst (zipD xs ys))) : EvW K (tLZ2 K ta) ρ Γ R := fun B H σ k s Q f =>
  h B H σ k s _ fun vs B1 H1 ds k1 f1 r1 ⟨xs, ys, e, q⟩ => by
    subst e
    cases r1 with
    | cons ra rr =>
      cases rr with
      | cons rb rr =>
        cases rr
        cases ra with
        | lst ha hra =>
          cases rb with
          | lst hb hrb =>
            refine ⟨_, _, _, _, rfl, .inl (.inl (k1.ext _ _ ha)), .inl (.inl (k1.ext _ _ hb)), fun p H2 t => tups_rp k1 t ?_ (fun j vs d ⟨x, y, e1, e2, e3⟩ hd => ?_) q (f.tr f1)⟩
            · unfold zipD; rw [List.length_zipWith, hra.length, hrb.length]
            · obtain ⟨a, b, g1, g2, g3⟩ := zipD_get hd
              subst e3 g3
              obtain ⟨d1, i1, i2⟩ := hra.get' e1
              obtain ⟨d2, i3, i4⟩ := hrb.get' e2
              rw [g1] at i1
              rw [g2] at i3
              cases i1
              cases i3
              exact ⟨_, rfl, .cons i2 (.cons i4 .nil)⟩
def zip3D (xs ys zs : List D) : List D := List.zipWith (fun (p : D × D) c => .tup [p.1, p.2, c]) (xs.zip ys) zs
theorem zip3D_get {xs ys zs : List D} {i : Nat} {d : D} (h : (zip3D xs ys zs)[i]? = some d) : ∃ a b c, xs[i]? = some a ∧ ys[i]? = some b ∧ zs[i]? = some c ∧ d = .tup [a, b, c] := by
  unfold zip3D at h
  rw [List.getElem?_zipWith] at h
  cases e1 : (xs.zip ys)[i]? with
  | none => rw [e1] at h; cases h
  | some p =>
    cases e2 : zs[i]? with
    | none => rw [e1, e2] at h; cases h
    | some c =>
      rw [e1, e2] at h
      obtain ⟨h1, h2⟩ := List.getElem?_zip_eq_some.mp e1
      exact ⟨p.1, p.2, c, h1, h2, rfl, (Option.some.inj h).symm⟩
theorem w_listZip3 (h : EvA K ta ρ Γ fun ds => ∃ xs ys zs, ds = [.tup xs, .tup ys, .tup zs] ∧ R (.lst (zip3D xs ys zs))) : EvW K (tLZ3 K ta) ρ Γ R := fun B H σ k s Q f =>
  h B H σ k s _ fun vs B1 H1 ds k1 f1 r1 ⟨xs, ys, zs, e, q⟩ => by
    subst e
    cases r1 with
    | cons ra rr =>
      cases rr with
      | cons rb rr =>
        cases rr with
        | cons rc rr =>
          cases rr
          cases ra with
          | tup ha hra =>
            cases rb with
            | tup hb hrb =>
              cases rc with
              | tup hc hrc =>
                refine ⟨_, _, _, _, _, _, rfl, sqT_le (sameLe k1.ext) ha, sqT_le (sameLe k1.ext) hb, sqT_le (sameLe k1.ext) hc, fun p H2 t => tups_rp k1 t ?_ (fun j vs d ⟨x, y, z, e1, e2, e3, e4⟩ hd => ?_) q (f.tr f1)⟩
                · unfold zip3D; rw [List.length_zipWith, List.length_zip, hra.length, hrb.length, hrc.length]
                · obtain ⟨a, b, c, g1, g2, g3, g4⟩ := zip3D_get hd
                  subst e4 g4
                  obtain ⟨d1, i1, i2⟩ := hra.get' e1
                  obtain ⟨d2, i3, i4⟩ := hrb.get' e2
                  obtain ⟨d3, i5, i6⟩ := hrc.get' e3
                  rw [g1] at i1
                  rw [g2] at i3
                  rw [g3] at i5
                  cases i1
                  cases i3
                  cases i5
                  exact ⟨_, rfl, .cons i2 (.cons i4 (.cons i6 .nil))⟩
theorem vals_rp {B : Hp} {κ : Type} : ∀ {ws : List (κ × V)} {kvs : List (κ × D)}, RpL K B (ws.map (·.2)) (kvs.map (·.2)) → RpL K B (ws.map (·.2)) (kvs.map (·.2)) := fun h => h
/-- list(d.values()) -/
theorem w_listVals (hz : Γ.z = []) (h : EvW K td ρ Γ fun x => ∃ kvs, x = .dK kvs ∧ R (.lst (kvs.map (·.2)))) : EvW K (tCB (fun xs H Q => ∃ (v a : Addr) (kvs : List (Key × V)), xs = [.ref v] ∧ H v = some (valsO v a) ∧ Rd H a (.dK kvs) ∧ ∀ q, H q = none → Q (.ref q) (upd H q (.lst (kvs.map (·.2))))) (tCons (tBM0 K "dict" rValues td) tNil)) ρ Γ R := fun B H σ k s Q f =>
  h B H σ k s _ fun v B1 H1 x k1 f1 r1 ⟨kvs, e, q⟩ => by
    subst e
    cases r1 with
    | @dK a ws _ hx hk hr =>
      have hb : B1 a = some (.dK ws) := by
        rcases hx with hx | ⟨o, hx⟩
        · exact hx
        · rcases k1.fz _ _ _ hx with z | ⟨xs, z⟩
          · rw [hz] at z; cases z
          · cases z
      have hH := k1.ext _ _ hb
      refine ⟨.inr (.inr (.inl ⟨rfl, .inl ⟨ws, hH⟩⟩)), a, ws, rfl, rfl, .inl hH, fun p hp => ?_⟩
      have k2 := k1.new (o := valsO p a) hp (by intros; exact HO.noConfusion)
      have f2 := k1.newF (o := valsO p a) hp
      refine ⟨p, a, ws, rfl, upd_same, .inl (by rw [upd_ne (ne_of_none hH hp)]; exact hH), fun l hl => ?_⟩
      have e := sameNew (o := .lst (ws.map (·.2))) (k2.bnone hl)
      exact f _ _ _ _ (k2.new hl (by intros; exact HO.noConfusion)) ((f1.tr f2).tr (k2.newF hl)) (.lst upd_same ((hr.same f2.ex).same e)) q
theorem w_tupRange (h : EvW K te ρ Γ fun x => ∃ n : Nat, x = .int (n : Int) ∧ n ≤ 1000 ∧ R (.tup (rangeD 0 n))) : EvW K (tTupRg (tRg1 te)) ρ Γ R := fun B H σ k s Q f =>
  h B H σ k s _ fun v B1 H1 x k1 f1 r1 ⟨n, e, hn, q⟩ => by
    subst e
    cases r1
    refine ⟨(n : Int), rfl, ⟨by omega, by omega, by omega, by omega, by omega⟩, fun p hp => ?_⟩
    have e : rgV 0 (n : Int) = ((List.range n).map fun i : Nat => ((0 : Int) + (i : Nat))).map V.int := by
      unfold rgV
      rw [List.map_map]
      rfl
    have e2 : rangeD 0 n = ((List.range n).map fun i : Nat => ((0 : Int) + (i : Nat))).map D.int := by
      unfold rangeD
      rw [List.map_map]
      rfl
    rw [e2] at q
    rw [e]
    exact f _ _ _ _ (k1.new hp (by intros; exact HO.noConfusion)) (f1.tr (k1.newF hp)) (.tup (.inl (.inl upd_same)) (.ofInts _)) q
theorem w_sortedSet (h : EvW K te ρ Γ fun x => ∃ ns : List Int, x = .lst (ns.map .int) ∧ ns.length < 60 ∧ ∀ ms : List Int, ms.Pairwise (· < ·) → (∀ k, k ∈ ms ↔ k ∈ ns) → R (.lst (ms.map .int))) : EvW K (tSortSet K te) ρ Γ R := fun B H σ k s Q f =>
  h B H σ k s _ fun v B1 H1 x k1 f1 r1 ⟨ns, e, hn, q⟩ => by
    subst e
    cases r1 with
    | lst hx hr =>
      have e := hr.ints
      subst e
      refine ⟨_, ns, rfl, .inl (.inl (k1.ext _ _ hx)), hn, fun p H2 ms m hp hp2 h1 h2 => ?_⟩
      obtain ⟨B2, k2, f2, new⟩ := k1.many m
      exact f _ B2 H2 _ k2 (f1.tr f2) (.lst (new _ _ hp hp2) (.ofInts ms)) (q ms h1 h2)
/-- dict(list of (key, value)) -/
theorem w_dictT (h : EvA K ta ρ Γ fun ds => ∃ kvs : List (List Int × D), ds = [.lst (kvs.map fun kv => .tup [.key kv.1, kv.2])] ∧ (kvs.map (·.1)).Nodup ∧ R (.dT (kvs.map fun kv => (ik kv.1, kv.2)))) : EvW K (tCB (rDictT K) ta) ρ Γ R := fun B H σ k s Q f =>
  h B H σ k s _ fun vs B1 H1 ds k1 f1 r1 ⟨kvs, e, hnd, q⟩ => by
    subst e
    cases r1 with
    | cons ra rr =>
      cases rr
      cases ra with
      | @lst p xs _ hx hr =>
        have key : ∀ {xs : List V} {kvs : List (List Int × D)}, RpL K B1 xs (kvs.map fun kv => .tup [.key kv.1, kv.2]) → ∃ (ts : List Addr) (ps : List (List Key × Addr × V)), xs = ts.map V.ref ∧ Paired (fun t (q : List Key × Addr × V) => SqT K H1 t [.ref q.2.1, q.2.2] ∧ H1 q.2.1 = some (.tup (q.1.map kV))) ts ps ∧
            ps.map (·.1) = kvs.map (fun kv => ik kv.1) ∧ RpL K B1 ((ps.map fun q => (q.1, q.2.2)).map (·.2)) ((kvs.map fun kv => (ik kv.1, kv.2)).map (·.2)) := by
          intro xs kvs
          induction kvs generalizing xs with
          | nil =>
            intro r
            cases r
            exact ⟨[], [], rfl, .nil, rfl, .nil⟩
          | cons kv kvs ih =>
            intro r
            rw [List.map_cons] at r
            cases r with
            | cons rx rr =>
              obtain ⟨ts, ps, e1, e2, e3, e4⟩ := ih rr
              cases rx with
              | @tup t ys _ ht hy =>
                cases hy with
                | cons ry rz =>
                  cases rz with
                  | cons rv rn =>
                    cases rn
                    cases ry with
                    | @key b _ hb =>
                      refine ⟨t :: ts, (ik kv.1, b, _) :: ps, by rw [e1]; rfl, .cons ⟨sqT_le (sameLe k1.ext) ht, ?_⟩ e2, by rw [List.map_cons, List.map_cons, e3], .cons rv e4⟩
                      show H1 b = some (.tup ((ik kv.1).map kV))
                      rw [ik_kV]
                      exact k1.ext _ _ hb
        obtain ⟨ts, ps, e1, e2, e3, e4⟩ := key hr
        subst e1
        refine ⟨p, ts, ps, rfl, .inl (.inl (k1.ext _ _ hx)), e2, ?_, fun l hl => ?_⟩
        · rw [e3]
          have e5 : (kvs.map fun kv => ik kv.1) = (kvs.map (·.1)).map ik := by rw [List.map_map]; rfl
          rw [e5]
          refine List.Pairwise.map _ (fun a b hab e => hab ?_) hnd
          exact List.map_inj_right (fun x y e => Sum.inl.inj e) |>.mp e
        · have e := sameNew (o := .dT (ps.map fun q => (q.1, q.2.2))) (k1.bnone hl)
          refine f _ _ _ _ (k1.new hl (by intros; exact HO.noConfusion)) (f1.tr (k1.newF hl)) (.dT (.inl upd_same) ?_ (e4.same e)) q
          rw [List.map_map, List.map_map]
          exact e3
/-! d == {} -/
theorem o_eqE {kvs : List (Key × D)} (q : R (.bl kvs.isEmpty)) : OpW K rEqE Γ (.dK kvs) (.dK []) R := fun B H a b k ra rb Q f => by
  cases ra with
  | @dK _ ws _ hx hk hr =>
    cases rb with
    | @dK _ ws2 _ hx2 hk2 hr2 =>
      have e2 : ws2 = [] := by
        cases ws2 with
        | nil => rfl
        | cons _ _ => cases hk2
      subst e2
      refine ⟨_, _, ws, rfl, rfl, rd_same k.ext hx, rd_same k.ext hx2, ?_⟩
      have e : ws.isEmpty = kvs.isEmpty := by
        cases ws with
        | nil => cases kvs with
          | nil => rfl
          | cons _ _ => cases hk
        | cons _ _ => cases kvs with
          | nil => cases hk
          | cons _ _ => rfl
      rw [e]
      exact f.now k (.bl _) q
theorem w_newK (q : R (.dK [])) : EvW K tDNewK ρ Γ R := fun B H σ k s Q f p hp =>
  f _ _ _ _ (k.new hp (by intros; exact HO.noConfusion)) (k.newF hp) (.dK (.inl upd_same) rfl .nil) q
/-! k in xs -/
theorem any_mem {n : Nat} {ds : List D} {x : D} (hx : Pl n x) (h : ∀ d ∈ ds, Pl n d) : ((D.pyL ds).any fun z => PyData.eqv z x.py) = true ↔ x ∈ ds := by
  rw [pyL_map, List.any_map, List.any_eq_true]
  constructor
  · rintro ⟨d, hd, e⟩
    have := ((h d hd).eqv hx).mp e
    exact this ▸ hd
  · intro hd
    exact ⟨x, hd, ((h x hd).eqv hx).mpr rfl⟩
theorem o_notInD {n : Nat} {x : D} {ds : List D} (hn : n + 1 ≤ 64) (hx : Pl n x) (h : ∀ d ∈ ds, Pl n d) (q : ∀ b : Bool, (b = true ↔ x ∈ ds) → R (.bl (!b))) : OpW K (rNotInD K) Γ x (.lst ds) R := fun B H a b k ra rb Q f => by
  have hl := (Pl.lst h).dp rb
  rw [D.py] at hl
  have hs := (Pl.lst h).shaped hn
  rw [D.py] at hs
  exact ⟨x.py, D.pyL ds, Dp.same k.ext (hx.dp ra), Dp.same k.ext hl, hx.shaped (by omega), hs, f.now k (.bl _) (q _ (any_mem hx h))⟩
end
end PF
end
section
set_option Elab.async false
set_option linter.all false
set_option maxRecDepth 100000
namespace PF
open PySem PySem.Spec L2 RZ
/-! ### a dict that is walked is locked -/
def HO.isD : HO → Prop
  | .dK _ => True
  | .dT _ => True
  | _ => False
section
variable {K : PySem.W.Frag} {ρ : En} {Γ : Ctx} {R : D → Prop} {ta : TA} {te td ty : TE}
theorem le_upd {B : Hp} {a : Addr} {u v : HO} (hb : B a = some u) (h1 : ∀ xs, u ≠ .lst xs) (h2 : ∀ xs, u ≠ .tup xs) (h3 : ∀ C dx ws, u ≠ .ins C dx ws) (h4 : ∀ o w, (u = w ∨ u = .frz o w) → (∃ xs, w = .tup xs) ∨ (∃ xs, w = .lst xs) ∨ (∃ xs, w = .dK xs) ∨ (∃ xs, w = .dT xs) → (v = w ∨ ∃ o, v = .frz o w)) : Le B (upd B a v) := by
  have rd : ∀ (c : Addr) (w : HO), ((∃ xs, w = .tup xs) ∨ (∃ xs, w = .lst xs) ∨ (∃ xs, w = .dK xs) ∨ (∃ xs, w = .dT xs)) → Rd B c w → Rd (upd B a v) c w := by
    intro c w hw h
    by_cases e : c = a
    · subst e
      rcases h with h | ⟨o, h⟩
      · rw [hb] at h
        cases h
        rcases h4 default u (.inl rfl) hw with e | ⟨o, e⟩
        · exact .inl (by rw [upd_same, e])
        · exact .inr ⟨o, by rw [upd_same, e]⟩
      · rw [hb] at h
        cases h
        rcases h4 o w (.inr rfl) hw with e | ⟨o, e⟩
        · exact .inl (by rw [upd_same, e])
        · exact .inr ⟨o, by rw [upd_same, e]⟩
    · rcases h with h | ⟨o, h⟩
      · exact .inl (by rw [upd_ne e]; exact h)
      · exact .inr ⟨o, by rw [upd_ne e]; exact h⟩
  refine ⟨fun c xs h => ?_, fun c C dx ws h => ?_, fun c xs h => ?_, fun c xs h => rd c _ (.inl ⟨xs, rfl⟩) h, fun c xs h => rd c _ (.inr (.inl ⟨xs, rfl⟩)) h, fun c xs h => rd c _ (.inr (.inr (.inl ⟨xs, rfl⟩))) h, fun c xs h => rd c _ (.inr (.inr (.inr ⟨xs, rfl⟩))) h⟩
  · have ne : c ≠ a := fun e => by subst e; rw [hb] at h; exact h1 xs (Option.some.inj h)
    rw [upd_ne ne]; exact h
  · have ne : c ≠ a := fun e => by subst e; rw [hb] at h; exact h3 C dx ws (Option.some.inj h)
    rw [upd_ne ne]; exact h
  · have ne : c ≠ a := fun e => by subst e; rw [hb] at h; exact h2 xs (Option.some.inj h)
    rw [upd_ne ne]; exact h
theorem lock_in {B H : Hp} {a : Addr} {u : HO} {od : Obj} (hu : HO.isD u) (k : Ok K B H Γ) (hb : B a = some u) : Ok K (upd B a (.frz od u)) (upd H a (.frz od u)) ⟨Γ.c, a :: Γ.z⟩ ∧ Le B (upd B a (.frz od u)) := by
  have le : Le B (upd B a (.frz od u)) := le_upd hb (fun xs e => by subst e; exact hu) (fun xs e => by subst e; exact hu) (fun C dx ws e => by subst e; exact hu) (fun o w hw _ => by
    rcases hw with e | e
    · exact .inr ⟨od, by rw [e]⟩
    · subst e; exact hu.elim)
  refine ⟨⟨fun c o h => ?_, k.nd, fun q hq => ?_, fun c o w h => ?_⟩, le⟩
  · by_cases e : c = a
    · subst e; rw [upd_same] at h ⊢; exact h
    · rw [upd_ne e] at h ⊢; exact k.ext _ _ h
  · obtain ⟨b, cc⟩ := k.cel q hq
    have ne : q.1 ≠ a := fun e => by rw [e, hb] at b; cases b
    exact ⟨by rw [upd_ne ne]; exact b, cc.le le fun o h => by rw [upd_ne ne]; exact h⟩
  · by_cases e : c = a
    · subst e; exact .inl List.mem_cons_self
    · rw [upd_ne e] at h
      exact (k.fz _ _ _ h).imp_left (List.mem_cons_of_mem _)
theorem lock_out {B H B' H' : Hp} {a : Addr} {u : HO} {od : Obj} {Γ' : Ctx} (hu : HO.isD u) (k : Ok K B H Γ) (hb : B a = some u) (k' : Ok K B' H' ⟨Γ'.c, a :: Γ.z⟩) (f' : Fut ⟨Γ.c, a :: Γ.z⟩ (upd B a (.frz od u)) (upd H a (.frz od u)) B' H') :
    H' a = some (.frz od u) ∧ Ok K (upd B' a u) (upd H' a u) ⟨Γ'.c, Γ.z⟩ ∧ Fut Γ B H (upd B' a u) (upd H' a u) ∧ Le B' (upd B' a u) := by
  have hb' : B' a = some (.frz od u) := f'.ex _ _ upd_same
  have hH' : H' a = some (.frz od u) := k'.ext _ _ hb'
  have hHa : H a = some u := k.ext _ _ hb
  have le : Le B' (upd B' a u) := le_upd hb' (fun xs e => HO.noConfusion e) (fun xs e => HO.noConfusion e) (fun C dx ws e => HO.noConfusion e) (fun o w hw q => by
    rcases hw with e | e
    · subst e
      rcases q with ⟨_, q⟩ | ⟨_, q⟩ | ⟨_, q⟩ | ⟨_, q⟩ <;> cases q
    · cases e; exact .inl rfl)
  refine ⟨hH', ⟨fun c o h => ?_, k'.nd, fun q hq => ?_, fun c o w h => ?_⟩, ⟨fun c o h => ?_, fun c o ht hn hc h => ?_, fun c xs h => ?_, fun c h => ?_⟩, le⟩
  · by_cases e : c = a
    · subst e; rw [upd_same] at h ⊢; exact h
    · rw [upd_ne e] at h ⊢; exact k'.ext _ _ h
  · obtain ⟨b, cc⟩ := k'.cel q hq
    have ne : q.1 ≠ a := fun e => by rw [e, hb'] at b; cases b
    exact ⟨by rw [upd_ne ne]; exact b, cc.le le fun o h => by rw [upd_ne ne]; exact h⟩
  · by_cases e : c = a
    · subst e
      rw [upd_same] at h
      have e2 := Option.some.inj h
      rw [e2] at hu
      exact hu.elim
    · rw [upd_ne e] at h
      rcases k'.fz _ _ _ h with z | z
      · rcases List.mem_cons.mp z with z | z
        · exact absurd z e
        · exact .inl z
      · exact .inr z
  · by_cases e : c = a
    · subst e; rw [upd_same]; rw [hb] at h; exact h
    · rw [upd_ne e]
      exact f'.ex _ _ (by rw [upd_ne e]; exact h)
  · have ne : c ≠ a := fun e => by rw [e, hb] at hn; cases hn
    obtain ⟨g1, g2⟩ := f'.fr c o ht (by rw [upd_ne ne]; exact hn) hc (by rw [upd_ne ne]; exact h)
    exact ⟨by rw [upd_ne ne]; exact g1, by rw [upd_ne ne]; exact g2⟩
  · have ne : c ≠ a := fun e => by
      rw [e, hHa] at h
      have e2 := Option.some.inj h
      rw [e2] at hu
      exact hu
    rw [upd_ne ne]
    exact f'.tp c xs (by rw [upd_ne ne]; exact h)
  · have ne : c ≠ a := fun e => by rw [e, upd_same] at h; cases h
    rw [upd_ne ne] at h
    have := f'.lv c h
    rw [upd_ne ne] at this
    exact this
/-- a tuple of the heap is known from now on -/
theorem Ok.learn {B H : Hp} {q : Addr} {xs : List V} (k : Ok K B H Γ) (hq : H q = some (.tup xs)) : ∃ B2, Ok K B2 H Γ ∧ Fut Γ B H B2 H ∧ B2 q = some (.tup xs) := by
  cases e : B q with
  | some o =>
    have := k.ext _ _ e
    rw [hq] at this
    cases this
    exact ⟨B, k, Fut.refl, e⟩
  | none =>
    have sn := sameNew (o := HO.tup xs) e
    refine ⟨upd B q (.tup xs), ⟨fun c o h => ?_, k.nd, fun p hp => ?_, fun c o w h => ?_⟩, ⟨sn, fun c o ht hn hc h => ⟨h, ?_⟩, fun _ _ h => h, fun _ h => h⟩, upd_same⟩
    · by_cases ec : c = q
      · subst ec; rw [upd_same] at h; rw [hq]; exact h
      · rw [upd_ne ec] at h; exact k.ext _ _ h
    · obtain ⟨b, cc⟩ := k.cel p hp
      obtain ⟨u, hu, nt⟩ := cc.some
      have ne : p.1 ≠ q := fun z => by rw [z, hq] at hu; exact nt xs (Option.some.inj hu).symm
      exact ⟨by rw [upd_ne ne]; exact b, cc.le (sameLe sn) fun u h => h⟩
    · by_cases ec : c = q
      · subst ec; rw [upd_same] at h; cases h
      · rw [upd_ne ec] at h; exact k.fz _ _ _ h
    · have ne : c ≠ q := fun z => by rw [z, hq] at h; exact ht xs (Option.some.inj h).symm
      rw [upd_ne ne]; exact hn
theorem walkD_keysT {B : Hp} {a : Addr} {o : Obj} {ws : List (List Key × V)} {nss : List (List Int)} (hb : B a = some (.frz o (.dT ws))) (hk : ws.map (·.1) = nss.map ik) : WalkD K (Itkt a o ws) B (nss.map .key) := by
  have hl : ws.length = nss.length := by have := congrArg List.length hk; simpa using this
  refine ⟨fun H => H a = some (.frz o (.dT ws)), fun i H x H' => H' = H ∧ ∃ (k : List Key) (v : V) (q : Addr), ws[i]? = some (k, v) ∧ x = .ref q ∧ H q = some (.tup (k.map kV)), ?_, fun H s => s _ _ hb, fun i x H H' d Γ B1 hd y k s => ?_⟩
  · rw [List.length_map, ← hl]
    exact ⟨fun i H hi q => ⟨q, hi⟩, fun H q => ⟨q, Nat.le_refl _⟩, fun i H v H' _ q y => y⟩
  · obtain ⟨rfl, kk, v, q, e1, rfl, e2⟩ := y
    rw [List.getElem?_map] at hd
    cases en : nss[i]? with
    | none => rw [en] at hd; cases hd
    | some ns =>
      rw [en] at hd
      cases hd
      have e3 : (ws.map (·.1))[i]? = some kk := by rw [List.getElem?_map, e1]; rfl
      rw [hk, List.getElem?_map, en] at e3
      have e4 : ik ns = kk := Option.some.inj e3
      subst e4
      rw [ik_kV] at e2
      obtain ⟨B2, k2, f2, hq⟩ := k.learn e2
      exact ⟨B2, k2, f2, .key hq⟩
theorem walkD_items {B : Hp} {a : Addr} {o : Obj} {ws : List (Key × V)} {kvs : List (Int × D)} (hb : B a = some (.frz o (.dK ws))) (hk : ws.map (·.1) = (kvs.map fun kv => (Sum.inl kv.1, kv.2)).map (·.1)) (hr : RpL K B (ws.map (·.2)) ((kvs.map fun kv => ((Sum.inl kv.1 : Key), kv.2)).map (·.2))) : WalkD K (Iti a o ws) B (kvs.map fun kv => .tup [.int kv.1, kv.2]) := by
  have hl : ws.length = kvs.length := by have := congrArg List.length hk; simpa using this
  refine ⟨fun H => H a = some (.frz o (.dK ws)), fun i H x H' => ∃ T k v, ws[i]? = some (k, v) ∧ x = .ref T ∧ H T = none ∧ H' = upd H T (.tup [kV k, v]), ?_, fun H s => s _ _ hb, fun i x H H' d Γ B1 hd y k s => ?_⟩
  · rw [List.length_map, ← hl]
    exact ⟨fun i H hi q => ⟨q, hi⟩, fun H q => ⟨q, Nat.le_refl _⟩, fun i H v H' _ q y => y⟩
  · obtain ⟨T, kk, v, e1, rfl, hT, rfl⟩ := y
    rw [List.getElem?_map] at hd
    cases en : kvs[i]? with
    | none => rw [en] at hd; cases hd
    | some kv =>
      rw [en] at hd
      cases hd
      have e3 : (ws.map (·.1))[i]? = some kk := by rw [List.getElem?_map, e1]; rfl
      rw [hk, List.getElem?_map, List.getElem?_map, en] at e3
      have e4 : (Sum.inl kv.1 : Key) = kk := Option.some.inj e3
      subst e4
      have e5 : (ws.map (·.2))[i]? = some v := by rw [List.getElem?_map, e1]; rfl
      obtain ⟨d, hd, rv⟩ := hr.get' e5
      rw [List.getElem?_map, List.getElem?_map, en] at hd
      cases hd
      have e := sameNew (o := .tup [kV (Sum.inl kv.1), v]) (k.bnone hT)
      exact ⟨_, k.new hT (by intros; exact HO.noConfusion), k.newF hT, .tup (.inl (.inl upd_same)) (.cons (.int _) (.cons (rv.same (s.trans e)) .nil))⟩
theorem unlocked {B H : Hp} {a : Addr} {u : HO} (k : Ok K B H Γ) (hz : Γ.z = []) (hu : HO.isD u) (h : Rd B a u) : B a = some u := by
  rcases h with h | ⟨o, h⟩
  · exact h
  · rcases k.fz _ _ _ h with z | ⟨xs, z⟩
    · rw [hz] at z; cases z
    · subst z; exact hu.elim
variable {g : TG} {tt : TT} {vs : List Nat} {i : Nat}
/-- [.. for key in d ..], d a dict whose keys are tuples of ints -/
theorem w_lcKeysT {kvs : List (List Key × D)} {nss : List (List Int)} (hx : ρ[i]? = some (some (.dT kvs))) (hk : kvs.map (·.1) = nss.map ik) (hz : Γ.z = []) (hl : nss.length ≤ 1000) (Acc : Nat → List D → Prop) (h0 : Acc 0 [])
    (hs : ∀ a j ns acc, nss[j]? = some ns → Acc j acc → GW K (· ∈ vs) g (wipeR ρ vs) (.key ns) fun ρ' => EvT K tt ρ' ⟨Γ.c, [a]⟩ fun b => if b = true then EvW K te ρ' ⟨Γ.c, [a]⟩ fun e => Acc (j + 1) (acc ++ [e]) else Acc (j + 1) acc)
    (hd : ∀ acc, Acc nss.length acc → R (.lst acc)) : EvW K (tLockE (tLc (iKeys (tVar i)) g tt te vs)) ρ Γ R := fun B H σ k s Q f => by
  obtain ⟨v, hv, rv⟩ := s.at_ i _ hx
  cases rv with
  | @dT a ws _ hr hk2 hrr =>
    have hb := unlocked k hz (u := .dT ws) trivial hr
    refine ⟨a, .dT ws, k.ext _ _ hb, trivial, fun od => ?_⟩
    obtain ⟨kL, leL⟩ := lock_in (od := od) (u := .dT ws) trivial k hb
    rw [hz] at kL
    refine ⟨.ref a, hv, a, od, rfl, .inr ⟨ws, upd_same, ?_⟩⟩
    have W := walkD_keysT (K := K) (B := upd B a (.frz od (.dT ws))) upd_same (hk2.trans hk)
    refine lc_run (g := g) (tt := tt) (te := te) (vs := vs) (Γ := ⟨Γ.c, [a]⟩) (R := R) (Q := fun v H' => H' a = some (.frz od (.dT ws)) ∧ Q v (upd H' a (.dT ws))) kL (s.le leL) W (by rw [List.length_map]; exact hl) Acc h0 (fun j d acc hd ha => ?_) (fun acc ha => hd acc (by rw [List.length_map] at ha; exact ha)) ?_
    · rw [List.getElem?_map] at hd
      cases en : nss[j]? with
      | none => rw [en] at hd; cases hd
      | some ns =>
        rw [en] at hd
        cases hd
        exact hs a j ns acc en ha
    · intro v B' H' d k' f' rp q
      rw [← hz] at k' f'
      obtain ⟨g1, g2, g3, g4⟩ := lock_out (Γ' := Γ) (u := .dT ws) (od := od) trivial k hb k' f'
      exact ⟨g1, f v _ _ d g2 g3 (rp.le g4) q⟩
/-- [.. for k, v in d.items() ..], d a dict whose keys are ints -/
theorem w_lcItems {kvs : List (Int × D)} (hx : ρ[i]? = some (some (.dK (kvs.map fun kv => (Sum.inl kv.1, kv.2))))) (hz : Γ.z = []) (hl : kvs.length ≤ 1000) (Acc : Nat → List D → Prop) (h0 : Acc 0 [])
    (hs : ∀ a j kv acc, kvs[j]? = some kv → Acc j acc → GW K (· ∈ vs) g (wipeR ρ vs) (.tup [.int kv.1, kv.2]) fun ρ' => EvT K tt ρ' ⟨Γ.c, [a]⟩ fun b => if b = true then EvW K te ρ' ⟨Γ.c, [a]⟩ fun e => Acc (j + 1) (acc ++ [e]) else Acc (j + 1) acc)
    (hd : ∀ acc, Acc kvs.length acc → R (.lst acc)) : EvW K (tLockE (tLc (iItems (tVar i)) g tt te vs)) ρ Γ R := fun B H σ k s Q f => by
  obtain ⟨v, hv, rv⟩ := s.at_ i _ hx
  cases rv with
  | @dK a ws _ hr hk2 hrr =>
    have hb := unlocked k hz (u := .dK ws) trivial hr
    refine ⟨a, .dK ws, k.ext _ _ hb, trivial, fun od => ?_⟩
    obtain ⟨kL, leL⟩ := lock_in (od := od) (u := .dK ws) trivial k hb
    rw [hz] at kL
    refine ⟨.ref a, hv, a, od, ws, rfl, upd_same, ?_⟩
    have W := walkD_items (K := K) (B := upd B a (.frz od (.dK ws))) upd_same hk2 (hrr.le leL)
    refine lc_run (g := g) (tt := tt) (te := te) (vs := vs) (Γ := ⟨Γ.c, [a]⟩) (R := R) (Q := fun v H' => H' a = some (.frz od (.dK ws)) ∧ Q v (upd H' a (.dK ws))) kL (s.le leL) W (by rw [List.length_map]; exact hl) Acc h0 (fun j d acc hd ha => ?_) (fun acc ha => hd acc (by rw [List.length_map] at ha; exact ha)) ?_
    · rw [List.getElem?_map] at hd
      cases en : kvs[j]? with
      | none => rw [en] at hd; cases hd
      | some ns =>
        rw [en] at hd
        cases hd
        exact hs a j ns acc en ha
    · intro v B' H' d k' f' rp q
      rw [← hz] at k' f'
      obtain ⟨g1, g2, g3, g4⟩ := lock_out (Γ' := Γ) (u := .dK ws) (od := od) trivial k hb k' f'
      exact ⟨g1, f v _ _ d g2 g3 (rp.le g4) q⟩
end
section
variable {K : PySem.W.Frag} {S : Sig K} {mk : List Hp} {ρ : En} {Γ : Ctx} {N : En → Ctx → Prop} {g : TG} {tb ts : TS} {i : Nat}
/-- for key in d: .., d a dict whose keys are tuples of ints; no return in the body -/
theorem g_forKeysT {kvs : List (List Key × D)} {nss : List (List Int)} (hx : ρ[i]? = some (some (.dT kvs))) (hk : kvs.map (·.1) = nss.map ik) (hz : Γ.z = []) (Iv : Nat → En → List (Addr × Cel) → Prop) (h0 : Iv 0 ρ Γ.c)
    (hs : ∀ (S' : Sig K) (mk' : List Hp) a j ns ρ' cs, nss[j]? = some ns → Iv j ρ' cs → GW K (fun _ => True) g ρ' (.key ns) fun ρ'' => Goes S' mk' (fun ρ2 Γ2 => Γ2.z = [a] ∧ Iv (j + 1) ρ2 Γ2.c) tb ρ'' ⟨cs, [a]⟩)
    (hd : ∀ ρ' cs, Iv nss.length ρ' cs → Goes S mk N ts ρ' ⟨cs, []⟩) :
    Goes S mk N (tSeq (tLock (tFor (iKeys (tVar i)) g tb)) ts) ρ Γ := fun E hE hN B H σ A => by
  obtain ⟨v, hv, rv⟩ := A.sl.at_ i _ hx
  cases rv with
  | @dT a ws _ hr hk2 hrr =>
    have k := A.ok
    have hb := unlocked k hz (u := .dT ws) trivial hr
    refine ⟨a, .dT ws, k.ext _ _ hb, trivial, fun od => ?_⟩
    obtain ⟨kL, leL⟩ := lock_in (od := od) (u := .dT ws) trivial k hb
    refine ⟨.ref a, hv, a, od, rfl, .inr ⟨ws, upd_same, ?_⟩⟩
    have w := walkD_keysT (K := K) (B := upd B a (.frz od (.dT ws))) (o := od) upd_same (hk2.trans hk)
    obtain ⟨G, Y, hw, hG, hY⟩ := w.ex
    have nl : (nss.map D.key).length = nss.length := List.length_map ..
    rw [nl] at hw
    rw [hz] at kL
    let S' : Sig K := ⟨upd B a (.frz od (.dT ws)), upd H a (.frz od (.dT ws)), ⟨Γ.c, [a]⟩, fun v H' => H' a = some (.frz od (.dT ws)) ∧ E.rt v (upd H' a (.dT ws)), fun _ => False, fun _ _ => False, fun _ _ _ q => q.elim, fun _ _ _ _ _ _ _ _ _ q => q.elim⟩
    refine ⟨fun j m σ H => m = nss.length - j ∧ j ≤ nss.length ∧ ∃ B ρ cs, At S' [] B H σ ρ ⟨cs, [a]⟩ ∧ Iv j ρ cs, ⟨nss.length, by simp, Nat.zero_le _, _, ρ, Γ.c, ⟨kL, A.sl.le leL, Fut.refl, fun _ h => .inl h, fun _ h => nomatch h⟩, h0⟩, ?_⟩
    rintro j m σ H2 ⟨rfl, hj, B2, ρ2, cs, a2, iv⟩
    have sB : Same (upd B a (.frz od (.dT ws))) B2 := a2.fut.ex
    by_cases hlt : j < nss.length
    · have hdj : (nss.map D.key)[j]? = some (.key nss[j]) := by rw [List.getElem?_map, List.getElem?_eq_getElem hlt]; rfl
      have gH := hG H2 (sB.trans a2.ok.ext)
      refine .inr ⟨hw.goes j H2 hlt gH, fun σ' H' => ∃ B ρ cs, At S' [] B H' σ' ρ ⟨cs, [a]⟩ ∧ Iv (j + 1) ρ cs, fun σ' H' q => ⟨nss.length - (j + 1), by omega, rfl, hlt, q⟩, fun x H' y => ?_⟩
      obtain ⟨B3, k3, f3, r3⟩ := hY j x H2 H' _ _ B2 hdj (hw.yields j H2 x H' hlt gH y) a2.ok sB
      have a3 := a2.step k3 f3
      refine hs S' [] a j nss[j] ρ2 cs (List.getElem?_eq_getElem hlt) iv ⟨cs, [a]⟩ B3 H' σ x k3 a3.sl r3 _ fun σ' ρ' s' _ _ q' => ?_
      refine q' _ rfl ?_ B3 H' σ' (a3.env s')
      rintro B4 H4 σ4 ρ4 ⟨cs4, z4⟩ a' ⟨e, n'⟩
      dsimp only at e n'
      subst e
      exact ⟨B4, ρ4, cs4, a', n'⟩
    · have e : j = nss.length := by omega
      subst e
      have kO := a2.ok
      have fO := a2.fut
      have ez : [a] = a :: Γ.z := by rw [hz]
      obtain ⟨g1, g2, g3, g4⟩ := lock_out (Γ := Γ) (Γ' := ⟨cs, [a]⟩) (u := .dT ws) (od := od) trivial k hb (by rw [← ez]; exact kO) (by rw [← ez]; exact fO)
      refine .inl ⟨hw.stops H2 (hG H2 (sB.trans a2.ok.ext)), g1, ?_⟩
      rw [hz] at g2
      refine hd ρ2 cs iv E hE hN _ _ σ ⟨g2, a2.sl.le g4, A.fut.trans g3 fun b hb => A.new b hb, fun b hb => ?_, fun m hm => (A.mks m hm).trans g3.ex⟩
      rcases a2.new b hb with z | z
      · exact A.new b z
      · have ne : b ≠ a := fun e => by
          have z' : upd H a (.frz od (.dT ws)) b = none := z
          rw [e, upd_same] at z'; cases z'
        have z' : upd H a (.frz od (.dT ws)) b = none := z
        rw [upd_ne ne] at z'
        exact .inr (A.fut.lv b z')
end
end PF
end
section
set_option Elab.async false
set_option linter.all false
set_option maxRecDepth 100000
namespace PF
open PySem PySem.Spec L2 RZ
/-! ### {k: v for .. in ..}, keys ints -/
section
variable {K : PySem.W.Frag} {ρ : En} {Γ : Ctx} {R : D → Prop} {ta : TA} {te td ty tk tv : TE} {wi : TI} {g : TG} {tt : TT} {vs : List Nat}
theorem Ok.carryK {B H B' H' : Hp} {D1 : Addr} {ds : List (Key × D)} (k : Ok K B H ⟨(D1, .dK ds) :: Γ.c, Γ.z⟩) (k' : Ok K B' H' Γ) (f : Fut Γ B H B' H') : Ok K B' H' ⟨(D1, .dK ds) :: Γ.c, Γ.z⟩ := by
  obtain ⟨b, xs, hx, hk, hr⟩ := k.cel (D1, .dK ds) List.mem_cons_self
  have nd := List.nodup_cons.mp (show (D1 :: Γ.c.map (·.1)).Nodup from k.nd)
  obtain ⟨h1, b1⟩ := f.fr D1 _ (by intros; exact HO.noConfusion) b nd.1 hx
  refine ⟨k'.ext, List.nodup_cons.mpr nd, fun q hq => ?_, k'.fz⟩
  rcases List.mem_cons.mp hq with rfl | hq
  · exact ⟨b1, xs, h1, hk, hr.same f.ex⟩
  · exact k'.cel q hq
theorem w_dc (h : ItW K wi ρ Γ fun ds => ds.length ≤ 900 ∧ ∃ Acc : Nat → List (Key × D) → Prop, Acc 0 [] ∧
    (∀ i d acc, ds[i]? = some d → Acc i acc → acc.length ≤ i → GW K (· ∈ vs) g (wipeR ρ vs) d fun ρ' => EvT K tt ρ' Γ fun b => if b = true then EvW K tk ρ' Γ fun y => EvW K tv ρ' Γ fun z => ∃ n, y = .int n ∧ Acc (i + 1) (putD acc (Sum.inl n) z) else Acc (i + 1) acc) ∧
    ∀ acc, Acc ds.length acc → R (.dK acc)) : EvW K (tDc wi g tt tk tv vs) ρ Γ R := fun B H σ k s Q f =>
  h B H σ k s _ fun J B1 H1 ds k1 f1 w ⟨hn, Acc, h0, hs, hd⟩ Dl hDl => by
    have s := s.le (sameLe f1.ex)
    have f := f.tr f1
    obtain ⟨G, Y, hw, hG, hY⟩ := w.ex
    have st : ∀ {B2 H2 : Hp} {acc : List (Key × D)} {B3 H3 : Hp}, Ok K B2 H2 ⟨(Dl, .dK acc) :: Γ.c, Γ.z⟩ → Fut ⟨(Dl, .dK acc) :: Γ.c, Γ.z⟩ B1 (upd H1 Dl (.dK [])) B2 H2 → Ok K B3 H3 Γ → Fut Γ B2 H2 B3 H3 →
        Ok K B3 H3 ⟨(Dl, .dK acc) :: Γ.c, Γ.z⟩ ∧ Fut ⟨(Dl, .dK acc) :: Γ.c, Γ.z⟩ B1 (upd H1 Dl (.dK [])) B3 H3 := fun k2 f2 k3 f3 =>
      ⟨k2.carryK k3 f3, f2.trans f3 fun a ha => .inl (List.mem_cons_of_mem _ ha)⟩
    refine ⟨fun i m H => m = ds.length - i ∧ i ≤ ds.length ∧ ∃ B2 acc, Ok K B2 H ⟨(Dl, .dK acc) :: Γ.c, Γ.z⟩ ∧ Fut ⟨(Dl, .dK acc) :: Γ.c, Γ.z⟩ B1 (upd H1 Dl (.dK [])) B2 H ∧ acc.length ≤ i ∧ Acc i acc,
      ⟨ds.length, by simp, Nat.zero_le _, B1, [], k1.cellNew hDl ⟨[], upd_same, rfl, .nil⟩, Fut.refl, Nat.le_refl _, h0⟩, ?_⟩
    rintro i m H ⟨rfl, hi, B2, acc, k2, f2, hl, ha⟩
    have gH := hG H (f2.ex.trans k2.ext)
    by_cases hlt : i < ds.length
    · have hdi : ds[i]? = some ds[i] := List.getElem?_eq_getElem hlt
      refine .inr ⟨hw.goes i H hlt gH, fun H => ∃ B2 acc, Ok K B2 H ⟨(Dl, .dK acc) :: Γ.c, Γ.z⟩ ∧ Fut ⟨(Dl, .dK acc) :: Γ.c, Γ.z⟩ B1 (upd H1 Dl (.dK [])) B2 H ∧ acc.length ≤ i + 1 ∧ Acc (i + 1) acc, fun H' q => ⟨ds.length - (i + 1), by omega, rfl, hlt, q⟩, fun x H' y => ?_⟩
      obtain ⟨B3, k3, f3, r3⟩ := hY i x H H' _ _ B2 hdi (hw.yields i H x H' hlt gH y) k2.extend f2.ex
      obtain ⟨k3', f3'⟩ := st k2 f2 k3 f3
      refine hs i _ acc hdi ha hl Γ B3 H' _ x k3 ((s.wipe vs).le (sameLe f3'.ex)) r3 _ fun σ' ρ' s' e' l' q' => ?_
      refine ⟨wipe_ext (l'.trans (wipe_length _ _)) fun j hj => e' j hj, ?_⟩
      refine q' B3 H' σ' k3 s' _ fun b B4 H4 k4 f4 q4 => ?_
      obtain ⟨k4', f4'⟩ := st k3' f3' k4 f4
      cases b with
      | false => exact ⟨B4, acc, k4', f4', by omega, q4⟩
      | true =>
        refine (show EvW K tk ρ' Γ _ from q4) B4 H4 σ' k4 (s'.le (sameLe f4.ex)) _ fun vk B5 H5 dk k5 f5 r5 q5 => ?_
        obtain ⟨k5', f5'⟩ := st k4' f4' k5 f5
        refine q5 B5 H5 σ' k5 (s'.le (sameLe (f4.tr f5).ex)) _ fun vv B6 H6 dv k6 f6 r6 ⟨n, e, q6⟩ => ?_
        obtain ⟨k6', f6'⟩ := st k5' f5' k6 f6
        subst e
        cases r5
        obtain ⟨b6, ws, hx, hk, hr⟩ := k6'.cel (Dl, .dK acc) List.mem_cons_self
        have hwl : ws.length = acc.length := by have := congrArg List.length hk; simpa using this
        obtain ⟨g1, g2⟩ := putK_rel (k := (Sum.inl n : Key)) hk hr r6
        refine ⟨ws, Sum.inl n, rfl, hx, small1000 (by omega), B6, putD acc (Sum.inl n) dv, k6'.cellSet ⟨_, upd_same, g1, g2⟩, ?_, ?_, q6⟩
        · refine ⟨f6'.ex, fun a o ht hb hc h => ?_, fun a ys h => ?_, fun a h => ?_⟩
          · obtain ⟨z1, z2⟩ := f6'.fr a o ht hb hc h
            rw [upd_ne (fun q => hc (by rw [q]; exact List.mem_cons_self))]
            exact ⟨z1, z2⟩
          · have ne : a ≠ Dl := by
              intro q
              rw [q, upd_same] at h
              cases h
            rw [upd_ne ne]
            exact f6'.tp a ys h
          · by_cases q : a = Dl
            · rw [q, upd_same] at h; cases h
            · rw [upd_ne q] at h; exact f6'.lv a h
        · unfold putD
          split
          · rw [List.length_map]; omega
          · rw [List.length_append, List.length_singleton]; omega
    · have e : i = ds.length := by omega
      subst e
      refine .inl ⟨hw.stops H gH, ?_⟩
      obtain ⟨b2, xs, hx, hk, hr⟩ := k2.cel (Dl, .dK acc) List.mem_cons_self
      refine f (.ref Dl) (upd B2 Dl (.dK xs)) H (.dK acc) (k2.cellOff hx (by intros; exact HO.noConfusion)) ?_ (.dK (.inl upd_same) hk (hr.same (sameNew b2))) (hd acc ha)
      refine ⟨f2.ex.trans (sameNew b2), fun a o ht hb hc h => ?_, fun a ys h => ?_, fun a h => ?_⟩
      · have ne : a ≠ Dl := ne_of_none h hDl
        obtain ⟨z1, z2⟩ := f2.fr a o ht hb (fun q => by
          rcases List.mem_cons.mp q with q | q
          · exact ne q
          · exact hc q) (by rw [upd_ne ne]; exact h)
        exact ⟨z1, by rw [upd_ne ne]; exact z2⟩
      · exact f2.tp a ys (by rw [upd_ne (ne_of_none h hDl)]; exact h)
      · have z := f2.lv a h
        by_cases q : a = Dl
        · rw [q]; exact hDl
        · rw [upd_ne q] at z; exact z
/-! ### reading through cells -/
/-- x is a dict with keys Key that stands as data or as a cell -/
def DictIs (Γ : Ctx) (x : D) (kvs : List (Key × D)) : Prop := x = .dK kvs ∨ ∃ p, x = .cell p ∧ (p, Cel.dK kvs) ∈ Γ.c
theorem DictIs.rd {B H : Hp} {v : V} {x : D} {kvs : List (Key × D)} (k : Ok K B H Γ) (r : Rp K B v x) (h : DictIs Γ x kvs) : ∃ a ws, v = .ref a ∧ Rd H a (.dK ws) ∧ ws.map (·.1) = kvs.map (·.1) ∧ RpL K B (ws.map (·.2)) (kvs.map (·.2)) := by
  rcases h with e | ⟨p, e, hm⟩
  · subst e
    cases r with
    | @dK a ws _ hx hk hr => exact ⟨a, ws, rfl, rd_same k.ext hx, hk, hr⟩
  · subst e
    cases r
    obtain ⟨_, ws, hx, hk, hr⟩ := k.cel _ hm
    exact ⟨p, ws, rfl, .inl hx, hk, hr⟩
/-- d["name"] -/
theorem w_dgetS (h : EvW K td ρ Γ fun x => EvW K ty ρ Γ fun y => ∃ kvs i d, DictIs Γ x kvs ∧ y = .str i ∧ lookD kvs (Sum.inr i) = some d ∧ R d) : EvW K (tDGet td ty) ρ Γ R := fun B H σ k s Q f =>
  h B H σ k s _ fun v B1 H1 x k1 f1 r1 h1 => h1 B1 H1 σ k1 (s.le (sameLe f1.ex)) _ fun vi B2 H2 y k2 f2 r2 ⟨kvs, i, d, hx, e, hd, q⟩ => by
    subst e
    cases r2
    obtain ⟨a, ws, rfl, hr, hk, hrr⟩ := hx.rd k2 (r1.same f2.ex)
    obtain ⟨w, hw, rw'⟩ := valV_rel hk hrr hd
    exact ⟨a, w, rfl, .inl ⟨ws, Sum.inr i, hr, rfl, hw.symm⟩, ((f.tr f1).tr f2).now k2 rw' q⟩
/-- d[k], keys ints -/
theorem w_dgetI (h : EvW K td ρ Γ fun x => EvW K ty ρ Γ fun y => ∃ kvs i d, DictIs Γ x kvs ∧ y = .int i ∧ lookD kvs (Sum.inl i) = some d ∧ R d) : EvW K (tDGet td ty) ρ Γ R := fun B H σ k s Q f =>
  h B H σ k s _ fun v B1 H1 x k1 f1 r1 h1 => h1 B1 H1 σ k1 (s.le (sameLe f1.ex)) _ fun vi B2 H2 y k2 f2 r2 ⟨kvs, i, d, hx, e, hd, q⟩ => by
    subst e
    cases r2
    obtain ⟨a, ws, rfl, hr, hk, hrr⟩ := hx.rd k2 (r1.same f2.ex)
    obtain ⟨w, hw, rw'⟩ := valV_rel hk hrr hd
    exact ⟨a, w, rfl, .inl ⟨ws, Sum.inl i, hr, rfl, hw.symm⟩, ((f.tr f1).tr f2).now k2 rw' q⟩
/-- a list that stands as a cell: !=, isinstance -/
theorem o_neqCD {n m : Nat} {p : Addr} {ds : List D} {y : D} (hm' : (p, Cel.lst ds) ∈ Γ.c) (hx : Pl n (.lst ds)) (hy : Pl m y) (hn : n ≤ 64) (hm : m ≤ 64) (q : ∀ b : Bool, (b = true ↔ .lst ds = y) → R (.bl (!b))) : OpW K (rNeq K) Γ (.cell p) y R := fun B H a b k ra rb Q f => by
  cases ra
  obtain ⟨_, xs, hxs, hr⟩ := k.cel _ hm'
  refine .inr ⟨(D.lst ds).py, y.py, ?_, Dp.same k.ext (hy.dp rb), hx.shaped hn, hy.shaped hm, f.now k (.bl _) (q _ (hx.eqv hy))⟩
  rw [D.py]
  cases hx with
  | lst hh => exact .lst (.inl (.inl hxs)) (dp_all (fun d hd v r => (hh d hd).dp r) (hr.same k.ext))
theorem c_isiC {p : Addr} {ds : List D} (hm : (p, Cel.lst ds) ∈ Γ.c) (q : R (.bl true)) : CallW K (rIsi K) Γ [.cell p, .ty "list"] R := fun B H vs k r Q f => by
  cases r with
  | cons ra rr =>
    cases rr with
    | cons rb rr =>
      cases rr
      cases rb
      cases ra
      obtain ⟨_, xs, hxs, hr⟩ := k.cel _ hm
      exact ⟨_, .ty "list", .type "list", .type "list", true, rfl, .ty "list", .base (.lst hxs), kit_ty (by decide +kernel), f.now k (.bl true) q⟩
/-- f(..), f a def that leaves one list cell: the list is data -/
theorem w_callX {P : Ctx → List D → (Ctx → D → Prop) → Prop} {E : XK} (h : EvA K ta ρ Γ fun ds => P Γ ds fun Γ' d => ∃ p es, Γ' = ⟨(p, .lst es) :: Γ.c, Γ.z⟩ ∧ d = .cell p ∧ R (.lst es)) : EvW K (tCall (SpX K P) [] E ta) ρ Γ R := fun B H σ k s Q f =>
  h B H σ k s _ fun vs B1 H1 ds k1 f1 r1 q => by
    show SpX K P (vs ++ []) H1 Q E
    rw [List.append_nil]
    refine ⟨B1, ds, Γ, _, k1, r1, q, fun v B' H' d Γ' k' f' hn' rp q' => ?_⟩
    obtain ⟨p, es, e1, e2, hR⟩ := q'
    subst e1 e2
    cases rp
    obtain ⟨bp, xs, hx, hr⟩ := k'.cel (p, .lst es) List.mem_cons_self
    have nd := List.nodup_cons.mp (show (p :: Γ.c.map (·.1)).Nodup from k'.nd)
    have hp : H1 p = none := (hn' p List.mem_cons_self).resolve_left nd.1
    refine f (.ref p) (upd B' p (.lst xs)) H' (.lst es) (k'.cellOff hx (by intros; exact HO.noConfusion)) (f1.tr ?_) (.lst upd_same (hr.same (sameNew bp))) hR
    exact ⟨f'.ex.trans (sameNew bp), fun a o ht hb ha hh => (by
      obtain ⟨g1, g2⟩ := f'.fr a o ht hb ha hh
      exact ⟨g1, by rw [upd_ne (ne_of_none hh hp)]; exact g2⟩), f'.tp, f'.lv⟩
end
theorem Ok.perm {K : PySem.W.Frag} {B H : Hp} {c c' : List (Addr × Cel)} {z : List Addr} (k : Ok K B H ⟨c, z⟩) (h : c.Perm c') : Ok K B H ⟨c', z⟩ :=
  ⟨k.ext, show (c'.map fun x => x.1).Nodup from (List.Perm.map (fun x : Addr × Cel => x.1) h).nodup_iff.mp (show (c.map fun x => x.1).Nodup from k.nd), fun q hq => k.cel q (h.mem_iff.mpr hq), k.fz⟩
theorem Cov.perm {c c' : List (Addr × Cel)} {z : List Addr} (h : c.Perm c') : Cov ⟨c, z⟩ ⟨c', z⟩ := fun _ _ _ k => k.perm h
theorem perm_front {α : Type} {a : α} {l : List α} (h : a ∈ l) : ∃ r, (a :: r).Perm l := by
  obtain ⟨s, t, rfl⟩ := List.append_of_mem h
  exact ⟨s ++ t, (List.perm_middle).symm⟩
section
variable {K : PySem.W.Frag} {S : Sig K} {mk : List Hp} {ρ : En} {Γ : Ctx} {N : En → Ctx → Prop} {ta : TA} {te tv : TE} {ts tb : TS} {g : TG}
theorem At.perm {B H : Hp} {σ : L2.St} {c c' : List (Addr × Cel)} {z : List Addr} (a : At S mk B H σ ρ ⟨c, z⟩) (h : c.Perm c') : At S mk B H σ ρ ⟨c', z⟩ :=
  ⟨a.ok.perm h, a.sl, a.fut, fun b hb => a.new b ((h.map (·.1)).mem_iff.mpr hb), a.mks⟩
theorem g_perm {c c' : List (Addr × Cel)} {z : List Addr} (h : c.Perm c') (q : Goes S mk N ts ρ ⟨c', z⟩) : Goes S mk N ts ρ ⟨c, z⟩ := fun E hE hN B H σ a => q E hE hN B H σ (a.perm h)
/-- a memo's dict as it stands -/
theorem g_openMemo {p : Addr} {U : List (List Key)} {f : List Key → D} {cs : List (Addr × Cel)} {z : List Addr} (h : ∀ kvs : List (List Key × D), (kvs.map (·.1)).Nodup → (∀ q ∈ kvs, q.1 ∈ U ∧ q.2 = f q.1) → Goes S mk N ts ρ ⟨(p, .dT kvs) :: cs, z⟩) : Goes S mk N ts ρ ⟨(p, .memo U f) :: cs, z⟩ := fun E hE hN B H σ a => by
  obtain ⟨bp, ws, hx, hn, hq⟩ := a.ok.cel (p, .memo U f) List.mem_cons_self
  have hc : CelAt K B H p (.dT (ws.map fun w => (w.1, f w.1))) := by
    refine ⟨ws, hx, by rw [List.map_map]; rfl, ?_⟩
    refine RpL.of_get (by simp) fun i v d h1 h2 => ?_
    rw [List.getElem?_map] at h1
    rw [List.getElem?_map, List.getElem?_map] at h2
    cases e : ws[i]? with
    | none => rw [e] at h1; cases h1
    | some w =>
      rw [e] at h1 h2
      cases h1
      cases h2
      exact (hq w (List.mem_of_getElem? e)).2
  refine h (ws.map fun w => (w.1, f w.1)) (by rw [List.map_map]; exact hn) (fun q hq' => ?_) E hE hN B H σ ⟨⟨a.ok.ext, a.ok.nd, fun q hq' => ?_, a.ok.fz⟩, a.sl, a.fut, a.new, a.mks⟩
  · obtain ⟨w, hw, rfl⟩ := List.mem_map.mp hq'
    exact ⟨(hq w hw).1, rfl⟩
  · rcases List.mem_cons.mp hq' with rfl | hq'
    · exact ⟨bp, hc⟩
    · exact a.ok.cel q (List.mem_cons_of_mem _ hq')
theorem Cov.closeMemo {p : Addr} {U : List (List Key)} {f : List Key → D} {cs : List (Addr × Cel)} {z : List Addr} {kvs : List (List Key × D)} (hn : (kvs.map (·.1)).Nodup) (hq : ∀ q ∈ kvs, q.1 ∈ U ∧ q.2 = f q.1) : Cov ⟨(p, .dT kvs) :: cs, z⟩ ⟨(p, .memo U f) :: cs, z⟩ := fun K B H k => by
  refine ⟨k.ext, k.nd, fun q hq' => ?_, k.fz⟩
  rcases List.mem_cons.mp hq' with rfl | hq'
  · obtain ⟨bp, ws, hx, hk, hr⟩ := k.cel (p, .dT kvs) List.mem_cons_self
    refine ⟨bp, ws, hx, by rw [hk]; exact hn, fun w hw => ?_⟩
    obtain ⟨i, hi⟩ := List.mem_iff_getElem?.mp hw
    have h1 : (ws.map (·.2))[i]? = some w.2 := by rw [List.getElem?_map, hi]; rfl
    obtain ⟨d, hd, rp⟩ := hr.get' h1
    rw [List.getElem?_map] at hd
    cases e : kvs[i]? with
    | none => rw [e] at hd; cases hd
    | some kv =>
      rw [e] at hd
      cases hd
      have h2 : (ws.map (·.1))[i]? = some w.1 := by rw [List.getElem?_map, hi]; rfl
      rw [hk, List.getElem?_map, e] at h2
      have h3 : kv.1 = w.1 := Option.some.inj h2
      obtain ⟨u1, u2⟩ := hq kv (List.mem_of_getElem? e)
      rw [h3] at u1 u2
      have rp' : Rp K B w.2 kv.2 := rp
      rw [u2] at rp'
      exact ⟨u1, rp'⟩
  · exact k.cel q (List.mem_cons_of_mem _ hq')
/-- x.f = {}, a memo that is empty -/
theorem g_fldMemo {C x : Addr} {f : Str} {fs : List (Str × D)} {cs : List (Addr × Cel)} {z : List Addr} {i : Nat} (U : List (List Key)) (F : List Key → D) (c : Cls K C) (n : NoAttr K C f) (hl : fs.length < 1000) (hi : ρ[i]? = some (some (.cell x)))
    (h : ∀ p, Goes S mk N ts ρ ⟨(x, .ins C (putFD f (.cell p) fs)) :: (p, .memo U F) :: cs, z⟩) : Goes S mk N (tSeq (sFld K (tVar i) tDNewT f) ts) ρ ⟨(x, .ins C fs) :: cs, z⟩ := fun E hE hN B H σ a => by
  intro p hp
  have a1 := a.cellNew (c := .memo U F) hp ⟨[], upd_same, List.nodup_nil, fun _ h => nomatch h⟩
  have a2 : At S mk B (upd H p (.dT [])) σ ρ ⟨(x, .ins C fs) :: (p, .memo U F) :: cs, z⟩ := a1.perm (List.Perm.swap _ _ _)
  obtain ⟨vx, hv, rv⟩ := a2.sl.at_ i _ hi
  cases rv
  obtain ⟨_, dx, ws, hx, hk, hr⟩ := a2.ok.cel (x, .ins C fs) List.mem_cons_self
  have hl' : ws.length = fs.length := by have := congrArg List.length hk; simpa using this
  refine ⟨.ref x, hv, x, C, dx, ws, rfl, hx, c, n, by omega, ?_⟩
  obtain ⟨g1, g2⟩ := putFD_rel (f := f) (Rp.cell p) hk hr
  exact h p E hE hN B _ σ (a2.cellSet ⟨dx, _, upd_same, g1, g2⟩)
theorem g_par3 {i j l : Nat} (h : EvA K ta ρ Γ fun ds => ∃ x y w, ds = [x, y, w] ∧ Goes S mk N ts (((ρ.set i (some x)).set j (some y)).set l (some w)) Γ) : Goes S mk N (tSeq (tPar3 i j l ta) ts) ρ Γ := fun E hE hN B H σ a =>
  h B H σ a.ok a.sl _ fun vs B1 H1 ds k1 f1 r1 ⟨x, y, w, e, q⟩ => by
    subst e
    cases r1 with
    | cons ra rr => cases rr with
      | cons rb rr => cases rr with
        | cons rc rr => cases rr with
          | nil => exact ⟨_, _, _, rfl, q E hE hN B1 H1 _ ((((a.step k1 f1).setS ra).setS rb).setS rc)⟩
/-- xs.extend(list) -/
theorem g_ext {i : Nat} {p : Addr} {ds : List D} {cs : List (Addr × Cel)} {z : List Addr} (hi : ρ[i]? = some (some (.cell p)))
    (h : EvW K te ρ ⟨(p, .lst ds) :: cs, z⟩ fun d => ∃ es, d = .lst es ∧ ds.length + es.length ≤ 1000 ∧ Goes S mk N ts ρ ⟨(p, .lst (ds ++ es)) :: cs, z⟩) : Goes S mk N (tSeq (tDrop (tBM K "list" rExtend (tVar i) (tCons te tNil))) ts) ρ ⟨(p, .lst ds) :: cs, z⟩ := fun E hE hN B H σ a => by
  obtain ⟨v, hv, rv⟩ := a.sl.at_ i _ hi
  cases rv
  obtain ⟨bp, xs, hx, hr⟩ := a.ok.cel (p, .lst ds) List.mem_cons_self
  refine ⟨.ref p, hv, .inl ⟨rfl, _, SqL.of hx⟩, ?_⟩
  refine h B H σ a.ok a.sl _ fun v B1 H1 d k1 f1 r1 ⟨es, e, hl, q⟩ => ?_
  subst e
  cases r1 with
  | @lst b zs _ hb hrb =>
    have a1 := a.step k1 f1
    obtain ⟨bp1, ys, hy, hry⟩ := k1.cel (p, .lst ds) List.mem_cons_self
    refine ⟨p, b, ys, zs, rfl, rfl, hy, k1.ext _ _ hb, Nat.le_of_lt (small1000 (by rw [hry.length, hrb.length]; omega)), ?_⟩
    exact q E hE hN B1 _ σ (a1.cellSet ⟨_, upd_same, hry.app hrb⟩)
theorem g_clear {i : Nat} {p : Addr} {ds : List D} {cs : List (Addr × Cel)} {z : List Addr} (hi : ρ[i]? = some (some (.cell p))) (h : Goes S mk N ts ρ ⟨(p, .lst []) :: cs, z⟩) : Goes S mk N (tSeq (tDrop (tBM0 K "list" rClear (tVar i))) ts) ρ ⟨(p, .lst ds) :: cs, z⟩ := fun E hE hN B H σ a => by
  obtain ⟨v, hv, rv⟩ := a.sl.at_ i _ hi
  cases rv
  obtain ⟨bp, xs, hx, hr⟩ := a.ok.cel (p, .lst ds) List.mem_cons_self
  refine ⟨.ref p, hv, .inl ⟨rfl, _, SqL.of hx⟩, p, xs, rfl, rfl, hx, ?_⟩
  exact h E hE hN B _ σ (a.cellSet ⟨_, upd_same, .nil⟩)
/-- e.append(x), e gives a cell -/
theorem g_appX {p : Addr} {tr : TE} {ds : List D} {cs : List (Addr × Cel)} {z : List Addr} (hl : ds.length < 1000) (h : EvW K tr ρ ⟨(p, .lst ds) :: cs, z⟩ fun x => x = .cell p ∧
    EvW K te ρ ⟨(p, .lst ds) :: cs, z⟩ fun d => Goes S mk N ts ρ ⟨(p, .lst (ds ++ [d])) :: cs, z⟩) : Goes S mk N (tSeq (tDrop (tBM K "list" rAppend tr (tCons te tNil))) ts) ρ ⟨(p, .lst ds) :: cs, z⟩ := fun E hE hN B H σ a =>
  h B H σ a.ok a.sl _ fun v0 B0 H0 x k0 f0 r0 ⟨e, h⟩ => by
    subst e
    cases r0
    have a0 := a.step k0 f0
    obtain ⟨bp, xs, hx, hr⟩ := k0.cel (p, .lst ds) List.mem_cons_self
    refine ⟨.inl ⟨rfl, _, SqL.of hx⟩, ?_⟩
    refine h B0 H0 σ a0.ok a0.sl _ fun v B1 H1 d k1 f1 r1 q => ?_
    have a1 := a0.step k1 f1
    obtain ⟨bp1, ys, hy, hry⟩ := k1.cel (p, .lst ds) List.mem_cons_self
    refine ⟨p, ys, v, rfl, rfl, hy, small1000 (by rw [hry.length]; omega), ?_⟩
    exact q E hE hN B1 _ σ (a1.cellSet ⟨_, upd_same, hry.snoc r1⟩)
/-- for x in xs: .., xs a cell that the body leaves alone -/
theorem g_forC {i : Nat} {p : Addr} {ds : List D} (hi : ρ[i]? = some (some (.cell p))) (hp : (p, Cel.lst ds) ∈ Γ.c) (Iv : Nat → En → Ctx → Prop) (h0 : Iv 0 ρ Γ) (hm : ∀ j ρ' Γ', Iv j ρ' Γ' → (p, Cel.lst ds) ∈ Γ'.c)
    (hs : ∀ j d ρ' Γ' mk', ds[j]? = some d → Iv j ρ' Γ' → GW K (fun _ => True) g ρ' d fun ρ'' => Goes S mk' (fun ρ2 Γ2 => Iv (j + 1) ρ2 Γ2) tb ρ'' Γ')
    (hd : ∀ ρ' Γ', Iv ds.length ρ' Γ' → Goes S mk N ts ρ' Γ') : Goes S mk N (tSeq (tFor (iList K (tVar i)) g tb) ts) ρ Γ := fun E hE hN B H σ a => by
  obtain ⟨v, hv, rv⟩ := a.sl.at_ i _ hi
  cases rv
  obtain ⟨bp, xs, hx, hr⟩ := a.ok.cel _ hp
  refine ⟨.ref p, hv, p, rfl, ⟨xs, SqL.of hx⟩, fun j m σ H => m = ds.length - j ∧ j ≤ ds.length ∧ ∃ B ρ Γ, At S mk B H σ ρ Γ ∧ Iv j ρ Γ, ⟨ds.length, by simp, Nat.zero_le _, B, ρ, Γ, a, h0⟩, ?_⟩
  rintro j m σ H2 ⟨rfl, hj, B2, ρ2, Γ2, a2, iv⟩
  obtain ⟨bp2, ys, hy, hry⟩ := a2.ok.cel _ (hm _ _ _ iv)
  have sq : SqL K H2 p ys := SqL.of hy
  by_cases hlt : j < ds.length
  · have hdj : ds[j]? = some ds[j] := List.getElem?_eq_getElem hlt
    obtain ⟨y, hyj, ry⟩ := hry.get hdj
    refine .inr ⟨⟨ys, y, sq, hyj⟩, fun σ' H' => ∃ B ρ Γ, At S mk B H' σ' ρ Γ ∧ Iv (j + 1) ρ Γ, fun σ' H' q => ⟨ds.length - (j + 1), by omega, rfl, hlt, q⟩, fun x H' yl => ?_⟩
    obtain ⟨e, yl⟩ := yl
    subst e
    have e2 := yl ys sq
    rw [hyj] at e2
    cases e2
    refine hs j _ ρ2 Γ2 mk hdj iv Γ2 B2 H' σ _ a2.ok a2.sl ry _ fun σ' ρ' s' _ _ q' => ?_
    refine q' _ (by exact hE) ?_ B2 H' σ' (a2.env s')
    intro B H σ ρ Γ a' n'
    exact ⟨B, ρ, Γ, a', n'⟩
  · have e : j = ds.length := by omega
    subst e
    exact .inl ⟨⟨ys, sq, by rw [hry.length]; exact Nat.le_refl _⟩, hd ρ2 Γ2 iv E hE hN B2 H2 σ a2⟩
end
end PF
end
section
set_option Elab.async false
set_option linter.all false
set_option maxRecDepth 100000
set_option maxHeartbeats 4000000
namespace PF
open PySem PySem.Spec L2 RZ PyProof.Rows
/-! ### enumerate(tuple) -/
theorem meets_enumT {v : Value} {o : Obj} {H : Heap → Prop} (B : Begins v o H) :
    Meets (Builtin.«enumerate.__new__» ⟨[.type "enumerate", v], []⟩) (fun _ R s => H s.heap ∧
      R (.ok (.ret (.ref (s.heap.push o).objs.size))) { s with heap := (s.heap.push o).push { cls := .type "enumerate", data := .fields #[.none, .bool false, .ref s.heap.objs.size, rawInt 0, .none, .none] } }) :=
  .of_wp fun prog w A R s h => by
    obtain ⟨hp, g, d, tk, os⟩ := s; obtain ⟨h1, h⟩ := h
    have hsub := sub_enumerate
    have q1 : ∀ {A' : Around} {E : Value → Shared → Prop} {Q : Value → Shared → Prop}, Q (.ref hp.objs.size) ⟨hp.push o, g, d, tk, os⟩ → wpAny (model prog w) A' (pyIter v) Q E ⟨hp, g, d, tk, os⟩ :=
      fun q => B.iter prog w _ _ ⟨hp, g, d, tk, os⟩ _ h1 q
    wp_walk using q1
    refine wpAny_stack_any fun st => wpAny_pure ?_
    split
    · rename_i c _ _ _ _ _
      cases (c == Value.type "enumerate")
      · wp_walk using q1
        exact ⟨_, rfl, h⟩
      · wp_walk using q1
        exact ⟨_, rfl, h⟩
    · wp_walk using q1
      exact ⟨_, rfl, h⟩
section
variable {prog : Program} {w : World} {A : Around} {E : Value → Shared → Prop} {s : Shared}
theorem enumT_begins {v : Value} {o : Obj} {H : Heap → Prop} {Q : Value → Shared → Prop} (B : Begins v o H) (h1 : H s.heap)
    (h : ∀ h', IsEnum h' (s.heap.objs.size + 1) s.heap.objs.size 0 .none → h'.get? s.heap.objs.size = some o → h'.objs.size = s.heap.objs.size + 2 →
      (∀ b o, s.heap.get? b = some o → h'.get? b = some o) → Q (.ref (s.heap.objs.size + 1)) { s with heap := h' }) :
    wpAny (model prog w) A (call (.type "enumerate") [v]) Q E s := by
  refine callType_new F.called_enumerate (by decide) (F.typeCall_enumerate_1 _) (F.newCall_enumerate_1 _) (fun obj => F.args_object_init_2 obj _) F.entry_enumerate_new
    (meets_enumT B) ⟨h1, ?_⟩
  have hz : (s.heap.push o).objs.size = s.heap.objs.size + 1 := Heap.size_push ..
  show _ ∧ _
  rw [hz]
  have he : IsEnum ((s.heap.push o).push { cls := .type "enumerate", data := .fields #[.none, .bool false, .ref s.heap.objs.size, rawInt 0, .none, .none] }) (s.heap.objs.size + 1) s.heap.objs.size 0 .none := by
    have := Heap.get?_push_size (s.heap.push o) (o := { cls := .type "enumerate", data := .fields #[.none, .bool false, .ref s.heap.objs.size, rawInt 0, .none, .none] }) rfl
    rw [hz] at this; exact this
  refine ⟨⟨_, he, rfl⟩, h _ he (Heap.get?_push_of_some _ (Heap.get?_push_size _ B.free)) (by rw [Heap.size_push, hz]) fun b o x => Heap.get?_push_of_some _ (Heap.get?_push_of_some _ x)⟩
end
def IteT (K : PySem.W.Frag) (a : Addr) : It :=
  ⟨fun i H => ∃ (xs : List V) (x : V), SqT K H a xs ∧ xs[i]? = some x, fun i H v H' => ∃ T x, v = .ref T ∧ H T = none ∧ H' = upd H T (.tup [.int (i : Nat), x]) ∧ ∀ xs, SqT K H a xs → xs[i]? = some x, fun i H => ∃ xs : List V, SqT K H a xs ∧ xs.length ≤ i⟩
theorem tup_inj {X : Cx} {pins : List (Addr × Obj)} {σ : L2.St} {H : Hp} {s : Shared} {a : Addr} {xs ys : List V} (I : L2.Inv X pins σ H s) (h1 : SqT X.K H a xs) (h2 : SqT X.K H a ys) : xs = ys := by
  obtain ⟨its, rv, p, _⟩ := I.tuple h1
  obtain ⟨its2, rv2, p2, _⟩ := I.tuple h2
  obtain ⟨o, ho, hc, n, hd⟩ := p
  obtain ⟨o2, ho2, hc2, n2, hd2⟩ := p2
  rw [ho] at ho2
  cases ho2
  rw [hd] at hd2
  cases hd2
  exact rv.inj rv2
theorem turn_enumT {P : Program} {w : World} {K : PySem.W.Frag} {elts : List Expr} {kk : Nat} {tpos : Pos} (a e it : Addr) :
    Turn P w K (.Tuple elts kk tpos) (IteT K a) [e, it] e (fun i h => (∃ old, IsEnum h e it ((i : Nat) : Int) old) ∧ h.IsTupleIter it a i ∧ e ≠ it ∧ a ≠ it ∧ e ≠ a) where
  mem := by simp
  obj := fun i h st b hb => by
    obtain ⟨⟨old, he⟩, ⟨o, ho, hc, hd⟩, _⟩ := st
    have e' : b = e ∨ b = it := by simpa using hb
    rcases e' with z | z
    · rw [z]; exact ⟨_, he, fun v q => nomatch q⟩
    · rw [z]; exact ⟨o, ho, fun v q => by rw [hd] at q; cases q⟩
  keep := fun i h h' st k => let ⟨⟨old, he⟩, hi, hne⟩ := st; ⟨⟨old, k e (by simp) _ he⟩, hi.at fun o q => k it (by simp) o q, hne⟩
  item := by
    intro X hP hw hK hc i pins s σ H E I hf st hg
    subst hP hw hK
    obtain ⟨⟨old, he⟩, hit, hne, hai, hea⟩ := st
    obtain ⟨xs, x, hq, hx⟩ := hg
    obtain ⟨its, rv, p, hz⟩ := I.tuple hq
    obtain ⟨u, hu, ru⟩ := rv.get hx
    have hel : e < s.heap.objs.size := Heap.lt_size he
    have hil : it < s.heap.objs.size := by obtain ⟨_, q, _⟩ := hit; exact Heap.lt_size q
    have hlt : i < its.toArray.size := by rw [List.size_toArray]; exact (List.getElem?_eq_some_iff.mp hu).1
    have hh : X.A.in1.handled = none := by have := I.ok.hd hc; simp [this]
    refine wpAny_pyNext_enum_itemC (Draws.tuple hh it a hai its.toArray) he ⟨hit, p⟩ hlt hne (by simp [hne, hea]) fun y h' tk hy ho hit' hT hsz hk => ?_
    have ey : y = u := by
      have : its[i]? = some y := by simpa using hy
      rw [hu] at this
      exact (Option.some.inj this).symm
    subst ey
    refine ⟨_, rfl, wpAny_letOwnedTupleGo_enum (s := { s with heap := h', toks := tk + 1 }) ho fun h'' he' sb => ?_⟩
    have hT2 : h''.get? s.heap.objs.size = some { cls := .type "tuple", data := .seq #[.int i tk, y] } := (sb.2 _ (Nat.ne_of_gt hel)).trans hT
    have new : ObjOk X.prog X.w (upd H s.heap.objs.size (.tup [.int (i : Nat), x])) h'' s.heap.objs.size (.tup [.int (i : Nat), x]) :=
      ⟨by show 2 ≤ sizeLine; decide, [.int i tk, y], .cons ⟨_, rfl⟩ (.cons ru .nil), ⟨_, hT2, rfl, _, rfl⟩⟩
    have I1 : L2.Inv X pins σ (upd H s.heap.objs.size (.tup [.int (i : Nat), x])) { s with heap := h'', toks := tk + 1 } :=
      I.turnedNew (ch := [e, it]) (fun b ob hb q => (sb.2 b (fun z => hb (by simp [z]))).trans (hk b ob (fun z => hb (by simp [z])) (fun z => hb (by simp [z])) q)) hf (Nat.le_refl _) new
    refine ⟨.ref s.heap.objs.size, _, I1, rfl, ⟨_, x, rfl, I.hok.fresh (Nat.le_refl _), rfl, fun ys hy => by rw [tup_inj I hy hq]; exact hx⟩, ⟨⟨y, ?_⟩, hit'.1.at fun o q => (sb.2 it (Ne.symm hne)).trans q, hne, hai, hea⟩, fun b hb => ?_⟩
    · have e1 : ((i + 1 : Nat) : Int) = (i : Int) + 1 := by omega
      rw [e1]; exact he'
    · have hb' : b < s.heap.objs.size := by
        have e' : b = e ∨ b = it := by simpa using hb
        rcases e' with z | z
        · rw [z]; exact hel
        · rw [z]; exact hil
      rw [upd_ne (Nat.ne_of_lt hb')]
      exact (hf b hb).1
  done := by
    intro X hP hw hK hc i pins s σ H E I hf st hg
    subst hP hw hK
    obtain ⟨⟨old, he⟩, hit, hne, hai, hea⟩ := st
    obtain ⟨xs, hq, hx⟩ := hg
    obtain ⟨its, rv, p, hz⟩ := I.tuple hq
    obtain ⟨f0, f1, f2, f3, f4, f5⟩ := hf it (by simp)
    have hl := rv.length
    have hh : X.A.in1.handled = none := by have := I.ok.hd hc; simp [this]
    have hnone : its.toArray[i]? = none := by simp; omega
    have hh2 : X.A.in1.handled = none := hh
    have D : Draws X.prog X.w X.A.in1 it [it, a] i (fun i v => its.toArray[i]? = some v) (fun j h => j = i ∧ h.IsTupleIter it a j ∧ h.IsTuple a its.toArray) :=
      { live := fun _ _ st => let ⟨_, ⟨o, ho, _⟩, _⟩ := st; ⟨o, ho⟩
        frame := fun _ _ _ st hk => ⟨st.1, st.2.1.at fun o e => hk it (by simp) o e, st.2.2.at fun o e => hk a (by simp) o e⟩
        item := fun j s Q E hj st hQ => absurd st.1 (by omega)
        done := fun s Q E st hE => wpAny_nextOf_tuple_end hh2 st.2.1 st.2.2 hnone hE }
    exact wpAny_pyNext_enum_endD D he ⟨rfl, hit, p⟩ fun h' eb => ⟨rfl, I.turned (t' := s.toks) (fun b o hb q => eb b o hb q) f0 f1 f3 f4 f5⟩
  self := fun A i s Q E st h => let ⟨⟨_, he⟩, _⟩ := st; wpAny_pyIter_enum he h
def iEnumT (K : PySem.W.Frag) (ta : TA) : TI := fun σ H R => ta σ H fun vs H1 => ∃ a xs, vs = [.ref a] ∧ SqT K H1 a xs ∧ R (IteT K a) H1
theorem pi_enumTK {X : Cx} {K : PySem.W.Frag} {e : Expr} {ta : TA} {p pos tpos : Pos} {elts : List Expr} {kk : Nat} (hK : X.K = K) (hg : Gl X "enumerate") (hm : X.mg "enumerate" = none) (ha : PA X [e] ta) (hs : starEach [e] X.env = [(false, eval e X.env)] := by rfl) :
    PI X (.Tuple elts kk tpos) (.Call (.Name "enumerate" p) [e] [] pos) (iEnumT K ta) := by
  subst hK
  refine ⟨fun pins s σ H R I h => ?_⟩
  refine Call_ (ld_blt I hg hm boot_enumerate (PyProof.Rows.callWith_type1 (thn (ha.run pos pins s σ H _ I h) fun us s1 ⟨vs, H1, I1, r1, q1⟩ => ?_) hs rfl))
  obtain ⟨a, xs, ex, hq, q⟩ := q1
  subst ex
  cases r1 with
  | cons r rr =>
    cases rr
    cases r
    obtain ⟨its, rv, p', hz⟩ := I1.tuple hq
    obtain ⟨oa, hoa, _⟩ := id p'
    have hal := Heap.lt_size hoa
    refine enumT_begins (begins_tuple a its.toArray) p' fun h' he hit hsz hk => wpAny_pyIter_enum he ?_
    have I2 : L2.Inv X pins σ H1 { s1 with heap := h' } := I1.kept (t' := s1.toks) hk
    refine ⟨s1.heap.objs.size + 1, [s1.heap.objs.size + 1, s1.heap.objs.size], _, _, H1, rfl, I2, turn_enumT a (s1.heap.objs.size + 1) s1.heap.objs.size, ⟨⟨.none, he⟩, ⟨_, hit, rfl, rfl⟩, Nat.succ_ne_self _, Nat.ne_of_lt hal, Nat.ne_of_gt (Nat.lt_succ_of_lt hal)⟩, fun b hb => ?_, q⟩
    have e' : b = s1.heap.objs.size + 1 ∨ b = s1.heap.objs.size := by simpa using hb
    have hle : s1.heap.objs.size ≤ b := by
      rcases e' with z | z
      · rw [z]; exact Nat.le_add_right _ _
      · rw [z]; exact Nat.le_refl _
    exact I1.fpOk hle (I1.hok.fresh hle)
/-! ### a, b, c = a list -/
section
variable {prog : Program} {w : World} {A : Around} {E : Value → Shared → Prop} {s : Shared}
theorem drawL {it t : Addr} {items : Array Value} (hne : t ≠ it) : ∀ (n i : Nat) (s : Shared) (Q : List Value → Shared → Prop), s.heap.IsListIter it t i → s.heap.IsList t items → i + n ≤ items.size →
    (∀ h', h'.IsListIter it t (i + n) → Heap.SameBut it s.heap h' → Q ((items.toList.drop i).take n) { s with heap := h' }) → wpAny (model prog w) A (draw (.ref it) n) Q E s
  | 0, i, s, Q, hit, ht, hle, hQ => by
    show wpAny _ _ (pure []) Q E s
    exact wpAny_pure (by simpa using hQ s.heap hit (Heap.SameBut.refl ..))
  | n + 1, i, s, Q, hit, ht, hle, hQ => by
    have hlt : i < items.size := by omega
    show wpAny _ _ (pyNext (.ref it) >>= _) Q E s
    refine wpAny_bind (wpAny_pyNext_list_item hit ht (x := items[i]) (by simp [hlt]) fun h₁ hit₁ hs₁ => ?_)
    refine wpAny_bind (wpAny_holding (drawL hne n (i + 1) _ _ hit₁ (ht.extBut hs₁.extBut hne) (by omega) fun h₂ hit₂ hs₂ => wpAny_pure ?_))
    have hd : items.toList.drop i = items[i] :: items.toList.drop (i + 1) := by simp [List.drop_eq_getElem_cons, hlt]
    have := hQ h₂ (by rw [show i + (n + 1) = i + 1 + n by omega]; exact hit₂) (hs₁.trans hs₂)
    rw [hd, List.take_succ_cons] at this
    exact this
theorem unpackItemsL {t : Addr} {items : Array Value} {Q : List Value → Shared → Prop} (hh : A.handled = none) (ht : s.heap.IsList t items)
    (hQ : ∀ h', Heap.ExtBut s.heap.objs.size s.heap h' → Q items.toList { s with heap := h' }) : wpAny (model prog w) A (unpackItems (.ref t) items.size none) Q E s := by
  have hlt : t ≠ s.heap.objs.size := by obtain ⟨o, ho, _⟩ := ht; exact Nat.ne_of_lt (Heap.lt_size ho)
  unfold unpackItems
  refine wpAny_bind ?_
  · unfold notIterableAtAll
    refine wpAny_bind (wpAny_specialOf ht.typeIs F.slot_list_iter.lookup ?_)
    refine wpAny_pure ?_
    simp only [Bool.false_eq_true, if_false]
    refine wpAny_bind (wpAny_holding (wpAny_pyIter_list ht ?_))
    refine wpAny_bind (wpAny_holding (drawL hlt items.size 0 _ _ ⟨_, Heap.get?_push_size _ rfl, rfl, rfl⟩ (ht.push _) (by omega) fun h₁ hit₁ hs₁ => ?_))
    have hall : List.take items.size (List.drop 0 items.toList) = items.toList := by
      rw [List.drop_zero]; exact List.take_of_length_le (by simp)
    rw [hall]
    rw [if_neg (by simp)]
    have ht₁ : h₁.IsList t items := (ht.push _).extBut hs₁.extBut hlt
    refine wpAny_bind (wpAny_holding (wpAny_pyNext_list_end hh hit₁ ht₁ (by simp) fun h₂ he₂ => ?_))
    simp only [Option.isSome_none, Bool.false_eq_true, if_false]
    refine wpAny_pure (hQ h₂ fun b o hb e => he₂ b o hb (hs₁.extBut b o hb (Heap.get?_push_of_some _ e)))
end
def gTupL (K : PySem.W.Frag) (n : Nat) (t : TGs) : TG := fun v σ H Q => ∃ a xs, v = .ref a ∧ SqL K H a xs ∧ xs.length = n ∧ t xs σ H Q
theorem pg_tupL {X : Cx} {K : PySem.W.Frag} {es : List Expr} {k : Nat} {pos : Pos} {t : TGs} {n : Nat} (hK : X.K = K) (hc : X.calm = true) (h : PGs X es t)
    (hn : (assignEach es X.env).length = n := by rfl) (hst : (assignEach es X.env).findIdx? (·.1) = none := by rfl) : PG X (.Tuple es k pos) (gTupL K n t) := by
  subst hK
  refine ⟨fun pins s σ H v u Q I r hw => ?_⟩
  obtain ⟨a, xs, e1, hq, hl, hw⟩ := hw
  subst e1
  cases r
  obtain ⟨its, rv, ht, hz⟩ := I.list hq
  rw [assign_Tuple]
  refine wpAny_bind (wpAny_standAt ?_)
  unfold unpack
  rw [hn, hst, ← hl, rv.length, ← List.size_toArray]
  refine wpAny_bind (wpAny_holding (unpackItemsL (I.ok.hd hc) ht.isList fun h' hx => ?_))
  have I1 : L2.Inv X pins σ H { s with heap := h' } := I.kept (t' := s.toks) fun b o e => hx b o (Nat.ne_of_lt (Heap.lt_size e)) e
  exact h.run pins _ σ H xs _ Q I1 (by simpa using rv) hw
/-! ### data -/
section
variable {K : PySem.W.Frag} {ρ : En} {Γ : Ctx} {tr : TA} {g : TGs}
theorem walk_enumT {a : Addr} {xs : List V} : L2.Walk (IteT K a) xs.length (fun H => SqT K H a xs) (YPair (fun i => some (.int (i : Nat))) (fun i => xs[i]?)) := by
  refine ⟨fun i _ hi q => ⟨xs, xs[i], q, by simp [hi]⟩, fun _ q => ⟨xs, q, Nat.le_refl _⟩, fun i H v H' _ q y => ?_⟩
  obtain ⟨T, x, h1, h2, h3, h4⟩ := y
  exact ⟨T, _, x, h1, h2, h3, rfl, h4 xs q⟩
theorem i_enumT {R : List D → Prop} (h : EvA K tr ρ Γ fun ds => ∃ a, ds = [.tup a] ∧ R (enumD a)) : ItW K (iEnumT K tr) ρ Γ R := fun B H σ k s Rr f =>
  h B H σ k s _ fun vs B1 H1 ds k1 f1 r1 ⟨a, e, q⟩ => by
    subst e
    cases r1 with
    | cons ra rr =>
      cases rr
      cases ra with
      | tup ha hra =>
        refine ⟨_, _, rfl, sqT_le (sameLe k1.ext) ha, f _ B1 H1 _ k1 f1 ?_ q⟩
        refine walkD_pair (n := _) (dx := fun i => .int (i : Nat)) (dy := fun i => a.getD i .non) ?_ (walk_enumT (K := K)) (fun H s => sqT_le (sameLe s) ha) (fun i d hd => ?_) (fun i x _ hx => ?_) (fun i x _ hx => rp_at hra hx)
        · unfold enumD; rw [List.length_mapIdx, hra.length]
        · unfold enumD at hd
          rw [List.getElem?_mapIdx] at hd
          cases e1 : a[i]? with
          | none => rw [e1] at hd; cases hd
          | some x => rw [e1] at hd; rw [getD_of e1]; exact (Option.some.inj hd).symm
        · cases hx; exact .int _
end
end PF
end
section
set_option Elab.async false
set_option linter.all false
set_option maxRecDepth 100000
namespace PF
open PySem PySem.Spec L2 RZ
section
variable {K : PySem.W.Frag} {S : Sig K} {mk : List Hp} {ρ : En} {Γ : Ctx} {N : En → Ctx → Prop} {te tv tv1 tv2 td ty : TE} {ts : TS} {g : TG}
theorem gw_tupL {P : Nat → Prop} {R : En → Prop} {n : Nat} {gs : TGs} {ds : List D} (hn : ds.length = n) (h : GWs K P gs ρ ds R) : GW K P (gTupL K n gs) ρ (.lst ds) R := fun Γ B H σ v k s r Q f => by
  cases r with
  | lst hx hr => exact ⟨_, _, rfl, .inl (.inl (k.ext _ _ hx)), hr.length.trans hn, h Γ B H σ _ k s hr Q f⟩
/-- target = e -/
theorem g_asgG (h : EvW K te ρ Γ fun d => GW K (fun _ => True) g ρ d fun ρ' => Goes S mk N ts ρ' Γ) : Goes S mk N (tSeq (tAsg te g) ts) ρ Γ := fun E hE hN B H σ a =>
  h B H σ a.ok a.sl _ fun v B1 H1 d k1 f1 r1 q => by
    have a1 := a.step k1 f1
    exact q Γ B1 H1 σ v k1 a1.sl r1 _ fun σ' ρ' s' _ _ q' => q' E hE hN B1 H1 σ' (a1.env s')
/-- d = {"k1": .., "k2": ..}, a dict that will grow -/
theorem g_disp2 {k1 k2 : Str} {i : Nat} (hne : k1 ≠ k2) (h : ∀ p, S.H0 p = none → EvW K tv1 ρ ⟨(p, .dK []) :: Γ.c, Γ.z⟩ fun d1 => EvW K tv2 ρ ⟨(p, .dK []) :: Γ.c, Γ.z⟩ fun d2 =>
    Goes S mk N ts (ρ.set i (some (.cell p))) ⟨(p, .dK [(Sum.inr k1, d1), (Sum.inr k2, d2)]) :: Γ.c, Γ.z⟩) :
    Goes S mk N (tSeq (tAsg (tDisp [(tC (.str k1), tv1), (tC (.str k2), tv2)]) (gName i)) ts) ρ Γ := fun E hE hN B H σ a p hp => by
  have a0 := a.cellNew (c := .dK []) hp ⟨[], upd_same, rfl, .nil⟩
  refine h p (a.h0 hp) B _ σ a0.ok a0.sl _ fun v1 B1 H1 d1 kk1 f1 r1 q1 => ?_
  have a1 := a0.step kk1 f1
  refine q1 B1 H1 σ kk1 a1.sl _ fun v2 B2 H2 d2 kk2 f2 r2 q2 => ?_
  have a2 := a1.step kk2 f2
  obtain ⟨_, ws, hx, hk, _⟩ := kk2.cel (p, .dK []) List.mem_cons_self
  have ew : ws = [] := by
    cases ws with
    | nil => rfl
    | cons _ _ => cases hk
  subst ew
  refine ⟨hx, [(Sum.inr k1, v1), (Sum.inr k2, v2)], rfl, by simp, ?_⟩
  have em : mergeK [] [((Sum.inr k1 : Key), v1), (Sum.inr k2, v2)] = [(Sum.inr k1, v1), (Sum.inr k2, v2)] := by
    have hne' : ¬ (Sum.inr k1 : Key) = Sum.inr k2 := fun e => hne (Sum.inr.inj e)
    simp [mergeK, putK, hne']
  rw [em]
  exact q2 E hE hN B2 _ _ ((a2.cellSet (c' := .dK [(Sum.inr k1, d1), (Sum.inr k2, d2)]) ⟨[(Sum.inr k1, v1), (Sum.inr k2, v2)], upd_same, rfl, .cons (r1.same f2.ex) (.cons r2 .nil)⟩).setS (.cell p))
/-- d["k"] = e, d a cell -/
theorem g_putSc {p : Addr} {kvs : List (Key × D)} {cs : List (Addr × Cel)} {z : List Addr} (hl : kvs.length < 1000) (h : EvW K te ρ ⟨(p, .dK kvs) :: cs, z⟩ fun d => EvW K td ρ ⟨(p, .dK kvs) :: cs, z⟩ fun x => EvW K ty ρ ⟨(p, .dK kvs) :: cs, z⟩ fun y =>
    ∃ n, x = .cell p ∧ y = .str n ∧ Goes S mk N ts ρ ⟨(p, .dK (putD kvs (Sum.inr n) d)) :: cs, z⟩) : Goes S mk N (tSeq (sDPut td ty te) ts) ρ ⟨(p, .dK kvs) :: cs, z⟩ := fun E hE hN B H σ a =>
  h B H σ a.ok a.sl _ fun v B1 H1 d k1 f1 r1 q => by
    have a1 := a.step k1 f1
    refine q B1 H1 σ k1 a1.sl _ fun vx B2 H2 x k2 f2 r2 q2 => ?_
    have a2 := a1.step k2 f2
    refine q2 B2 H2 σ k2 a2.sl _ fun vy B3 H3 y k3 f3 r3 ⟨n, e1, e2, q3⟩ => ?_
    have a3 := a2.step k3 f3
    subst e1 e2
    cases r2
    cases r3
    obtain ⟨_, ws, hx, hk, hr⟩ := k3.cel (p, .dK kvs) List.mem_cons_self
    have hl' : ws.length = kvs.length := by
      have := congrArg List.length hk
      simpa using this
    refine ⟨p, _, rfl, .inl ⟨ws, Sum.inr n, hx, rfl, small1000 (by omega), rfl⟩, ?_⟩
    obtain ⟨g1, g2⟩ := putK_rel hk hr ((r1.same f2.ex).same f3.ex)
    exact q3 E hE hN B3 _ σ (a3.cellSet ⟨_, upd_same, g1, g2⟩)
/-- d["k"] = [], d a cell: a list that will grow -/
theorem g_putSL {p : Addr} {kvs : List (Key × D)} {cs : List (Addr × Cel)} {z : List Addr} {i : Nat} {k : Str} (hl : kvs.length < 1000) (hi : ρ[i]? = some (some (.cell p))) (h : ∀ q, S.H0 q = none → Goes S mk N ts ρ ⟨(q, .lst []) :: (p, .dK (putD kvs (Sum.inr k) (.cell q))) :: cs, z⟩) :
    Goes S mk N (tSeq (sDPut (tVar i) (tC (.str k)) (tLst tNil)) ts) ρ ⟨(p, .dK kvs) :: cs, z⟩ := fun E hE hN B H σ a => by
  refine ⟨Nat.zero_le _, fun q hq => ?_⟩
  have a1 := a.cellNew (c := .lst []) hq ⟨[], upd_same, .nil⟩
  obtain ⟨vx, hv, rv⟩ := a1.sl.at_ i _ hi
  cases rv
  have a2 : At S mk B (upd H q (.lst [])) σ ρ ⟨(p, .dK kvs) :: (q, .lst []) :: cs, z⟩ := a1.perm (List.Perm.swap _ _ _)
  obtain ⟨_, ws, hx, hk, hr⟩ := a2.ok.cel (p, .dK kvs) List.mem_cons_self
  have hl' : ws.length = kvs.length := by have := congrArg List.length hk; simpa using this
  refine ⟨.ref p, hv, p, _, rfl, .inl ⟨ws, Sum.inr k, hx, rfl, small1000 (by omega), rfl⟩, ?_⟩
  obtain ⟨g1, g2⟩ := putK_rel (k := (Sum.inr k : Key)) hk hr (Rp.cell q)
  exact h q (a.h0 hq) E hE hN B _ σ ((a2.cellSet (c' := .dK (putD kvs (Sum.inr k) (.cell q))) ⟨_, upd_same, g1, g2⟩).perm (List.Perm.swap _ _ _))
/-- the list cell in the dict cell becomes data, the dict too -/
theorem g_offDL {p q : Addr} {kvs : List (Key × D)} {ds : List D} {cs : List (Addr × Cel)} {z : List Addr} {i : Nat} {kvs' : List (Key × D)} (h0 : S.H0 q = none) (h1 : S.H0 p = none) (hk : kvs'.map (·.1) = kvs.map (·.1)) (hv : ∀ (j : Nat) (d d' : D), (kvs.map (·.2))[j]? = some d → (kvs'.map (·.2))[j]? = some d' → d' = d ∨ (d = .cell q ∧ d' = .lst ds))
    (hi : ρ[i]? = some (some (.cell p))) (h : Goes S mk N ts (ρ.set i (some (.dK kvs'))) ⟨cs, z⟩) : Goes S mk N ts ρ ⟨(q, .lst ds) :: (p, .dK kvs) :: cs, z⟩ := fun E hE hN B H σ a => by
  obtain ⟨bq, xs, hx, hr⟩ := a.ok.cel (q, .lst ds) List.mem_cons_self
  have a1 := a.cellOff h0 hx (by intros; exact HO.noConfusion)
  have rq : Rp K (upd B q (.lst xs)) (.ref q) (.lst ds) := .lst upd_same (hr.same (sameNew bq))
  obtain ⟨bp, ws, hw, hkw, hrw⟩ := a1.ok.cel (p, .dK kvs) List.mem_cons_self
  have hl : kvs'.length = kvs.length := by have := congrArg List.length hk; simpa using this
  have hlw : ws.length = kvs.length := by have := congrArg List.length hkw; simpa using this
  have hrw' : RpL K (upd B q (.lst xs)) (ws.map (·.2)) (kvs'.map (·.2)) := by
    refine RpL.of_get (by simp [hl, hlw]) fun j v d e1 e2 => ?_
    obtain ⟨d0, hd0, rp⟩ := hrw.get' e1
    rcases hv j d0 d hd0 e2 with e | ⟨e, e'⟩
    · rw [e]; exact rp
    · subst e e'
      cases rp
      exact rq
  have a2 := a1.cellOff h1 hw (by intros; exact HO.noConfusion)
  obtain ⟨v, hv', rv⟩ := a2.sl.at_ i _ hi
  cases rv
  have a3 := a2.setS (i := i) (v := .ref p) (d := .dK kvs') (.dK (.inl upd_same) (hkw.trans hk.symm) (hrw'.same (sameNew bp)))
  rw [set_self hv'] at a3
  exact h E hE hN _ H σ a3
end
/-- a class that makes instances, with its promise -/
structure Fc (P : Program) (w : World) (K : PySem.W.Frag) (mg : Str → Option Value) (base : Heap) (x : Str) (C : Addr) (ps : List Str) (k : Nat) (sp : Sp) (dvs : List V) : Prop where
  ex : ∃ f fd ds, mg x = some (.ref C) ∧ Mk K C f ∧ FnOk P w K mg base CX0 k f fd ps sp ∧ Binds K fd ps ds ∧ Vals dvs ds
section
variable {X : Cx} {k : Nat} {C : Addr} {x : Str} {ps : List Str} {sp : Sp} {dvs : List V} {p pos : Pos} {e : Expr} {es : List Expr} {t : TA}
theorem pe_C (F : Fc X.prog X.w X.K X.mg X.base x C ps k sp dvs) (hr : Room (k + 1) X.A) (hg : Gl X x) (ha : PA X (e :: es) t) (hdb : (x == ("__debug__" : Str)) = false := by decide) (he : starEach (e :: es) X.env = (false, eval e X.env) :: starEach es X.env := by rfl) (hpl : (backTo pos (starEach es X.env)).any (·.1) = false := by rfl) : PE X (.Call (.Name x p) (e :: es) [] pos) (tMake C sp dvs E0 t) := by
  obtain ⟨f, fd, ds, a, b, c, d, v⟩ := F.ex
  exact pe_make b c hr hg a d v pass0 ha hdb he hpl
end
end PF
end
section
set_option Elab.async false
set_option linter.all false
set_option maxRecDepth 100000
set_option maxHeartbeats 2000000
namespace PF
open PySem PySem.Spec L2 RZ
local macro_rules | `(tactic| walk_at "pf1") => `(tactic| first
  | ((with_reducible refine' w_var ?pfh ?_); (case pfh => rfl))
  | with_reducible refine w_int ?_
  | with_reducible refine w_ty ?_
  | with_reducible refine w_op ?_
  | with_reducible refine w_cb ?_
  | with_reducible refine w_call ?_
  | with_reducible refine a_cons ?_
  | with_reducible refine a_nil ?_
  | with_reducible refine o_sub ?_
  | with_reducible refine o_plusI ?_
  | ((with_reducible refine' o_ixTu ?pfh ?_); (case pfh => rfl))
  | ((with_reducible refine' o_ixLi ?pfh ?_); (case pfh => rfl))
  | ((with_reducible refine' o_ixKe ?pfh ?_); (case pfh => rfl))
  | with_reducible refine w_bl ?_
  | with_reducible refine w_non ?_
  | with_reducible refine w_str ?_
  | with_reducible refine w_un ?_
  | with_reducible refine w_fld ?_
  | with_reducible refine w_meth ?_
  | with_reducible refine t_test ?_
  | with_reducible refine t_B ?_
  | with_reducible refine t_and ?_
  | with_reducible refine t_or ?_
  | with_reducible refine t_not ?_
  | with_reducible refine w_andV ?_
  | with_reducible refine w_orV ?_
  | with_reducible refine w_notV ?_
  | with_reducible refine w_if ?_
  | with_reducible refine w_chain ?_
  | with_reducible refine o_lt ?_
  | with_reducible refine o_gt ?_
  | with_reducible refine o_le ?_
  | with_reducible refine o_ge ?_
  | with_reducible refine o_equI ?_
  | with_reducible refine o_neqI ?_
  | with_reducible refine o_neg ?_
  | with_reducible refine c_abs ?_
  | with_reducible refine c_int ?_
  | with_reducible refine g_asg ?_
  | with_reducible refine g_drop ?_
  | with_reducible refine g_if ?_
  | with_reducible refine g_next ?_
  | with_reducible refine g_assoc ?_
  | with_reducible refine g_retS ?_
  | with_reducible refine exbl ?_
  | with_reducible refine tT ?_
  | with_reducible refine tF ?_
  | with_reducible refine tNT ?_
  | with_reducible refine tNF ?_
  | ((with_reducible refine' ifpB ?pfh ?_); (case pfh => rfl))
  | ((with_reducible refine' ifnB ?pfh ?_); (case pfh => rfl)))
local macro_rules | `(tactic| walk_at "fl") => `(tactic| first
  | refine ⟨_, _, _, rfl, Tp.cl_Plank ‹_›, Tp.n_long ‹_›, rfl, ?_⟩
  | refine ⟨_, _, _, rfl, Tp.cl_Plank ‹_›, Tp.n_stakes ‹_›, rfl, ?_⟩
  | refine ⟨_, _, _, rfl, Tp.cl_Plank ‹_›, Tp.n_limit ‹_›, rfl, ?_⟩
  | refine ⟨_, _, _, rfl, Tp.cl_Loads ‹_›, Tp.n_plank ‹_›, rfl, ?_⟩
  | refine ⟨_, _, _, rfl, Tp.cl_Loads ‹_›, Tp.n_weights ‹_›, rfl, ?_⟩
  | refine ⟨_, _, _, rfl, Tp.cl_Loads ‹_›, Tp.n_known ‹_›, rfl, ?_⟩
  | refine ⟨_, _, _, rfl, Tp.cl_Loads ‹_›, Tp.n_over ‹_›, rfl, ?_⟩)
local macro_rules | `(tactic| walk_at "pf") => `(tactic| repeat (walk_at "pf1"))

/-! ### planks -/
theorem putFD_len (f : Str) (d : D) : ∀ fs : List (Str × D), (putFD f d fs).length ≤ fs.length + 1
  | [] => Nat.le_refl _
  | (g, x) :: r => by
    unfold putFD
    split
    · exact Nat.le_succ _
    · exact Nat.succ_le_succ (putFD_len f d r)
theorem len3 {f g h : Str} {d e k : D} : (putFD f d (putFD g e (putFD h k []))).length < 1000 := by
  have h1 := putFD_len f d (putFD g e (putFD h k []))
  have h2 := putFD_len g e (putFD h k [])
  have h3 := putFD_len h k []
  have h4 : ([] : List (Str × D)).length = 0 := rfl
  omega
theorem len2 {f g : Str} {d e : D} : (putFD f d (putFD g e [])).length < 1000 := by
  have h1 := putFD_len f d (putFD g e [])
  have h2 := putFD_len g e []
  have h4 : ([] : List (Str × D)).length = 0 := rfl
  omega
theorem len1 {f : Str} {d : D} : (putFD f d []).length < 1000 := by
  have h1 := putFD_len f d []
  have h4 : ([] : List (Str × D)).length = 0 := rfl
  omega
abbrev plF (w : Wd) : List (Str × D) := [("long", .int w.L), ("stakes", .tup (w.ps.map prD)), ("limit", .non)]
abbrev plD (CP : Addr) (w : Wd) : D := .obj CP (plF w)
def pPlank (CP : Addr) : Ctx → List D → (Ctx → D → Prop) → Prop := fun Γ ds R => ∃ (w : Wd) (x : Addr) (cs : List (Addr × Cel)) (z : List Addr), ds = [.cell x, .int w.L, .lst (w.ps.map prD), .non] ∧ w.Ok ∧ Γ = ⟨(x, .ins CP []) :: cs, z⟩ ∧ R ⟨(x, .ins CP (plF w)) :: cs, z⟩ .non
abbrev N_Plank_init : List Str := ["self", "length", "props", "bend"]
theorem sc_Plank_init : FnScope N_Plank_init ["self", "length", "props", "bend"] (defScope s_Plank_init) := ⟨rfl, rfl, rfl, by decide +kernel, rfl, by decide +kernel, by decide +kernel⟩
theorem ok_Plank_init {P : Program} {w : World} {K : PySem.W.Frag} {mg : Str → Option Value} {base : Heap} {aN aO CP CL : Addr} (T : Tp K mg aN aO CP CL)  (F_are_props : Fk P w K mg base "are_props" ["thing", "length"] 5 (SpG K (pAreProps))) (F_is_measure : Fk P w K mg base "is_measure" ["thing"] 3 (SpG K (pIsMeasure))) (F_is_whole : Fk P w K mg base "is_whole" ["thing"] 1 (SpG K (pIsWhole))) {f : Addr} {fd : FuncData} (F : FunD K "__init__" "Plank.__init__" (defArgs s_Plank_init) (defBody s_Plank_init) (defScope s_Plank_init) [] [("bend", .non)] f fd) : FnOk P w K mg base CX0 7 f fd ["self", "length", "props", "bend"] (SpX K (pPlank CP)) := by
  refine okX F sc_Plank_init (by intro Γ ds R h; repeat' (first | (obtain ⟨e, _⟩ := h; subst e; rfl) | (obtain ⟨_, h⟩ := h))) (fun cdv A outer s H E hr => ?_)
  refine ⟨_, (pss_cons (ps_if (PW.pt (pw_or (pt_not (pt_val (pe_F F_is_whole (hr.mono (by decide)) rfl (pa_cons (pv 1) pa_nil)) (by intro _; rfl))) (pw_or1 (pt_not (pt_chain op_le op_le pe_int (pv 1) (pe_gint rfl T.g_MOST_LENGTH)))))) 
          (pss_one ps_never) pss_nil)
      (pss_cons (ps_if (pt_not (pt_val (pe_F F_are_props (hr.mono (by decide)) rfl (pa_cons (pv 2) (pa_cons (pv 1) pa_nil))) (by intro _; rfl))) 
          (pss_one ps_never) pss_nil)
      (pss_cons (ps_if (PW.pt (pw_and (pt_cmpR op_notN (pv 3) pe_non (nomark _)) (pw_and1 (pt_not (pt_val (pe_F F_is_measure (hr.mono (by decide)) rfl (pa_cons (pv 3) pa_nil)) (by intro _; rfl)))))) 
          (pss_one ps_never) pss_nil)
      (pss_cons (ps_fld (pv 0) (pv 1) rfl)
      (pss_cons (ps_fld (pv 0) (pe_callTy (call_tuple_ofK (K := K) rfl) (by rfl) T.b_tuple bt_tuple (pa_cons (pv 2) pa_nil)) rfl)
      (pss_one (ps_fld (pv 0) (pv 3) rfl))))))), ?_⟩
  try dsimp only [cxOf, Cx.nox, Cx.wish]
  rintro S ds ⟨w, x, cs, z, rfl, ok, hΓ, hR⟩
  rw [hΓ]
  show Goes S [] (nEnd S) _ [some (.cell x), some (.int w.L), some (.lst (w.ps.map prD)), some .non] _
  walk_at "pf"
  refine ⟨_, rfl, ?_⟩
  have := ok.hL
  have hn := ok.hn
  walk_at "pf"
  refine ifpB (decide_eq_true (by omega)) ?_
  walk_at "pf"
  rw [decide_eq_true (show w.L ≤ 1000 by omega)]
  walk_at "pf"
  refine ⟨_, w.L, rfl, by have := ok.hn; unfold Wd.n at this; omega, fun p hp => ?_, ok.inc, ?_⟩
  · obtain ⟨a, b, c, d⟩ := ok.hp p hp
    exact ⟨a, b, c.sm (by decide), d⟩
  walk_at "pf"
  refine o_notN ?_
  walk_at "pf"
  refine g_fld T.cl_Plank T.n_long (by decide) ?_
  walk_at "pf"
  refine ⟨rfl, ?_⟩
  refine g_fld T.cl_Plank T.n_stakes len1 ?_
  walk_at "pf"
  refine c_tuple ?_
  walk_at "pf"
  refine ⟨rfl, g_one ?_⟩
  refine g_fld T.cl_Plank T.n_limit len2 ?_
  walk_at "pf"
  exact ⟨rfl, g_done hR⟩
def pLen (CP : Addr) : PT_ := fun Γ ds R => ∃ w : Wd, ds = [plD CP w] ∧ R (.int w.L)
def pProps (CP : Addr) : PT_ := fun Γ ds R => ∃ w : Wd, ds = [plD CP w] ∧ R (.lst (w.ps.map prD))
def pCount (CP : Addr) : PT_ := fun Γ ds R => ∃ w : Wd, ds = [plD CP w] ∧ R (.int (w.n : Int))
def pPlaceOf (CP : Addr) : PT_ := fun Γ ds R => ∃ (w : Wd) (r : Int), ds = [plD CP w, .int r] ∧ w.Rest r ∧ R (.int (w.pos r))
abbrev N_Plank_length : List Str := ["self"]
theorem sc_Plank_length : FnScope N_Plank_length ["self"] (defScope s_Plank_length) := ⟨rfl, rfl, rfl, by decide +kernel, rfl, by decide +kernel, by decide +kernel⟩
theorem ok_Plank_length {P : Program} {w : World} {K : PySem.W.Frag} {mg : Str → Option Value} {base : Heap} {aN aO CP CL : Addr} (T : Tp K mg aN aO CP CL)   {f : Addr} {fd : FuncData} (F : FunD K "length" "Plank.length" (defArgs s_Plank_length) (defBody s_Plank_length) (defScope s_Plank_length) [] [] f fd) : FnOk P w K mg base CX0 1 f fd ["self"] (SpG K (pLen CP)) := by
  refine okG F sc_Plank_length (by intro Γ ds R h; repeat' (first | (obtain ⟨e, _⟩ := h; subst e; rfl) | (obtain ⟨_, h⟩ := h))) (fun cdv A outer s H E hr => ?_)
  refine ⟨_, (pss_one (ps_ret (pe_fldK (K := K) rfl (pv 0) rfl))), ?_⟩
  try dsimp only [cxOf, Cx.nox, Cx.wish]
  rintro S ds ⟨w, rfl, hR⟩
  show Goes S [] (nEnd S) _ [some (plD CP w)] S.C0
  refine g_ret ?_ Cov.refl
  walk_at "pf"
  walk_at "fl"
  exact hR
abbrev N_Plank_props : List Str := ["self"]
theorem sc_Plank_props : FnScope N_Plank_props ["self"] (defScope s_Plank_props) := ⟨rfl, rfl, rfl, by decide +kernel, rfl, by decide +kernel, by decide +kernel⟩
theorem ok_Plank_props {P : Program} {w : World} {K : PySem.W.Frag} {mg : Str → Option Value} {base : Heap} {aN aO CP CL : Addr} (T : Tp K mg aN aO CP CL)   {f : Addr} {fd : FuncData} (F : FunD K "props" "Plank.props" (defArgs s_Plank_props) (defBody s_Plank_props) (defScope s_Plank_props) [] [] f fd) : FnOk P w K mg base CX0 1 f fd ["self"] (SpG K (pProps CP)) := by
  refine okG F sc_Plank_props (by intro Γ ds R h; repeat' (first | (obtain ⟨e, _⟩ := h; subst e; rfl) | (obtain ⟨_, h⟩ := h))) (fun cdv A outer s H E hr => ?_)
  refine ⟨_, (pss_one (ps_ret (pe_callTy (call_list_ofK (K := K) rfl) (by rfl) T.b_list bt_list (pa_cons (pe_fldK (K := K) rfl (pv 0) rfl) pa_nil)))), ?_⟩
  try dsimp only [cxOf, Cx.nox, Cx.wish]
  rintro S ds ⟨w, rfl, hR⟩
  show Goes S [] (nEnd S) _ [some (plD CP w)] S.C0
  refine g_ret ?_ Cov.refl
  walk_at "pf"
  walk_at "fl"
  walk_at "pf"
  exact c_list (.inr rfl) hR
abbrev N_Plank_count : List Str := ["self"]
theorem sc_Plank_count : FnScope N_Plank_count ["self"] (defScope s_Plank_count) := ⟨rfl, rfl, rfl, by decide +kernel, rfl, by decide +kernel, by decide +kernel⟩
theorem ok_Plank_count {P : Program} {w : World} {K : PySem.W.Frag} {mg : Str → Option Value} {base : Heap} {aN aO CP CL : Addr} (T : Tp K mg aN aO CP CL)   {f : Addr} {fd : FuncData} (F : FunD K "count" "Plank.count" (defArgs s_Plank_count) (defBody s_Plank_count) (defScope s_Plank_count) [] [] f fd) : FnOk P w K mg base CX0 1 f fd ["self"] (SpG K (pCount CP)) := by
  refine okG F sc_Plank_count (by intro Γ ds R h; repeat' (first | (obtain ⟨e, _⟩ := h; subst e; rfl) | (obtain ⟨_, h⟩ := h))) (fun cdv A outer s H E hr => ?_)
  refine ⟨_, (pss_one (ps_ret (pe_callB (call_len_seqK (K := K) rfl) (by rfl) T.b_len bt_len (pa_cons (pe_fldK (K := K) rfl (pv 0) rfl) pa_nil)))), ?_⟩
  try dsimp only [cxOf, Cx.nox, Cx.wish]
  rintro S ds ⟨w, rfl, hR⟩
  show Goes S [] (nEnd S) _ [some (plD CP w)] S.C0
  refine g_ret ?_ Cov.refl
  walk_at "pf"
  walk_at "fl"
  walk_at "pf"
  refine c_len (.inr rfl) ?_
  rw [List.length_map]
  exact hR
theorem rest_cases {w : Wd} {r : Int} (h : w.Rest r) : r = -1 ∨ r = (w.n : Int) ∨ ∃ i : Nat, i < w.n ∧ r = (i : Int) := by
  unfold Wd.Rest at h
  by_cases e : r = -1
  · exact .inl e
  · by_cases e2 : r = (w.n : Int)
    · exact .inr (.inl e2)
    · exact .inr (.inr ⟨r.toNat, by omega, by omega⟩)
abbrev N_Plank_place_of : List Str := ["self", "rest"]
theorem sc_Plank_place_of : FnScope N_Plank_place_of ["self", "rest"] (defScope s_Plank_place_of) := ⟨rfl, rfl, rfl, by decide +kernel, rfl, by decide +kernel, by decide +kernel⟩
theorem ok_Plank_place_of {P : Program} {w : World} {K : PySem.W.Frag} {mg : Str → Option Value} {base : Heap} {aN aO CP CL : Addr} (T : Tp K mg aN aO CP CL)  (F_is_whole : Fk P w K mg base "is_whole" ["thing"] 1 (SpG K (pIsWhole))) (M_Plank_count : Fm P w K mg base CP "count" ["self"] 1 (SpG K (pCount CP))) {f : Addr} {fd : FuncData} (F : FunD K "place_of" "Plank.place_of" (defArgs s_Plank_place_of) (defBody s_Plank_place_of) (defScope s_Plank_place_of) [] [] f fd) : FnOk P w K mg base CX0 2 f fd ["self", "rest"] (SpG K (pPlaceOf CP)) := by
  refine okG F sc_Plank_place_of (by intro Γ ds R h; repeat' (first | (obtain ⟨e, _⟩ := h; subst e; rfl) | (obtain ⟨_, h⟩ := h))) (fun cdv A outer s H E hr => ?_)
  refine ⟨_, (pss_cons (ps_if (PW.pt (pw_or (pt_not (pt_val (pe_F F_is_whole (hr.mono (by decide)) rfl (pa_cons (pv 1) pa_nil)) (by intro _; rfl))) (pw_or1 (pt_not (pt_chain op_le op_le (pe_gint rfl T.g_LEFT_WALL) (pv 1) (pe_M0 M_Plank_count T.cl_Plank (hr.mono (by decide)) (pv 0))))))) 
          (pss_one ps_never) pss_nil)
      (pss_cons (ps_if (pt_cmpR (op_equK (K := K) rfl hr.units) (pv 1) (pe_gint rfl T.g_LEFT_WALL) (nomark _)) 
          (pss_one (ps_ret pe_int)) pss_nil)
      (pss_one (ps_ret (pe_ifExp (pt_cmpR (op_equK (K := K) rfl hr.units) (pv 1) (pe_M0 M_Plank_count T.cl_Plank (hr.mono (by decide)) (pv 0)) (nomark _)) (pe_fldK (K := K) rfl (pv 0) rfl) (pe_ix (ix_seqK (K := K) rfl) (pe_ix (ix_seqK (K := K) rfl) (pe_fldK (K := K) rfl (pv 0) rfl) (pv 1) (fun _ _ => rfl)) pe_int (fun _ _ => rfl))))))), ?_⟩
  try dsimp only [cxOf, Cx.nox, Cx.wish]
  rintro S ds ⟨w, r, rfl, hr, hR⟩
  show Goes S [] (nEnd S) _ [some (plD CP w), some (.int r)] S.C0
  have hr1 := hr.1
  have hr2 := hr.2
  walk_at "pf"
  refine ⟨_, rfl, ?_⟩
  walk_at "pf"
  refine ifpB (decide_eq_true hr1) ?_
  walk_at "pf"
  refine ⟨_, rfl, rfl, ?_⟩
  walk_at "pf"
  refine ⟨_, rfl, ?_⟩
  walk_at "pf"
  rw [decide_eq_true hr2]
  walk_at "pf"
  rcases rest_cases hr with e | e | ⟨i, hi, e⟩
  · refine ifpB (decide_eq_true e) ?_
    walk_at "pf"
    refine g_ret (w_int ?_) Cov.refl
    subst e
    rw [pos_left] at hR
    exact hR
  · refine ifnB (decide_eq_false (by omega)) ?_
    refine g_next (g_ret ?_ Cov.refl)
    walk_at "pf"
    refine ⟨_, rfl, rfl, ?_⟩
    walk_at "pf"
    refine ⟨_, rfl, ?_⟩
    walk_at "pf"
    refine ifpB (decide_eq_true e) ?_
    walk_at "pf"
    walk_at "fl"
    rw [e, pos_right] at hR
    exact hR
  · refine ifnB (decide_eq_false (by omega)) ?_
    refine g_next (g_ret ?_ Cov.refl)
    walk_at "pf"
    refine ⟨_, rfl, rfl, ?_⟩
    walk_at "pf"
    refine ⟨_, rfl, ?_⟩
    walk_at "pf"
    refine ifnB (decide_eq_false (by omega)) ?_
    walk_at "pf"
    walk_at "fl"
    walk_at "pf"
    obtain ⟨p, hp, hm⟩ := ps_at (w := w) hi
    refine o_ixTu (d := prD p) ?_ ?_
    · rw [e]
      refine atI_nat ?_
      rw [List.getElem?_map, hp]
      rfl
    walk_at "pf"
    rw [e, pos_in hp] at hR
    exact hR
def pLotOf (CP : Addr) : PT_ := fun Γ ds R => ∃ w : Wd, ds = [plD CP w, .non] ∧ w.n ≤ 1000 ∧ R (.tup (rangeD 0 w.n))
abbrev N_lot_of : List Str := ["plank", "lot"]
theorem sc_lot_of : FnScope N_lot_of ["plank", "lot"] (defScope s_lot_of) := ⟨rfl, rfl, rfl, by decide +kernel, rfl, by decide +kernel, by decide +kernel⟩
theorem ok_lot_of {P : Program} {w : World} {K : PySem.W.Frag} {mg : Str → Option Value} {base : Heap} {aN aO CP CL : Addr} (T : Tp K mg aN aO CP CL)  (M_Plank_count : Fm P w K mg base CP "count" ["self"] 1 (SpG K (pCount CP))) {f : Addr} {fd : FuncData} (F : FunD K "lot_of" "lot_of" (defArgs s_lot_of) (defBody s_lot_of) (defScope s_lot_of) [] [] f fd) : FnOk P w K mg base CX0 3 f fd ["plank", "lot"] (SpG K (pLotOf CP)) := by
  refine okG F sc_lot_of (by intro Γ ds R h; repeat' (first | (obtain ⟨e, _⟩ := h; subst e; rfl) | (obtain ⟨_, h⟩ := h))) (fun cdv A outer s H E hr => ?_)
  refine ⟨_, (pss_cons (ps_if (pt_cmpR op_isN (pv 1) pe_non (nomark _)) 
          (pss_one (ps_ret (pe_tupRg rfl (by rfl) T.b_tuple (prg_1 (by rfl) T.b_range (pe_M0 M_Plank_count T.cl_Plank (hr.mono (by decide)) (pv 0)))))) pss_nil)
      (pss_cons ps_never
      (pss_one (ps_ret (pv 1))))), ?_⟩
  try dsimp only [cxOf, Cx.nox, Cx.wish]
  rintro S ds ⟨w, rfl, hn, hR⟩
  show Goes S [] (nEnd S) _ [some (plD CP w), some .non] S.C0
  walk_at "pf"
  refine o_isN ?_
  walk_at "pf"
  refine g_retS (g_ret ?_ Cov.refl)
  refine w_tupRange ?_
  walk_at "pf"
  refine ⟨_, rfl, rfl, ?_⟩
  walk_at "pf"
  exact ⟨w, rfl, w.n, rfl, hn, hR⟩
def pRestsOf (CP : Addr) : PT_ := fun Γ ds R => ∃ (w : Wd) (lot : List Int), ds = [plD CP w, .tup (lot.map .int)] ∧ lot.length ≤ 100 ∧ R (.tup (((-1) :: (lot ++ [(w.n : Int)])).map .int))
abbrev N_rests_of : List Str := ["plank", "lot"]
theorem sc_rests_of : FnScope N_rests_of ["plank", "lot"] (defScope s_rests_of) := ⟨rfl, rfl, rfl, by decide +kernel, rfl, by decide +kernel, by decide +kernel⟩
theorem ok_rests_of {P : Program} {w : World} {K : PySem.W.Frag} {mg : Str → Option Value} {base : Heap} {aN aO CP CL : Addr} (T : Tp K mg aN aO CP CL)  (M_Plank_count : Fm P w K mg base CP "count" ["self"] 1 (SpG K (pCount CP))) {f : Addr} {fd : FuncData} (F : FunD K "rests_of" "rests_of" (defArgs s_rests_of) (defBody s_rests_of) (defScope s_rests_of) [] [] f fd) : FnOk P w K mg base CX0 2 f fd ["plank", "lot"] (SpG K (pRestsOf CP)) := by
  refine okG F sc_rests_of (by intro Γ ds R h; repeat' (first | (obtain ⟨e, _⟩ := h; subst e; rfl) | (obtain ⟨_, h⟩ := h))) (fun cdv A outer s H E hr => ?_)
  refine ⟨_, (pss_one (ps_ret (pe_op (op_plusK (K := K) rfl) (pe_op (op_plusK (K := K) rfl) (pe_tup (pa_cons (pe_gint rfl T.g_LEFT_WALL) pa_nil)) (pv 1)) (pe_tup (pa_cons (pe_M0 M_Plank_count T.cl_Plank (hr.mono (by decide)) (pv 0)) pa_nil))))), ?_⟩
  try dsimp only [cxOf, Cx.nox, Cx.wish]
  rintro S ds ⟨w, lot, rfl, hn, hR⟩
  show Goes S [] (nEnd S) _ [some (plD CP w), some (.tup (lot.map .int))] S.C0
  refine g_ret ?_ Cov.refl
  walk_at "pf"
  refine w_tup ?_
  walk_at "pf"
  refine ⟨by decide, ?_⟩
  walk_at "pf"
  refine o_plusT (by rw [List.length_map]; simp; omega) ?_
  refine w_tup ?_
  walk_at "pf"
  refine ⟨_, rfl, rfl, ?_⟩
  walk_at "pf"
  refine ⟨w, rfl, ?_⟩
  walk_at "pf"
  refine ⟨by simp, ?_⟩
  refine o_plusT (by simp; omega) ?_
  have e : ((-1 : Int) :: (lot ++ [(w.n : Int)])).map D.int = [D.int (-1)] ++ lot.map D.int ++ [D.int (w.n : Int)] := by simp
  rw [e] at hR
  exact hR
/-! ### loads -/
abbrev wtD (h : Rat × Rat) : D := .tup [fr h.1, fr h.2]
def pIsSpot (CP : Addr) : PT_ := fun Γ ds R => ∃ (w : Wd) (q : Rat), ds = [plD CP w, fr q] ∧ w.Ok ∧ Sm q ∧ 0 ≤ q ∧ q ≤ (w.L : Rat) ∧ R (.bl true)
theorem Wd.Ok.L_sz {w : Wd} (ok : w.Ok) : Sz 8 (w.L : Rat) := by
  have := ok.pos_sz (a := (w.n : Int)) (by omega) (Int.le_refl _)
  rw [pos_right] at this
  exact this
abbrev N_is_spot : List Str := ["plank", "thing"]
theorem sc_is_spot : FnScope N_is_spot ["plank", "thing"] (defScope s_is_spot) := ⟨rfl, rfl, rfl, by decide +kernel, rfl, by decide +kernel, by decide +kernel⟩
theorem ok_is_spot {P : Program} {w : World} {K : PySem.W.Frag} {mg : Str → Option Value} {base : Heap} {aN aO CP CL : Addr} (T : Tp K mg aN aO CP CL)  (F_is_below : Fk P w K mg base "is_below" ["one", "other"] 1 (SpG K (pBelow))) (F_is_measure : Fk P w K mg base "is_measure" ["thing"] 3 (SpG K (pIsMeasure))) (F_whole : Fk P w K mg base "whole" ["number"] 1 (SpG K (pWhole))) (M_Plank_length : Fm P w K mg base CP "length" ["self"] 1 (SpG K (pLen CP))) {f : Addr} {fd : FuncData} (F : FunD K "is_spot" "is_spot" (defArgs s_is_spot) (defBody s_is_spot) (defScope s_is_spot) [] [] f fd) : FnOk P w K mg base CX0 4 f fd ["plank", "thing"] (SpG K (pIsSpot CP)) := by
  refine okG F sc_is_spot (by intro Γ ds R h; repeat' (first | (obtain ⟨e, _⟩ := h; subst e; rfl) | (obtain ⟨_, h⟩ := h))) (fun cdv A outer s H E hr => ?_)
  refine ⟨_, (pss_one (ps_ret (pe_and (pe_F F_is_measure (hr.mono (by decide)) rfl (pa_cons (pv 1) pa_nil)) (pe_one (pe_not (pe_F F_is_below (hr.mono (by decide)) rfl (pa_cons (pe_F F_whole (hr.mono (by decide)) rfl (pa_cons (pe_M0 M_Plank_length T.cl_Plank (hr.mono (by decide)) (pv 0)) pa_nil)) (pa_cons (pv 1) pa_nil)))))))), ?_⟩
  try dsimp only [cxOf, Cx.nox, Cx.wish]
  rintro S ds ⟨w, q, rfl, ok, hs, h0, h1, hR⟩
  show Goes S [] (nEnd S) _ [some (plD CP w), some (fr q)] S.C0
  refine g_ret ?_ Cov.refl
  walk_at "pf"
  refine ⟨q, rfl, hs, h0, ?_⟩
  walk_at "pf"
  refine ⟨_, rfl, rfl, ?_⟩
  walk_at "pf"
  refine ⟨w, rfl, ?_⟩
  walk_at "pf"
  refine ⟨_, rfl, ?_⟩
  walk_at "pf"
  refine ⟨_, _, rfl, ok.L_sz.sm (by decide), hs, ?_⟩
  walk_at "pf"
  rw [decide_eq_false (Rat.not_lt.mpr h1)]
  exact hR
def pIsWeight (CP : Addr) : PT_ := fun Γ ds R => ∃ (w : Wd) (h : Rat × Rat), ds = [plD CP w, wtD h] ∧ w.Ok ∧ Sm h.1 ∧ 0 ≤ h.1 ∧ h.1 ≤ (w.L : Rat) ∧ Sm h.2 ∧ 0 < h.2 ∧ R (.bl true)
abbrev N_is_weight : List Str := ["plank", "thing"]
theorem sc_is_weight : FnScope N_is_weight ["plank", "thing"] (defScope s_is_weight) := ⟨rfl, rfl, rfl, by decide +kernel, rfl, by decide +kernel, by decide +kernel⟩
theorem ok_is_weight {P : Program} {w : World} {K : PySem.W.Frag} {mg : Str → Option Value} {base : Heap} {aN aO CP CL : Addr} (T : Tp K mg aN aO CP CL)  (F_is_below : Fk P w K mg base "is_below" ["one", "other"] 1 (SpG K (pBelow))) (F_is_fraction : Fk P w K mg base "is_fraction" ["thing"] 2 (SpG K (pIsFraction))) (F_is_spot : Fk P w K mg base "is_spot" ["plank", "thing"] 4 (SpG K (pIsSpot CP))) {f : Addr} {fd : FuncData} (F : FunD K "is_weight" "is_weight" (defArgs s_is_weight) (defBody s_is_weight) (defScope s_is_weight) [] [] f fd) : FnOk P w K mg base CX0 5 f fd ["plank", "thing"] (SpG K (pIsWeight CP)) := by
  refine okG F sc_is_weight (by intro Γ ds R h; repeat' (first | (obtain ⟨e, _⟩ := h; subst e; rfl) | (obtain ⟨_, h⟩ := h))) (fun cdv A outer s H E hr => ?_)
  refine ⟨_, (pss_cons (ps_if (PW.pt (pw_or (pt_not (pt_val (pe_callB (call_isiK' (K := K) rfl) (by rfl) T.b_isinstance bt_isinstance (pa_cons (pv 1) (pa_cons (pe_bltn (v := .ty "tuple") rfl T.b_tuple bt_tuple rfl) pa_nil))) (by intro _; rfl))) (pw_or1 (pt_cmpR (op_neqK (K := K) rfl hr.units) (pe_callB (call_len_seqK (K := K) rfl) (by rfl) T.b_len bt_len (pa_cons (pv 1) pa_nil)) pe_int (nomark _))))) 
          (pss_one (ps_ret pe_bl)) pss_nil)
      (pss_one (ps_ret (pe_and (pe_F F_is_spot (hr.mono (by decide)) rfl (pa_cons (pv 0) (pa_cons (pe_ix (ix_seqK (K := K) rfl) (pv 1) pe_int (fun _ _ => rfl)) pa_nil))) (pe_and (pe_F F_is_fraction (hr.mono (by decide)) rfl (pa_cons (pe_ix (ix_seqK (K := K) rfl) (pv 1) pe_int (fun _ _ => rfl)) pa_nil)) (pe_one (pe_F F_is_below (hr.mono (by decide)) rfl (pa_cons (pe_gref rfl T.g_NOUGHT) (pa_cons (pe_ix (ix_seqK (K := K) rfl) (pv 1) pe_int (fun _ _ => rfl)) pa_nil))))))))), ?_⟩
  try dsimp only [cxOf, Cx.nox, Cx.wish]
  rintro S ds ⟨w, h, rfl, ok, hs, h0, h1, hs2, h2, hR⟩
  show Goes S [] (nEnd S) _ [some (plD CP w), some (wtD h)] S.C0
  walk_at "pf"
  refine c_isi (b := true) rfl (by decide +kernel) ?_
  walk_at "pf"
  refine c_len (.inr rfl) ?_
  walk_at "pf"
  refine g_ret ?_ Cov.refl
  walk_at "pf"
  refine ⟨w, h.1, rfl, ok, hs, h0, h1, ?_⟩
  walk_at "pf"
  refine ⟨h.2, rfl, ?_⟩
  walk_at "pf"
  refine w_gtup T.t_NOUGHT ?_
  walk_at "pf"
  refine ⟨0, h.2, rfl, sm0, hs2, ?_⟩
  walk_at "pf"
  rw [decide_eq_true h2]
  exact hR
def pCheckWeights (CP : Addr) : PT_ := fun Γ ds R => ∃ w : Wd, ds = [plD CP w, .lst (w.hs.map wtD)] ∧ w.Ok ∧ R .non
abbrev N_check_weights : List Str := ["plank", "thing", "at", "one"]
theorem sc_check_weights : FnScope N_check_weights ["plank", "thing"] (defScope s_check_weights) := ⟨rfl, rfl, rfl, by decide +kernel, rfl, by decide +kernel, by decide +kernel⟩
theorem ok_check_weights {P : Program} {w : World} {K : PySem.W.Frag} {mg : Str → Option Value} {base : Heap} {aN aO CP CL : Addr} (T : Tp K mg aN aO CP CL)  (F_is_weight : Fk P w K mg base "is_weight" ["plank", "thing"] 5 (SpG K (pIsWeight CP))) {f : Addr} {fd : FuncData} (F : FunD K "check_weights" "check_weights" (defArgs s_check_weights) (defBody s_check_weights) (defScope s_check_weights) [] [] f fd) : FnOk P w K mg base CX0 6 f fd ["plank", "thing"] (SpG K (pCheckWeights CP)) := by
  refine okG F sc_check_weights (by intro Γ ds R h; repeat' (first | (obtain ⟨e, _⟩ := h; subst e; rfl) | (obtain ⟨_, h⟩ := h))) (fun cdv A outer s H E hr => ?_)
  refine ⟨_, (pss_cons (ps_if (pt_not (pt_val (pe_callB (call_isiK' (K := K) rfl) (by rfl) T.b_isinstance bt_isinstance (pa_cons (pv 1) (pa_cons (pe_bltn (v := .ty "list") rfl T.b_list bt_list rfl) pa_nil))) (by intro _; rfl))) 
          (pss_one ps_never) pss_nil)
      (pss_one (ps_for PassesOwn.never rfl (pi_enumK (K := K) rfl (by rfl) T.b_enumerate (pa_cons (pv 1) pa_nil)) (pg_tupK (K := K) (n := 2) rfl rfl (pgs_cons (pg_name (i := 2) sc_check_weights.nd rfl (by first | exact Or.inl rfl | exact Or.inr rfl)) (pgs_cons (pg_name (i := 3) sc_check_weights.nd rfl (by first | exact Or.inl rfl | exact Or.inr rfl)) pgs_nil))) 
          (pss_one (ps_if (pt_not (pt_val (pe_F F_is_weight (hr.mono (by decide)) rfl (pa_cons (pv 0) (pa_cons (pv 3) pa_nil))) (by intro _; rfl))) 
              (pss_one ps_never) pss_nil))))), ?_⟩
  try dsimp only [cxOf, Cx.nox, Cx.wish]
  rintro S ds ⟨w, rfl, ok, hR⟩
  show Goes S [] (nEnd S) _ [some (plD CP w), some (.lst (w.hs.map wtD)), none, none] S.C0
  walk_at "pf"
  refine c_isi (b := true) rfl (by decide +kernel) ?_
  walk_at "pf"
  refine g_one (g_for (i_enum ?_))
  walk_at "pf"
  refine ⟨_, rfl, fun i ρ Γ => ∃ x y, ρ = [some (plD CP w), some (.lst (w.hs.map wtD)), x, y] ∧ Γ = S.C0, ⟨_, _, rfl, rfl⟩, ?_, ?_⟩
  · rintro i d ρ Γ B1 hd ⟨x, y, rfl, rfl⟩
    unfold enumD at hd
    rw [List.getElem?_mapIdx] at hd
    cases e : (w.hs.map wtD)[i]? with
    | none => rw [e] at hd; cases hd
    | some d2 =>
      rw [e] at hd
      cases hd
      obtain ⟨h, hh, rfl⟩ := map_get e
      obtain ⟨a1, a2, a3, a4, a5⟩ := ok.hw h (List.mem_of_getElem? hh)
      refine gw_tup rfl (gws_cons (gw_name trivial (gws_cons (gw_name trivial (gws_nil ?_)))))
      refine g_one ?_
      walk_at "pf"
      refine ⟨w, h, rfl, ok, a3.sm (by decide), a1, a2, a5.sm (by decide), a4, ?_⟩
      walk_at "pf"
      exact g_done ⟨_, _, rfl, rfl⟩
  · rintro ρ Γ ⟨x, y, rfl, rfl⟩
    exact g_done (S.cov _ _ Cov.refl hR)
def pSlope : PT_ := fun Γ ds R => ∃ (a b : Int) (q : Rat), ds = [.int a, .int b, fr q] ∧ a < b ∧ a.natAbs < 2 ^ 8 ∧ b.natAbs < 2 ^ 8 ∧ Sz 2200 q ∧ R (fr ((q - a) / ((b - a : Int) : Rat)))
abbrev N_slope : List Str := ["low", "high", "spot"]
theorem sc_slope : FnScope N_slope ["low", "high", "spot"] (defScope s_slope) := ⟨rfl, rfl, rfl, by decide +kernel, rfl, by decide +kernel, by decide +kernel⟩
theorem ok_slope {P : Program} {w : World} {K : PySem.W.Frag} {mg : Str → Option Value} {base : Heap} {aN aO CP CL : Addr} (T : Tp K mg aN aO CP CL)  (F_less : Fk P w K mg base "less" ["one", "other"] 3 (SpG K (pLess))) (F_over : Fk P w K mg base "over" ["one", "other"] 3 (SpG K (pOver))) (F_whole : Fk P w K mg base "whole" ["number"] 1 (SpG K (pWhole))) {f : Addr} {fd : FuncData} (F : FunD K "slope" "slope" (defArgs s_slope) (defBody s_slope) (defScope s_slope) [] [] f fd) : FnOk P w K mg base CX0 4 f fd ["low", "high", "spot"] (SpG K (pSlope)) := by
  refine okG F sc_slope (by intro Γ ds R h; repeat' (first | (obtain ⟨e, _⟩ := h; subst e; rfl) | (obtain ⟨_, h⟩ := h))) (fun cdv A outer s H E hr => ?_)
  refine ⟨_, (pss_one (ps_ret (pe_F F_over (hr.mono (by decide)) rfl (pa_cons (pe_F F_less (hr.mono (by decide)) rfl (pa_cons (pv 2) (pa_cons (pe_F F_whole (hr.mono (by decide)) rfl (pa_cons (pv 0) pa_nil)) pa_nil))) (pa_cons (pe_F F_whole (hr.mono (by decide)) rfl (pa_cons (pe_op op_sub (pv 1) (pv 0)) pa_nil)) pa_nil))))), ?_⟩
  try dsimp only [cxOf, Cx.nox, Cx.wish]
  rintro S ds ⟨a, b, q, rfl, hab, ha, hb, hq, hR⟩
  show Goes S [] (nEnd S) _ [some (.int a), some (.int b), some (fr q)] S.C0
  refine g_ret ?_ Cov.refl
  walk_at "pf"
  refine ⟨_, rfl, ?_⟩
  walk_at "pf"
  have s1 := Sz.int (n := 8) ha (by decide)
  refine ⟨q, _, rfl, hq.sm (by decide), s1.sm (by decide), ?_⟩
  walk_at "pf"
  refine ⟨_, rfl, ?_⟩
  walk_at "pf"
  have s2 : Sz 9 ((b - a : Int) : Rat) := Sz.int (n := 9) (by rw [Nat.pow_succ]; generalize 2 ^ 8 = x at ha hb; omega) (by decide)
  have h0 : (0 : Rat) < ((b - a : Int) : Rat) := by
    have : ((0 : Int) : Rat) < ((b - a : Int) : Rat) := Rat.intCast_lt_intCast.mpr (by omega)
    exact this
  exact ⟨_, _, rfl, (hq.sub s1).sm (by decide), s2.sm (by decide), h0, hR⟩
end PF
end
section
set_option Elab.async false
set_option linter.all false
set_option maxRecDepth 100000
set_option maxHeartbeats 2000000
namespace PF
open PySem PySem.Spec L2 RZ
local macro_rules | `(tactic| walk_at "pf1") => `(tactic| first
  | ((with_reducible refine' w_var ?pfh ?_); (case pfh => rfl))
  | with_reducible refine w_int ?_
  | with_reducible refine w_ty ?_
  | with_reducible refine w_op ?_
  | with_reducible refine w_cb ?_
  | with_reducible refine w_call ?_
  | with_reducible refine a_cons ?_
  | with_reducible refine a_nil ?_
  | with_reducible refine o_sub ?_
  | with_reducible refine o_plusI ?_
  | ((with_reducible refine' o_ixTu ?pfh ?_); (case pfh => rfl))
  | ((with_reducible refine' o_ixLi ?pfh ?_); (case pfh => rfl))
  | ((with_reducible refine' o_ixKe ?pfh ?_); (case pfh => rfl))
  | with_reducible refine w_bl ?_
  | with_reducible refine w_non ?_
  | with_reducible refine w_str ?_
  | with_reducible refine w_un ?_
  | with_reducible refine w_fld ?_
  | with_reducible refine w_meth ?_
  | with_reducible refine t_test ?_
  | with_reducible refine t_B ?_
  | with_reducible refine t_and ?_
  | with_reducible refine t_or ?_
  | with_reducible refine t_not ?_
  | with_reducible refine w_andV ?_
  | with_reducible refine w_orV ?_
  | with_reducible refine w_notV ?_
  | with_reducible refine w_if ?_
  | with_reducible refine w_chain ?_
  | with_reducible refine o_lt ?_
  | with_reducible refine o_gt ?_
  | with_reducible refine o_le ?_
  | with_reducible refine o_ge ?_
  | with_reducible refine o_equI ?_
  | with_reducible refine o_neqI ?_
  | with_reducible refine o_neg ?_
  | with_reducible refine c_abs ?_
  | with_reducible refine c_int ?_
  | with_reducible refine g_asg ?_
  | with_reducible refine g_drop ?_
  | with_reducible refine g_if ?_
  | with_reducible refine g_next ?_
  | with_reducible refine g_assoc ?_
  | with_reducible refine g_retS ?_
  | with_reducible refine exbl ?_
  | with_reducible refine tT ?_
  | with_reducible refine tF ?_
  | with_reducible refine tNT ?_
  | with_reducible refine tNF ?_
  | ((with_reducible refine' ifpB ?pfh ?_); (case pfh => rfl))
  | ((with_reducible refine' ifnB ?pfh ?_); (case pfh => rfl)))
local macro_rules | `(tactic| walk_at "fl") => `(tactic| first
  | refine ⟨_, _, _, rfl, Tp.cl_Plank ‹_›, Tp.n_long ‹_›, rfl, ?_⟩
  | refine ⟨_, _, _, rfl, Tp.cl_Plank ‹_›, Tp.n_stakes ‹_›, rfl, ?_⟩
  | refine ⟨_, _, _, rfl, Tp.cl_Plank ‹_›, Tp.n_limit ‹_›, rfl, ?_⟩
  | refine ⟨_, _, _, rfl, Tp.cl_Loads ‹_›, Tp.n_plank ‹_›, rfl, ?_⟩
  | refine ⟨_, _, _, rfl, Tp.cl_Loads ‹_›, Tp.n_weights ‹_›, rfl, ?_⟩
  | refine ⟨_, _, _, rfl, Tp.cl_Loads ‹_›, Tp.n_known ‹_›, rfl, ?_⟩
  | refine ⟨_, _, _, rfl, Tp.cl_Loads ‹_›, Tp.n_over ‹_›, rfl, ?_⟩)
local macro_rules | `(tactic| walk_at "pf") => `(tactic| repeat (walk_at "pf1"))

def keyU (n : Nat) : List (List Key) := (List.range (n + 2)).flatMap fun (a : Nat) => (List.range (n + 2)).flatMap fun (b : Nat) => (List.range (n + 2)).map fun (c : Nat) => ik [(a : Int) - 1, (b : Int) - 1, (c : Int) - 1]
theorem keyU_mem {n : Nat} {a b c : Int} (h1 : -1 ≤ a) (h2 : a ≤ n) (h3 : -1 ≤ b) (h4 : b ≤ n) (h5 : -1 ≤ c) (h6 : c ≤ n) : ik [a, b, c] ∈ keyU n := by
  unfold keyU
  refine List.mem_flatMap.mpr ⟨(a + 1).toNat, List.mem_range.mpr (by omega), List.mem_flatMap.mpr ⟨(b + 1).toNat, List.mem_range.mpr (by omega), List.mem_map.mpr ⟨(c + 1).toNat, List.mem_range.mpr (by omega), ?_⟩⟩⟩
  have e1 : (((a + 1).toNat : Nat) : Int) - 1 = a := by omega
  have e2 : (((b + 1).toNat : Nat) : Int) - 1 = b := by omega
  have e3 : (((c + 1).toNat : Nat) : Int) - 1 = c := by omega
  rw [e1, e2, e3]
theorem keyU_len {n : Nat} (h : n ≤ 5) : (keyU n).length < 1000 := by
  match n, h with
  | 0, _ => decide +kernel
  | 1, _ => decide +kernel
  | 2, _ => decide +kernel
  | 3, _ => decide +kernel
  | 4, _ => decide +kernel
  | 5, _ => decide +kernel
theorem nodup_len {α : Type} [DecidableEq α] : ∀ {l U : List α}, l.Nodup → (∀ x ∈ l, x ∈ U) → l.length ≤ U.length
  | [], _, _, _ => Nat.zero_le _
  | x :: l, U, hn, h => by
    have hx := h x List.mem_cons_self
    have hn' := List.nodup_cons.mp hn
    have := nodup_len (l := l) (U := U.erase x) hn'.2 fun y hy => (List.mem_erase_of_ne (fun e => hn'.1 (by rw [← e]; exact hy))).mpr (h y (List.mem_cons_of_mem _ hy))
    rw [List.length_erase_of_mem hx] at this
    have hp := List.length_pos_of_mem hx
    rw [List.length_cons]
    omega
def memoK (w : Wd) : List Key → D
  | [.inl a, .inl b, .inl c] => fr (w.ld a b c)
  | _ => .non
def memoO (w : Wd) : List Key → D
  | [.inl a, .inl b, .inl c] => .bl (decide (w.str b < w.ld a b c))
  | _ => .non
abbrev ceK (w : Wd) : Cel := .memo (keyU w.n) (memoK w)
abbrev ceO (w : Wd) : Cel := .memo (keyU w.n) (memoO w)
abbrev ldF (CP : Addr) (w : Wd) (kd od : Addr) : List (Str × D) := [("plank", plD CP w), ("weights", .lst (w.hs.map wtD)), ("known", .cell kd), ("over", .cell od)]
abbrev ldD (CP CL : Addr) (w : Wd) (kd od : Addr) : D := .obj CL (ldF CP w kd od)
theorem g_nd {K : PySem.W.Frag} {S : Sig K} {mk : List Hp} {ρ : En} {Γ : Ctx} {N : En → Ctx → Prop} {ts : TS} (h : Γ.ad.Nodup → Goes S mk N ts ρ Γ) : Goes S mk N ts ρ Γ := fun E hE hN B H σ a => h a.ok.nd E hE hN B H σ a
def pLoads (CP CL : Addr) : Ctx → List D → (Ctx → D → Prop) → Prop := fun Γ ds R => ∃ (w : Wd) (x : Addr) (cs : List (Addr × Cel)) (z : List Addr), ds = [.cell x, plD CP w, .lst (w.hs.map wtD)] ∧ Γ = ⟨(x, .ins CL []) :: cs, z⟩ ∧
  ∀ kd od, kd ≠ od → R ⟨(x, .ins CL (ldF CP w kd od)) :: (od, ceO w) :: (kd, ceK w) :: cs, z⟩ .non
abbrev N_Loads_init : List Str := ["self", "plank", "weights"]
theorem sc_Loads_init : FnScope N_Loads_init ["self", "plank", "weights"] (defScope s_Loads_init) := ⟨rfl, rfl, rfl, by decide +kernel, rfl, by decide +kernel, by decide +kernel⟩
theorem ok_Loads_init {P : Program} {w : World} {K : PySem.W.Frag} {mg : Str → Option Value} {base : Heap} {aN aO CP CL : Addr} (T : Tp K mg aN aO CP CL)   {f : Addr} {fd : FuncData} (F : FunD K "__init__" "Loads.__init__" (defArgs s_Loads_init) (defBody s_Loads_init) (defScope s_Loads_init) [] [] f fd) : FnOk P w K mg base CX0 1 f fd ["self", "plank", "weights"] (SpX K (pLoads CP CL)) := by
  refine okX F sc_Loads_init (by intro Γ ds R h; repeat' (first | (obtain ⟨e, _⟩ := h; subst e; rfl) | (obtain ⟨_, h⟩ := h))) (fun cdv A outer s H E hr => ?_)
  refine ⟨_, (pss_cons (ps_fld (pv 0) (pv 1) rfl)
      (pss_cons (ps_fld (pv 0) (pv 2) rfl)
      (pss_cons (ps_fld (pv 0) pe_dnewT rfl)
      (pss_one (ps_fld (pv 0) pe_dnewT rfl))))), ?_⟩
  try dsimp only [cxOf, Cx.nox, Cx.wish]
  rintro S ds ⟨w, x, cs, z, rfl, hΓ, hR⟩
  rw [hΓ]
  show Goes S [] (nEnd S) _ [some (.cell x), some (plD CP w), some (.lst (w.hs.map wtD))] _
  refine g_fld T.cl_Loads T.n_plank (by decide) ?_
  walk_at "pf"
  refine ⟨rfl, ?_⟩
  refine g_fld T.cl_Loads T.n_weights len1 ?_
  walk_at "pf"
  refine ⟨rfl, ?_⟩
  refine g_fldMemo (keyU w.n) (memoK w) T.cl_Loads T.n_known len2 rfl fun kd => ?_
  refine g_one (g_fldMemo (keyU w.n) (memoO w) T.cl_Loads T.n_over len3 rfl fun od => g_nd fun nd => g_done ?_)
  refine hR kd od fun e => ?_
  have h1 := (List.nodup_cons.mp (show (x :: od :: kd :: cs.map (·.1)).Nodup from nd)).2
  exact (List.nodup_cons.mp h1).1 (by rw [e]; exact List.mem_cons_self)
def pLoadsOf (CP CL : Addr) : Ctx → List D → (Ctx → D → Prop) → Prop := fun Γ ds R => ∃ w : Wd, ds = [plD CP w, .lst (w.hs.map wtD)] ∧ w.Ok ∧
  ∀ kd od, kd ≠ od → R ⟨(od, ceO w) :: (kd, ceK w) :: Γ.c, Γ.z⟩ (ldD CP CL w kd od)
abbrev N_loads_of : List Str := ["plank", "weights"]
theorem sc_loads_of : FnScope N_loads_of ["plank", "weights"] (defScope s_loads_of) := ⟨rfl, rfl, rfl, by decide +kernel, rfl, by decide +kernel, by decide +kernel⟩
theorem ok_loads_of {P : Program} {w : World} {K : PySem.W.Frag} {mg : Str → Option Value} {base : Heap} {aN aO CP CL : Addr} (T : Tp K mg aN aO CP CL)  (C_Loads : Fc P w K mg base "Loads" CL ["self", "plank", "weights"] 1 (SpX K (pLoads CP CL)) []) (F_check_weights : Fk P w K mg base "check_weights" ["plank", "thing"] 6 (SpG K (pCheckWeights CP))) {f : Addr} {fd : FuncData} (F : FunD K "loads_of" "loads_of" (defArgs s_loads_of) (defBody s_loads_of) (defScope s_loads_of) [] [] f fd) : FnOk P w K mg base CX0 8 f fd ["plank", "weights"] (SpX K (pLoadsOf CP CL)) := by
  refine okX F sc_loads_of (by intro Γ ds R h; repeat' (first | (obtain ⟨e, _⟩ := h; subst e; rfl) | (obtain ⟨_, h⟩ := h))) (fun cdv A outer s H E hr => ?_)
  refine ⟨_, (pss_cons (ps_expr (pe_F F_check_weights (hr.mono (by decide)) rfl (pa_cons (pv 0) (pa_cons (pv 1) pa_nil))))
      (pss_one (ps_ret (pe_C C_Loads (hr.mono (by decide)) rfl (pa_cons (pv 0) (pa_cons (pe_callTy (call_list_ofK (K := K) rfl) (by rfl) T.b_list bt_list (pa_cons (pv 1) pa_nil)) pa_nil)))))), ?_⟩
  try dsimp only [cxOf, Cx.nox, Cx.wish]
  rintro S ds ⟨w, rfl, ok, hR⟩
  show Goes S [] (nEnd S) _ [some (plD CP w), some (.lst (w.hs.map wtD))] S.C0
  walk_at "pf"
  refine ⟨w, rfl, ok, ?_⟩
  refine g_retMake ?_
  walk_at "pf"
  refine c_list (.inl rfl) ?_
  walk_at "pf"
  intro x
  exact ⟨w, x, _, _, rfl, rfl, fun kd od hne => ⟨_, _, rfl, rfl, hR kd od hne⟩⟩
def Tri (w : Wd) (l r e : Int) : Prop := -1 ≤ l ∧ l < r ∧ r < e ∧ e ≤ (w.n : Int)
def pShare (CP CL : Addr) : PT_ := fun Γ ds R => ∃ (w : Wd) (kd od : Addr) (l r e : Int) (q : Rat), ds = [ldD CP CL w kd od, .int l, .int r, .int e, fr q] ∧ w.Ok ∧ Tri w l r e ∧ Sz 2200 q ∧ R (fr (w.sh l r e q))
theorem rlt_trans {a b c : Rat} (h : a < b) (k : b < c) : a < c := by grind
theorem shr_here {a b c : Int} (h : a < b) : shr a b c (b : Rat) = 1 := by
  have h1 : ((a : Int) : Rat) < (b : Rat) := Rat.intCast_lt_intCast.mpr h
  unfold shr
  rw [if_pos ⟨h1, Rat.lt_irrefl⟩, ← Rat.intCast_sub]
  have : ((b - a : Int) : Rat) ≠ 0 := by
    intro e
    have e2 : ((b - a : Int) : Rat) = ((0 : Int) : Rat) := e
    have := Rat.intCast_inj.mp e2
    omega
  rw [Rat.div_def, Rat.mul_inv_cancel _ this]
theorem shr_right {a b c : Int} {q : Rat} (h : b < c) (hq : ¬ q < (b : Rat)) (hne : q ≠ (b : Rat)) (hc : q < (c : Rat)) : shr a b c q = 1 - (q - b) / ((c - b : Int) : Rat) := by
  have hb : (b : Rat) < q := by
    rcases Rat.le_total (a := q) (b := (b : Rat)) with h1 | h1
    · exact absurd (Rat.le_antisymm h1 (Rat.not_lt.mp hq)) hne
    · exact Rat.lt_of_le_of_ne h1 fun e => hne e.symm
  unfold shr
  rw [if_neg (fun z => z.2 hb), if_pos ⟨hb, hc⟩]
  have hd : ((c - b : Int) : Rat) ≠ 0 := by
    intro e
    have e2 : ((c - b : Int) : Rat) = ((0 : Int) : Rat) := e
    have := Rat.intCast_inj.mp e2
    omega
  have e1 : (c : Rat) - q = ((c - b : Int) : Rat) - (q - b) := by rw [Rat.intCast_sub]; grind
  rw [e1, Rat.div_def, Rat.sub_eq_add_neg, Rat.add_mul, Rat.mul_inv_cancel _ hd, Rat.neg_mul, ← Rat.div_def, ← Rat.sub_eq_add_neg]
abbrev N_Loads_share : List Str := ["self", "left", "rest", "right", "spot", "here", "low", "high"]
theorem sc_Loads_share : FnScope N_Loads_share ["self", "left", "rest", "right", "spot"] (defScope s_Loads_share) := ⟨rfl, rfl, rfl, by decide +kernel, rfl, by decide +kernel, by decide +kernel⟩
theorem ok_Loads_share {P : Program} {w : World} {K : PySem.W.Frag} {mg : Str → Option Value} {base : Heap} {aN aO CP CL : Addr} (T : Tp K mg aN aO CP CL)  (F_is_below : Fk P w K mg base "is_below" ["one", "other"] 1 (SpG K (pBelow))) (F_less : Fk P w K mg base "less" ["one", "other"] 3 (SpG K (pLess))) (F_slope : Fk P w K mg base "slope" ["low", "high", "spot"] 4 (SpG K (pSlope))) (F_whole : Fk P w K mg base "whole" ["number"] 1 (SpG K (pWhole))) (M_Plank_count : Fm P w K mg base CP "count" ["self"] 1 (SpG K (pCount CP))) (M_Plank_place_of : Fm P w K mg base CP "place_of" ["self", "rest"] 2 (SpG K (pPlaceOf CP))) {f : Addr} {fd : FuncData} (F : FunD K "share" "Loads.share" (defArgs s_Loads_share) (defBody s_Loads_share) (defScope s_Loads_share) [] [] f fd) : FnOk P w K mg base CX0 5 f fd ["self", "left", "rest", "right", "spot"] (SpG K (pShare CP CL)) := by
  refine okG F sc_Loads_share (by intro Γ ds R h; repeat' (first | (obtain ⟨e, _⟩ := h; subst e; rfl) | (obtain ⟨_, h⟩ := h))) (fun cdv A outer s H E hr => ?_)
  refine ⟨_, (pss_cons (ps_set (i := 5) sc_Loads_share.nd rfl (by first | exact Or.inl rfl | exact Or.inr rfl) (pe_M M_Plank_place_of T.cl_Plank (hr.mono (by decide)) (pe_fldK (K := K) rfl (pv 0) rfl) (pa_cons (pv 2) pa_nil)))
      (pss_cons (ps_if (pt_cmpR (op_equK (K := K) rfl hr.units) (pv 4) (pe_F F_whole (hr.mono (by decide)) rfl (pa_cons (pv 5) pa_nil)) (nomark _)) 
          (pss_one (ps_ret (pe_gref rfl T.g_ONE))) pss_nil)
      (pss_cons (ps_if (pt_val (pe_F F_is_below (hr.mono (by decide)) rfl (pa_cons (pv 4) (pa_cons (pe_F F_whole (hr.mono (by decide)) rfl (pa_cons (pv 5) pa_nil)) pa_nil))) (by intro _; rfl)) 
          (pss_cons (ps_set (i := 6) sc_Loads_share.nd rfl (by first | exact Or.inl rfl | exact Or.inr rfl) (pe_ifExp (pt_cmpR (op_equK (K := K) rfl hr.units) (pv 2) (pe_gint rfl T.g_LEFT_WALL) (nomark _)) pe_non (pe_M M_Plank_place_of T.cl_Plank (hr.mono (by decide)) (pe_fldK (K := K) rfl (pv 0) rfl) (pa_cons (pv 1) pa_nil))))
          (pss_cons (ps_if (PW.pt (pw_or (pt_cmpR op_isN (pv 6) pe_non (nomark _)) (pw_or1 (pt_not (pt_val (pe_F F_is_below (hr.mono (by decide)) rfl (pa_cons (pe_F F_whole (hr.mono (by decide)) rfl (pa_cons (pv 6) pa_nil)) (pa_cons (pv 4) pa_nil))) (by intro _; rfl)))))) 
              (pss_one (ps_ret (pe_gref rfl T.g_NOUGHT))) pss_nil)
          (pss_one (ps_ret (pe_F F_slope (hr.mono (by decide)) rfl (pa_cons (pv 6) (pa_cons (pv 5) (pa_cons (pv 4) pa_nil)))))))) pss_nil)
      (pss_cons (ps_set (i := 7) sc_Loads_share.nd rfl (by first | exact Or.inl rfl | exact Or.inr rfl) (pe_ifExp (pt_cmpR (op_equK (K := K) rfl hr.units) (pv 2) (pe_M0 M_Plank_count T.cl_Plank (hr.mono (by decide)) (pe_fldK (K := K) rfl (pv 0) rfl)) (nomark _)) pe_non (pe_M M_Plank_place_of T.cl_Plank (hr.mono (by decide)) (pe_fldK (K := K) rfl (pv 0) rfl) (pa_cons (pv 3) pa_nil))))
      (pss_cons (ps_if (PW.pt (pw_or (pt_cmpR op_isN (pv 7) pe_non (nomark _)) (pw_or1 (pt_not (pt_val (pe_F F_is_below (hr.mono (by decide)) rfl (pa_cons (pv 4) (pa_cons (pe_F F_whole (hr.mono (by decide)) rfl (pa_cons (pv 7) pa_nil)) pa_nil))) (by intro _; rfl)))))) 
          (pss_one (ps_ret (pe_gref rfl T.g_NOUGHT))) pss_nil)
      (pss_one (ps_ret (pe_F F_less (hr.mono (by decide)) rfl (pa_cons (pe_gref rfl T.g_ONE) (pa_cons (pe_F F_slope (hr.mono (by decide)) rfl (pa_cons (pv 5) (pa_cons (pv 7) (pa_cons (pv 4) pa_nil)))) pa_nil)))))))))), ?_⟩
  try dsimp only [cxOf, Cx.nox, Cx.wish]
  rintro S ds ⟨w, kd, od, l, r, e, q, rfl, ok, ht, hq, hR⟩
  show Goes S [] (nEnd S) _ [some (ldD CP CL w kd od), some (.int l), some (.int r), some (.int e), some (fr q), none, none, none] S.C0
  obtain ⟨t1, t2, t3, t4⟩ := ht
  have hn := ok.hn
  have pr : w.Rest r := ⟨by omega, by omega⟩
  walk_at "pf"
  walk_at "fl"
  refine ⟨_, rfl, rfl, ?_⟩
  walk_at "pf"
  refine ⟨w, r, rfl, pr, ?_⟩
  walk_at "pf"
  refine ⟨_, rfl, ?_⟩
  refine o_equD (fr_pl q) (fr_pl _) (by decide) (by decide) fun b hb => ?_
  refine ⟨_, rfl, ?_⟩
  have hin : (q = ((w.pos r : Int) : Rat)) ↔ b = true := ⟨fun z => hb.mpr (by rw [z]), fun z => fr_inj (hb.mp z)⟩
  have hlr := ok.pos_lt t1 (by omega) t2
  have hre := ok.pos_lt (a := r) (b := e) (by omega) t4 t3
  have sr := ok.pos_sz (a := r) (by omega) (by omega)
  have sl := ok.pos_sz (a := l) t1 (by omega)
  have se := ok.pos_sz (a := e) (by omega) t4
  have bl' := ok.pos_bd (a := l) t1 (by omega)
  have br' := ok.pos_bd (a := r) (by omega) (by omega)
  have be' := ok.pos_bd (a := e) (by omega) t4
  have hL := ok.hL
  have e8 : (2 : Nat) ^ 8 = 256 := by decide
  have hsm := hq.sm (by decide)
  cases b with
  | true =>
    have hqe := hin.mpr rfl
    refine tT ?_
    refine g_retS (g_ret (w_gtup T.t_ONE ?_) Cov.refl)
    unfold Wd.sh at hR
    rw [hqe, shr_here hlr] at hR
    exact hR
  | false =>
    have hqe : ¬ q = ((w.pos r : Int) : Rat) := fun z => absurd (hin.mp z) (by decide)
    refine tF ?_
    walk_at "pf"
    refine ⟨_, rfl, ?_⟩
    walk_at "pf"
    refine ⟨_, _, rfl, hsm, sr.sm (by decide), ?_⟩
    refine ⟨_, rfl, ?_⟩
    by_cases hlt : q < ((w.pos r : Int) : Rat)
    · rw [decide_eq_true hlt]
      walk_at "pf"
      refine ifnB (decide_eq_false (by omega)) ?_
      walk_at "pf"
      walk_at "fl"
      refine ⟨_, rfl, rfl, ?_⟩
      walk_at "pf"
      refine ⟨w, l, rfl, ⟨by omega, by omega⟩, ?_⟩
      walk_at "pf"
      refine o_isN ?_
      walk_at "pf"
      refine ⟨_, rfl, ?_⟩
      walk_at "pf"
      refine ⟨_, _, rfl, sl.sm (by decide), hsm, ?_⟩
      refine ⟨_, rfl, ?_⟩
      unfold Wd.sh shr at hR
      by_cases hlo : ((w.pos l : Int) : Rat) < q
      · rw [decide_eq_true hlo]
        walk_at "pf"
        rw [if_pos ⟨hlo, fun z => Rat.lt_irrefl (rlt_trans hlt z)⟩] at hR
        refine g_retS (g_ret ?_ Cov.refl)
        walk_at "pf"
        exact ⟨_, _, _, rfl, hlr, by omega, by omega, hq, hR⟩
      · rw [decide_eq_false hlo]
        walk_at "pf"
        rw [if_neg (fun z => hlo z.1), if_neg (fun z => Rat.lt_irrefl (rlt_trans hlt z.1))] at hR
        exact g_retS (g_ret (w_gtup T.t_NOUGHT hR) Cov.refl)
    · rw [decide_eq_false hlt]
      walk_at "pf"
      walk_at "fl"
      refine ⟨_, rfl, rfl, ?_⟩
      walk_at "pf"
      refine ⟨w, rfl, ?_⟩
      walk_at "pf"
      refine ifnB (decide_eq_false (by omega)) ?_
      walk_at "pf"
      walk_at "fl"
      refine ⟨_, rfl, rfl, ?_⟩
      walk_at "pf"
      refine ⟨w, e, rfl, ⟨by omega, by omega⟩, ?_⟩
      walk_at "pf"
      refine o_isN ?_
      walk_at "pf"
      refine ⟨_, rfl, ?_⟩
      walk_at "pf"
      refine ⟨_, _, rfl, hsm, se.sm (by decide), ?_⟩
      refine ⟨_, rfl, ?_⟩
      unfold Wd.sh at hR
      by_cases hhi : q < ((w.pos e : Int) : Rat)
      · rw [decide_eq_true hhi]
        walk_at "pf"
        rw [shr_right hre hlt hqe hhi] at hR
        refine g_ret ?_ Cov.refl
        walk_at "pf"
        refine w_gtup T.t_ONE ?_
        walk_at "pf"
        refine ⟨_, _, _, rfl, hre, by omega, by omega, hq, ?_⟩
        walk_at "pf"
        refine ⟨1, _, rfl, Sz.one.sm (by decide), ?_, hR⟩
        exact ((hq.sub sr).div (diff_sz ok (by omega) t4 t3).1 (diff_sz ok (by omega) t4 t3).2).sm (by decide)
      · rw [decide_eq_false hhi]
        walk_at "pf"
        unfold shr at hR
        rw [if_neg (fun z => hlt.elim ?_), if_neg (fun z => hhi z.2)] at hR
        · exact g_retS (g_ret (w_gtup T.t_NOUGHT hR) Cov.refl)
        · exact absurd (Rat.le_antisymm (Rat.not_lt.mp z.2) (Rat.not_lt.mp hlt)) hqe
end PF
end
section
set_option Elab.async false
set_option linter.all false
set_option maxRecDepth 100000
set_option maxHeartbeats 2000000
namespace PF
open PySem PySem.Spec L2 RZ
local macro_rules | `(tactic| walk_at "pf1") => `(tactic| first
  | ((with_reducible refine' w_var ?pfh ?_); (case pfh => rfl))
  | with_reducible refine w_int ?_
  | with_reducible refine w_ty ?_
  | with_reducible refine w_op ?_
  | with_reducible refine w_cb ?_
  | with_reducible refine w_call ?_
  | with_reducible refine a_cons ?_
  | with_reducible refine a_nil ?_
  | with_reducible refine o_sub ?_
  | with_reducible refine o_plusI ?_
  | ((with_reducible refine' o_ixTu ?pfh ?_); (case pfh => rfl))
  | ((with_reducible refine' o_ixLi ?pfh ?_); (case pfh => rfl))
  | ((with_reducible refine' o_ixKe ?pfh ?_); (case pfh => rfl))
  | with_reducible refine w_bl ?_
  | with_reducible refine w_non ?_
  | with_reducible refine w_str ?_
  | with_reducible refine w_un ?_
  | with_reducible refine w_fld ?_
  | with_reducible refine w_meth ?_
  | with_reducible refine t_test ?_
  | with_reducible refine t_B ?_
  | with_reducible refine t_and ?_
  | with_reducible refine t_or ?_
  | with_reducible refine t_not ?_
  | with_reducible refine w_andV ?_
  | with_reducible refine w_orV ?_
  | with_reducible refine w_notV ?_
  | with_reducible refine w_if ?_
  | with_reducible refine w_chain ?_
  | with_reducible refine o_lt ?_
  | with_reducible refine o_gt ?_
  | with_reducible refine o_le ?_
  | with_reducible refine o_ge ?_
  | with_reducible refine o_equI ?_
  | with_reducible refine o_neqI ?_
  | with_reducible refine o_neg ?_
  | with_reducible refine c_abs ?_
  | with_reducible refine c_int ?_
  | with_reducible refine g_asg ?_
  | with_reducible refine g_drop ?_
  | with_reducible refine g_if ?_
  | with_reducible refine g_next ?_
  | with_reducible refine g_assoc ?_
  | with_reducible refine g_retS ?_
  | with_reducible refine exbl ?_
  | with_reducible refine tT ?_
  | with_reducible refine tF ?_
  | with_reducible refine tNT ?_
  | with_reducible refine tNF ?_
  | ((with_reducible refine' ifpB ?pfh ?_); (case pfh => rfl))
  | ((with_reducible refine' ifnB ?pfh ?_); (case pfh => rfl)))
local macro_rules | `(tactic| walk_at "fl") => `(tactic| first
  | refine ⟨_, _, _, rfl, Tp.cl_Plank ‹_›, Tp.n_long ‹_›, rfl, ?_⟩
  | refine ⟨_, _, _, rfl, Tp.cl_Plank ‹_›, Tp.n_stakes ‹_›, rfl, ?_⟩
  | refine ⟨_, _, _, rfl, Tp.cl_Plank ‹_›, Tp.n_limit ‹_›, rfl, ?_⟩
  | refine ⟨_, _, _, rfl, Tp.cl_Loads ‹_›, Tp.n_plank ‹_›, rfl, ?_⟩
  | refine ⟨_, _, _, rfl, Tp.cl_Loads ‹_›, Tp.n_weights ‹_›, rfl, ?_⟩
  | refine ⟨_, _, _, rfl, Tp.cl_Loads ‹_›, Tp.n_known ‹_›, rfl, ?_⟩
  | refine ⟨_, _, _, rfl, Tp.cl_Loads ‹_›, Tp.n_over ‹_›, rfl, ?_⟩)
local macro_rules | `(tactic| walk_at "pf") => `(tactic| repeat (walk_at "pf1"))

theorem map_snoc {α β : Type} {f : α → β} {xs : List α} {i : Nat} {x : α} (h : xs[i]? = some x) : (xs.take i).map f ++ [f x] = (xs.take (i + 1)).map f := by
  rw [take_succ h, List.map_append]
  rfl
theorem putD_new {κ : Type} [DecidableEq κ] {kvs : List (κ × D)} {k : κ} {d : D} (h : k ∉ kvs.map (·.1)) : putD kvs k d = kvs ++ [(k, d)] := by
  unfold putD
  rw [if_neg]
  intro h2
  obtain ⟨x, hx, e⟩ := List.any_eq_true.mp h2
  exact h (List.mem_map.mpr ⟨x, hx, by simpa using e⟩)
theorem lookD_mem {κ : Type} [DecidableEq κ] {kvs : List (κ × D)} {k : κ} {F : κ → D} (h : k ∈ kvs.map (·.1)) (hF : ∀ q ∈ kvs, q.2 = F q.1) : lookD kvs k = some (F k) := by
  unfold lookD
  obtain ⟨x, hx, e⟩ := List.mem_map.mp h
  cases hf : kvs.find? fun kv => decide (kv.1 = k) with
  | none => exact absurd (List.find?_eq_none.mp hf x hx) (by simpa using e)
  | some y =>
    have h1 := List.mem_of_find?_eq_some hf
    have h2 := List.find?_some hf
    have h3 : y.1 = k := by simpa using h2
    rw [Option.map_some, hF y h1, h3]
def MemoOk (U : List (List Key)) (F : List Key → D) (kvs : List (List Key × D)) : Prop := (kvs.map (·.1)).Nodup ∧ ∀ q ∈ kvs, q.1 ∈ U ∧ q.2 = F q.1
theorem MemoOk.put {U : List (List Key)} {F : List Key → D} {kvs : List (List Key × D)} {k : List Key} (h : MemoOk U F kvs) (hk : k ∉ kvs.map (·.1)) (hu : k ∈ U) : MemoOk U F (putD kvs k (F k)) ∧ k ∈ (putD kvs k (F k)).map (·.1) := by
  rw [putD_new hk]
  refine ⟨⟨?_, fun q hq => ?_⟩, by simp⟩
  · rw [List.map_append]
    refine List.nodup_append.mpr ⟨h.1, by simp, fun a ha b hb e => ?_⟩
    rw [List.map_cons, List.map_nil, List.mem_singleton] at hb
    subst e
    subst hb
    exact hk ha
  · rcases List.mem_append.mp hq with hq | hq
    · exact h.2 q hq
    · rw [List.mem_singleton.mp hq]
      exact ⟨hu, rfl⟩
theorem MemoOk.len {U : List (List Key)} {F : List Key → D} {kvs : List (List Key × D)} (h : MemoOk U F kvs) (hu : U.length < 1000) : kvs.length < 1000 := by
  have := nodup_len (l := kvs.map (·.1)) (U := U) h.1 fun x hx => by
    obtain ⟨q, hq, e⟩ := List.mem_map.mp hx
    rw [← e]
    exact (h.2 q hq).1
  rw [List.length_map] at this
  omega
theorem tri_U {w : Wd} {l r e : Int} (t : Tri w l r e) : ik [l, r, e] ∈ keyU w.n := by
  obtain ⟨t1, t2, t3, t4⟩ := t
  exact keyU_mem t1 (by omega) (by omega) (by omega) (by omega) t4
def pLies (CP CL : Addr) : PT_ := fun Γ ds R => ∃ (w : Wd) (kd od : Addr) (l r e : Int), ds = [ldD CP CL w kd od, .int l, .int r, .int e] ∧ w.Ok ∧ Tri w l r e ∧ (kd, ceK w) ∈ Γ.c ∧ R (fr (w.ld l r e))
abbrev N_Loads_lies_on : List Str := ["self", "left", "rest", "right", "key", "some", "spot", "weight"]
theorem sc_Loads_lies_on : FnScope N_Loads_lies_on ["self", "left", "rest", "right"] (defScope s_Loads_lies_on) := ⟨rfl, rfl, rfl, by decide +kernel, rfl, by decide +kernel, by decide +kernel⟩
theorem ok_Loads_lies_on {P : Program} {w : World} {K : PySem.W.Frag} {mg : Str → Option Value} {base : Heap} {aN aO CP CL : Addr} (T : Tp K mg aN aO CP CL)  (F_sum_of : Fk P w K mg base "sum_of" ["some"] 4 (SpG K (pSum))) (F_times : Fk P w K mg base "times" ["one", "other"] 3 (SpG K (pTimes))) (M_Loads_share : Fm P w K mg base CL "share" ["self", "left", "rest", "right", "spot"] 5 (SpG K (pShare CP CL))) {f : Addr} {fd : FuncData} (F : FunD K "lies_on" "Loads.lies_on" (defArgs s_Loads_lies_on) (defBody s_Loads_lies_on) (defScope s_Loads_lies_on) [] [] f fd) : FnOk P w K mg base CX0 6 f fd ["self", "left", "rest", "right"] (SpG K (pLies CP CL)) := by
  refine okG F sc_Loads_lies_on (by intro Γ ds R h; repeat' (first | (obtain ⟨e, _⟩ := h; subst e; rfl) | (obtain ⟨_, h⟩ := h))) (fun cdv A outer s H E hr => ?_)
  refine ⟨_, (pss_cons (ps_set (i := 4) sc_Loads_lies_on.nd rfl (by first | exact Or.inl rfl | exact Or.inr rfl) (pe_tup (pa_cons (pv 1) (pa_cons (pv 2) (pa_cons (pv 3) pa_nil)))))
      (pss_cons (ps_if (pt_cmp (pc_dnotin (hu_of hr) (pv 4) (pe_fldK (K := K) rfl (pv 0) rfl)) (by rfl)) 
          (pss_cons (ps_setLc (i := 5) (own := [("spot", 6), ("weight", 7)]) rfl sc_Loads_lies_on.nd rfl rfl (sw_true rfl rfl rfl (by decide +kernel)) (pi_listK (K := K) rfl (pe_fldK (K := K) rfl (pv 0) rfl)) (blkOk_by (own := [("spot", 6), ("weight", 7)]) (N := N_Loads_lies_on) (sc := defScope s_Loads_lies_on) (by decide +kernel)) (fun _ _ _ _ _ => (pg_tupK (K := K) (n := 2) rfl rfl (pgs_cons (pg_name (i := 6) sc_Loads_lies_on.nd rfl (by first | exact Or.inl rfl | exact Or.inr rfl)) (pgs_cons (pg_name (i := 7) sc_Loads_lies_on.nd rfl (by first | exact Or.inl rfl | exact Or.inr rfl)) pgs_nil)))) (fun _ _ _ _ _ => pts_nil) (fun _ _ _ _ _ => (pe_F F_times (hr.mono (by decide)) rfl (pa_cons (pv 7) (pa_cons (pe_M M_Loads_share T.cl_Loads (hr.mono (by decide)) (pv 0) (pa_cons (pv 1) (pa_cons (pv 2) (pa_cons (pv 3) (pa_cons (pv 6) pa_nil))))) pa_nil)))))
          (pss_one (ps_dput (hu_of hr) (pe_fldK (K := K) rfl (pv 0) rfl) (pv 4) (pe_F F_sum_of (hr.mono (by decide)) rfl (pa_cons (pv 5) pa_nil)) rfl))) pss_nil)
      (pss_one (ps_ret (pe_dget (hu_of hr) (pe_fldK (K := K) rfl (pv 0) rfl) (pv 4) (fun _ _ => rfl)))))), ?_⟩
  try dsimp only [cxOf, Cx.nox, Cx.wish]
  rintro S ds ⟨w, kd, od, l, r, e, rfl, ok, ht, hm, hR⟩
  show Goes S [] (nEnd S) _ [some (ldD CP CL w kd od), some (.int l), some (.int r), some (.int e), none, none, none, none] S.C0
  obtain ⟨cr, hp⟩ := perm_front hm
  refine g_perm (c := S.C0.c) (z := S.C0.z) hp.symm ?_
  refine g_openMemo fun kvs hnd hq => ?_
  have mo : MemoOk (keyU w.n) (memoK w) kvs := ⟨hnd, hq⟩
  have hU := keyU_len ok.hn
  have hkey : memoK w (ik [l, r, e]) = fr (w.ld l r e) := rfl
  have fin : ∀ (kvs' : List (List Key × D)) (ρ : En), MemoOk (keyU w.n) (memoK w) kvs' → ik [l, r, e] ∈ kvs'.map (·.1) → ρ[0]? = some (some (ldD CP CL w kd od)) → ρ[4]? = some (some (.key [l, r, e])) → Goes S [] (nEnd S) (tRet (tDGet (tFld K (tVar 0) "known") (tVar 4))) ρ ⟨(kd, .dT kvs') :: cr, S.C0.z⟩ := by
    intro kvs' ρ mo' hin h0 h4
    refine g_ret ?_ ((Cov.closeMemo mo'.1 mo'.2).trans (Cov.perm hp))
    refine w_dgetTc ?_
    refine w_fld (w_var h0 ?_)
    walk_at "fl"
    refine w_var h4 ?_
    refine ⟨_, _, rfl, rfl, lookD_mem hin fun q hq' => (mo'.2 q hq').2, ?_⟩
    rw [hkey]
    exact hR
  walk_at "pf"
  refine w_tupK ?_
  walk_at "pf"
  refine ⟨[l, r, e], rfl, by simp, ?_⟩
  walk_at "pf"
  obtain ⟨hqs, hld⟩ := ok.ld_sz ht.1 ht.2.1 ht.2.2.1 ht.2.2.2
  refine w_dnotinTc ?_
  walk_at "pf"
  walk_at "fl"
  refine ⟨_, rfl, rfl, fun b hb => ⟨_, rfl, ?_⟩⟩
  cases b with
  | true =>
    refine ifnB rfl ?_
    exact g_next (fin kvs _ mo (hb.mp rfl) rfl rfl)
  | false =>
    refine ifpB rfl ?_
    have hnin : ik [l, r, e] ∉ kvs.map (·.1) := fun z => absurd (hb.mpr z) (by decide)
    walk_at "pf"
    refine w_lc (i_list ?_)
    walk_at "pf"
    walk_at "fl"
    refine ⟨_, rfl, by rw [List.length_map]; have := ok.hh; omega, fun i acc => acc = ((w.hs.take i).map fun h => fr (h.2 * w.sh l r e h.1)), rfl, ?_, ?_⟩
    · rintro i d acc hd rfl
      obtain ⟨h, hh, rfl⟩ := map_get hd
      obtain ⟨a1, a2, a3, a4, a5⟩ := ok.hw h (List.mem_of_getElem? hh)
      refine gw_tup rfl (gws_cons (gw_name (by simp) (gws_cons (gw_name (by simp) (gws_nil (t_yes (tT ?_)))))))
      walk_at "pf"
      refine ⟨_, rfl, rfl, ?_⟩
      walk_at "pf"
      refine ⟨w, kd, od, l, r, e, h.1, rfl, ok, ht, a3.mono (by decide), ?_⟩
      walk_at "pf"
      refine ⟨h.2, _, rfl, a5.sm (by decide), (ok.sh_sz ht.1 ht.2.1 ht.2.2.1 ht.2.2.2 a3).sm (by decide), ?_⟩
      exact map_snoc hh
    · rintro acc rfl
      rw [List.length_map, List.take_length]
      refine g_putTc (mo.len hU) ?_
      walk_at "pf"
      have e1 : (w.hs.map fun h => fr (h.2 * w.sh l r e h.1)) = (w.hs.map fun h => h.2 * w.sh l r e h.1).map fr := by rw [List.map_map]; rfl
      refine ⟨_, by rw [e1], fun q hq' => (hqs q hq').sm (by decide), fun i => ?_, ?_⟩
      · exact (sumQ_sz' (n := 5) (k := 31) (fun q hq' => hqs q (List.mem_of_mem_take hq')) (by rw [List.length_take, List.length_map]; have := ok.hh; omega)).sm (by decide)
      walk_at "pf"
      walk_at "fl"
      walk_at "pf"
      refine ⟨_, rfl, rfl, ?_⟩
      obtain ⟨m1, m2⟩ := mo.put hnin (tri_U ht)
      exact fin _ _ m1 m2 rfl rfl
def pOver_ (CP CL : Addr) : PT_ := fun Γ ds R => ∃ (w : Wd) (kd od : Addr) (l r e : Int), ds = [ldD CP CL w kd od, .int l, .int r, .int e] ∧ w.Ok ∧ Tri w l r e ∧ (kd, ceK w) ∈ Γ.c ∧ (od, ceO w) ∈ Γ.c ∧ kd ≠ od ∧ R (.bl (decide (w.str r < w.ld l r e)))
abbrev N_Loads_is_overlaid : List Str := ["self", "left", "prop", "right", "key"]
theorem sc_Loads_is_overlaid : FnScope N_Loads_is_overlaid ["self", "left", "prop", "right"] (defScope s_Loads_is_overlaid) := ⟨rfl, rfl, rfl, by decide +kernel, rfl, by decide +kernel, by decide +kernel⟩
theorem ok_Loads_is_overlaid {P : Program} {w : World} {K : PySem.W.Frag} {mg : Str → Option Value} {base : Heap} {aN aO CP CL : Addr} (T : Tp K mg aN aO CP CL)  (F_is_below : Fk P w K mg base "is_below" ["one", "other"] 1 (SpG K (pBelow))) (M_Loads_lies_on : Fm P w K mg base CL "lies_on" ["self", "left", "rest", "right"] 6 (SpG K (pLies CP CL))) {f : Addr} {fd : FuncData} (F : FunD K "is_overlaid" "Loads.is_overlaid" (defArgs s_Loads_is_overlaid) (defBody s_Loads_is_overlaid) (defScope s_Loads_is_overlaid) [] [] f fd) : FnOk P w K mg base CX0 7 f fd ["self", "left", "prop", "right"] (SpG K (pOver_ CP CL)) := by
  refine okG F sc_Loads_is_overlaid (by intro Γ ds R h; repeat' (first | (obtain ⟨e, _⟩ := h; subst e; rfl) | (obtain ⟨_, h⟩ := h))) (fun cdv A outer s H E hr => ?_)
  refine ⟨_, (pss_cons (ps_set (i := 4) sc_Loads_is_overlaid.nd rfl (by first | exact Or.inl rfl | exact Or.inr rfl) (pe_tup (pa_cons (pv 1) (pa_cons (pv 2) (pa_cons (pv 3) pa_nil)))))
      (pss_cons (ps_if (pt_cmp (pc_dnotin (hu_of hr) (pv 4) (pe_fldK (K := K) rfl (pv 0) rfl)) (by rfl)) 
          (pss_one (ps_dput (hu_of hr) (pe_fldK (K := K) rfl (pv 0) rfl) (pv 4) (pe_F F_is_below (hr.mono (by decide)) rfl (pa_cons (pe_ix (ix_seqK (K := K) rfl) (pe_ix (ix_seqK (K := K) rfl) (pe_fldK (K := K) rfl (pe_fldK (K := K) rfl (pv 0) rfl) rfl) (pv 2) (fun _ _ => rfl)) pe_int (fun _ _ => rfl)) (pa_cons (pe_M M_Loads_lies_on T.cl_Loads (hr.mono (by decide)) (pv 0) (pa_cons (pv 1) (pa_cons (pv 2) (pa_cons (pv 3) pa_nil)))) pa_nil))) rfl)) pss_nil)
      (pss_one (ps_ret (pe_dget (hu_of hr) (pe_fldK (K := K) rfl (pv 0) rfl) (pv 4) (fun _ _ => rfl)))))), ?_⟩
  try dsimp only [cxOf, Cx.nox, Cx.wish]
  rintro S ds ⟨w, kd, od, l, r, e, rfl, ok, ht, hm, hm2, hne, hR⟩
  show Goes S [] (nEnd S) _ [some (ldD CP CL w kd od), some (.int l), some (.int r), some (.int e), none] S.C0
  obtain ⟨cr, hp⟩ := perm_front hm2
  have hkd : (kd, ceK w) ∈ cr := by
    have := hp.mem_iff.mpr hm
    rcases List.mem_cons.mp this with z | z
    · exact absurd (congrArg Prod.fst z) hne
    · exact z
  refine g_perm (c := S.C0.c) (z := S.C0.z) hp.symm ?_
  refine g_openMemo fun kvs hnd hq => ?_
  have mo : MemoOk (keyU w.n) (memoO w) kvs := ⟨hnd, hq⟩
  have hU := keyU_len ok.hn
  have hkey : memoO w (ik [l, r, e]) = .bl (decide (w.str r < w.ld l r e)) := rfl
  have fin : ∀ (kvs' : List (List Key × D)) (ρ : En), MemoOk (keyU w.n) (memoO w) kvs' → ik [l, r, e] ∈ kvs'.map (·.1) → ρ[0]? = some (some (ldD CP CL w kd od)) → ρ[4]? = some (some (.key [l, r, e])) → Goes S [] (nEnd S) (tRet (tDGet (tFld K (tVar 0) "over") (tVar 4))) ρ ⟨(od, .dT kvs') :: cr, S.C0.z⟩ := by
    intro kvs' ρ mo' hin h0 h4
    refine g_ret ?_ ((Cov.closeMemo mo'.1 mo'.2).trans (Cov.perm hp))
    refine w_dgetTc ?_
    refine w_fld (w_var h0 ?_)
    walk_at "fl"
    refine w_var h4 ?_
    refine ⟨_, _, rfl, rfl, lookD_mem hin fun q hq' => (mo'.2 q hq').2, ?_⟩
    rw [hkey]
    exact hR
  walk_at "pf"
  refine w_tupK ?_
  walk_at "pf"
  refine ⟨[l, r, e], rfl, by simp, ?_⟩
  walk_at "pf"
  obtain ⟨hqs, hld⟩ := ok.ld_sz ht.1 ht.2.1 ht.2.2.1 ht.2.2.2
  refine w_dnotinTc ?_
  walk_at "pf"
  walk_at "fl"
  refine ⟨_, rfl, rfl, fun b hb => ⟨_, rfl, ?_⟩⟩
  cases b with
  | true =>
    refine ifnB rfl ?_
    exact g_next (fin kvs _ mo (hb.mp rfl) rfl rfl)
  | false =>
    refine ifpB rfl ?_
    have hnin : ik [l, r, e] ∉ kvs.map (·.1) := fun z => absurd (hb.mpr z) (by decide)
    refine g_putTc (mo.len hU) ?_
    walk_at "pf"
    walk_at "fl"
    walk_at "fl"
    walk_at "pf"
    obtain ⟨t1, t2, t3, t4⟩ := ht
    obtain ⟨i, hi⟩ : ∃ i : Nat, r = (i : Int) := ⟨r.toNat, by omega⟩
    obtain ⟨p, hpi, hpm⟩ := ps_at (w := w) (i := i) (by omega)
    refine o_ixTu (d := prD p) ?_ ?_
    · rw [hi]
      refine atI_nat ?_
      rw [List.getElem?_map, hpi]
      rfl
    walk_at "pf"
    refine ⟨_, rfl, rfl, ?_⟩
    walk_at "pf"
    refine ⟨w, kd, od, l, r, e, rfl, ok, ⟨t1, t2, t3, t4⟩, List.mem_cons_of_mem _ hkd, ?_⟩
    walk_at "pf"
    refine ⟨p.2, _, rfl, (ok.hp p hpm).2.2.1.sm (by decide), hld.sm (by decide), ?_⟩
    walk_at "pf"
    walk_at "fl"
    walk_at "pf"
    refine ⟨_, rfl, rfl, ?_⟩
    obtain ⟨m1, m2⟩ := mo.put hnin (tri_U ⟨t1, t2, t3, t4⟩)
    have es : w.str r = p.2 := by rw [hi]; exact str_in hpi
    rw [hkey, es] at m1 m2
    exact fin _ _ m1 m2 rfl rfl
end PF
end
section
set_option Elab.async false
set_option linter.all false
set_option maxRecDepth 100000
namespace PF
open PySem PySem.Spec L2
/-! ### order of fractions -/
theorem rle_lt {a b c : Rat} (h : a ≤ b) (k : b < c) : a < c := by grind
theorem rlt_le {a b c : Rat} (h : a < b) (k : b ≤ c) : a < c := by grind
theorem rmul_lt {a b c : Rat} (hc : 0 < c) (h : a < b) : a * c < b * c := Rat.mul_lt_mul_of_pos_right h hc
theorem div_le_div {a b c d : Rat} (hb : 0 < b) (hd : 0 < d) (h : a * d ≤ c * b) : a / b ≤ c / d := by
  rcases Rat.le_total (a := a / b) (b := c / d) with h1 | h1
  · exact h1
  · by_cases h2' : c / d = a / b
    · rw [h2']; exact Rat.le_refl
    · exfalso
      have h2 := Rat.lt_of_le_of_ne h1 h2'
      have h3 := rmul_lt hb h2
      rw [Rat.div_mul_cancel (Rat.ne_of_gt hb)] at h3
      have h4 := rmul_lt hd h3
      have h5 : c / d * b * d = c * b := by
        rw [Rat.mul_assoc, Rat.mul_comm b d, ← Rat.mul_assoc, Rat.div_mul_cancel (Rat.ne_of_gt hd)]
      rw [h5] at h4
      exact absurd h (Rat.not_le.mpr h4)
theorem div_nonneg {a b : Rat} (ha : 0 ≤ a) (hb : 0 < b) : 0 ≤ a / b := by
  have := div_le_div (a := 0) (b := b) (c := a) (d := b) hb hb (by rw [Rat.zero_mul]; exact Rat.mul_nonneg ha (Rat.le_of_lt hb))
  rw [Rat.div_def, Rat.zero_mul] at this
  exact this
theorem ilt {a b : Int} (h : a < b) : (a : Rat) < (b : Rat) := Rat.intCast_lt_intCast.mpr h
theorem ile {a b : Int} (h : a ≤ b) : (a : Rat) ≤ (b : Rat) := Rat.intCast_le_intCast.mpr h
theorem isub {a b : Int} (h : a < b) : (0 : Rat) < ((b - a : Int) : Rat) := by
  have : ((0 : Int) : Rat) < ((b - a : Int) : Rat) := Rat.intCast_lt_intCast.mpr (by omega)
  exact this
theorem shr_nonneg {a b c : Int} {q : Rat} (h1 : a < b) (h2 : b < c) : 0 ≤ shr a b c q := by
  unfold shr
  split
  · rename_i h
    exact div_nonneg (by grind) (isub h1)
  · split
    · rename_i h
      exact div_nonneg (by grind) (isub h2)
    · exact Rat.le_refl
theorem mul_mono {x y z : Rat} (hx : 0 ≤ x) (h : y ≤ z) : x * y ≤ x * z := by
  have h1 : 0 ≤ z - y := by grind
  have h2 := Rat.mul_nonneg hx h1
  grind
theorem shr_mono {a a' b c c' : Int} {q : Rat} (h1 : a ≤ a') (h2 : a' < b) (h3 : b < c') (h4 : c' ≤ c) : shr a' b c' q ≤ shr a b c q := by
  have ha := ile h1
  have hc := ile h4
  by_cases c1 : (a' : Rat) < q ∧ ¬ (b : Rat) < q
  · have c2 : (a : Rat) < q ∧ ¬ (b : Rat) < q := ⟨rle_lt ha c1.1, c1.2⟩
    unfold shr
    rw [if_pos c1, if_pos c2]
    refine div_le_div (isub h2) (isub (by omega)) ?_
    rw [Rat.intCast_sub, Rat.intCast_sub]
    have hq : 0 ≤ (b : Rat) - q := by grind
    have ha2 : 0 ≤ (a' : Rat) - a := by grind
    have := Rat.mul_nonneg hq ha2
    grind
  · by_cases c3 : (b : Rat) < q ∧ q < (c' : Rat)
    · have c4 : (b : Rat) < q ∧ q < (c : Rat) := ⟨c3.1, by grind⟩
      have f1 : shr a' b c' q = ((c' : Rat) - q) / ((c' - b : Int) : Rat) := by unfold shr; rw [if_neg c1, if_pos c3]
      have f2 : shr a b c q = ((c : Rat) - q) / ((c - b : Int) : Rat) := by unfold shr; rw [if_neg (fun z => z.2 c3.1), if_pos c4]
      rw [f1, f2]
      refine div_le_div (isub h3) (isub (by omega)) ?_
      rw [Rat.intCast_sub, Rat.intCast_sub]
      have hq : 0 ≤ q - (b : Rat) := by grind
      have ha2 : 0 ≤ (c : Rat) - c' := by grind
      have := Rat.mul_nonneg hq ha2
      grind
    · have : shr a' b c' q = 0 := by unfold shr; rw [if_neg c1, if_neg c3]
      rw [this]
      exact shr_nonneg (by omega) (by omega)
theorem foldl_shift (qs : List Rat) (q : Rat) : qs.foldl (· + ·) q = q + sumQ qs := by
  unfold sumQ
  induction qs generalizing q with
  | nil => simp [Rat.add_zero]
  | cons x qs ih =>
    rw [List.foldl_cons, List.foldl_cons, ih, ih (0 + x), Rat.zero_add, Rat.add_assoc]
theorem sumQ_cons (q : Rat) (qs : List Rat) : sumQ (q :: qs) = q + sumQ qs := by
  have : sumQ (q :: qs) = qs.foldl (· + ·) (0 + q) := rfl
  rw [this, Rat.zero_add, foldl_shift]
theorem sumQ_append (xs ys : List Rat) : sumQ (xs ++ ys) = sumQ xs + sumQ ys := by
  have : sumQ (xs ++ ys) = ys.foldl (· + ·) (sumQ xs) := by unfold sumQ; rw [List.foldl_append]
  rw [this, foldl_shift]
theorem sumQ_mono {α : Type} {f g : α → Rat} : ∀ {l : List α}, (∀ x ∈ l, f x ≤ g x) → sumQ (l.map f) ≤ sumQ (l.map g)
  | [], _ => Rat.le_refl
  | x :: l, h => by
    rw [List.map_cons, List.map_cons, sumQ_cons, sumQ_cons]
    have h1 := h x List.mem_cons_self
    have h2 := sumQ_mono (l := l) fun y hy => h y (List.mem_cons_of_mem _ hy)
    grind
/-! ### lots -/
def rests (n : Nat) (lot : List Int) : List Int := (-1) :: (lot ++ [(n : Int)])
def RR (n : Nat) (lot : List Int) (i : Nat) : Int := (rests n lot).getD i 0
structure Lot (w : Wd) (lot : List Int) : Prop where
  up : lot.Pairwise (· < ·)
  bd : ∀ x ∈ lot, 0 ≤ x ∧ x < (w.n : Int)
def overAt (w : Wd) (lot : List Int) (i : Nat) : Bool := decide (w.str (RR w.n lot (i + 1)) < w.ld (RR w.n lot i) (RR w.n lot (i + 1)) (RR w.n lot (i + 2)))
def overs (w : Wd) (lot : List Int) : List Int := (List.range lot.length).filterMap fun i => if overAt w lot i = true then some (RR w.n lot (i + 1)) else none
section
variable {w : Wd} {lot : List Int}
theorem rests_len (n : Nat) (lot : List Int) : (rests n lot).length = lot.length + 2 := by unfold rests; simp
theorem RR_get {n i : Nat} (h : i < lot.length + 2) : (rests n lot)[i]? = some (RR n lot i) := by
  unfold RR
  rw [List.getD_eq_getElem?_getD]
  cases e : (rests n lot)[i]? with
  | none => rw [List.getElem?_eq_none_iff, rests_len] at e; omega
  | some x => rfl
theorem RR_mid {n i : Nat} {x : Int} (h : lot[i]? = some x) : RR n lot (i + 1) = x := by
  have hi := (List.getElem?_eq_some_iff.mp h).1
  have := RR_get (n := n) (lot := lot) (i := i + 1) (by omega)
  have e : (rests n lot)[i + 1]? = lot[i]? := by
    show ((-1) :: (lot ++ [(n : Int)]))[i + 1]? = _
    rw [List.getElem?_cons_succ, List.getElem?_append_left hi]
  rw [e, h] at this
  exact (Option.some.inj this).symm
theorem Lot.rests_up (l : Lot w lot) : (rests w.n lot).Pairwise (· < ·) := by
  unfold rests
  refine List.pairwise_cons.mpr ⟨fun a ha => ?_, List.pairwise_append.mpr ⟨l.up, by simp, fun a ha b hb => ?_⟩⟩
  · rcases List.mem_append.mp ha with h | h
    · have := (l.bd a h).1; omega
    · rw [List.mem_singleton.mp h]; omega
  · rw [List.mem_singleton.mp hb]
    exact (l.bd a ha).2
theorem pw_get {α : Type} {R : α → α → Prop} : ∀ {l : List α}, l.Pairwise R → ∀ {i j : Nat} {x y : α}, i < j → l[i]? = some x → l[j]? = some y → R x y
  | [], _, _, _, _, _, _, h, _ => by simp at h
  | z :: l, p, 0, j + 1, x, y, _, h, k => by
    simp at h k
    subst h
    exact (List.pairwise_cons.mp p).1 y (List.mem_of_getElem? k)
  | z :: l, p, i + 1, j + 1, x, y, hlt, h, k => pw_get (l := l) (i := i) (j := j) (List.pairwise_cons.mp p).2 (by omega) (by simpa using h) (by simpa using k)
theorem Lot.tri (l : Lot w lot) {i : Nat} (hi : i < lot.length) : -1 ≤ RR w.n lot i ∧ RR w.n lot i < RR w.n lot (i + 1) ∧ RR w.n lot (i + 1) < RR w.n lot (i + 2) ∧ RR w.n lot (i + 2) ≤ (w.n : Int) := by
  have g0 := RR_get (n := w.n) (lot := lot) (i := i) (by omega)
  have g1 := RR_get (n := w.n) (lot := lot) (i := i + 1) (by omega)
  have g2 := RR_get (n := w.n) (lot := lot) (i := i + 2) (by omega)
  have bd : ∀ x ∈ rests w.n lot, -1 ≤ x ∧ x ≤ (w.n : Int) := by
    intro x hx
    unfold rests at hx
    rcases List.mem_cons.mp hx with h | h
    · rw [h]; omega
    · rcases List.mem_append.mp h with h | h
      · have := l.bd x h; omega
      · rw [List.mem_singleton.mp h]; omega
  exact ⟨(bd _ (List.mem_of_getElem? g0)).1, pw_get l.rests_up (by omega) g0 g1, pw_get l.rests_up (by omega) g1 g2, (bd _ (List.mem_of_getElem? g2)).2⟩
theorem mem_overs {p : Int} : p ∈ overs w lot ↔ ∃ i, i < lot.length ∧ RR w.n lot (i + 1) = p ∧ overAt w lot i = true := by
  unfold overs
  rw [List.mem_filterMap]
  constructor
  · rintro ⟨i, hi, h⟩
    split at h
    · rename_i ho
      exact ⟨i, List.mem_range.mp hi, Option.some.inj h, ho⟩
    · cases h
  · rintro ⟨i, hi, h, ho⟩
    exact ⟨i, List.mem_range.mpr hi, by rw [if_pos ho, h]⟩
/-- the neighbours of p -/
structure Nb (n : Nat) (lot : List Int) (p a c : Int) : Prop where
  la : a = -1 ∨ a ∈ lot
  lt : a < p
  lm : ∀ x ∈ lot, x < p → x ≤ a
  rc : c = (n : Int) ∨ c ∈ lot
  rt : p < c
  rm : ∀ x ∈ lot, p < x → c ≤ x
theorem Lot.nb (l : Lot w lot) {i : Nat} (hi : i < lot.length) : Nb w.n lot (RR w.n lot (i + 1)) (RR w.n lot i) (RR w.n lot (i + 2)) := by
  obtain ⟨t1, t2, t3, t4⟩ := l.tri hi
  have g0 := RR_get (n := w.n) (lot := lot) (i := i) (by omega)
  have g1 := RR_get (n := w.n) (lot := lot) (i := i + 1) (by omega)
  have g2 := RR_get (n := w.n) (lot := lot) (i := i + 2) (by omega)
  have key : ∀ x ∈ lot, ∃ j, (rests w.n lot)[j]? = some x := fun x hx => List.mem_iff_getElem?.mp (by unfold rests; simp [hx])
  refine ⟨?_, t2, fun x hx h => ?_, ?_, t3, fun x hx h => ?_⟩
  · cases i with
    | zero => exact .inl (by have : (rests w.n lot)[0]? = some (-1) := rfl; rw [this] at g0; exact (Option.some.inj g0).symm)
    | succ i =>
      obtain ⟨y, hy⟩ : ∃ y, lot[i]? = some y := ⟨lot[i]'(by omega), List.getElem?_eq_getElem _⟩
      rw [RR_mid hy]
      exact .inr (List.mem_of_getElem? hy)
  · obtain ⟨j, hj⟩ := key x hx
    rcases Nat.lt_trichotomy j (i + 1) with z | z | z
    · rcases Nat.lt_or_ge j i with y | y
      · exact Int.le_of_lt (pw_get l.rests_up y hj g0)
      · have : j = i := by omega
        subst this
        rw [g0] at hj
        cases hj
        exact Int.le_refl _
    · subst z
      rw [g1] at hj
      cases hj
      omega
    · have := pw_get l.rests_up z g1 hj
      omega
  · by_cases e : i + 1 = lot.length
    · refine .inl ?_
      have : (rests w.n lot)[i + 2]? = some (w.n : Int) := by
        show ((-1) :: (lot ++ [(w.n : Int)]))[i + 2]? = _
        rw [List.getElem?_cons_succ, List.getElem?_append_right (by omega), e, Nat.sub_self]
        rfl
      rw [this] at g2
      exact (Option.some.inj g2).symm
    · obtain ⟨y, hy⟩ : ∃ y, lot[i + 1]? = some y := ⟨lot[i + 1]'(by omega), List.getElem?_eq_getElem _⟩
      rw [RR_mid hy]
      exact .inr (List.mem_of_getElem? hy)
  · obtain ⟨j, hj⟩ := key x hx
    rcases Nat.lt_trichotomy j (i + 1) with z | z | z
    · have := pw_get l.rests_up z hj g1
      omega
    · subst z
      rw [g1] at hj
      cases hj
      omega
    · rcases Nat.lt_or_ge (i + 2) j with y | y
      · exact Int.le_of_lt (pw_get l.rests_up y g2 hj)
      · have : j = i + 2 := by omega
        subst this
        rw [g2] at hj
        cases hj
        exact Int.le_refl _
theorem Wd.Ok.ld_mono (ok : w.Ok) {a a' p c c' : Int} (h0 : -1 ≤ a) (h1 : a ≤ a') (h2 : a' < p) (h3 : p < c') (h4 : c' ≤ c) (h5 : c ≤ (w.n : Int)) : w.ld a' p c' ≤ w.ld a p c := by
  refine sumQ_mono fun h hh => mul_mono (Rat.le_of_lt (ok.hw h hh).2.2.2.1) ?_
  have e1 : w.pos a ≤ w.pos a' := by
    rcases Int.lt_or_eq_of_le h1 with z | z
    · exact Int.le_of_lt (ok.pos_lt h0 (by omega) z)
    · rw [z]; exact Int.le_refl _
  have e2 : w.pos c' ≤ w.pos c := by
    rcases Int.lt_or_eq_of_le h4 with z | z
    · exact Int.le_of_lt (ok.pos_lt (by omega) h5 z)
    · rw [z]; exact Int.le_refl _
  exact shr_mono e1 (ok.pos_lt (by omega) (by omega) h2) (ok.pos_lt (by omega) (by omega) h3) e2
/-- a prop that stands in a lot stands in every greater one -/
theorem Wd.Ok.over_mono (ok : w.Ok) {A B : List Int} (hA : Lot w A) (hB : Lot w B) (hs : ∀ x ∈ A, x ∈ B) {p : Int} (hp : p ∈ A) (ho : p ∈ overs w B) : p ∈ overs w A := by
  obtain ⟨j, hj, ej, oj⟩ := mem_overs.mp ho
  obtain ⟨i, hi⟩ := List.mem_iff_getElem?.mp hp
  have il := (List.getElem?_eq_some_iff.mp hi).1
  have ei := RR_mid (n := w.n) hi
  have na := hA.nb il
  have nb := hB.nb hj
  rw [ei] at na
  rw [ej] at nb
  have t := hB.tri hj
  have t2 := hA.tri il
  refine mem_overs.mpr ⟨i, il, ei, ?_⟩
  unfold overAt at oj ⊢
  rw [decide_eq_true_eq] at oj ⊢
  rw [ei]
  rw [ej] at oj
  refine rlt_le oj ?_
  refine ok.ld_mono t2.1 ?_ nb.lt nb.rt ?_ t2.2.2.2
  · rcases na.la with z | z
    · rw [z]; exact t.1
    · exact nb.lm _ (hs _ z) na.lt
  · rcases na.rc with z | z
    · rw [z]; exact t.2.2.2
    · exact nb.rm _ (hs _ z) na.rt
end
end PF
end
section
set_option Elab.async false
set_option linter.all false
set_option maxRecDepth 100000
namespace PF
open PySem PySem.Spec L2
/-! ### spares, stretches, tops -/
def spAt (w : Wd) (lot : List Int) (i : Nat) : Rat := w.str (RR w.n lot (i + 1)) - w.ld (RR w.n lot i) (RR w.n lot (i + 1)) (RR w.n lot (i + 2))
def spTo (w : Wd) (lot : List Int) (k : Nat) : List (Int × Rat) := (List.range k).map fun i => (RR w.n lot (i + 1), spAt w lot i)
def spK (w : Wd) (lot : List Int) : List (Int × Rat) := spTo w lot lot.length
theorem spTo_succ (w : Wd) (lot : List Int) (k : Nat) : spTo w lot (k + 1) = spTo w lot k ++ [(RR w.n lot (k + 1), spAt w lot k)] := by
  unfold spTo
  rw [List.range_succ, List.map_append]
  rfl
theorem spK_get {w : Wd} {lot : List Int} {i : Nat} (h : i < lot.length) : (spK w lot)[i]? = some (RR w.n lot (i + 1), spAt w lot i) := by
  unfold spK spTo
  rw [List.getElem?_map, List.getElem?_range h]
  rfl
theorem spK_keys (w : Wd) (lot : List Int) : (spK w lot).map (·.1) = lot := by
  apply List.ext_getElem?
  intro i
  rw [List.getElem?_map]
  by_cases h : i < lot.length
  · rw [spK_get h, List.getElem?_eq_getElem h]
    exact congrArg some (RR_mid (List.getElem?_eq_getElem h))
  · rw [List.getElem?_eq_none (by unfold spK spTo; simp; omega), List.getElem?_eq_none (by omega)]
    rfl
def allL (n : Nat) : List Int := (List.range n).map fun i : Nat => (i : Int)
theorem allL_lot (w : Wd) : Lot w (allL w.n) := by
  refine ⟨List.Pairwise.map _ (fun a b h => by omega) List.pairwise_lt_range, fun x hx => ?_⟩
  unfold allL at hx
  obtain ⟨i, hi, rfl⟩ := List.mem_map.mp hx
  have := List.mem_range.mp hi
  omega
/-- what falls falls: the lot that is left -/
structure Fin_ (w : Wd) (lot fin : List Int) : Prop where
  isLot : Lot w fin
  sub : ∀ x ∈ fin, x ∈ lot
  len : fin.length ≤ lot.length
  st : overs w fin = []
  max : ∀ A : List Int, Lot w A → overs w A = [] → (∀ x ∈ A, x ∈ lot) → ∀ x ∈ A, x ∈ fin
def loQ (w : Wd) (lot : List Int) (i : Nat) : Rat := ((w.pos (RR w.n lot i) : Int) : Rat)
def rch (w : Wd) (lot : List Int) (m : Rat) (j i : Nat) : Rat := spAt w lot j * (loQ w lot (i + 1) - loQ w lot i) / m
def bgQ (w : Wd) (lot : List Int) (m : Rat) (i : Nat) : Rat := if i = 0 then loQ w lot i else if loQ w lot i < loQ w lot (i + 1) - rch w lot m (i - 1) i then loQ w lot (i + 1) - rch w lot m (i - 1) i else loQ w lot i
def enQ (w : Wd) (lot : List Int) (m : Rat) (i : Nat) : Rat := if i = lot.length then loQ w lot (i + 1) else if loQ w lot i + rch w lot m i i < loQ w lot (i + 1) then loQ w lot i + rch w lot m i i else loQ w lot (i + 1)
section
variable {w : Wd} {lot : List Int}
theorem Wd.Ok.sp_sz (ok : w.Ok) (hl : Lot w lot) {i : Nat} (hi : i < lot.length) : Sz 342 (spAt w lot i) := by
  obtain ⟨t1, t2, t3, t4⟩ := hl.tri hi
  have hs : Sz 180 (w.str (RR w.n lot (i + 1))) := by
    obtain ⟨k, hk⟩ : ∃ k : Nat, RR w.n lot (i + 1) = (k : Int) := ⟨(RR w.n lot (i + 1)).toNat, by omega⟩
    obtain ⟨p, hp, hm⟩ := ps_at (w := w) (i := k) (by omega)
    rw [hk, str_in hp]
    exact (ok.hp p hm).2.2.1
  exact (hs.sub (ok.ld_sz t1 t2 t3 t4).2).mono (by decide)
theorem Lot.rest (hl : Lot w lot) {i : Nat} (hi : i < lot.length + 2) : -1 ≤ RR w.n lot i ∧ RR w.n lot i ≤ (w.n : Int) := by
  have hx := List.mem_of_getElem? (RR_get (n := w.n) (lot := lot) hi)
  unfold rests at hx
  rcases List.mem_cons.mp hx with h | h
  · rw [h]; omega
  · rcases List.mem_append.mp h with h | h
    · have := hl.bd _ h; omega
    · rw [List.mem_singleton.mp h]; omega
theorem Lot.step (hl : Lot w lot) {i : Nat} (hi : i < lot.length + 1) : RR w.n lot i < RR w.n lot (i + 1) :=
  pw_get hl.rests_up (by omega) (RR_get (by omega)) (RR_get (by omega))
theorem Wd.Ok.lo_sz (ok : w.Ok) (hl : Lot w lot) {i : Nat} (hi : i < lot.length + 2) : Sz 8 (loQ w lot i) := ok.pos_sz (hl.rest hi).1 (hl.rest hi).2
theorem Wd.Ok.lo_lt (ok : w.Ok) (hl : Lot w lot) {i : Nat} (hi : i < lot.length + 1) : loQ w lot i < loQ w lot (i + 1) := ilt (ok.pos_lt (hl.rest (by omega)).1 (hl.rest (by omega)).2 (hl.step hi))
theorem Wd.Ok.rch_sz (ok : w.Ok) (hl : Lot w lot) {i j k : Nat} (hi : i < lot.length + 1) (hj : j < lot.length) {m : Rat} (hm : Sz k m) (h0 : 0 < m) : Sz (359 + k) (rch w lot m j i) :=
  (((ok.sp_sz hl hj).mul ((ok.lo_sz hl (i := i + 1) (by omega)).sub (ok.lo_sz hl (i := i) (by omega)))).div hm h0).mono (by omega)
theorem Wd.Ok.bg_sz (ok : w.Ok) (hl : Lot w lot) {i k : Nat} (hi : i < lot.length + 1) {m : Rat} (hm : Sz k m) (h0 : 0 < m) : Sz (368 + k) (bgQ w lot m i) := by
  unfold bgQ
  split
  · exact (ok.lo_sz hl (by omega)).mono (by omega)
  · split
    · exact ((ok.lo_sz hl (i := i + 1) (by omega)).sub (ok.rch_sz hl hi (by omega) hm h0)).mono (by omega)
    · exact (ok.lo_sz hl (by omega)).mono (by omega)
theorem Wd.Ok.en_sz (ok : w.Ok) (hl : Lot w lot) {i k : Nat} (hi : i < lot.length + 1) {m : Rat} (hm : Sz k m) (h0 : 0 < m) : Sz (368 + k) (enQ w lot m i) := by
  unfold enQ
  split
  · exact (ok.lo_sz hl (by omega)).mono (by omega)
  · split
    · exact ((ok.lo_sz hl (i := i) (by omega)).add (ok.rch_sz hl hi (by omega) hm h0)).mono (by omega)
    · exact (ok.lo_sz hl (by omega)).mono (by omega)
/-- a prop that stands bears what lies on it -/
theorem sp_nonneg (h : overs w lot = []) {i : Nat} (hi : i < lot.length) : 0 ≤ spAt w lot i := by
  have hn : ¬ overAt w lot i = true := fun z => by
    have : RR w.n lot (i + 1) ∈ overs w lot := mem_overs.mpr ⟨i, hi, rfl, z⟩
    rw [h] at this
    cases this
  unfold overAt at hn
  rw [decide_eq_true_eq] at hn
  unfold spAt
  grind
end
def botQ (w : Wd) (lot : List Int) (i : Nat) : Rat := spAt w lot i + spAt w lot (i + 1)
def topQ (w : Wd) (lot : List Int) (i : Nat) : Rat := loQ w lot (i + 1) + (if botQ w lot i = 0 then 0 else spAt w lot (i + 1) * (loQ w lot (i + 2) - loQ w lot (i + 1)) / botQ w lot i)
/-! the least spare -/
theorem minQ_le : ∀ (qs : List Rat) (q0 : Rat), minQ q0 qs ≤ q0 ∧ ∀ q ∈ qs, minQ q0 qs ≤ q
  | [], q0 => ⟨Rat.le_refl, fun _ h => nomatch h⟩
  | x :: qs, q0 => by
    have ih := minQ_le qs (if x < q0 then x else q0)
    have e : minQ q0 (x :: qs) = minQ (if x < q0 then x else q0) qs := rfl
    rw [e]
    have h1 := ih.1
    refine ⟨?_, fun q hq => ?_⟩
    · split at h1 <;> grind
    · rcases List.mem_cons.mp hq with rfl | hq
      · split at h1 <;> grind
      · exact ih.2 q hq
theorem minQ_in {q0 : Rat} {qs : List Rat} : minQ q0 (q0 :: qs) ∈ q0 :: qs := minQ_mem (P := fun q => q ∈ q0 :: qs) List.mem_cons_self fun _ h => h
/-- the weakest prop: its place and spare -/
def wkD : List (Int × Rat) → D
  | [] => .non
  | kv :: r => match (kv :: r).filter fun x => decide (x.2 = minQ kv.2 ((kv :: r).map (·.2))) with
    | [] => .non
    | x :: _ => .tup [.int x.1, fr (minQ kv.2 ((kv :: r).map (·.2)))]
end PF
end
section
set_option Elab.async false
set_option linter.all false
set_option maxRecDepth 100000
set_option maxHeartbeats 2000000
namespace PF
open PySem PySem.Spec L2 RZ
local macro_rules | `(tactic| walk_at "pf1") => `(tactic| first
  | ((with_reducible refine' w_var ?pfh ?_); (case pfh => rfl))
  | with_reducible refine w_int ?_
  | with_reducible refine w_ty ?_
  | with_reducible refine w_op ?_
  | with_reducible refine w_cb ?_
  | with_reducible refine w_call ?_
  | with_reducible refine a_cons ?_
  | with_reducible refine a_nil ?_
  | with_reducible refine o_sub ?_
  | with_reducible refine o_plusI ?_
  | ((with_reducible refine' o_ixTu ?pfh ?_); (case pfh => rfl))
  | ((with_reducible refine' o_ixLi ?pfh ?_); (case pfh => rfl))
  | ((with_reducible refine' o_ixKe ?pfh ?_); (case pfh => rfl))
  | with_reducible refine w_bl ?_
  | with_reducible refine w_non ?_
  | with_reducible refine w_str ?_
  | with_reducible refine w_un ?_
  | with_reducible refine w_fld ?_
  | with_reducible refine w_meth ?_
  | with_reducible refine t_test ?_
  | with_reducible refine t_B ?_
  | with_reducible refine t_and ?_
  | with_reducible refine t_or ?_
  | with_reducible refine t_not ?_
  | with_reducible refine w_andV ?_
  | with_reducible refine w_orV ?_
  | with_reducible refine w_notV ?_
  | with_reducible refine w_if ?_
  | with_reducible refine w_chain ?_
  | with_reducible refine o_lt ?_
  | with_reducible refine o_gt ?_
  | with_reducible refine o_le ?_
  | with_reducible refine o_ge ?_
  | with_reducible refine o_equI ?_
  | with_reducible refine o_neqI ?_
  | with_reducible refine o_neg ?_
  | with_reducible refine c_abs ?_
  | with_reducible refine c_int ?_
  | with_reducible refine g_asg ?_
  | with_reducible refine g_drop ?_
  | with_reducible refine g_if ?_
  | with_reducible refine g_next ?_
  | with_reducible refine g_assoc ?_
  | with_reducible refine g_retS ?_
  | with_reducible refine exbl ?_
  | with_reducible refine tT ?_
  | with_reducible refine tF ?_
  | with_reducible refine tNT ?_
  | with_reducible refine tNF ?_
  | ((with_reducible refine' ifpB ?pfh ?_); (case pfh => rfl))
  | ((with_reducible refine' ifnB ?pfh ?_); (case pfh => rfl)))
local macro_rules | `(tactic| walk_at "fl") => `(tactic| first
  | refine ⟨_, _, _, rfl, Tp.cl_Plank ‹_›, Tp.n_long ‹_›, rfl, ?_⟩
  | refine ⟨_, _, _, rfl, Tp.cl_Plank ‹_›, Tp.n_stakes ‹_›, rfl, ?_⟩
  | refine ⟨_, _, _, rfl, Tp.cl_Plank ‹_›, Tp.n_limit ‹_›, rfl, ?_⟩
  | refine ⟨_, _, _, rfl, Tp.cl_Loads ‹_›, Tp.n_plank ‹_›, rfl, ?_⟩
  | refine ⟨_, _, _, rfl, Tp.cl_Loads ‹_›, Tp.n_weights ‹_›, rfl, ?_⟩
  | refine ⟨_, _, _, rfl, Tp.cl_Loads ‹_›, Tp.n_known ‹_›, rfl, ?_⟩
  | refine ⟨_, _, _, rfl, Tp.cl_Loads ‹_›, Tp.n_over ‹_›, rfl, ?_⟩)
local macro_rules | `(tactic| walk_at "pf") => `(tactic| repeat (walk_at "pf1"))

theorem rests_D (n : Nat) (lot : List Int) : (rests n lot).map D.int = [D.int (-1)] ++ lot.map D.int ++ [D.int (n : Int)] := by unfold rests; simp
theorem zip3_len (n : Nat) (lot : List Int) : (zip3D ((rests n lot).map .int) (lot.map .int) (((rests n lot).map .int).drop 2)).length = lot.length := by
  unfold zip3D
  rw [List.length_zipWith, List.length_zip, List.length_drop, List.length_map, List.length_map, rests_len]
  omega
theorem zip3_at {n : Nat} {lot : List Int} {i : Nat} {d : D} (h : (zip3D ((rests n lot).map .int) (lot.map .int) (((rests n lot).map .int).drop 2))[i]? = some d) : i < lot.length ∧ d = .tup [.int (RR n lot i), .int (RR n lot (i + 1)), .int (RR n lot (i + 2))] := by
  have hi := (List.getElem?_eq_some_iff.mp h).1
  rw [zip3_len] at hi
  obtain ⟨a, b, c, h1, h2, h3, e⟩ := zip3D_get h
  rw [List.getElem?_map, RR_get (by omega)] at h1
  rw [List.getElem?_drop, List.getElem?_map, Nat.add_comm, RR_get (by omega)] at h3
  obtain ⟨x, hx, ex⟩ := map_get h2
  have := RR_mid (n := n) hx
  refine ⟨hi, ?_⟩
  rw [e, ← Option.some.inj h1, ← Option.some.inj h3, ex, ← this]
def oversTo (w : Wd) (lot : List Int) (k : Nat) : List Int := (List.range k).filterMap fun i => if overAt w lot i = true then some (RR w.n lot (i + 1)) else none
theorem oversTo_succ (w : Wd) (lot : List Int) (k : Nat) : oversTo w lot (k + 1) = oversTo w lot k ++ (if overAt w lot k = true then [RR w.n lot (k + 1)] else []) := by
  unfold oversTo
  rw [List.range_succ, List.filterMap_append]
  congr 1
  by_cases h : overAt w lot k = true <;> simp [h]
def MemIn (Γ : Ctx) (w : Wd) (kd od : Addr) : Prop := (kd, ceK w) ∈ Γ.c ∧ (od, ceO w) ∈ Γ.c ∧ kd ≠ od
def pBetween (CP CL : Addr) : PT_ := fun Γ ds R => ∃ (w : Wd) (kd od : Addr) (lot : List Int), ds = [ldD CP CL w kd od, .int (-1), .tup (lot.map .int), .int (w.n : Int)] ∧ w.Ok ∧ Lot w lot ∧ lot.length ≤ 100 ∧ MemIn Γ w kd od ∧ R (.lst ((overs w lot).map .int))
abbrev N_overlaid_between : List Str := ["loads", "left", "lot", "right", "rests", "beside", "before", "prop", "behind"]
theorem sc_overlaid_between : FnScope N_overlaid_between ["loads", "left", "lot", "right"] (defScope s_overlaid_between) := ⟨rfl, rfl, rfl, by decide +kernel, rfl, by decide +kernel, by decide +kernel⟩
theorem ok_overlaid_between {P : Program} {w : World} {K : PySem.W.Frag} {mg : Str → Option Value} {base : Heap} {aN aO CP CL : Addr} (T : Tp K mg aN aO CP CL)  (M_Loads_is_overlaid : Fm P w K mg base CL "is_overlaid" ["self", "left", "prop", "right"] 7 (SpG K (pOver_ CP CL))) {f : Addr} {fd : FuncData} (F : FunD K "overlaid_between" "overlaid_between" (defArgs s_overlaid_between) (defBody s_overlaid_between) (defScope s_overlaid_between) [] [] f fd) : FnOk P w K mg base CX0 8 f fd ["loads", "left", "lot", "right"] (SpG K (pBetween CP CL)) := by
  refine okG F sc_overlaid_between (by intro Γ ds R h; repeat' (first | (obtain ⟨e, _⟩ := h; subst e; rfl) | (obtain ⟨_, h⟩ := h))) (fun cdv A outer s H E hr => ?_)
  refine ⟨_, (pss_cons (ps_set (i := 4) sc_overlaid_between.nd rfl (by first | exact Or.inl rfl | exact Or.inr rfl) (pe_op (op_plusK (K := K) rfl) (pe_op (op_plusK (K := K) rfl) (pe_tup (pa_cons (pv 1) pa_nil)) (pv 2)) (pe_tup (pa_cons (pv 3) pa_nil))))
      (pss_cons (ps_set (i := 5) sc_overlaid_between.nd rfl (by first | exact Or.inl rfl | exact Or.inr rfl) (pe_listZip3 (by rfl) T.b_list (by rfl) T.b_zip (pa_cons (pv 4) (pa_cons (pv 2) (pa_cons (pe_slice (sl_seqK (K := K) rfl) (pv 4) (po_some pe_int) po_none) pa_nil)))))
      (pss_one (ps_ret (pe_lc (own := [("before", 6), ("prop", 7), ("behind", 8)]) rfl sc_overlaid_between.nd (pi_listK (K := K) rfl (pv 5)) (blkOk_by (own := [("before", 6), ("prop", 7), ("behind", 8)]) (N := N_overlaid_between) (sc := defScope s_overlaid_between) (by decide +kernel)) (fun _ _ _ _ _ => (pg_tupK (K := K) (n := 3) rfl rfl (pgs_cons (pg_name (i := 6) sc_overlaid_between.nd rfl (by first | exact Or.inl rfl | exact Or.inr rfl)) (pgs_cons (pg_name (i := 7) sc_overlaid_between.nd rfl (by first | exact Or.inl rfl | exact Or.inr rfl)) (pgs_cons (pg_name (i := 8) sc_overlaid_between.nd rfl (by first | exact Or.inl rfl | exact Or.inr rfl)) pgs_nil))))) (fun _ _ _ _ _ => (pts_one (pt_val (pe_M M_Loads_is_overlaid T.cl_Loads (hr.mono (by decide)) (pv 0) (pa_cons (pv 6) (pa_cons (pv 7) (pa_cons (pv 8) pa_nil)))) (by intro _; rfl)))) (fun _ _ _ _ _ => (pv 7))))))), ?_⟩
  try dsimp only [cxOf, Cx.nox, Cx.wish]
  rintro S ds ⟨w, kd, od, lot, rfl, ok, hl, hlen, ⟨m1, m2, m3⟩, hR⟩
  show Goes S [] (nEnd S) _ [some (ldD CP CL w kd od), some (.int (-1)), some (.tup (lot.map .int)), some (.int (w.n : Int)), none, none, none, none, none] S.C0
  walk_at "pf"
  refine w_tup ?_
  walk_at "pf"
  refine ⟨by simp, ?_⟩
  walk_at "pf"
  refine o_plusT (by simp; omega) ?_
  refine w_tup ?_
  walk_at "pf"
  refine ⟨by simp, ?_⟩
  refine o_plusT (by simp; omega) ?_
  rw [← rests_D]
  walk_at "pf"
  refine w_listZip3 ?_
  walk_at "pf"
  refine w_sliceFrom ?_
  walk_at "pf"
  refine ⟨2, _, rfl, .inr ⟨rfl, ?_⟩⟩
  walk_at "pf"
  refine ⟨_, _, _, rfl, ?_⟩
  walk_at "pf"
  refine g_ret ?_ Cov.refl
  refine w_lc (i_list ?_)
  walk_at "pf"
  refine ⟨_, rfl, by rw [zip3_len]; omega, fun i acc => acc = (oversTo w lot i).map .int, rfl, ?_, ?_⟩
  · rintro i d acc hd rfl
    obtain ⟨hi, rfl⟩ := zip3_at hd
    refine gw_tup rfl (gws_cons (gw_name (by simp) (gws_cons (gw_name (by simp) (gws_cons (gw_name (by simp) (gws_nil ?_)))))))
    walk_at "pf"
    refine ⟨_, rfl, rfl, ?_⟩
    walk_at "pf"
    refine ⟨w, kd, od, _, _, _, rfl, ok, hl.tri hi, m1, m2, m3, ?_⟩
    refine ⟨_, rfl, ?_⟩
    by_cases ho : overAt w lot i = true
    · rw [show decide (w.str (RR w.n lot (i + 1)) < w.ld (RR w.n lot i) (RR w.n lot (i + 1)) (RR w.n lot (i + 2))) = true from ho]
      refine ifpB rfl ?_
      walk_at "pf"
      show _ ++ _ = _
      rw [oversTo_succ, if_pos ho, List.map_append]
      rfl
    · rw [show decide (w.str (RR w.n lot (i + 1)) < w.ld (RR w.n lot i) (RR w.n lot (i + 1)) (RR w.n lot (i + 2))) = false from (Bool.not_eq_true _).mp ho]
      refine ifnB rfl ?_
      show _ = _
      rw [oversTo_succ, if_neg ho, List.append_nil]
  · rintro acc rfl
    rw [zip3_len]
    exact hR
def pWithout : PT_ := fun Γ ds R => ∃ (lot : List Int) (p : Int), ds = [.tup (lot.map .int), .int p] ∧ lot.length ≤ 100 ∧ R (.tup ((lot.filter fun x => !decide (x = p)).map .int))
theorem filter_take {α : Type} {f : α → Bool} {xs : List α} {i : Nat} {x : α} (h : xs[i]? = some x) : (xs.take (i + 1)).filter f = (xs.take i).filter f ++ (if f x = true then [x] else []) := by
  rw [take_succ h, List.filter_append]
  congr 1
  by_cases e : f x = true <;> simp [e]
abbrev N_without : List Str := ["lot", "prop", "one"]
theorem sc_without : FnScope N_without ["lot", "prop"] (defScope s_without) := ⟨rfl, rfl, rfl, by decide +kernel, rfl, by decide +kernel, by decide +kernel⟩
theorem ok_without {P : Program} {w : World} {K : PySem.W.Frag} {mg : Str → Option Value} {base : Heap} {aN aO CP CL : Addr} (T : Tp K mg aN aO CP CL)   {f : Addr} {fd : FuncData} (F : FunD K "without" "without" (defArgs s_without) (defBody s_without) (defScope s_without) [] [] f fd) : FnOk P w K mg base CX0 1 f fd ["lot", "prop"] (SpG K (pWithout)) := by
  refine okG F sc_without (by intro Γ ds R h; repeat' (first | (obtain ⟨e, _⟩ := h; subst e; rfl) | (obtain ⟨_, h⟩ := h))) (fun cdv A outer s H E hr => ?_)
  refine ⟨_, (pss_one (ps_ret (pe_callTy (call_tuple_ofK (K := K) rfl) (by rfl) T.b_tuple bt_tuple (pa_cons (pe_lc (own := [("one", 2)]) rfl sc_without.nd (pi_tupK (K := K) rfl (pv 0)) (blkOk_by (own := [("one", 2)]) (N := N_without) (sc := defScope s_without) (by decide +kernel)) (fun _ _ _ _ _ => (pg_name (i := 2) sc_without.nd rfl (by first | exact Or.inl rfl | exact Or.inr rfl))) (fun _ _ _ _ _ => (pts_one (pt_cmpR (op_neqK (K := K) rfl hr.units) (pv 2) (pv 1) (nomark _)))) (fun _ _ _ _ _ => (pv 2))) pa_nil)))), ?_⟩
  try dsimp only [cxOf, Cx.nox, Cx.wish]
  rintro S ds ⟨lot, p, rfl, hlen, hR⟩
  show Goes S [] (nEnd S) _ [some (.tup (lot.map .int)), some (.int p), none] S.C0
  refine g_ret ?_ Cov.refl
  walk_at "pf"
  refine w_lc (i_tup ?_)
  walk_at "pf"
  refine ⟨_, rfl, by rw [List.length_map]; omega, fun i acc => acc = ((lot.take i).filter fun x => !decide (x = p)).map .int, rfl, ?_, ?_⟩
  · rintro i d acc hd rfl
    obtain ⟨x, hx, rfl⟩ := map_get hd
    refine gw_name (by simp) ?_
    walk_at "pf"
    by_cases e : x = p
    · rw [decide_eq_true e]
      walk_at "pf"
      show _ = _
      rw [filter_take hx, if_neg (by simp [e]), List.append_nil]
    · rw [decide_eq_false e]
      walk_at "pf"
      show _ ++ _ = _
      rw [filter_take hx, if_pos (by simp [e]), List.map_append]
      rfl
  · rintro acc rfl
    walk_at "pf"
    refine c_tuple ?_
    rw [List.length_map, List.take_length]
    exact hR
def pSettledB (CP CL : Addr) : PT_ := fun Γ ds R => ∃ (w : Wd) (kd od : Addr) (lot : List Int), ds = [ldD CP CL w kd od, .int (-1), .tup (lot.map .int), .int (w.n : Int)] ∧ w.Ok ∧ Lot w lot ∧ lot.length ≤ 100 ∧ MemIn Γ w kd od ∧ ∀ row fin, Fin_ w lot fin → R (.tup [.lst row, .tup (fin.map .int)])
theorem Lot.filter {w : Wd} {lot : List Int} (h : Lot w lot) (f : Int → Bool) : Lot w (lot.filter f) := ⟨h.up.filter _, fun x hx => h.bd x ((List.mem_filter.mp hx).1)⟩
theorem ints_pl (ns : List Int) : Pl 1 (.lst (ns.map .int)) := .lst fun d hd => by
  obtain ⟨n, _, rfl⟩ := List.mem_map.mp hd
  exact .int n
abbrev N_settled_between : List Str := ["loads", "left", "lot", "right", "row", "some"]
theorem sc_settled_between : FnScope N_settled_between ["loads", "left", "lot", "right"] (defScope s_settled_between) := ⟨rfl, rfl, rfl, by decide +kernel, rfl, by decide +kernel, by decide +kernel⟩
theorem ok_settled_between {P : Program} {w : World} {K : PySem.W.Frag} {mg : Str → Option Value} {base : Heap} {aN aO CP CL : Addr} (T : Tp K mg aN aO CP CL)  (F_overlaid_between : Fk P w K mg base "overlaid_between" ["loads", "left", "lot", "right"] 8 (SpG K (pBetween CP CL))) (F_without : Fk P w K mg base "without" ["lot", "prop"] 1 (SpG K (pWithout))) {f : Addr} {fd : FuncData} (F : FunD K "settled_between" "settled_between" (defArgs s_settled_between) (defBody s_settled_between) (defScope s_settled_between) [] [] f fd) : FnOk P w K mg base CX0 9 f fd ["loads", "left", "lot", "right"] (SpG K (pSettledB CP CL)) := by
  refine okG F sc_settled_between (by intro Γ ds R h; repeat' (first | (obtain ⟨e, _⟩ := h; subst e; rfl) | (obtain ⟨_, h⟩ := h))) (fun cdv A outer s H E hr => ?_)
  refine ⟨_, (pss_cons (ps_set (i := 4) sc_settled_between.nd rfl (by first | exact Or.inl rfl | exact Or.inr rfl) (pe_lst pa_nil))
      (pss_cons (ps_set (i := 5) sc_settled_between.nd rfl (by first | exact Or.inl rfl | exact Or.inr rfl) (pe_F F_overlaid_between (hr.mono (by decide)) rfl (pa_cons (pv 0) (pa_cons (pv 1) (pa_cons (pv 2) (pa_cons (pv 3) pa_nil))))))
      (pss_cons (ps_while PassesOwn.never (pt_cmpR (op_neqK (K := K) rfl hr.units) (pv 5) (pe_lst pa_nil) (nomark _)) 
          (pss_cons (ps_expr (pe_bm PySem.F.plainAttrs_list PySem.F.slot_list_append PySem.F.type_list_append mt_append (pv 4) (pa_cons (pe_ix (ix_seqK (K := K) rfl) (pv 5) pe_int (fun _ _ => rfl)) pa_nil)))
          (pss_cons (ps_set (i := 2) sc_settled_between.nd rfl (by first | exact Or.inl rfl | exact Or.inr rfl) (pe_F F_without (hr.mono (by decide)) rfl (pa_cons (pv 2) (pa_cons (pe_ix (ix_seqK (K := K) rfl) (pv 5) pe_int (fun _ _ => rfl)) pa_nil))))
          (pss_one (ps_set (i := 5) sc_settled_between.nd rfl (by first | exact Or.inl rfl | exact Or.inr rfl) (pe_F F_overlaid_between (hr.mono (by decide)) rfl (pa_cons (pv 0) (pa_cons (pv 1) (pa_cons (pv 2) (pa_cons (pv 3) pa_nil))))))))))
      (pss_one (ps_ret (pe_tup (pa_cons (pv 4) (pa_cons (pv 2) pa_nil)))))))), ?_⟩
  try dsimp only [cxOf, Cx.nox, Cx.wish]
  rintro S ds ⟨w, kd, od, lot, rfl, ok, hl, hlen, mi, hR⟩
  show Goes S [] (nEnd S) _ [some (ldD CP CL w kd od), some (.int (-1)), some (.tup (lot.map .int)), some (.int (w.n : Int)), none, none] S.C0
  refine g_newL fun p hp0 => ?_
  have mi' : ∀ row, MemIn ⟨(p, .lst row) :: S.C0.c, S.C0.z⟩ w kd od := fun row => ⟨List.mem_cons_of_mem _ mi.1, List.mem_cons_of_mem _ mi.2.1, mi.2.2⟩
  walk_at "pf"
  refine ⟨w, kd, od, lot, rfl, ok, hl, hlen, mi' [], ?_⟩
  refine g_while (fun m ρ Γ => ∃ (l2 : List Int) (row : List D), ρ = [some (ldD CP CL w kd od), some (.int (-1)), some (.tup (l2.map .int)), some (.int (w.n : Int)), some (.cell p), some (.lst ((overs w l2).map .int))] ∧ Γ = ⟨(p, .lst row) :: S.C0.c, S.C0.z⟩ ∧ m = l2.length ∧ row.length + l2.length ≤ lot.length ∧ Lot w l2 ∧ (∀ x ∈ l2, x ∈ lot) ∧ ∀ A : List Int, Lot w A → overs w A = [] → (∀ x ∈ A, x ∈ lot) → ∀ x ∈ A, x ∈ l2) lot.length ⟨lot, [], rfl, rfl, rfl, by simp, hl, fun _ h => h, fun _ _ _ h => h⟩ ?_
  rintro m ρ Γ ⟨l2, row, rfl, rfl, rfl, hrow, hl2, hsub, hmax⟩
  walk_at "pf"
  refine w_lst ?_
  walk_at "pf"
  refine ⟨by simp, ?_⟩
  refine o_neqD (ints_pl _) (ints_pl []) (by decide) (by decide) fun b hb => ?_
  refine ⟨_, rfl, ?_⟩
  cases b with
  | true =>
    refine ifnB rfl ?_
    have he : overs w l2 = [] := by
      have := D.lst.inj (hb.mp rfl)
      exact List.map_eq_nil_iff.mp this
    refine g_offL (i := 4) hp0 rfl ?_
    refine g_ret ?_ Cov.refl
    refine w_tup ?_
    walk_at "pf"
    exact ⟨by simp, hR row l2 ⟨hl2, hsub, by omega, he, hmax⟩⟩
  | false =>
    refine ifpB rfl ?_
    cases ho : overs w l2 with
    | nil => rw [ho] at hb; exact absurd (hb.mpr rfl) (by decide)
    | cons q qs =>
      have hq : q ∈ overs w l2 := by rw [ho]; exact List.mem_cons_self
      have hql : q ∈ l2 := by
        obtain ⟨i, hi, e, _⟩ := mem_overs.mp hq
        obtain ⟨y, hy⟩ : ∃ y, l2[i]? = some y := ⟨l2[i], List.getElem?_eq_getElem hi⟩
        rw [RR_mid hy] at e
        rw [← e]
        exact List.mem_of_getElem? hy
      have hlt : (l2.filter fun x => !decide (x = q)).length < l2.length := by
        rcases Nat.lt_or_ge (l2.filter fun x => !decide (x = q)).length l2.length with z | z
        · exact z
        · have z2 : l2.filter (fun x => !decide (x = q)) = l2 := List.filter_sublist.eq_of_length_le z
          have := List.filter_eq_self.mp z2 q hql
          simp at this
      refine g_app rfl (by omega) ?_
      walk_at "pf"
      refine o_ixLi (d := .int q) atI_zero ?_
      walk_at "pf"
      refine o_ixLi (d := .int q) atI_zero ?_
      walk_at "pf"
      refine ⟨l2, q, rfl, by omega, ?_⟩
      walk_at "pf"
      refine g_one ?_
      walk_at "pf"
      refine ⟨w, kd, od, _, rfl, ok, hl2.filter _, by omega, mi' _, ?_⟩
      refine g_done ⟨_, hlt, _, _, rfl, rfl, rfl, by rw [List.length_append, List.length_singleton]; omega, hl2.filter _, fun x hx => hsub x ((List.mem_filter.mp hx).1), fun A hA hA2 hA3 x hx => ?_⟩
      refine List.mem_filter.mpr ⟨hmax A hA hA2 hA3 x hx, ?_⟩
      simp only [Bool.not_eq_true', decide_eq_false_iff_not]
      intro e
      subst e
      have := ok.over_mono hA hl2 (hmax A hA hA2 hA3) hx hq
      rw [hA2] at this
      cases this
def pSettled (CP CL : Addr) : PT_ := fun Γ ds R => ∃ (w : Wd) (kd od : Addr) (lot : List Int), ds = [ldD CP CL w kd od, .tup (lot.map .int)] ∧ w.Ok ∧ Lot w lot ∧ lot.length ≤ 100 ∧ MemIn Γ w kd od ∧ ∀ row fin, Fin_ w lot fin → R (.tup [.lst row, .tup (fin.map .int)])
abbrev N_settled : List Str := ["loads", "lot"]
theorem sc_settled : FnScope N_settled ["loads", "lot"] (defScope s_settled) := ⟨rfl, rfl, rfl, by decide +kernel, rfl, by decide +kernel, by decide +kernel⟩
theorem ok_settled {P : Program} {w : World} {K : PySem.W.Frag} {mg : Str → Option Value} {base : Heap} {aN aO CP CL : Addr} (T : Tp K mg aN aO CP CL)  (F_settled_between : Fk P w K mg base "settled_between" ["loads", "left", "lot", "right"] 9 (SpG K (pSettledB CP CL))) (M_Plank_count : Fm P w K mg base CP "count" ["self"] 1 (SpG K (pCount CP))) {f : Addr} {fd : FuncData} (F : FunD K "settled" "settled" (defArgs s_settled) (defBody s_settled) (defScope s_settled) [] [] f fd) : FnOk P w K mg base CX0 10 f fd ["loads", "lot"] (SpG K (pSettled CP CL)) := by
  refine okG F sc_settled (by intro Γ ds R h; repeat' (first | (obtain ⟨e, _⟩ := h; subst e; rfl) | (obtain ⟨_, h⟩ := h))) (fun cdv A outer s H E hr => ?_)
  refine ⟨_, (pss_one (ps_ret (pe_F F_settled_between (hr.mono (by decide)) rfl (pa_cons (pv 0) (pa_cons (pe_gint rfl T.g_LEFT_WALL) (pa_cons (pv 1) (pa_cons (pe_M0 M_Plank_count T.cl_Plank (hr.mono (by decide)) (pe_fldK (K := K) rfl (pv 0) rfl)) pa_nil))))))), ?_⟩
  try dsimp only [cxOf, Cx.nox, Cx.wish]
  rintro S ds ⟨w, kd, od, lot, rfl, ok, hl, hlen, mi, hR⟩
  show Goes S [] (nEnd S) _ [some (ldD CP CL w kd od), some (.tup (lot.map .int))] S.C0
  refine g_ret ?_ Cov.refl
  walk_at "pf"
  walk_at "fl"
  refine ⟨_, rfl, rfl, ?_⟩
  walk_at "pf"
  refine ⟨w, rfl, ?_⟩
  walk_at "pf"
  exact ⟨w, kd, od, lot, rfl, ok, hl, hlen, mi, hR⟩
end PF
end
section
set_option Elab.async false
set_option linter.all false
set_option maxRecDepth 100000
set_option maxHeartbeats 2000000
namespace PF
open PySem PySem.Spec L2 RZ
local macro_rules | `(tactic| walk_at "pf1") => `(tactic| first
  | ((with_reducible refine' w_var ?pfh ?_); (case pfh => rfl))
  | with_reducible refine w_int ?_
  | with_reducible refine w_ty ?_
  | with_reducible refine w_op ?_
  | with_reducible refine w_listVals ?_ ?_
  | with_reducible refine w_cb ?_
  | with_reducible refine w_call ?_
  | with_reducible refine a_cons ?_
  | with_reducible refine a_nil ?_
  | with_reducible refine o_sub ?_
  | with_reducible refine o_plusI ?_
  | ((with_reducible refine' o_ixTu ?pfh ?_); (case pfh => rfl))
  | ((with_reducible refine' o_ixLi ?pfh ?_); (case pfh => rfl))
  | ((with_reducible refine' o_ixKe ?pfh ?_); (case pfh => rfl))
  | with_reducible refine w_bl ?_
  | with_reducible refine w_non ?_
  | with_reducible refine w_str ?_
  | with_reducible refine w_un ?_
  | with_reducible refine w_fld ?_
  | with_reducible refine w_meth ?_
  | with_reducible refine t_test ?_
  | with_reducible refine t_B ?_
  | with_reducible refine t_and ?_
  | with_reducible refine t_or ?_
  | with_reducible refine t_not ?_
  | with_reducible refine w_andV ?_
  | with_reducible refine w_orV ?_
  | with_reducible refine w_notV ?_
  | with_reducible refine w_if ?_
  | with_reducible refine w_chain ?_
  | with_reducible refine o_lt ?_
  | with_reducible refine o_gt ?_
  | with_reducible refine o_le ?_
  | with_reducible refine o_ge ?_
  | with_reducible refine o_equI ?_
  | with_reducible refine o_neqI ?_
  | with_reducible refine o_neg ?_
  | with_reducible refine c_abs ?_
  | with_reducible refine c_int ?_
  | with_reducible refine g_asgX ?_
  | with_reducible refine g_asg ?_
  | with_reducible refine g_drop ?_
  | with_reducible refine g_if ?_
  | with_reducible refine g_next ?_
  | with_reducible refine g_assoc ?_
  | with_reducible refine g_retS ?_
  | with_reducible refine exbl ?_
  | with_reducible refine tT ?_
  | with_reducible refine tF ?_
  | with_reducible refine tNT ?_
  | with_reducible refine tNF ?_
  | ((with_reducible refine' ifpB ?pfh ?_); (case pfh => rfl))
  | ((with_reducible refine' ifnB ?pfh ?_); (case pfh => rfl)))
local macro_rules | `(tactic| walk_at "fl") => `(tactic| first
  | refine ⟨_, _, _, rfl, Tp.cl_Plank ‹_›, Tp.n_long ‹_›, rfl, ?_⟩
  | refine ⟨_, _, _, rfl, Tp.cl_Plank ‹_›, Tp.n_stakes ‹_›, rfl, ?_⟩
  | refine ⟨_, _, _, rfl, Tp.cl_Plank ‹_›, Tp.n_limit ‹_›, rfl, ?_⟩
  | refine ⟨_, _, _, rfl, Tp.cl_Loads ‹_›, Tp.n_plank ‹_›, rfl, ?_⟩
  | refine ⟨_, _, _, rfl, Tp.cl_Loads ‹_›, Tp.n_weights ‹_›, rfl, ?_⟩
  | refine ⟨_, _, _, rfl, Tp.cl_Loads ‹_›, Tp.n_known ‹_›, rfl, ?_⟩
  | refine ⟨_, _, _, rfl, Tp.cl_Loads ‹_›, Tp.n_over ‹_›, rfl, ?_⟩)
local macro_rules | `(tactic| walk_at "pf") => `(tactic| repeat (walk_at "pf1"))

abbrev tripD (n : Nat) (lot : List Int) : D := .lst (zip3D ((rests n lot).map .int) (lot.map .int) (((rests n lot).map .int).drop 2))
def pWithSides (CP : Addr) : PT_ := fun Γ ds R => ∃ (w : Wd) (lot : List Int), ds = [plD CP w, .tup (lot.map .int)] ∧ lot.length ≤ 100 ∧ R (tripD w.n lot)
abbrev N_with_sides : List Str := ["plank", "lot", "rests"]
theorem sc_with_sides : FnScope N_with_sides ["plank", "lot"] (defScope s_with_sides) := ⟨rfl, rfl, rfl, by decide +kernel, rfl, by decide +kernel, by decide +kernel⟩
theorem ok_with_sides {P : Program} {w : World} {K : PySem.W.Frag} {mg : Str → Option Value} {base : Heap} {aN aO CP CL : Addr} (T : Tp K mg aN aO CP CL)  (F_rests_of : Fk P w K mg base "rests_of" ["plank", "lot"] 2 (SpG K (pRestsOf CP))) {f : Addr} {fd : FuncData} (F : FunD K "with_sides" "with_sides" (defArgs s_with_sides) (defBody s_with_sides) (defScope s_with_sides) [] [] f fd) : FnOk P w K mg base CX0 3 f fd ["plank", "lot"] (SpG K (pWithSides CP)) := by
  refine okG F sc_with_sides (by intro Γ ds R h; repeat' (first | (obtain ⟨e, _⟩ := h; subst e; rfl) | (obtain ⟨_, h⟩ := h))) (fun cdv A outer s H E hr => ?_)
  refine ⟨_, (pss_cons (ps_set (i := 2) sc_with_sides.nd rfl (by first | exact Or.inl rfl | exact Or.inr rfl) (pe_F F_rests_of (hr.mono (by decide)) rfl (pa_cons (pv 0) (pa_cons (pv 1) pa_nil))))
      (pss_one (ps_ret (pe_listZip3 (by rfl) T.b_list (by rfl) T.b_zip (pa_cons (pv 2) (pa_cons (pv 1) (pa_cons (pe_slice (sl_seqK (K := K) rfl) (pv 2) (po_some pe_int) po_none) pa_nil))))))), ?_⟩
  try dsimp only [cxOf, Cx.nox, Cx.wish]
  rintro S ds ⟨w, lot, rfl, hlen, hR⟩
  show Goes S [] (nEnd S) _ [some (plD CP w), some (.tup (lot.map .int)), none] S.C0
  walk_at "pf"
  refine ⟨w, lot, rfl, hlen, ?_⟩
  walk_at "pf"
  refine g_ret ?_ Cov.refl
  refine w_listZip3 ?_
  walk_at "pf"
  refine w_sliceFrom ?_
  walk_at "pf"
  refine ⟨2, _, rfl, .inr ⟨rfl, ?_⟩⟩
  walk_at "pf"
  exact ⟨_, _, _, rfl, hR⟩
def pSpareAt (CP CL : Addr) : PT_ := fun Γ ds R => ∃ (w : Wd) (kd od : Addr) (l r e : Int), ds = [ldD CP CL w kd od, .int l, .int r, .int e] ∧ w.Ok ∧ Tri w l r e ∧ (kd, ceK w) ∈ Γ.c ∧ R (fr (w.str r - w.ld l r e))
abbrev N_spare_at : List Str := ["loads", "left", "prop", "right"]
theorem sc_spare_at : FnScope N_spare_at ["loads", "left", "prop", "right"] (defScope s_spare_at) := ⟨rfl, rfl, rfl, by decide +kernel, rfl, by decide +kernel, by decide +kernel⟩
theorem ok_spare_at {P : Program} {w : World} {K : PySem.W.Frag} {mg : Str → Option Value} {base : Heap} {aN aO CP CL : Addr} (T : Tp K mg aN aO CP CL)  (F_less : Fk P w K mg base "less" ["one", "other"] 3 (SpG K (pLess))) (M_Loads_lies_on : Fm P w K mg base CL "lies_on" ["self", "left", "rest", "right"] 6 (SpG K (pLies CP CL))) (M_Plank_props : Fm P w K mg base CP "props" ["self"] 1 (SpG K (pProps CP))) {f : Addr} {fd : FuncData} (F : FunD K "spare_at" "spare_at" (defArgs s_spare_at) (defBody s_spare_at) (defScope s_spare_at) [] [] f fd) : FnOk P w K mg base CX0 7 f fd ["loads", "left", "prop", "right"] (SpG K (pSpareAt CP CL)) := by
  refine okG F sc_spare_at (by intro Γ ds R h; repeat' (first | (obtain ⟨e, _⟩ := h; subst e; rfl) | (obtain ⟨_, h⟩ := h))) (fun cdv A outer s H E hr => ?_)
  refine ⟨_, (pss_one (ps_ret (pe_F F_less (hr.mono (by decide)) rfl (pa_cons (pe_ix (ix_seqK (K := K) rfl) (pe_ix (ix_seqK (K := K) rfl) (pe_M0 M_Plank_props T.cl_Plank (hr.mono (by decide)) (pe_fldK (K := K) rfl (pv 0) rfl)) (pv 2) (fun _ _ => rfl)) pe_int (fun _ _ => rfl)) (pa_cons (pe_M M_Loads_lies_on T.cl_Loads (hr.mono (by decide)) (pv 0) (pa_cons (pv 1) (pa_cons (pv 2) (pa_cons (pv 3) pa_nil)))) pa_nil))))), ?_⟩
  try dsimp only [cxOf, Cx.nox, Cx.wish]
  rintro S ds ⟨w, kd, od, l, r, e, rfl, ok, ht, hm, hR⟩
  show Goes S [] (nEnd S) _ [some (ldD CP CL w kd od), some (.int l), some (.int r), some (.int e)] S.C0
  obtain ⟨hqs, hld⟩ := ok.ld_sz ht.1 ht.2.1 ht.2.2.1 ht.2.2.2
  refine g_ret ?_ Cov.refl
  walk_at "pf"
  walk_at "fl"
  refine ⟨_, rfl, rfl, ?_⟩
  walk_at "pf"
  refine ⟨w, rfl, ?_⟩
  walk_at "pf"
  obtain ⟨t1, t2, t3, t4⟩ := ht
  obtain ⟨i, hi⟩ : ∃ i : Nat, r = (i : Int) := ⟨r.toNat, by omega⟩
  obtain ⟨p, hpi, hpm⟩ := ps_at (w := w) (i := i) (by omega)
  refine o_ixLi (d := prD p) ?_ ?_
  · rw [hi]
    refine atI_nat ?_
    rw [List.getElem?_map, hpi]
    rfl
  walk_at "pf"
  refine ⟨_, rfl, rfl, ?_⟩
  walk_at "pf"
  refine ⟨w, kd, od, l, r, e, rfl, ok, ⟨t1, t2, t3, t4⟩, hm, ?_⟩
  walk_at "pf"
  have es : w.str r = p.2 := by rw [hi]; exact str_in hpi
  rw [es] at hR
  exact ⟨p.2, _, rfl, (ok.hp p hpm).2.2.1.sm (by decide), hld.sm (by decide), hR⟩
abbrev spD (kvs : List (Int × Rat)) : List (Key × D) := kvs.map fun kv => (Sum.inl kv.1, fr kv.2)
def pSparesOf (CP CL : Addr) : PT_ := fun Γ ds R => ∃ (w : Wd) (kd od : Addr) (lot : List Int), ds = [ldD CP CL w kd od, .tup (lot.map .int)] ∧ w.Ok ∧ Lot w lot ∧ lot.length ≤ 100 ∧ (kd, ceK w) ∈ Γ.c ∧ R (.dK (spD (spK w lot)))
theorem spTo_new {w : Wd} {lot : List Int} (hl : Lot w lot) {k : Nat} (hk : k < lot.length) : (Sum.inl (RR w.n lot (k + 1)) : Key) ∉ (spD (spTo w lot k)).map (·.1) := by
  intro h
  obtain ⟨x, hx, e⟩ := List.mem_map.mp h
  obtain ⟨y, hy, e2⟩ := List.mem_map.mp hx
  unfold spTo at hy
  obtain ⟨i, hi, e3⟩ := List.mem_map.mp hy
  have hi' := List.mem_range.mp hi
  subst e3
  subst e2
  have e4 : RR w.n lot (i + 1) = RR w.n lot (k + 1) := Sum.inl.inj e
  have := pw_get hl.rests_up (i := i + 1) (j := k + 1) (by omega) (RR_get (by omega)) (RR_get (by omega))
  omega
abbrev N_spares_of : List Str := ["loads", "lot", "left", "prop", "right"]
theorem sc_spares_of : FnScope N_spares_of ["loads", "lot"] (defScope s_spares_of) := ⟨rfl, rfl, rfl, by decide +kernel, rfl, by decide +kernel, by decide +kernel⟩
theorem ok_spares_of {P : Program} {w : World} {K : PySem.W.Frag} {mg : Str → Option Value} {base : Heap} {aN aO CP CL : Addr} (T : Tp K mg aN aO CP CL)  (F_spare_at : Fk P w K mg base "spare_at" ["loads", "left", "prop", "right"] 7 (SpG K (pSpareAt CP CL))) (F_with_sides : Fk P w K mg base "with_sides" ["plank", "lot"] 3 (SpG K (pWithSides CP))) {f : Addr} {fd : FuncData} (F : FunD K "spares_of" "spares_of" (defArgs s_spares_of) (defBody s_spares_of) (defScope s_spares_of) [] [] f fd) : FnOk P w K mg base CX0 8 f fd ["loads", "lot"] (SpG K (pSparesOf CP CL)) := by
  refine okG F sc_spares_of (by intro Γ ds R h; repeat' (first | (obtain ⟨e, _⟩ := h; subst e; rfl) | (obtain ⟨_, h⟩ := h))) (fun cdv A outer s H E hr => ?_)
  refine ⟨_, (pss_one (ps_ret (pe_dc (own := [("left", 2), ("prop", 3), ("right", 4)]) rfl sc_spares_of.nd (pi_listK (K := K) rfl (pe_F F_with_sides (hr.mono (by decide)) rfl (pa_cons (pe_fldK (K := K) rfl (pv 0) rfl) (pa_cons (pv 1) pa_nil)))) (blkOk_by (own := [("left", 2), ("prop", 3), ("right", 4)]) (N := N_spares_of) (sc := defScope s_spares_of) (by decide +kernel)) (fun _ _ _ _ _ => (pg_tupK (K := K) (n := 3) rfl rfl (pgs_cons (pg_name (i := 2) sc_spares_of.nd rfl (by first | exact Or.inl rfl | exact Or.inr rfl)) (pgs_cons (pg_name (i := 3) sc_spares_of.nd rfl (by first | exact Or.inl rfl | exact Or.inr rfl)) (pgs_cons (pg_name (i := 4) sc_spares_of.nd rfl (by first | exact Or.inl rfl | exact Or.inr rfl)) pgs_nil))))) (fun _ _ _ _ _ => pts_nil) (fun _ _ _ _ _ => (pv 3)) (fun _ _ _ _ _ => (pe_F F_spare_at (hr.mono (by decide)) rfl (pa_cons (pv 0) (pa_cons (pv 2) (pa_cons (pv 3) (pa_cons (pv 4) pa_nil))))))))), ?_⟩
  try dsimp only [cxOf, Cx.nox, Cx.wish]
  rintro S ds ⟨w, kd, od, lot, rfl, ok, hl, hlen, hm, hR⟩
  show Goes S [] (nEnd S) _ [some (ldD CP CL w kd od), some (.tup (lot.map .int)), none, none, none] S.C0
  refine g_ret ?_ Cov.refl
  refine w_dc (i_list ?_)
  walk_at "pf"
  walk_at "fl"
  walk_at "pf"
  refine ⟨w, lot, rfl, hlen, ?_⟩
  refine ⟨_, rfl, by rw [zip3_len]; omega, fun i acc => acc = spD (spTo w lot i), rfl, ?_, ?_⟩
  · rintro i d acc hd rfl hai
    obtain ⟨hi, rfl⟩ := zip3_at hd
    refine gw_tup rfl (gws_cons (gw_name (by simp) (gws_cons (gw_name (by simp) (gws_cons (gw_name (by simp) (gws_nil (t_yes (tT ?_)))))))))
    walk_at "pf"
    refine ⟨w, kd, od, _, _, _, rfl, ok, hl.tri hi, hm, ?_⟩
    refine ⟨_, rfl, ?_⟩
    rw [putD_new (spTo_new hl hi)]
    show _ ++ _ = _
    rw [spTo_succ]
    unfold spD
    rw [List.map_append]
    rfl
  · rintro acc rfl
    rw [zip3_len]
    exact hR
def pCheckWeight : PT_ := fun Γ ds R => ∃ q, ds = [fr q] ∧ Sm q ∧ 0 < q ∧ R .non
abbrev N_check_weight : List Str := ["thing"]
theorem sc_check_weight : FnScope N_check_weight ["thing"] (defScope s_check_weight) := ⟨rfl, rfl, rfl, by decide +kernel, rfl, by decide +kernel, by decide +kernel⟩
theorem ok_check_weight {P : Program} {w : World} {K : PySem.W.Frag} {mg : Str → Option Value} {base : Heap} {aN aO CP CL : Addr} (T : Tp K mg aN aO CP CL)  (F_is_below : Fk P w K mg base "is_below" ["one", "other"] 1 (SpG K (pBelow))) (F_is_fraction : Fk P w K mg base "is_fraction" ["thing"] 2 (SpG K (pIsFraction))) {f : Addr} {fd : FuncData} (F : FunD K "check_weight" "check_weight" (defArgs s_check_weight) (defBody s_check_weight) (defScope s_check_weight) [] [] f fd) : FnOk P w K mg base CX0 3 f fd ["thing"] (SpG K (pCheckWeight)) := by
  refine okG F sc_check_weight (by intro Γ ds R h; repeat' (first | (obtain ⟨e, _⟩ := h; subst e; rfl) | (obtain ⟨_, h⟩ := h))) (fun cdv A outer s H E hr => ?_)
  refine ⟨_, (pss_one (ps_if (PW.pt (pw_or (pt_not (pt_val (pe_F F_is_fraction (hr.mono (by decide)) rfl (pa_cons (pv 0) pa_nil)) (by intro _; rfl))) (pw_or1 (pt_not (pt_val (pe_F F_is_below (hr.mono (by decide)) rfl (pa_cons (pe_gref rfl T.g_NOUGHT) (pa_cons (pv 0) pa_nil))) (by intro _; rfl)))))) 
          (pss_one ps_never) pss_nil)), ?_⟩
  try dsimp only [cxOf, Cx.nox, Cx.wish]
  rintro S ds ⟨q, rfl, hs, h0, hR⟩
  show Goes S [] (nEnd S) _ [some (fr q)] S.C0
  refine g_one ?_
  walk_at "pf"
  refine ⟨q, rfl, ?_⟩
  walk_at "pf"
  refine w_gtup T.t_NOUGHT ?_
  walk_at "pf"
  refine ⟨0, q, rfl, sm0, hs, ?_⟩
  rw [decide_eq_true h0]
  walk_at "pf"
  exact g_done (S.cov _ _ Cov.refl hR)
theorem rangeD_allL (n : Nat) : rangeD 0 n = (allL n).map D.int := by
  unfold rangeD allL
  rw [List.map_map]
  refine List.map_congr_left fun i _ => ?_
  show D.int (0 + (i : Nat)) = D.int (i : Int)
  rw [Int.zero_add]
theorem allL_len (n : Nat) : (allL n).length = n := by unfold allL; simp
theorem spD_eq (l : List (Int × Rat)) : spD l = (l.map fun kv => (kv.1, fr kv.2)).map (fun kv => ((Sum.inl kv.1 : Key), kv.2)) := by rw [List.map_map]; rfl
def pWeakest (CP : Addr) : PT_ := fun Γ ds R => ∃ w : Wd, ds = [plD CP w, .lst (w.hs.map wtD)] ∧ w.Ok ∧ Γ.z = [] ∧ ∀ fin, Fin_ w (allL w.n) fin → R (wkD (spK w fin))
theorem memIn2 {w : Wd} {kd od : Addr} {c : List (Addr × Cel)} {z : List Addr} (h : kd ≠ od) : MemIn ⟨(od, ceO w) :: (kd, ceK w) :: c, z⟩ w kd od := ⟨by simp, by simp, h⟩
abbrev N_weakest : List Str := ["plank", "weights", "loads", "spares", "fewest", "prop", "much"]
theorem sc_weakest : FnScope N_weakest ["plank", "weights"] (defScope s_weakest) := ⟨rfl, rfl, rfl, by decide +kernel, rfl, by decide +kernel, by decide +kernel⟩
theorem ok_weakest {P : Program} {w : World} {K : PySem.W.Frag} {mg : Str → Option Value} {base : Heap} {aN aO CP CL : Addr} (T : Tp K mg aN aO CP CL)  (F_least : Fk P w K mg base "least" ["some"] 2 (SpG K (pLeast))) (F_loads_of : Fk P w K mg base "loads_of" ["plank", "weights"] 8 (SpX K (pLoadsOf CP CL))) (F_lot_of : Fk P w K mg base "lot_of" ["plank", "lot"] 3 (SpG K (pLotOf CP))) (F_settled : Fk P w K mg base "settled" ["loads", "lot"] 10 (SpG K (pSettled CP CL))) (F_spares_of : Fk P w K mg base "spares_of" ["loads", "lot"] 8 (SpG K (pSparesOf CP CL))) {f : Addr} {fd : FuncData} (F : FunD K "weakest" "weakest" (defArgs s_weakest) (defBody s_weakest) (defScope s_weakest) [] [] f fd) : FnOk P w K mg base CX0 11 f fd ["plank", "weights"] (SpG K (pWeakest CP)) := by
  refine okG F sc_weakest (by intro Γ ds R h; repeat' (first | (obtain ⟨e, _⟩ := h; subst e; rfl) | (obtain ⟨_, h⟩ := h))) (fun cdv A outer s H E hr => ?_)
  refine ⟨_, (pss_cons (ps_set (i := 2) sc_weakest.nd rfl (by first | exact Or.inl rfl | exact Or.inr rfl) (pe_F F_loads_of (hr.mono (by decide)) rfl (pa_cons (pv 0) (pa_cons (pv 1) pa_nil))))
      (pss_cons (ps_set (i := 3) sc_weakest.nd rfl (by first | exact Or.inl rfl | exact Or.inr rfl) (pe_F F_spares_of (hr.mono (by decide)) rfl (pa_cons (pv 2) (pa_cons (pe_ix (ix_seqK (K := K) rfl) (pe_F F_settled (hr.mono (by decide)) rfl (pa_cons (pv 2) (pa_cons (pe_F F_lot_of (hr.mono (by decide)) rfl (pa_cons (pv 0) (pa_cons pe_non pa_nil))) pa_nil))) pe_int (fun _ _ => rfl)) pa_nil))))
      (pss_cons (ps_if (pt_cmpR (op_eqE hr.units0) (pv 3) pe_dnewK (nomark _)) 
          (pss_one (ps_ret pe_non)) pss_nil)
      (pss_cons (ps_set (i := 4) sc_weakest.nd rfl (by first | exact Or.inl rfl | exact Or.inr rfl) (pe_F F_least (hr.mono (by decide)) rfl (pa_cons (pe_callTy (call_listV rfl) (by rfl) T.b_list bt_list (pa_cons (pe_bm0 PySem.F.plainAttrs_dict PySem.F.slot_dict_values PySem.F.type_dict_values mt_values (pv 3)) pa_nil)) pa_nil)))
      (pss_one (ps_ret (pe_ix (ix_seqK (K := K) rfl) (pe_lock (pe_lc (own := [("prop", 5), ("much", 6)]) rfl sc_weakest.nd (pi_items (pv 3)) (blkOk_by (own := [("prop", 5), ("much", 6)]) (N := N_weakest) (sc := defScope s_weakest) (by decide +kernel)) (fun _ _ _ _ _ => (pg_tupK (K := K) (n := 2) rfl rfl (pgs_cons (pg_name (i := 5) sc_weakest.nd rfl (by first | exact Or.inl rfl | exact Or.inr rfl)) (pgs_cons (pg_name (i := 6) sc_weakest.nd rfl (by first | exact Or.inl rfl | exact Or.inr rfl)) pgs_nil)))) (fun _ _ _ _ _ => (pts_one (pt_cmpR (op_equK (K := K) rfl hr.units) (pv 6) (pv 4) (nomark _)))) (fun _ _ _ _ _ => (pe_tup (pa_cons (pv 5) (pa_cons (pv 4) pa_nil)))))) pe_int (fun _ _ => rfl)))))))), ?_⟩
  try dsimp only [cxOf, Cx.nox, Cx.wish]
  rintro S ds ⟨w, rfl, ok, hz, hR⟩
  show Goes S [] (nEnd S) _ [some (plD CP w), some (.lst (w.hs.map wtD)), none, none, none, none, none] S.C0
  have hn := ok.hn
  walk_at "pf"
  refine ⟨w, rfl, ok, fun kd od hne hfr => ?_⟩
  have mi := memIn2 (w := w) (c := S.C0.c) (z := S.C0.z) hne
  have cov : Cov ⟨(od, ceO w) :: (kd, ceK w) :: S.C0.c, S.C0.z⟩ S.C0 := Cov.tail.trans Cov.tail
  walk_at "pf"
  refine ⟨w, rfl, by omega, ?_⟩
  walk_at "pf"
  rw [rangeD_allL]
  refine ⟨w, kd, od, allL w.n, rfl, ok, allL_lot w, by rw [allL_len]; omega, mi, fun row fin hf => ?_⟩
  have hlen := hf.len
  rw [allL_len] at hlen
  walk_at "pf"
  refine ⟨w, kd, od, fin, rfl, ok, hf.isLot, by omega, mi.1, ?_⟩
  walk_at "pf"
  refine w_newK ?_
  refine o_eqE ?_
  refine ⟨_, rfl, ?_⟩
  have hs : ∀ q ∈ (spK w fin).map (·.2), Sz 342 q := by
    intro q hq
    obtain ⟨x, hx, rfl⟩ := List.mem_map.mp hq
    obtain ⟨i, hi⟩ := List.mem_iff_getElem?.mp hx
    have hil : i < fin.length := by
      have := (List.getElem?_eq_some_iff.mp hi).1
      have e := congrArg List.length (spK_keys w fin)
      rw [List.length_map] at e
      omega
    rw [spK_get hil] at hi
    cases hi
    exact ok.sp_sz hf.isLot hil
  have hR' := hR fin hf
  have hkl : (spK w fin).length = fin.length := by
    have e := congrArg List.length (spK_keys w fin)
    rw [List.length_map] at e
    exact e
  cases hsp : spK w fin with
  | nil =>
    rw [hsp] at hR'
    walk_at "pf"
    exact g_retS (g_ret (w_non hR') cov)
  | cons kv r =>
    rw [hsp] at hR' hs hkl
    walk_at "pf"
    · exact hz
    walk_at "pf"
    refine ⟨_, rfl, ?_⟩
    walk_at "pf"
    have e1 : (spD (kv :: r)).map (·.2) = ((kv :: r).map (·.2)).map fr := by rw [List.map_map, List.map_map]; rfl
    rw [e1]
    refine ⟨kv.2, r.map (·.2), rfl, fun q hq => (hs q (by rw [List.map_cons]; exact hq)).sm (by decide), ?_⟩
    refine g_ret ?_ cov
    refine w_op ?_
    refine w_lcItems (kvs := (kv :: r).map fun kv => (kv.1, fr kv.2)) (by rw [← spD_eq]; rfl) hz (by rw [List.length_map]; omega) (fun i acc => acc = (((kv :: r).take i).filter fun x => decide (x.2 = minQ kv.2 ((kv :: r).map (·.2)))).map fun x => .tup [.int x.1, fr (minQ kv.2 ((kv :: r).map (·.2)))]) rfl ?_ ?_
    · rintro a i x acc hx rfl
      obtain ⟨y, hy, ey⟩ : ∃ y, (kv :: r)[i]? = some y ∧ x = (y.1, fr y.2) := by
        rw [List.getElem?_map] at hx
        cases e : (kv :: r)[i]? with
        | none => rw [e] at hx; cases hx
        | some y => rw [e] at hx; exact ⟨y, rfl, (Option.some.inj hx).symm⟩
      subst ey
      refine gw_tup rfl (gws_cons (gw_name (by simp) (gws_cons (gw_name (by simp) (gws_nil ?_)))))
      walk_at "pf"
      refine o_equD (fr_pl _) (fr_pl _) (by decide) (by decide) fun b hb => ?_
      refine ⟨_, rfl, ?_⟩
      cases b with
      | true =>
        refine ifpB rfl ?_
        have e := fr_inj (hb.mp rfl)
        refine w_tup ?_
        walk_at "pf"
        refine ⟨by simp, ?_⟩
        show _ ++ _ = _
        rw [filter_take hy, if_pos (by rw [decide_eq_true_eq]; exact e), List.map_append]
        rfl
      | false =>
        refine ifnB rfl ?_
        show _ = _
        rw [filter_take hy, if_neg (by
          rw [decide_eq_true_eq]
          intro e
          exact absurd (hb.mpr (congrArg fr e)) (by decide)), List.append_nil]
    · rintro acc rfl
      walk_at "pf"
      rw [List.length_map, List.take_length]
      unfold wkD at hR'
      dsimp only at hR'
      have hmin := minQ_in (q0 := kv.2) (qs := r.map (·.2))
      have hex : ∃ y ∈ kv :: r, y.2 = minQ kv.2 ((kv :: r).map (·.2)) := by
        have : minQ kv.2 ((kv :: r).map (·.2)) ∈ (kv :: r).map (·.2) := hmin
        obtain ⟨y, hy, e⟩ := List.mem_map.mp this
        exact ⟨y, hy, e⟩
      cases hfl : (kv :: r).filter fun x => decide (x.2 = minQ kv.2 ((kv :: r).map (·.2))) with
      | nil =>
        obtain ⟨y, hy, e⟩ := hex
        have := List.filter_eq_nil_iff.mp hfl y hy
        rw [decide_eq_true_eq] at this
        exact absurd e this
      | cons x xs =>
        rw [hfl] at hR'
        exact o_ixLi (d := .tup [.int x.1, fr (minQ kv.2 ((kv :: r).map (·.2)))]) (by rw [List.map_cons]; exact atI_zero) hR'
end PF
end
section
set_option Elab.async false
set_option linter.all false
set_option maxRecDepth 100000
set_option maxHeartbeats 2000000
namespace PF
open PySem PySem.Spec L2 RZ
local macro_rules | `(tactic| walk_at "pf1") => `(tactic| first
  | ((with_reducible refine' w_var ?pfh ?_); (case pfh => rfl))
  | with_reducible refine w_int ?_
  | with_reducible refine w_ty ?_
  | with_reducible refine w_op ?_
  | with_reducible refine w_listVals ?_ ?_
  | with_reducible refine w_cb ?_
  | with_reducible refine w_call ?_
  | with_reducible refine a_cons ?_
  | with_reducible refine a_nil ?_
  | with_reducible refine o_sub ?_
  | with_reducible refine o_plusI ?_
  | ((with_reducible refine' o_ixTu ?pfh ?_); (case pfh => rfl))
  | ((with_reducible refine' o_ixLi ?pfh ?_); (case pfh => rfl))
  | ((with_reducible refine' o_ixKe ?pfh ?_); (case pfh => rfl))
  | with_reducible refine w_bl ?_
  | with_reducible refine w_non ?_
  | with_reducible refine w_str ?_
  | with_reducible refine w_un ?_
  | with_reducible refine w_fld ?_
  | with_reducible refine w_meth ?_
  | with_reducible refine t_test ?_
  | with_reducible refine t_B ?_
  | with_reducible refine t_and ?_
  | with_reducible refine t_or ?_
  | with_reducible refine t_not ?_
  | with_reducible refine w_andV ?_
  | with_reducible refine w_orV ?_
  | with_reducible refine w_notV ?_
  | with_reducible refine w_if ?_
  | with_reducible refine w_chain ?_
  | with_reducible refine o_lt ?_
  | with_reducible refine o_gt ?_
  | with_reducible refine o_le ?_
  | with_reducible refine o_ge ?_
  | with_reducible refine o_equI ?_
  | with_reducible refine o_neqI ?_
  | with_reducible refine o_neg ?_
  | with_reducible refine c_abs ?_
  | with_reducible refine c_int ?_
  | with_reducible refine g_asgX ?_
  | with_reducible refine g_asg ?_
  | with_reducible refine g_drop ?_
  | with_reducible refine g_if ?_
  | with_reducible refine g_next ?_
  | with_reducible refine g_assoc ?_
  | with_reducible refine g_retS ?_
  | with_reducible refine exbl ?_
  | with_reducible refine tT ?_
  | with_reducible refine tF ?_
  | with_reducible refine tNT ?_
  | with_reducible refine tNF ?_
  | ((with_reducible refine' ifpB ?pfh ?_); (case pfh => rfl))
  | ((with_reducible refine' ifnB ?pfh ?_); (case pfh => rfl)))
local macro_rules | `(tactic| walk_at "fl") => `(tactic| first
  | refine ⟨_, _, _, rfl, Tp.cl_Plank ‹_›, Tp.n_long ‹_›, rfl, ?_⟩
  | refine ⟨_, _, _, rfl, Tp.cl_Plank ‹_›, Tp.n_stakes ‹_›, rfl, ?_⟩
  | refine ⟨_, _, _, rfl, Tp.cl_Plank ‹_›, Tp.n_limit ‹_›, rfl, ?_⟩
  | refine ⟨_, _, _, rfl, Tp.cl_Loads ‹_›, Tp.n_plank ‹_›, rfl, ?_⟩
  | refine ⟨_, _, _, rfl, Tp.cl_Loads ‹_›, Tp.n_weights ‹_›, rfl, ?_⟩
  | refine ⟨_, _, _, rfl, Tp.cl_Loads ‹_›, Tp.n_known ‹_›, rfl, ?_⟩
  | refine ⟨_, _, _, rfl, Tp.cl_Loads ‹_›, Tp.n_over ‹_›, rfl, ?_⟩)
local macro_rules | `(tactic| walk_at "pf") => `(tactic| repeat (walk_at "pf1"))

theorem lookD_of {κ : Type} [DecidableEq κ] {kvs : List (κ × D)} {k : κ} {d : D} (hn : (kvs.map (·.1)).Nodup) (h : (k, d) ∈ kvs) : lookD kvs k = some d := by
  unfold lookD
  induction kvs with
  | nil => cases h
  | cons x kvs ih =>
    have hn' := List.nodup_cons.mp (show (x.1 :: kvs.map (·.1)).Nodup from hn)
    rcases List.mem_cons.mp h with e | h
    · rw [← e, List.find?_cons_of_pos (by simp)]; rfl
    · have ne : x.1 ≠ k := fun e => hn'.1 (List.mem_map.mpr ⟨_, h, e.symm⟩)
      rw [List.find?_cons_of_neg (by simpa using ne)]
      exact ih hn'.2 h
theorem spD_nodup {w : Wd} {lot : List Int} (hl : Lot w lot) : ((spD (spK w lot)).map (·.1)).Nodup := by
  have e : (spD (spK w lot)).map (·.1) = ((spK w lot).map (·.1)).map (Sum.inl : Int → Key) := by rw [List.map_map, List.map_map]; rfl
  rw [e, spK_keys]
  exact List.Pairwise.map _ (fun a b (h : a < b) e => by have := Sum.inl.inj e; omega) hl.up
theorem sp_look {w : Wd} {lot : List Int} (hl : Lot w lot) {i : Nat} (hi : i < lot.length) : lookD (spD (spK w lot)) (Sum.inl (RR w.n lot (i + 1))) = some (fr (spAt w lot i)) :=
  lookD_of (spD_nodup hl) (List.mem_map.mpr ⟨_, List.mem_of_getElem? (spK_get hi), rfl⟩)
theorem sp_key {w : Wd} {lot : List Int} {r : Int} : (Sum.inl r : Key) ∈ (spD (spK w lot)).map (·.1) ↔ r ∈ lot := by
  have e : (spD (spK w lot)).map (·.1) = ((spK w lot).map (·.1)).map (Sum.inl : Int → Key) := by rw [List.map_map, List.map_map]; rfl
  rw [e, spK_keys, List.mem_map]
  constructor
  · rintro ⟨x, hx, e⟩
    rw [← Sum.inl.inj e]; exact hx
  · exact fun h => ⟨r, h, rfl⟩
def topD (w : Wd) (lot : List Int) (i : Nat) : D := .tup [.int (RR w.n lot (i + 1)), .int (RR w.n lot (i + 2)), fr (botQ w lot i), fr (topQ w lot i)]
def topsTo (w : Wd) (lot : List Int) (k : Nat) : List D := (List.range k).map (topD w lot)
theorem range_snoc {α : Type} (f : Nat → α) (k : Nat) : (List.range k).map f ++ [f k] = (List.range (k + 1)).map f := by rw [List.range_succ, List.map_append]; rfl
theorem zip1_len (xs : List Int) : (zipD (xs.map .int) ((xs.map .int).drop 1)).length = xs.length - 1 := by
  unfold zipD
  rw [List.length_zipWith, List.length_drop, List.length_map]
  omega
theorem zip1_at {xs : List Int} {i : Nat} {d : D} (h : (zipD (xs.map .int) ((xs.map .int).drop 1))[i]? = some d) : ∃ a b, xs[i]? = some a ∧ xs[i + 1]? = some b ∧ d = .tup [.int a, .int b] := by
  obtain ⟨a, b, h1, h2, e⟩ := zipD_get h
  rw [List.getElem?_drop] at h2
  obtain ⟨x, hx, ex⟩ := map_get h1
  obtain ⟨y, hy, ey⟩ := map_get h2
  exact ⟨x, y, hx, by rw [Nat.add_comm]; exact hy, by rw [e, ex, ey]⟩
def pMost (CP : Addr) : PT_ := fun Γ ds R => ∃ w : Wd, ds = [plD CP w, .lst (w.hs.map wtD)] ∧ w.Ok ∧ Γ.z = [] ∧ ∀ fin, Fin_ w (allL w.n) fin → R (.lst (topsTo w fin (fin.length - 1)))
theorem bot_sz {w : Wd} {lot : List Int} (ok : w.Ok) (hl : Lot w lot) {i : Nat} (hi : i + 1 < lot.length) : Sz 685 (botQ w lot i) := ((ok.sp_sz hl (i := i) (by omega)).add (ok.sp_sz hl hi)).mono (by decide)
abbrev N_most_borne : List Str := ["plank", "weights", "loads", "lot", "spares", "found", "left", "right", "low", "high", "much", "way"]
theorem sc_most_borne : FnScope N_most_borne ["plank", "weights"] (defScope s_most_borne) := ⟨rfl, rfl, rfl, by decide +kernel, rfl, by decide +kernel, by decide +kernel⟩
theorem ok_most_borne {P : Program} {w : World} {K : PySem.W.Frag} {mg : Str → Option Value} {base : Heap} {aN aO CP CL : Addr} (T : Tp K mg aN aO CP CL)  (F_less : Fk P w K mg base "less" ["one", "other"] 3 (SpG K (pLess))) (F_loads_of : Fk P w K mg base "loads_of" ["plank", "weights"] 8 (SpX K (pLoadsOf CP CL))) (F_lot_of : Fk P w K mg base "lot_of" ["plank", "lot"] 3 (SpG K (pLotOf CP))) (F_over : Fk P w K mg base "over" ["one", "other"] 3 (SpG K (pOver))) (F_plus : Fk P w K mg base "plus" ["one", "other"] 3 (SpG K (pPlus))) (F_settled : Fk P w K mg base "settled" ["loads", "lot"] 10 (SpG K (pSettled CP CL))) (F_spares_of : Fk P w K mg base "spares_of" ["loads", "lot"] 8 (SpG K (pSparesOf CP CL))) (F_times : Fk P w K mg base "times" ["one", "other"] 3 (SpG K (pTimes))) (F_whole : Fk P w K mg base "whole" ["number"] 1 (SpG K (pWhole))) (M_Plank_place_of : Fm P w K mg base CP "place_of" ["self", "rest"] 2 (SpG K (pPlaceOf CP))) {f : Addr} {fd : FuncData} (F : FunD K "most_borne" "most_borne" (defArgs s_most_borne) (defBody s_most_borne) (defScope s_most_borne) [] [] f fd) : FnOk P w K mg base CX0 11 f fd ["plank", "weights"] (SpG K (pMost CP)) := by
  refine okG F sc_most_borne (by intro Γ ds R h; repeat' (first | (obtain ⟨e, _⟩ := h; subst e; rfl) | (obtain ⟨_, h⟩ := h))) (fun cdv A outer s H E hr => ?_)
  refine ⟨_, (pss_cons (ps_set (i := 2) sc_most_borne.nd rfl (by first | exact Or.inl rfl | exact Or.inr rfl) (pe_F F_loads_of (hr.mono (by decide)) rfl (pa_cons (pv 0) (pa_cons (pv 1) pa_nil))))
      (pss_cons (ps_set (i := 3) sc_most_borne.nd rfl (by first | exact Or.inl rfl | exact Or.inr rfl) (pe_ix (ix_seqK (K := K) rfl) (pe_F F_settled (hr.mono (by decide)) rfl (pa_cons (pv 2) (pa_cons (pe_F F_lot_of (hr.mono (by decide)) rfl (pa_cons (pv 0) (pa_cons pe_non pa_nil))) pa_nil))) pe_int (fun _ _ => rfl)))
      (pss_cons (ps_set (i := 4) sc_most_borne.nd rfl (by first | exact Or.inl rfl | exact Or.inr rfl) (pe_F F_spares_of (hr.mono (by decide)) rfl (pa_cons (pv 2) (pa_cons (pv 3) pa_nil))))
      (pss_cons (ps_set (i := 5) sc_most_borne.nd rfl (by first | exact Or.inl rfl | exact Or.inr rfl) (pe_lst pa_nil))
      (pss_cons (ps_for PassesOwn.never rfl (pi_zipAK (K := K) rfl (by rfl) T.b_zip (pa_cons (pv 3) (pa_cons (pe_slice (sl_seqK (K := K) rfl) (pv 3) (po_some pe_int) po_none) pa_nil))) (pg_tupK (K := K) (n := 2) rfl rfl (pgs_cons (pg_name (i := 6) sc_most_borne.nd rfl (by first | exact Or.inl rfl | exact Or.inr rfl)) (pgs_cons (pg_name (i := 7) sc_most_borne.nd rfl (by first | exact Or.inl rfl | exact Or.inr rfl)) pgs_nil))) 
          (pss_cons (ps_par (i := 8) (j := 9) (by rfl) sc_most_borne.nd rfl rfl (by decide) rfl rfl (pa_cons (pe_F F_whole (hr.mono (by decide)) rfl (pa_cons (pe_M M_Plank_place_of T.cl_Plank (hr.mono (by decide)) (pv 0) (pa_cons (pv 6) pa_nil)) pa_nil)) (pa_cons (pe_F F_whole (hr.mono (by decide)) rfl (pa_cons (pe_M M_Plank_place_of T.cl_Plank (hr.mono (by decide)) (pv 0) (pa_cons (pv 7) pa_nil)) pa_nil)) pa_nil)) (by rfl))
          (pss_cons (ps_set (i := 10) sc_most_borne.nd rfl (by first | exact Or.inl rfl | exact Or.inr rfl) (pe_F F_plus (hr.mono (by decide)) rfl (pa_cons (pe_dget (hu_of hr) (pv 4) (pv 6) (fun _ _ => rfl)) (pa_cons (pe_dget (hu_of hr) (pv 4) (pv 7) (fun _ _ => rfl)) pa_nil))))
          (pss_cons (ps_set (i := 11) sc_most_borne.nd rfl (by first | exact Or.inl rfl | exact Or.inr rfl) (pe_ifExp (pt_cmpR (op_equK (K := K) rfl hr.units) (pv 10) (pe_gref rfl T.g_NOUGHT) (nomark _)) (pe_gref rfl T.g_NOUGHT) (pe_F F_over (hr.mono (by decide)) rfl (pa_cons (pe_F F_times (hr.mono (by decide)) rfl (pa_cons (pe_dget (hu_of hr) (pv 4) (pv 7) (fun _ _ => rfl)) (pa_cons (pe_F F_less (hr.mono (by decide)) rfl (pa_cons (pv 9) (pa_cons (pv 8) pa_nil))) pa_nil))) (pa_cons (pv 10) pa_nil)))))
          (pss_one (ps_expr (pe_bm PySem.F.plainAttrs_list PySem.F.slot_list_append PySem.F.type_list_append mt_append (pv 5) (pa_cons (pe_tup (pa_cons (pv 6) (pa_cons (pv 7) (pa_cons (pv 10) (pa_cons (pe_F F_plus (hr.mono (by decide)) rfl (pa_cons (pv 8) (pa_cons (pv 11) pa_nil))) pa_nil))))) pa_nil))))))))
      (pss_one (ps_ret (pv 5)))))))), ?_⟩
  try dsimp only [cxOf, Cx.nox, Cx.wish]
  rintro S ds ⟨w, rfl, ok, hz, hR⟩
  show Goes S [] (nEnd S) _ [some (plD CP w), some (.lst (w.hs.map wtD)), none, none, none, none, none, none, none, none, none, none] S.C0
  have hn := ok.hn
  walk_at "pf"
  refine ⟨w, rfl, ok, fun kd od hne hfr => ?_⟩
  have mi := memIn2 (w := w) (c := S.C0.c) (z := S.C0.z) hne
  have cov : Cov ⟨(od, ceO w) :: (kd, ceK w) :: S.C0.c, S.C0.z⟩ S.C0 := Cov.tail.trans Cov.tail
  walk_at "pf"
  refine ⟨w, rfl, by omega, ?_⟩
  walk_at "pf"
  rw [rangeD_allL]
  refine ⟨w, kd, od, allL w.n, rfl, ok, allL_lot w, by rw [allL_len]; omega, mi, fun row fin hf => ?_⟩
  have hlen := hf.len
  have hl := hf.isLot
  rw [allL_len] at hlen
  walk_at "pf"
  refine ⟨w, kd, od, fin, rfl, ok, hf.isLot, by omega, mi.1, ?_⟩
  refine g_newL fun p hp0 => ?_
  refine g_for (i_zip ?_)
  walk_at "pf"
  refine w_sliceFrom ?_
  walk_at "pf"
  refine ⟨1, _, rfl, .inr ⟨rfl, ?_⟩⟩
  walk_at "pf"
  refine ⟨_, _, .inr rfl, fun i ρ Γ => ∃ y6 y7 y8 y9 y10 y11, ρ = [some (plD CP w), some (.lst (w.hs.map wtD)), some (ldD CP CL w kd od), some (.tup (fin.map .int)), some (.dK (spD (spK w fin))), some (.cell p), y6, y7, y8, y9, y10, y11] ∧ Γ = ⟨(p, .lst (topsTo w fin i)) :: (od, ceO w) :: (kd, ceK w) :: S.C0.c, S.C0.z⟩, ⟨_, _, _, _, _, _, rfl, rfl⟩, ?_, ?_⟩
  · rintro i d ρ Γ B1 hd ⟨y6, y7, y8, y9, y10, y11, rfl, rfl⟩
    obtain ⟨a, b, ha, hb, rfl⟩ := zip1_at hd
    have hi1 := (List.getElem?_eq_some_iff.mp hb).1
    have ea := RR_mid (n := w.n) ha
    have eb := RR_mid (n := w.n) hb
    refine gw_tup rfl (gws_cons (gw_name trivial (gws_cons (gw_name trivial (gws_nil ?_)))))
    rw [← ea, ← eb]
    have r1 := hl.rest (i := i + 1) (by omega)
    have r2 := hl.rest (i := i + 2) (by omega)
    refine g_par ?_
    walk_at "pf"
    refine ⟨_, rfl, rfl, ?_⟩
    walk_at "pf"
    refine ⟨w, _, rfl, r1, ?_⟩
    walk_at "pf"
    refine ⟨_, rfl, ?_⟩
    walk_at "pf"
    refine ⟨_, rfl, rfl, ?_⟩
    walk_at "pf"
    refine ⟨w, _, rfl, r2, ?_⟩
    walk_at "pf"
    refine ⟨_, rfl, ?_⟩
    walk_at "pf"
    refine ⟨_, _, rfl, ?_⟩
    walk_at "pf"
    have hb := bot_sz ok hl (i := i) (by omega)
    have s0 := ok.sp_sz hl (i := i) (by omega)
    have s1 := ok.sp_sz hl (i := i + 1) (by omega)
    have l1 := ok.lo_sz hl (i := i + 1) (by omega)
    have l2 := ok.lo_sz hl (i := i + 2) (by omega)
    refine w_dgetI ?_
    walk_at "pf"
    refine ⟨_, _, _, .inl rfl, rfl, sp_look hl (i := i) (by omega), ?_⟩
    walk_at "pf"
    refine w_dgetI ?_
    walk_at "pf"
    refine ⟨_, _, _, .inl rfl, rfl, sp_look hl (i := i + 1) (by omega), ?_⟩
    walk_at "pf"
    refine ⟨_, _, rfl, s0.sm (by decide), s1.sm (by decide), ?_⟩
    walk_at "pf"
    refine w_gtup T.t_NOUGHT ?_
    refine o_equD (fr_pl _) (fr_pl 0) (by decide) (by decide) fun b hbb => ?_
    refine ⟨_, rfl, ?_⟩
    have h0 : 0 ≤ botQ w fin i := by
      have a1 := sp_nonneg hf.st (i := i) (by omega)
      have a2 := sp_nonneg hf.st (i := i + 1) (by omega)
      unfold botQ
      grind
    have tl : (topsTo w fin i).length < 1000 := by unfold topsTo; rw [List.length_map, List.length_range]; omega
    have hbq : spAt w fin i + spAt w fin (i + 1) = botQ w fin i := rfl
    rw [hbq] at hbb ⊢
    cases b with
    | true =>
      have e0 : botQ w fin i = 0 := fr_inj (hbb.mp rfl)
      refine ifpB rfl ?_
      refine w_gtup T.t_NOUGHT ?_
      walk_at "pf"
      refine g_one (g_app rfl tl ?_)
      refine w_tup ?_
      walk_at "pf"
      refine ⟨_, 0, rfl, l1.sm (by decide), sm0, ?_⟩
      walk_at "pf"
      refine ⟨by simp, g_done ⟨_, _, _, _, _, _, rfl, ?_⟩⟩
      have e1 : topQ w fin i = loQ w fin (i + 1) + 0 := by unfold topQ; rw [if_pos e0]
      have e2 : D.tup [.int (RR w.n fin (i + 1)), .int (RR w.n fin (i + 1 + 1)), fr (botQ w fin i), fr (loQ w fin (i + 1) + 0)] = topD w fin i := by unfold topD; rw [e1]
      show (⟨(p, .lst (topsTo w fin i ++ [D.tup [.int (RR w.n fin (i + 1)), .int (RR w.n fin (i + 1 + 1)), fr (botQ w fin i), fr (loQ w fin (i + 1) + 0)]])) :: _, _⟩ : Ctx) = _
      rw [e2]
      unfold topsTo
      rw [range_snoc]
    | false =>
      have e0 : ¬ botQ w fin i = 0 := fun z => absurd (hbb.mpr (congrArg fr z)) (by decide)
      have hp' : 0 < botQ w fin i := Rat.lt_of_le_of_ne h0 fun z => e0 z.symm
      refine ifnB rfl ?_
      walk_at "pf"
      refine w_dgetI ?_
      walk_at "pf"
      refine ⟨_, _, _, .inl rfl, rfl, sp_look hl (i := i + 1) (by omega), ?_⟩
      walk_at "pf"
      refine ⟨_, _, rfl, l2.sm (by decide), l1.sm (by decide), ?_⟩
      walk_at "pf"
      have z1 := l2.sub l1
      have z2 := s1.mul z1
      have z3 := z2.div hb hp'
      refine ⟨_, _, rfl, s1.sm (by decide), z1.sm (by decide), ?_⟩
      walk_at "pf"
      refine ⟨_, _, rfl, z2.sm (by decide), hb.sm (by decide), hp', ?_⟩
      refine g_one (g_app rfl tl ?_)
      refine w_tup ?_
      walk_at "pf"
      refine ⟨_, _, rfl, l1.sm (by decide), z3.sm (by decide), ?_⟩
      walk_at "pf"
      refine ⟨by simp, g_done ⟨_, _, _, _, _, _, rfl, ?_⟩⟩
      have e1 : topQ w fin i = loQ w fin (i + 1) + spAt w fin (i + 1) * (loQ w fin (i + 2) - loQ w fin (i + 1)) / botQ w fin i := by unfold topQ; rw [if_neg e0]
      have e2 : D.tup [.int (RR w.n fin (i + 1)), .int (RR w.n fin (i + 1 + 1)), fr (botQ w fin i), fr (loQ w fin (i + 1) + spAt w fin (i + 1) * (loQ w fin (i + 2) - loQ w fin (i + 1)) / botQ w fin i)] = topD w fin i := by unfold topD; rw [e1]
      show (⟨(p, .lst (topsTo w fin i ++ [D.tup [.int (RR w.n fin (i + 1)), .int (RR w.n fin (i + 1 + 1)), fr (botQ w fin i), fr (loQ w fin (i + 1) + spAt w fin (i + 1) * (loQ w fin (i + 2) - loQ w fin (i + 1)) / botQ w fin i)]])) :: _, _⟩ : Ctx) = _
      rw [e2]
      unfold topsTo
      rw [range_snoc]
  · rintro ρ Γ ⟨y6, y7, y8, y9, y10, y11, rfl, rfl⟩
    refine g_offL (i := 5) hp0 rfl ?_
    refine g_ret (w_var rfl ?_) cov
    rw [zip1_len]
    exact hR fin hf
end PF
end
section
set_option Elab.async false
set_option linter.all false
set_option maxRecDepth 100000
set_option maxHeartbeats 2000000
namespace PF
open PySem PySem.Spec L2 RZ
local macro_rules | `(tactic| walk_at "pf1") => `(tactic| first
  | ((with_reducible refine' w_var ?pfh ?_); (case pfh => rfl))
  | with_reducible refine w_int ?_
  | with_reducible refine w_ty ?_
  | with_reducible refine w_op ?_
  | with_reducible refine w_listVals ?_ ?_
  | with_reducible refine w_cb ?_
  | with_reducible refine w_call ?_
  | with_reducible refine a_cons ?_
  | with_reducible refine a_nil ?_
  | with_reducible refine o_sub ?_
  | with_reducible refine o_plusI ?_
  | ((with_reducible refine' o_ixTu ?pfh ?_); (case pfh => rfl))
  | ((with_reducible refine' o_ixLi ?pfh ?_); (case pfh => rfl))
  | ((with_reducible refine' o_ixKe ?pfh ?_); (case pfh => rfl))
  | with_reducible refine w_bl ?_
  | with_reducible refine w_non ?_
  | with_reducible refine w_str ?_
  | with_reducible refine w_un ?_
  | with_reducible refine w_fld ?_
  | with_reducible refine w_meth ?_
  | with_reducible refine t_test ?_
  | with_reducible refine t_B ?_
  | with_reducible refine t_and ?_
  | with_reducible refine t_or ?_
  | with_reducible refine t_not ?_
  | with_reducible refine w_andV ?_
  | with_reducible refine w_orV ?_
  | with_reducible refine w_notV ?_
  | with_reducible refine w_if ?_
  | with_reducible refine w_chain ?_
  | with_reducible refine o_lt ?_
  | with_reducible refine o_gt ?_
  | with_reducible refine o_le ?_
  | with_reducible refine o_ge ?_
  | with_reducible refine o_equI ?_
  | with_reducible refine o_neqI ?_
  | with_reducible refine o_neg ?_
  | with_reducible refine c_abs ?_
  | with_reducible refine c_int ?_
  | with_reducible refine g_asgX ?_
  | with_reducible refine g_asg ?_
  | with_reducible refine g_drop ?_
  | with_reducible refine g_if ?_
  | with_reducible refine g_next ?_
  | with_reducible refine g_assoc ?_
  | with_reducible refine g_retS ?_
  | with_reducible refine exbl ?_
  | with_reducible refine tT ?_
  | with_reducible refine tF ?_
  | with_reducible refine tNT ?_
  | with_reducible refine tNF ?_
  | ((with_reducible refine' ifpB ?pfh ?_); (case pfh => rfl))
  | ((with_reducible refine' ifnB ?pfh ?_); (case pfh => rfl)))
local macro_rules | `(tactic| walk_at "fl") => `(tactic| first
  | refine ⟨_, _, _, rfl, Tp.cl_Plank ‹_›, Tp.n_long ‹_›, rfl, ?_⟩
  | refine ⟨_, _, _, rfl, Tp.cl_Plank ‹_›, Tp.n_stakes ‹_›, rfl, ?_⟩
  | refine ⟨_, _, _, rfl, Tp.cl_Plank ‹_›, Tp.n_limit ‹_›, rfl, ?_⟩
  | refine ⟨_, _, _, rfl, Tp.cl_Loads ‹_›, Tp.n_plank ‹_›, rfl, ?_⟩
  | refine ⟨_, _, _, rfl, Tp.cl_Loads ‹_›, Tp.n_weights ‹_›, rfl, ?_⟩
  | refine ⟨_, _, _, rfl, Tp.cl_Loads ‹_›, Tp.n_known ‹_›, rfl, ?_⟩
  | refine ⟨_, _, _, rfl, Tp.cl_Loads ‹_›, Tp.n_over ‹_›, rfl, ?_⟩)
local macro_rules | `(tactic| walk_at "pf") => `(tactic| repeat (walk_at "pf1"))

theorem g_tail {K : PySem.W.Frag} {S : Sig K} {mk : List Hp} {ρ : En} {N : En → Ctx → Prop} {ts : TS} {p : Addr × Cel} {c : List (Addr × Cel)} {z : List Addr} (h : Goes S mk N ts ρ ⟨c, z⟩) : Goes S mk N ts ρ ⟨p :: c, z⟩ := fun E hE hN B H σ a =>
  h E hE hN B H σ ⟨Cov.tail _ _ _ a.ok, a.sl, a.fut, fun b hb => a.new b (List.mem_cons_of_mem _ hb), a.mks⟩
theorem g_ifJ {K : PySem.W.Frag} {S : Sig K} {mk : List Hp} {ρ : En} {Γ : Ctx} {N : En → Ctx → Prop} {tt : TT} {t ts : TS} (P : En → Ctx → Prop) (h : EvT K tt ρ Γ fun b => if b = true then Goes S mk P t ρ Γ else P ρ Γ) (hJ : ∀ ρ' Γ', P ρ' Γ' → Goes S mk N ts ρ' Γ') : Goes S mk N (tSeq (tIfS tt t tNext) ts) ρ Γ := fun E hE hN B H σ a =>
  h B H σ a.ok a.sl _ fun b B1 H1 k1 f1 q => by
    cases b with
    | true => exact (show Goes S mk P t ρ Γ from q) { E with nx := ts E } hE (fun B H σ ρ' Γ' a' p => hJ ρ' Γ' p E hE hN B H σ a') B1 H1 σ (a.step k1 f1)
    | false => exact hJ ρ Γ q E hE hN B1 H1 σ (a.step k1 f1)
theorem max2 (q x : Rat) : maxQ q [q, x] = if q < x then x else q := by
  unfold maxQ
  rw [List.foldl_cons, List.foldl_cons, List.foldl_nil, if_neg Rat.lt_irrefl]
theorem min2 (q x : Rat) : minQ q [q, x] = if x < q then x else q := by
  unfold minQ
  rw [List.foldl_cons, List.foldl_cons, List.foldl_nil, if_neg Rat.lt_irrefl]
def stD (w : Wd) (lot : List Int) (m : Rat) (i : Nat) : D := if enQ w lot m i < bgQ w lot m i then .tup [.int (RR w.n lot i), .int (RR w.n lot (i + 1)), .non, .non] else .tup [.int (RR w.n lot i), .int (RR w.n lot (i + 1)), fr (bgQ w lot m i), fr (enQ w lot m i)]
def stTo (w : Wd) (lot : List Int) (m : Rat) (k : Nat) : List D := (List.range k).map (stD w lot m)
def pSafe (CP : Addr) : Ctx → List D → (Ctx → D → Prop) → Prop := fun Γ ds R => ∃ (w : Wd) (m : Rat), ds = [plD CP w, .lst (w.hs.map wtD), fr m] ∧ w.Ok ∧ Sz 700 m ∧ 0 < m ∧ ∀ fin p, Fin_ w (allL w.n) fin → R ⟨(p, .lst (stTo w fin m (fin.length + 1))) :: Γ.c, Γ.z⟩ (.cell p)
theorem RR_in {w : Wd} {lot : List Int} (hl : Lot w lot) {i : Nat} (hi : i < lot.length + 2) : RR w.n lot i ∈ lot ↔ (1 ≤ i ∧ i ≤ lot.length) := by
  constructor
  · intro h
    obtain ⟨j, hj⟩ := List.mem_iff_getElem?.mp h
    have hjl := (List.getElem?_eq_some_iff.mp hj).1
    have e := RR_mid (n := w.n) hj
    have g1 := RR_get (n := w.n) (lot := lot) hi
    have g2 := RR_get (n := w.n) (lot := lot) (i := j + 1) (by omega)
    rcases Nat.lt_trichotomy i (j + 1) with z | z | z
    · have := pw_get hl.rests_up z g1 g2; omega
    · omega
    · have := pw_get hl.rests_up z g2 g1; omega
  · rintro ⟨h1, h2⟩
    obtain ⟨k, rfl⟩ : ∃ k, i = k + 1 := ⟨i - 1, by omega⟩
    have hk : lot[k]? = some lot[k] := List.getElem?_eq_getElem (by omega)
    rw [RR_mid hk]
    exact List.getElem_mem _
abbrev N_safe : List Str := ["plank", "weights", "weight", "loads", "lot", "spares", "rests", "found", "left", "right", "low", "high", "begin", "end", "wide"]
theorem sc_safe : FnScope N_safe ["plank", "weights", "weight"] (defScope s_safe) := ⟨rfl, rfl, rfl, by decide +kernel, rfl, by decide +kernel, by decide +kernel⟩
theorem ok_safe {P : Program} {w : World} {K : PySem.W.Frag} {mg : Str → Option Value} {base : Heap} {aN aO CP CL : Addr} (T : Tp K mg aN aO CP CL)  (F_check_weight : Fk P w K mg base "check_weight" ["thing"] 3 (SpG K (pCheckWeight))) (F_greatest : Fk P w K mg base "greatest" ["some"] 2 (SpG K (pGreatest))) (F_is_below : Fk P w K mg base "is_below" ["one", "other"] 1 (SpG K (pBelow))) (F_least : Fk P w K mg base "least" ["some"] 2 (SpG K (pLeast))) (F_less : Fk P w K mg base "less" ["one", "other"] 3 (SpG K (pLess))) (F_loads_of : Fk P w K mg base "loads_of" ["plank", "weights"] 8 (SpX K (pLoadsOf CP CL))) (F_lot_of : Fk P w K mg base "lot_of" ["plank", "lot"] 3 (SpG K (pLotOf CP))) (F_over : Fk P w K mg base "over" ["one", "other"] 3 (SpG K (pOver))) (F_plus : Fk P w K mg base "plus" ["one", "other"] 3 (SpG K (pPlus))) (F_rests_of : Fk P w K mg base "rests_of" ["plank", "lot"] 2 (SpG K (pRestsOf CP))) (F_settled : Fk P w K mg base "settled" ["loads", "lot"] 10 (SpG K (pSettled CP CL))) (F_spares_of : Fk P w K mg base "spares_of" ["loads", "lot"] 8 (SpG K (pSparesOf CP CL))) (F_times : Fk P w K mg base "times" ["one", "other"] 3 (SpG K (pTimes))) (F_whole : Fk P w K mg base "whole" ["number"] 1 (SpG K (pWhole))) (M_Plank_place_of : Fm P w K mg base CP "place_of" ["self", "rest"] 2 (SpG K (pPlaceOf CP))) {f : Addr} {fd : FuncData} (F : FunD K "safe" "safe" (defArgs s_safe) (defBody s_safe) (defScope s_safe) [] [] f fd) : FnOk P w K mg base CX0 11 f fd ["plank", "weights", "weight"] (SpX K (pSafe CP)) := by
  refine okX F sc_safe (by intro Γ ds R h; repeat' (first | (obtain ⟨e, _⟩ := h; subst e; rfl) | (obtain ⟨_, h⟩ := h))) (fun cdv A outer s H E hr => ?_)
  refine ⟨_, (pss_cons (ps_set (i := 3) sc_safe.nd rfl (by first | exact Or.inl rfl | exact Or.inr rfl) (pe_F F_loads_of (hr.mono (by decide)) rfl (pa_cons (pv 0) (pa_cons (pv 1) pa_nil))))
      (pss_cons (ps_expr (pe_F F_check_weight (hr.mono (by decide)) rfl (pa_cons (pv 2) pa_nil)))
      (pss_cons (ps_set (i := 4) sc_safe.nd rfl (by first | exact Or.inl rfl | exact Or.inr rfl) (pe_ix (ix_seqK (K := K) rfl) (pe_F F_settled (hr.mono (by decide)) rfl (pa_cons (pv 3) (pa_cons (pe_F F_lot_of (hr.mono (by decide)) rfl (pa_cons (pv 0) (pa_cons pe_non pa_nil))) pa_nil))) pe_int (fun _ _ => rfl)))
      (pss_cons (ps_set (i := 5) sc_safe.nd rfl (by first | exact Or.inl rfl | exact Or.inr rfl) (pe_F F_spares_of (hr.mono (by decide)) rfl (pa_cons (pv 3) (pa_cons (pv 4) pa_nil))))
      (pss_cons (ps_set (i := 6) sc_safe.nd rfl (by first | exact Or.inl rfl | exact Or.inr rfl) (pe_F F_rests_of (hr.mono (by decide)) rfl (pa_cons (pv 0) (pa_cons (pv 4) pa_nil))))
      (pss_cons (ps_set (i := 7) sc_safe.nd rfl (by first | exact Or.inl rfl | exact Or.inr rfl) (pe_lst pa_nil))
      (pss_cons (ps_for PassesOwn.never rfl (pi_zipAK (K := K) rfl (by rfl) T.b_zip (pa_cons (pv 6) (pa_cons (pe_slice (sl_seqK (K := K) rfl) (pv 6) (po_some pe_int) po_none) pa_nil))) (pg_tupK (K := K) (n := 2) rfl rfl (pgs_cons (pg_name (i := 8) sc_safe.nd rfl (by first | exact Or.inl rfl | exact Or.inr rfl)) (pgs_cons (pg_name (i := 9) sc_safe.nd rfl (by first | exact Or.inl rfl | exact Or.inr rfl)) pgs_nil))) 
          (pss_cons (ps_par (i := 10) (j := 11) (by rfl) sc_safe.nd rfl rfl (by decide) rfl rfl (pa_cons (pe_F F_whole (hr.mono (by decide)) rfl (pa_cons (pe_M M_Plank_place_of T.cl_Plank (hr.mono (by decide)) (pv 0) (pa_cons (pv 8) pa_nil)) pa_nil)) (pa_cons (pe_F F_whole (hr.mono (by decide)) rfl (pa_cons (pe_M M_Plank_place_of T.cl_Plank (hr.mono (by decide)) (pv 0) (pa_cons (pv 9) pa_nil)) pa_nil)) pa_nil)) (by rfl))
          (pss_cons (ps_par3 (i := 12) (j := 13) (l := 14) rfl sc_safe.nd rfl rfl rfl (by decide) (by decide) (by decide) rfl rfl rfl (pa_cons (pv 10) (pa_cons (pv 11) (pa_cons (pe_F F_less (hr.mono (by decide)) rfl (pa_cons (pv 11) (pa_cons (pv 10) pa_nil))) pa_nil))) (by rfl))
          (pss_cons (ps_if (pt_cmp (pc_din (hu_of hr) (pv 8) (pv 5)) (by rfl)) 
              (pss_one (ps_set (i := 12) sc_safe.nd rfl (by first | exact Or.inl rfl | exact Or.inr rfl) (pe_F F_greatest (hr.mono (by decide)) rfl (pa_cons (pe_lst (pa_cons (pv 10) (pa_cons (pe_F F_less (hr.mono (by decide)) rfl (pa_cons (pv 11) (pa_cons (pe_F F_over (hr.mono (by decide)) rfl (pa_cons (pe_F F_times (hr.mono (by decide)) rfl (pa_cons (pe_dget (hu_of hr) (pv 5) (pv 8) (fun _ _ => rfl)) (pa_cons (pv 14) pa_nil))) (pa_cons (pv 2) pa_nil))) pa_nil))) pa_nil))) pa_nil)))) pss_nil)
          (pss_cons (ps_if (pt_cmp (pc_din (hu_of hr) (pv 9) (pv 5)) (by rfl)) 
              (pss_one (ps_set (i := 13) sc_safe.nd rfl (by first | exact Or.inl rfl | exact Or.inr rfl) (pe_F F_least (hr.mono (by decide)) rfl (pa_cons (pe_lst (pa_cons (pv 11) (pa_cons (pe_F F_plus (hr.mono (by decide)) rfl (pa_cons (pv 10) (pa_cons (pe_F F_over (hr.mono (by decide)) rfl (pa_cons (pe_F F_times (hr.mono (by decide)) rfl (pa_cons (pe_dget (hu_of hr) (pv 5) (pv 9) (fun _ _ => rfl)) (pa_cons (pv 14) pa_nil))) (pa_cons (pv 2) pa_nil))) pa_nil))) pa_nil))) pa_nil)))) pss_nil)
          (pss_one (ps_expr (pe_bm PySem.F.plainAttrs_list PySem.F.slot_list_append PySem.F.type_list_append mt_append (pv 7) (pa_cons (pe_ifExp (pt_val (pe_F F_is_below (hr.mono (by decide)) rfl (pa_cons (pv 13) (pa_cons (pv 12) pa_nil))) (by intro _; rfl)) (pe_tup (pa_cons (pv 8) (pa_cons (pv 9) (pa_cons pe_non (pa_cons pe_non pa_nil))))) (pe_tup (pa_cons (pv 8) (pa_cons (pv 9) (pa_cons (pv 12) (pa_cons (pv 13) pa_nil)))))) pa_nil)))))))))
      (pss_one (ps_ret (pv 7)))))))))), ?_⟩
  try dsimp only [cxOf, Cx.nox, Cx.wish]
  rintro S ds ⟨w, m, rfl, ok, hm, hm0, hR⟩
  show Goes S [] (nEnd S) _ [some (plD CP w), some (.lst (w.hs.map wtD)), some (fr m), none, none, none, none, none, none, none, none, none, none, none, none] S.C0
  have hn := ok.hn
  walk_at "pf"
  refine ⟨w, rfl, ok, fun kd od hne hfr => ?_⟩
  have mi := memIn2 (w := w) (c := S.C0.c) (z := S.C0.z) hne
  walk_at "pf"
  refine ⟨m, rfl, hm.sm (by decide), hm0, ?_⟩
  walk_at "pf"
  refine ⟨w, rfl, by omega, ?_⟩
  walk_at "pf"
  rw [rangeD_allL]
  refine ⟨w, kd, od, allL w.n, rfl, ok, allL_lot w, by rw [allL_len]; omega, mi, fun row fin hf => ?_⟩
  have hlen := hf.len
  have hl := hf.isLot
  rw [allL_len] at hlen
  walk_at "pf"
  refine ⟨w, kd, od, fin, rfl, ok, hf.isLot, by omega, mi.1, ?_⟩
  walk_at "pf"
  refine ⟨w, fin, rfl, by omega, ?_⟩
  refine g_newL fun p hp0 => ?_
  refine g_for (i_zip ?_)
  walk_at "pf"
  refine w_sliceFrom ?_
  walk_at "pf"
  refine ⟨1, _, rfl, .inr ⟨rfl, ?_⟩⟩
  walk_at "pf"
  refine ⟨_, _, .inr rfl, fun i ρ Γ => ∃ y8 y9 y10 y11 y12 y13 y14, ρ = [some (plD CP w), some (.lst (w.hs.map wtD)), some (fr m), some (ldD CP CL w kd od), some (.tup (fin.map .int)), some (.dK (spD (spK w fin))), some (.tup ((rests w.n fin).map .int)), some (.cell p), y8, y9, y10, y11, y12, y13, y14] ∧ Γ = ⟨(p, .lst (stTo w fin m i)) :: (od, ceO w) :: (kd, ceK w) :: S.C0.c, S.C0.z⟩, ⟨_, _, _, _, _, _, _, rfl, rfl⟩, ?_, ?_⟩
  · rintro i d ρ Γ B1 hd ⟨y8, y9, y10, y11, y12, y13, y14, rfl, rfl⟩
    obtain ⟨a, b, ha, hb, rfl⟩ := zip1_at (xs := rests w.n fin) hd
    have hi1 : i + 1 < fin.length + 2 := by have := (List.getElem?_eq_some_iff.mp hb).1; rw [rests_len] at this; exact this
    rw [RR_get (by omega)] at ha hb
    cases ha
    cases hb
    refine gw_tup rfl (gws_cons (gw_name trivial (gws_cons (gw_name trivial (gws_nil ?_)))))
    have r1 := hl.rest (i := i) (by omega)
    have r2 := hl.rest (i := i + 1) (by omega)
    have l1 := ok.lo_sz hl (i := i) (by omega)
    have l2 := ok.lo_sz hl (i := i + 1) (by omega)
    have z1 := l2.sub l1
    refine g_par ?_
    walk_at "pf"
    refine ⟨_, rfl, rfl, ?_⟩
    walk_at "pf"
    refine ⟨w, _, rfl, r1, ?_⟩
    walk_at "pf"
    refine ⟨_, rfl, ?_⟩
    walk_at "pf"
    refine ⟨_, rfl, rfl, ?_⟩
    walk_at "pf"
    refine ⟨w, _, rfl, r2, ?_⟩
    walk_at "pf"
    refine ⟨_, rfl, ?_⟩
    walk_at "pf"
    refine ⟨_, _, rfl, ?_⟩
    refine g_par3 ?_
    walk_at "pf"
    refine ⟨_, _, rfl, l2.sm (by decide), l1.sm (by decide), ?_⟩
    walk_at "pf"
    refine ⟨_, _, _, rfl, ?_⟩
    refine g_ifJ (fun ρ' Γ' => ρ' = [some (plD CP w), some (.lst (w.hs.map wtD)), some (fr m), some (ldD CP CL w kd od), some (.tup (fin.map .int)), some (.dK (spD (spK w fin))), some (.tup ((rests w.n fin).map .int)), some (.cell p), some (.int (RR w.n fin i)), some (.int (RR w.n fin (i + 1))), some (fr (loQ w fin i)), some (fr (loQ w fin (i + 1))), some (fr (bgQ w fin m i)), some (fr (loQ w fin (i + 1))), some (fr (loQ w fin (i + 1) - loQ w fin i))] ∧ Γ' = ⟨(p, .lst (stTo w fin m i)) :: (od, ceO w) :: (kd, ceK w) :: S.C0.c, S.C0.z⟩) ?_ ?_
    · walk_at "pf"
      refine w_dinK ?_
      walk_at "pf"
      refine ⟨_, _, rfl, rfl, fun b hbb => ?_⟩
      refine ⟨b, rfl, ?_⟩
      have hbi : b = true ↔ (1 ≤ i ∧ i ≤ fin.length) := hbb.trans (sp_key.trans (RR_in hl (by omega)))
      cases b with
      | true =>
        obtain ⟨c1, c2⟩ := hbi.mp rfl
        obtain ⟨j, rfl⟩ : ∃ j, i = j + 1 := ⟨i - 1, by omega⟩
        have sj := ok.sp_sz hl (i := j) (by omega)
        refine ifpB rfl ?_
        refine g_one ?_
        walk_at "pf"
        refine w_lst ?_
        walk_at "pf"
        refine w_dgetI ?_
        walk_at "pf"
        refine ⟨_, _, _, .inl rfl, rfl, sp_look hl (i := j) (by omega), ?_⟩
        walk_at "pf"
        refine ⟨_, _, rfl, sj.sm (by decide), z1.sm (by decide), ?_⟩
        walk_at "pf"
        refine ⟨_, _, rfl, (sj.mul z1).sm (by decide), hm.sm (by decide), hm0, ?_⟩
        walk_at "pf"
        refine ⟨_, _, rfl, l2.sm (by decide), ((sj.mul z1).div hm hm0).sm (by decide), ?_⟩
        walk_at "pf"
        refine ⟨by simp, ?_⟩
        walk_at "pf"
        refine ⟨loQ w fin (j + 1), [loQ w fin (j + 1 + 1) - rch w fin m j (j + 1)], rfl, ?_, ?_⟩
        · intro q hq
          simp only [List.mem_cons, List.not_mem_nil, or_false] at hq
          rcases hq with rfl | rfl
          · exact l1.sm (by decide)
          · exact (l2.sub ((sj.mul z1).div hm hm0)).sm (by decide)
        · refine g_done ⟨?_, rfl⟩
          rw [max2]
          have e : bgQ w fin m (j + 1) = if loQ w fin (j + 1) < loQ w fin (j + 1 + 1) - rch w fin m j (j + 1) then loQ w fin (j + 1 + 1) - rch w fin m j (j + 1) else loQ w fin (j + 1) := by unfold bgQ; rw [if_neg (by omega)]; rfl
          rw [e]
          rfl
      | false =>
        refine ifnB rfl ?_
        have hi0 : i = 0 := by
          rcases Nat.eq_zero_or_pos i with z | z
          · exact z
          · exact absurd (hbi.mpr ⟨z, by omega⟩) (by decide)
        refine ⟨?_, rfl⟩
        have e : bgQ w fin m i = loQ w fin i := by unfold bgQ; rw [if_pos hi0]
        rw [e]
        rfl
    rintro ρ' Γ' ⟨rfl, rfl⟩
    refine g_ifJ (fun ρ' Γ' => ρ' = [some (plD CP w), some (.lst (w.hs.map wtD)), some (fr m), some (ldD CP CL w kd od), some (.tup (fin.map .int)), some (.dK (spD (spK w fin))), some (.tup ((rests w.n fin).map .int)), some (.cell p), some (.int (RR w.n fin i)), some (.int (RR w.n fin (i + 1))), some (fr (loQ w fin i)), some (fr (loQ w fin (i + 1))), some (fr (bgQ w fin m i)), some (fr (enQ w fin m i)), some (fr (loQ w fin (i + 1) - loQ w fin i))] ∧ Γ' = ⟨(p, .lst (stTo w fin m i)) :: (od, ceO w) :: (kd, ceK w) :: S.C0.c, S.C0.z⟩) ?_ ?_
    · walk_at "pf"
      refine w_dinK ?_
      walk_at "pf"
      refine ⟨_, _, rfl, rfl, fun b hbb => ?_⟩
      refine ⟨b, rfl, ?_⟩
      have hbi : b = true ↔ (1 ≤ i + 1 ∧ i + 1 ≤ fin.length) := hbb.trans (sp_key.trans (RR_in hl (by omega)))
      cases b with
      | true =>
        obtain ⟨c1, c2⟩ := hbi.mp rfl
        have sj := ok.sp_sz hl (i := i) (by omega)
        refine ifpB rfl ?_
        refine g_one ?_
        walk_at "pf"
        refine w_lst ?_
        walk_at "pf"
        refine w_dgetI ?_
        walk_at "pf"
        refine ⟨_, _, _, .inl rfl, rfl, sp_look hl (i := i) (by omega), ?_⟩
        walk_at "pf"
        refine ⟨_, _, rfl, sj.sm (by decide), z1.sm (by decide), ?_⟩
        walk_at "pf"
        refine ⟨_, _, rfl, (sj.mul z1).sm (by decide), hm.sm (by decide), hm0, ?_⟩
        walk_at "pf"
        refine ⟨_, _, rfl, l1.sm (by decide), ((sj.mul z1).div hm hm0).sm (by decide), ?_⟩
        walk_at "pf"
        refine ⟨by simp, ?_⟩
        walk_at "pf"
        refine ⟨loQ w fin (i + 1), [loQ w fin i + rch w fin m i i], rfl, ?_, ?_⟩
        · intro q hq
          simp only [List.mem_cons, List.not_mem_nil, or_false] at hq
          rcases hq with rfl | rfl
          · exact l2.sm (by decide)
          · exact (l1.add ((sj.mul z1).div hm hm0)).sm (by decide)
        · refine g_done ⟨?_, rfl⟩
          rw [min2]
          have e : enQ w fin m i = if loQ w fin i + rch w fin m i i < loQ w fin (i + 1) then loQ w fin i + rch w fin m i i else loQ w fin (i + 1) := by unfold enQ; rw [if_neg (by omega)]
          rw [e]
          rfl
      | false =>
        refine ifnB rfl ?_
        have hi0 : i = fin.length := by
          rcases Nat.lt_or_ge i fin.length with z | z
          · exact absurd (hbi.mpr ⟨by omega, z⟩) (by decide)
          · omega
        refine ⟨?_, rfl⟩
        have e : enQ w fin m i = loQ w fin (i + 1) := by unfold enQ; rw [if_pos hi0]
        rw [e]
    rintro ρ' Γ' ⟨rfl, rfl⟩
    have tl : (stTo w fin m i).length < 1000 := by unfold stTo; rw [List.length_map, List.length_range]; omega
    refine g_one (g_app rfl tl ?_)
    walk_at "pf"
    refine ⟨_, _, rfl, (ok.en_sz hl (by omega) hm hm0).sm (by decide), (ok.bg_sz hl (by omega) hm hm0).sm (by decide), ?_⟩
    refine ⟨_, rfl, ?_⟩
    by_cases hlt : enQ w fin m i < bgQ w fin m i
    · rw [decide_eq_true hlt]
      refine ifpB rfl ?_
      refine w_tup ?_
      walk_at "pf"
      refine ⟨by simp, g_done ⟨_, _, _, _, _, _, _, rfl, ?_⟩⟩
      have e2 : D.tup [.int (RR w.n fin i), .int (RR w.n fin (i + 1)), .non, .non] = stD w fin m i := by unfold stD; rw [if_pos hlt]
      rw [e2]
      unfold stTo
      rw [range_snoc]
    · rw [decide_eq_false hlt]
      refine ifnB rfl ?_
      refine w_tup ?_
      walk_at "pf"
      refine ⟨by simp, g_done ⟨_, _, _, _, _, _, _, rfl, ?_⟩⟩
      have e2 : D.tup [.int (RR w.n fin i), .int (RR w.n fin (i + 1)), fr (bgQ w fin m i), fr (enQ w fin m i)] = stD w fin m i := by unfold stD; rw [if_neg hlt]
      rw [e2]
      unfold stTo
      rw [range_snoc]
  · rintro ρ Γ ⟨y8, y9, y10, y11, y12, y13, y14, rfl, rfl⟩
    have hp : ((p, Cel.lst (stTo w fin m (zipD ((rests w.n fin).map D.int) (((rests w.n fin).map D.int).drop 1)).length)) :: (od, ceO w) :: (kd, ceK w) :: S.C0.c).Perm ((od, ceO w) :: (kd, ceK w) :: (p, Cel.lst (stTo w fin m (zipD ((rests w.n fin).map D.int) (((rests w.n fin).map D.int).drop 1)).length)) :: S.C0.c) :=
      (List.Perm.swap _ _ _).trans ((List.Perm.swap _ _ _).cons _)
    refine g_perm hp (g_tail (g_tail (g_retX (w_var rfl ?_))))
    rw [zip1_len, rests_len]
    exact hR fin p hf
end PF
end
section
set_option Elab.async false
set_option linter.all false
set_option maxRecDepth 100000
set_option maxHeartbeats 2000000
namespace PF
open PySem PySem.Spec L2 RZ
local macro_rules | `(tactic| walk_at "pf1") => `(tactic| first
  | ((with_reducible refine' w_var ?pfh ?_); (case pfh => rfl))
  | with_reducible refine w_int ?_
  | with_reducible refine w_ty ?_
  | with_reducible refine w_op ?_
  | with_reducible refine w_listVals ?_ ?_
  | with_reducible refine w_cb ?_
  | with_reducible refine w_call ?_
  | with_reducible refine a_cons ?_
  | with_reducible refine a_nil ?_
  | with_reducible refine o_sub ?_
  | with_reducible refine o_plusI ?_
  | ((with_reducible refine' o_ixTu ?pfh ?_); (case pfh => rfl))
  | ((with_reducible refine' o_ixLi ?pfh ?_); (case pfh => rfl))
  | ((with_reducible refine' o_ixKe ?pfh ?_); (case pfh => rfl))
  | with_reducible refine w_bl ?_
  | with_reducible refine w_non ?_
  | with_reducible refine w_str ?_
  | with_reducible refine w_un ?_
  | with_reducible refine w_fld ?_
  | with_reducible refine w_meth ?_
  | with_reducible refine t_test ?_
  | with_reducible refine t_B ?_
  | with_reducible refine t_and ?_
  | with_reducible refine t_or ?_
  | with_reducible refine t_not ?_
  | with_reducible refine w_andV ?_
  | with_reducible refine w_orV ?_
  | with_reducible refine w_notV ?_
  | with_reducible refine w_if ?_
  | with_reducible refine w_chain ?_
  | with_reducible refine o_lt ?_
  | with_reducible refine o_gt ?_
  | with_reducible refine o_le ?_
  | with_reducible refine o_ge ?_
  | with_reducible refine o_equI ?_
  | with_reducible refine o_neqI ?_
  | with_reducible refine o_neg ?_
  | with_reducible refine c_abs ?_
  | with_reducible refine c_int ?_
  | with_reducible refine g_asgX ?_
  | with_reducible refine g_asg ?_
  | with_reducible refine g_drop ?_
  | with_reducible refine g_if ?_
  | with_reducible refine g_next ?_
  | with_reducible refine g_assoc ?_
  | with_reducible refine g_retS ?_
  | with_reducible refine exbl ?_
  | with_reducible refine tT ?_
  | with_reducible refine tF ?_
  | with_reducible refine tNT ?_
  | with_reducible refine tNF ?_
  | ((with_reducible refine' ifpB ?pfh ?_); (case pfh => rfl))
  | ((with_reducible refine' ifnB ?pfh ?_); (case pfh => rfl)))
local macro_rules | `(tactic| walk_at "fl") => `(tactic| first
  | refine ⟨_, _, _, rfl, Tp.cl_Plank ‹_›, Tp.n_long ‹_›, rfl, ?_⟩
  | refine ⟨_, _, _, rfl, Tp.cl_Plank ‹_›, Tp.n_stakes ‹_›, rfl, ?_⟩
  | refine ⟨_, _, _, rfl, Tp.cl_Plank ‹_›, Tp.n_limit ‹_›, rfl, ?_⟩
  | refine ⟨_, _, _, rfl, Tp.cl_Loads ‹_›, Tp.n_plank ‹_›, rfl, ?_⟩
  | refine ⟨_, _, _, rfl, Tp.cl_Loads ‹_›, Tp.n_weights ‹_›, rfl, ?_⟩
  | refine ⟨_, _, _, rfl, Tp.cl_Loads ‹_›, Tp.n_known ‹_›, rfl, ?_⟩
  | refine ⟨_, _, _, rfl, Tp.cl_Loads ‹_›, Tp.n_over ‹_›, rfl, ?_⟩)
local macro_rules | `(tactic| walk_at "pf") => `(tactic| repeat (walk_at "pf1"))

theorem mulS {i j : Int} (h1 : i.natAbs < 2 ^ 64) (h2 : j.natAbs < 2 ^ 64) : CMulW i j := wide_mul h1 h2 (by decide) (by decide) (by decide)
theorem divS {i j : Int} (h1 : 0 < j) (h2 : j.natAbs < 2 ^ 64) : CDivW i j := wide_div h1 h2 (by decide) (by decide)
theorem n64 {i : Int} (h1 : -18446744073709551616 < i) (h2 : i < 18446744073709551616) : i.natAbs < 2 ^ 64 := by
  have e : (2 : Nat) ^ 64 = 18446744073709551616 := by decide
  omega
def pCell : PT_ := fun Γ ds R => ∃ (ns : List Int) (k : Nat), ds = [.slst ns, .int (k : Int)] ∧ k ≤ 100 ∧ ∀ i : Int, R (.int i)
abbrev N_law_cell : List Str := ["_law_script", "_law_k"]
theorem sc_law_cell : FnScope N_law_cell ["_law_script", "_law_k"] (defScope s_law_cell) := ⟨rfl, rfl, rfl, by decide +kernel, rfl, by decide +kernel, by decide +kernel⟩
theorem ok_law_cell {P : Program} {w : World} {K : PySem.W.Frag} {mg : Str → Option Value} {base : Heap} {aN aO CP CL : Addr} (T : Tp K mg aN aO CP CL)   {f : Addr} {fd : FuncData} (F : FunD K "_law_cell" "_law_cell" (defArgs s_law_cell) (defBody s_law_cell) (defScope s_law_cell) [] [] f fd) : FnOk P w K mg base CX0 1 f fd ["_law_script", "_law_k"] (SpG K (pCell)) := by
  refine okG F sc_law_cell (by intro Γ ds R h; repeat' (first | (obtain ⟨e, _⟩ := h; subst e; rfl) | (obtain ⟨_, h⟩ := h))) (fun cdv A outer s H E hr => ?_)
  refine ⟨_, (pss_cons (ps_if (pt_cmpR op_lt (pv 1) (pe_callB (call_len_seqK (K := K) rfl) (by rfl) T.b_len bt_len (pa_cons (pv 0) pa_nil)) (nomark _)) 
          (pss_one (ps_ret (pe_ix (ix_seqK (K := K) rfl) (pv 0) (pv 1) (fun _ _ => rfl)))) pss_nil)
      (pss_one (ps_ret (pe_op (op_plusK (K := K) rfl) (pe_op op_mulW pe_int (pv 1)) pe_int)))), ?_⟩
  try dsimp only [cxOf, Cx.nox, Cx.wish]
  rintro S ds ⟨ns, k, rfl, hk, hR⟩
  show Goes S [] (nEnd S) _ [some (.slst ns), some (.int (k : Int))] S.C0
  walk_at "pf"
  refine c_lenS ?_
  refine o_lt ?_
  refine ⟨_, rfl, ?_⟩
  by_cases h : k < ns.length
  · refine ifpB (decide_eq_true (by omega)) ?_
    refine g_retS (g_ret ?_ Cov.refl)
    walk_at "pf"
    exact o_ixSl (atI_nat (j := k) (List.getElem?_eq_getElem h)) (hR _)
  · refine ifnB (decide_eq_false (by omega)) ?_
    refine g_next (g_ret ?_ Cov.refl)
    walk_at "pf"
    refine o_mulW (mulS (by decide) (n64 (by omega) (by omega))) ?_
    walk_at "pf"
    exact hR _
def Dg (l : List Int) : Prop := ∀ x ∈ l, 0 ≤ x ∧ x < 1009
def pDigits : PT_ := fun Γ ds R => ∃ c : Int, ds = [.int c, .int 110] ∧ ∀ l : List Int, l.length = 110 → Dg l → R (.lst (l.map .int))
theorem Dg.snoc {l : List Int} {x : Int} (h : Dg l) (h1 : 0 ≤ x) (h2 : x < 1009) : Dg (l ++ [x]) := fun y hy => by
  rcases List.mem_append.mp hy with hy | hy
  · exact h y hy
  · rw [List.mem_singleton.mp hy]; exact ⟨h1, h2⟩
abbrev N_law_digits : List Str := ["_law_cell_here", "_law_wanted", "_law_found", "_law_rest", "_law_number", "_law_k"]
theorem sc_law_digits : FnScope N_law_digits ["_law_cell_here", "_law_wanted"] (defScope s_law_digits) := ⟨rfl, rfl, rfl, by decide +kernel, rfl, by decide +kernel, by decide +kernel⟩
theorem ok_law_digits {P : Program} {w : World} {K : PySem.W.Frag} {mg : Str → Option Value} {base : Heap} {aN aO CP CL : Addr} (T : Tp K mg aN aO CP CL)   {f : Addr} {fd : FuncData} (F : FunD K "_law_digits" "_law_digits" (defArgs s_law_digits) (defBody s_law_digits) (defScope s_law_digits) [] [] f fd) : FnOk P w K mg base CX0 1 f fd ["_law_cell_here", "_law_wanted"] (SpG K (pDigits)) := by
  refine okG F sc_law_digits (by intro Γ ds R h; repeat' (first | (obtain ⟨e, _⟩ := h; subst e; rfl) | (obtain ⟨_, h⟩ := h))) (fun cdv A outer s H E hr => ?_)
  refine ⟨_, (pss_cons (ps_set (i := 2) sc_law_digits.nd rfl (by first | exact Or.inl rfl | exact Or.inr rfl) (pe_lst pa_nil))
      (pss_cons (ps_set (i := 3) sc_law_digits.nd rfl (by first | exact Or.inl rfl | exact Or.inr rfl) pe_int)
      (pss_cons (ps_if (pt_cmpR op_ge (pv 0) (pe_op op_pow pe_int pe_int) (nomark _)) 
          (pss_one (ps_set (i := 3) sc_law_digits.nd rfl (by first | exact Or.inl rfl | exact Or.inr rfl) (pv 0))) pss_nil)
      (pss_cons (ps_set (i := 4) sc_law_digits.nd rfl (by first | exact Or.inl rfl | exact Or.inr rfl) (pe_op op_mod (pe_callTy call_int1 (by rfl) T.b_int bt_int (pa_cons (pv 0) pa_nil)) pe_int))
      (pss_cons (ps_for PassesOwn.never rfl (pi_range1 rfl T.b_range (pa_cons (pv 1) pa_nil)) (pg_name (i := 5) sc_law_digits.nd rfl (by first | exact Or.inl rfl | exact Or.inr rfl)) 
          (pss_cons (ps_set (i := 4) sc_law_digits.nd rfl (by first | exact Or.inl rfl | exact Or.inr rfl) (pe_op op_mod (pe_callTy call_int1 (by rfl) T.b_int bt_int (pa_cons (pe_op (op_plusK (K := K) rfl) (pe_op (op_plusK (K := K) rfl) (pe_op op_mulW (pv 4) pe_int) (pe_op op_mulW pe_int (pv 5))) pe_int) pa_nil)) pe_int))
          (pss_cons (ps_set (i := 4) sc_law_digits.nd rfl (by first | exact Or.inl rfl | exact Or.inr rfl) (pe_op op_mod (pe_callTy call_int1 (by rfl) T.b_int bt_int (pa_cons (pe_op op_mulW (pv 4) (pe_op (op_plusK (K := K) rfl) (pe_op op_fdivW (pv 4) pe_int) pe_int)) pa_nil)) pe_int))
          (pss_one (ps_if (pt_cmpR op_gt (pv 3) pe_int (nomark _)) 
              (pss_cons (ps_expr (pe_bm PySem.F.plainAttrs_list PySem.F.slot_list_append PySem.F.type_list_append mt_append (pv 2) (pa_cons (pe_op op_mod (pe_callTy call_int1 (by rfl) T.b_int bt_int (pa_cons (pv 3) pa_nil)) pe_int) pa_nil)))
              (pss_one (ps_set (i := 3) sc_law_digits.nd rfl (by first | exact Or.inl rfl | exact Or.inr rfl) (pe_op op_fdivW (pv 3) pe_int)))) 
              (pss_one (ps_expr (pe_bm PySem.F.plainAttrs_list PySem.F.slot_list_append PySem.F.type_list_append mt_append (pv 2) (pa_cons (pe_op op_mod (pe_callTy call_int1 (by rfl) T.b_int bt_int (pa_cons (pe_op op_fdivW (pv 4) pe_int) pa_nil)) pe_int) pa_nil)))))))))
      (pss_one (ps_ret (pv 2)))))))), ?_⟩
  try dsimp only [cxOf, Cx.nox, Cx.wish]
  rintro S ds ⟨c, rfl, hR⟩
  show Goes S [] (nEnd S) _ [some (.int c), some (.int 110), none, none, none, none] S.C0
  refine g_newL fun p hp0 => ?_
  refine g_asg (w_int ?_)
  refine g_ifJ (fun ρ' Γ' => ∃ r : Int, ρ' = [some (.int c), some (.int 110), some (.cell p), some (.int r), none, none] ∧ Γ' = ⟨(p, .lst []) :: S.C0.c, S.C0.z⟩) ?_ ?_
  · walk_at "pf"
    refine o_pow ⟨by decide, by decide, by decide⟩ ?_
    refine o_ge ?_
    refine ⟨_, rfl, ?_⟩
    split
    · refine g_one ?_
      walk_at "pf"
      exact g_done ⟨_, rfl, rfl⟩
    · exact ⟨_, rfl, rfl⟩
  rintro ρ' Γ' ⟨r0, rfl, rfl⟩
  walk_at "pf"
  refine o_mod (by decide) ?_
  refine g_for (i_rng1 ?_)
  walk_at "pf"
  have hm0 := Int.emod_nonneg c (b := 2147483629) (by decide)
  have hm1 := Int.emod_lt_of_pos c (b := 2147483629) (by decide)
  refine ⟨110, rfl, by decide, by decide, fun i ρ Γ => ∃ (l : List Int) (r n : Int) (y : Option D), ρ = [some (.int c), some (.int 110), some (.cell p), some (.int r), some (.int n), y] ∧ Γ = ⟨(p, .lst (l.map .int)) :: S.C0.c, S.C0.z⟩ ∧ 0 ≤ n ∧ n < 2147483648 ∧ l.length = i ∧ Dg l, ⟨[], r0, _, _, rfl, rfl, hm0, by omega, rfl, fun _ h => nomatch h⟩, ?_, ?_⟩
  · rintro i d ρ Γ B1 hd ⟨l, r, n, y, rfl, rfl, h0, h1, hl, hdg⟩
    obtain ⟨hi, rfl⟩ := rangeD_get hd
    have hi' : i < 110 := hi
    refine gw_name trivial ?_
    walk_at "pf"
    refine o_mulW (mulS (n64 (by omega) (by omega)) (by decide)) ?_
    walk_at "pf"
    refine o_mulW (mulS (by decide) (n64 (by omega) (by omega))) ?_
    walk_at "pf"
    refine o_mod (by decide) ?_
    generalize hn2 : (n * 69621 + 40503 * (0 + (i : Int)) + 17) % 2147483629 = n2
    have q0 : 0 ≤ n2 := by rw [← hn2]; exact Int.emod_nonneg _ (by decide)
    have q1 : n2 < 2147483629 := by rw [← hn2]; exact Int.emod_lt_of_pos _ (by decide)
    walk_at "pf"
    refine o_fdivW (divS (by decide) (by decide)) ?_
    walk_at "pf"
    have d0 : 0 ≤ n2 / 907 := Int.ediv_nonneg q0 (by decide)
    have d1 : n2 / 907 < 2147483629 := by omega
    refine o_mulW (mulS (n64 (by omega) (by omega)) (n64 (by omega) (by omega))) ?_
    walk_at "pf"
    refine o_mod (by decide) ?_
    generalize hn3 : n2 * (n2 / 907 + 30011) % 2147483587 = n3
    have u0 : 0 ≤ n3 := by rw [← hn3]; exact Int.emod_nonneg _ (by decide)
    have u1 : n3 < 2147483587 := by rw [← hn3]; exact Int.emod_lt_of_pos _ (by decide)
    refine g_one ?_
    walk_at "pf"
    have hlen : (l.map D.int).length < 1000 := by rw [List.length_map]; omega
    have hsn : ∀ x : Int, (l.map D.int) ++ [D.int x] = (l ++ [x]).map D.int := fun x => by rw [List.map_append]; rfl
    refine tD (fun hr => ?_) (fun hr => ?_)
    · refine g_assoc (g_app rfl hlen ?_)
      walk_at "pf"
      refine o_mod (by decide) ?_
      walk_at "pf"
      refine o_fdivW (divS (by decide) (by decide)) ?_
      rw [hsn]
      exact g_done ⟨l ++ [_], _, n3, _, rfl, rfl, u0, by omega, by rw [List.length_append, hl]; rfl, hdg.snoc (Int.emod_nonneg _ (by decide)) (Int.emod_lt_of_pos _ (by decide))⟩
    · refine g_app rfl hlen ?_
      walk_at "pf"
      refine o_fdivW (divS (by decide) (by decide)) ?_
      walk_at "pf"
      refine o_mod (by decide) ?_
      rw [hsn]
      exact g_done ⟨l ++ [_], _, n3, _, rfl, rfl, u0, by omega, by rw [List.length_append, hl]; rfl, hdg.snoc (Int.emod_nonneg _ (by decide)) (Int.emod_lt_of_pos _ (by decide))⟩
  · rintro ρ Γ ⟨l, r, n, y, rfl, rfl, h0, h1, hl, hdg⟩
    refine g_offL (i := 2) hp0 rfl ?_
    refine g_ret (w_var rfl ?_) Cov.refl
    rw [rangeD_len] at hl
    exact hR l hl hdg
end PF
end
section
set_option Elab.async false
set_option linter.all false
set_option maxRecDepth 100000
set_option maxHeartbeats 2000000
namespace PF
open PySem PySem.Spec L2 RZ
local macro_rules | `(tactic| walk_at "pf1") => `(tactic| first
  | ((with_reducible refine' w_var ?pfh ?_); (case pfh => rfl))
  | with_reducible refine w_int ?_
  | with_reducible refine w_ty ?_
  | with_reducible refine w_op ?_
  | with_reducible refine w_listVals ?_ ?_
  | with_reducible refine w_cb ?_
  | with_reducible refine w_call ?_
  | with_reducible refine a_cons ?_
  | with_reducible refine a_nil ?_
  | with_reducible refine o_sub ?_
  | with_reducible refine o_plusI ?_
  | ((with_reducible refine' o_ixTu ?pfh ?_); (case pfh => rfl))
  | ((with_reducible refine' o_ixLi ?pfh ?_); (case pfh => rfl))
  | ((with_reducible refine' o_ixKe ?pfh ?_); (case pfh => rfl))
  | with_reducible refine w_bl ?_
  | with_reducible refine w_non ?_
  | with_reducible refine w_str ?_
  | with_reducible refine w_un ?_
  | with_reducible refine w_fld ?_
  | with_reducible refine w_meth ?_
  | with_reducible refine t_test ?_
  | with_reducible refine t_B ?_
  | with_reducible refine t_and ?_
  | with_reducible refine t_or ?_
  | with_reducible refine t_not ?_
  | with_reducible refine w_andV ?_
  | with_reducible refine w_orV ?_
  | with_reducible refine w_notV ?_
  | with_reducible refine w_if ?_
  | with_reducible refine w_chain ?_
  | with_reducible refine o_lt ?_
  | with_reducible refine o_gt ?_
  | with_reducible refine o_le ?_
  | with_reducible refine o_ge ?_
  | with_reducible refine o_equI ?_
  | with_reducible refine o_neqI ?_
  | with_reducible refine o_neg ?_
  | with_reducible refine c_abs ?_
  | with_reducible refine c_int ?_
  | with_reducible refine g_asgX ?_
  | with_reducible refine g_asg ?_
  | with_reducible refine g_drop ?_
  | with_reducible refine g_if ?_
  | with_reducible refine g_next ?_
  | with_reducible refine g_assoc ?_
  | with_reducible refine g_retS ?_
  | with_reducible refine exbl ?_
  | with_reducible refine tT ?_
  | with_reducible refine tF ?_
  | with_reducible refine tNT ?_
  | with_reducible refine tNF ?_
  | ((with_reducible refine' ifpB ?pfh ?_); (case pfh => rfl))
  | ((with_reducible refine' ifnB ?pfh ?_); (case pfh => rfl)))
local macro_rules | `(tactic| walk_at "fl") => `(tactic| first
  | refine ⟨_, _, _, rfl, Tp.cl_Plank ‹_›, Tp.n_long ‹_›, rfl, ?_⟩
  | refine ⟨_, _, _, rfl, Tp.cl_Plank ‹_›, Tp.n_stakes ‹_›, rfl, ?_⟩
  | refine ⟨_, _, _, rfl, Tp.cl_Plank ‹_›, Tp.n_limit ‹_›, rfl, ?_⟩
  | refine ⟨_, _, _, rfl, Tp.cl_Loads ‹_›, Tp.n_plank ‹_›, rfl, ?_⟩
  | refine ⟨_, _, _, rfl, Tp.cl_Loads ‹_›, Tp.n_weights ‹_›, rfl, ?_⟩
  | refine ⟨_, _, _, rfl, Tp.cl_Loads ‹_›, Tp.n_known ‹_›, rfl, ?_⟩
  | refine ⟨_, _, _, rfl, Tp.cl_Loads ‹_›, Tp.n_over ‹_›, rfl, ?_⟩)
local macro_rules | `(tactic| walk_at "pf") => `(tactic| repeat (walk_at "pf1"))

/-- a world's dict, as far as share reads it -/
def WorldIs (Γ : Ctx) (x : D) (w : Wd) : Prop := ∃ kvs, DictIs Γ x kvs ∧ lookD kvs (Sum.inr "long") = some (.int w.L) ∧ lookD kvs (Sum.inr "spots") = some (.lst ((w.ps.map (·.1)).map .int))
theorem places_at {w : Wd} {r : Int} (h1 : -1 ≤ r) (h2 : r ≤ (w.n : Int)) : atI ([D.int 0] ++ (w.ps.map (·.1)).map D.int ++ [D.int w.L]) (r + 1) = some (.int (w.pos r)) := by
  have hpl : ((w.ps.map (·.1)).map D.int).length = w.n := by rw [List.length_map, List.length_map]; rfl
  obtain ⟨k, hk⟩ : ∃ k : Nat, r + 1 = (k : Int) := ⟨(r + 1).toNat, by omega⟩
  rw [hk]
  refine atI_nat ?_
  cases k with
  | zero =>
    have : r = -1 := by omega
    subst this
    rw [pos_left]
    rfl
  | succ k =>
    have hr : r = (k : Int) := by omega
    subst hr
    by_cases e : k = w.n
    · subst e
      rw [pos_right, List.getElem?_append_right (by simp [hpl]; rw [show w.ps.length = w.n from rfl]; exact Nat.le_refl _)]
      have : w.n + 1 - ([D.int 0] ++ (w.ps.map (·.1)).map D.int).length = 0 := by rw [List.length_append, hpl]; simp; omega
      rw [this]
      rfl
    · have hlt : k < w.n := by omega
      obtain ⟨p, hp, _⟩ := ps_at (w := w) hlt
      rw [pos_in hp, List.getElem?_append_left (by rw [List.length_append, hpl]; simp; omega), List.getElem?_append_right (by simp)]
      show ((w.ps.map (·.1)).map D.int)[k + 1 - 1]? = _
      rw [Nat.add_sub_cancel, List.getElem?_map, List.getElem?_map, hp]
      rfl
theorem num_eq (q : Rat) : ((q.num : Int) : Rat) = q * ((q.den : Int) : Rat) := by
  have h0 : ((q.den : Int) : Rat) ≠ 0 := by
    intro e
    have e2 : ((q.den : Int) : Rat) = ((0 : Int) : Rat) := e
    have := Rat.intCast_inj.mp e2
    have := q.den_pos
    omega
  have h1 := Rat.mkRat_eq_div q.num q.den
  rw [Rat.mkRat_self] at h1
  have h2 : ((q.den : Nat) : Rat) = ((q.den : Int) : Rat) := rfl
  rw [h2] at h1
  exact ((congrArg (fun z => z * ((q.den : Int) : Rat)) h1).trans (Rat.div_mul_cancel h0)).symm
theorem mk_scale {x : Rat} {N D : Int} {d : Nat} (hd : 0 < d) (hD : 0 < D) (h : (N : Rat) = x * ((d : Int) : Rat)) : mkRat N (d * D.natAbs) = x / (D : Rat) := by
  have h1 := Rat.mkRat_eq_div N (d * D.natAbs)
  have h2 : ((d * D.natAbs : Nat) : Rat) = (((d * D.natAbs : Nat) : Int) : Rat) := rfl
  have h3 : ((d * D.natAbs : Nat) : Int) = (d : Int) * D := by
    rw [Int.natCast_mul]
    congr 1
    omega
  have d0 : ((d : Int) : Rat) ≠ 0 := by
    intro e
    have e2 : ((d : Int) : Rat) = ((0 : Int) : Rat) := e
    have := Rat.intCast_inj.mp e2
    omega
  rw [h1, h2, h3, h, Rat.intCast_mul, Rat.div_def, Rat.inv_mul_rev, Rat.div_def]
  have e : x * ((d : Int) : Rat) * (((D : Int) : Rat)⁻¹ * ((d : Int) : Rat)⁻¹) = x * ((D : Int) : Rat)⁻¹ * (((d : Int) : Rat) * ((d : Int) : Rat)⁻¹) := by grind
  rw [e, Rat.mul_inv_cancel _ d0, Rat.mul_one]
theorem cutR1 {q : Rat} {a b : Int} (h : a < b) : mkRat (q.num - a * (q.den : Int)) (q.den * (b - a).natAbs) = (q - a) / ((b - a : Int) : Rat) := by
  refine mk_scale q.den_pos (by omega) ?_
  rw [Rat.intCast_sub, Rat.intCast_mul, num_eq q]
  grind
theorem cutR2 {q : Rat} {b c : Int} (h : b < c) : mkRat (c * (q.den : Int) - q.num) (q.den * (c - b).natAbs) = ((c : Rat) - q) / ((c - b : Int) : Rat) := by
  refine mk_scale q.den_pos (by omega) ?_
  rw [Rat.intCast_sub, Rat.intCast_mul, num_eq q]
  grind
def pLShare : PT_ := fun Γ ds R => ∃ (w : Wd) (x : D) (a b c : Int) (q : Rat), ds = [x, .key [a, b, c], fr q] ∧ WorldIs Γ x w ∧ w.Ok ∧ Tri w a b c ∧ Sz 2200 q ∧ R (fr (w.sh a b c q))
abbrev N_law_share : List Str := ["_law_world_here", "_law_key", "_law_spot", "_law_places_here", "_law_low", "_law_here", "_law_high", "_law_rest"]
theorem sc_law_share : FnScope N_law_share ["_law_world_here", "_law_key", "_law_spot"] (defScope s_law_share) := ⟨rfl, rfl, rfl, by decide +kernel, rfl, by decide +kernel, by decide +kernel⟩
theorem ok_law_share {P : Program} {w : World} {K : PySem.W.Frag} {mg : Str → Option Value} {base : Heap} {aN aO CP CL : Addr} (T : Tp K mg aN aO CP CL)  (F_law_cut : Fk P w K mg base "_law_cut" ["_law_top", "_law_bottom"] 1 (SpG K (pCut))) (F_law_is_below : Fk P w K mg base "_law_is_below" ["_law_one", "_law_other"] 1 (SpG K (pBelow))) {f : Addr} {fd : FuncData} (F : FunD K "_law_share" "_law_share" (defArgs s_law_share) (defBody s_law_share) (defScope s_law_share) [] [] f fd) : FnOk P w K mg base CX0 2 f fd ["_law_world_here", "_law_key", "_law_spot"] (SpG K (pLShare)) := by
  refine okG F sc_law_share (by intro Γ ds R h; repeat' (first | (obtain ⟨e, _⟩ := h; subst e; rfl) | (obtain ⟨_, h⟩ := h))) (fun cdv A outer s H E hr => ?_)
  refine ⟨_, (pss_cons (ps_set (i := 3) sc_law_share.nd rfl (by first | exact Or.inl rfl | exact Or.inr rfl) (pe_op (op_plusK (K := K) rfl) (pe_op (op_plusK (K := K) rfl) (pe_lst (pa_cons pe_int pa_nil)) (pe_dget (hu_of hr) (pv 0) pe_str (fun _ _ => rfl))) (pe_lst (pa_cons (pe_dget (hu_of hr) (pv 0) pe_str (fun _ _ => rfl)) pa_nil))))
      (pss_cons (ps_asg (pe_lc (own := [("_law_rest", 7)]) rfl sc_law_share.nd (pi_tupK (K := K) rfl (pv 1)) (blkOk_by (own := [("_law_rest", 7)]) (N := N_law_share) (sc := defScope s_law_share) (by decide +kernel)) (fun _ _ _ _ _ => (pg_name (i := 7) sc_law_share.nd rfl (by first | exact Or.inl rfl | exact Or.inr rfl))) (fun _ _ _ _ _ => pts_nil) (fun _ _ _ _ _ => (pe_ix (ix_seqK (K := K) rfl) (pv 3) (pe_op (op_plusK (K := K) rfl) (pv 7) pe_int) (fun _ _ => rfl)))) (pg_tupL (K := K) (n := 3) rfl rfl (pgs_cons (pg_name (i := 4) sc_law_share.nd rfl (by first | exact Or.inl rfl | exact Or.inr rfl)) (pgs_cons (pg_name (i := 5) sc_law_share.nd rfl (by first | exact Or.inl rfl | exact Or.inr rfl)) (pgs_cons (pg_name (i := 6) sc_law_share.nd rfl (by first | exact Or.inl rfl | exact Or.inr rfl)) pgs_nil)))))
      (pss_cons (ps_if (PW.pt (pw_and (pt_val (pe_F F_law_is_below (hr.mono (by decide)) rfl (pa_cons (pe_tup (pa_cons (pv 4) (pa_cons pe_int pa_nil))) (pa_cons (pv 2) pa_nil))) (by intro _; rfl)) (pw_and1 (pt_not (pt_val (pe_F F_law_is_below (hr.mono (by decide)) rfl (pa_cons (pe_tup (pa_cons (pv 5) (pa_cons pe_int pa_nil))) (pa_cons (pv 2) pa_nil))) (by intro _; rfl)))))) 
          (pss_one (ps_ret (pe_F F_law_cut (hr.mono (by decide)) rfl (pa_cons (pe_op op_sub (pe_ix (ix_seqK (K := K) rfl) (pv 2) pe_int (fun _ _ => rfl)) (pe_op op_mulW (pv 4) (pe_ix (ix_seqK (K := K) rfl) (pv 2) pe_int (fun _ _ => rfl)))) (pa_cons (pe_op op_mulW (pe_ix (ix_seqK (K := K) rfl) (pv 2) pe_int (fun _ _ => rfl)) (pe_op op_sub (pv 5) (pv 4))) pa_nil))))) pss_nil)
      (pss_cons (ps_if (PW.pt (pw_and (pt_val (pe_F F_law_is_below (hr.mono (by decide)) rfl (pa_cons (pe_tup (pa_cons (pv 5) (pa_cons pe_int pa_nil))) (pa_cons (pv 2) pa_nil))) (by intro _; rfl)) (pw_and1 (pt_val (pe_F F_law_is_below (hr.mono (by decide)) rfl (pa_cons (pv 2) (pa_cons (pe_tup (pa_cons (pv 6) (pa_cons pe_int pa_nil))) pa_nil))) (by intro _; rfl))))) 
          (pss_one (ps_ret (pe_F F_law_cut (hr.mono (by decide)) rfl (pa_cons (pe_op op_sub (pe_op op_mulW (pv 6) (pe_ix (ix_seqK (K := K) rfl) (pv 2) pe_int (fun _ _ => rfl))) (pe_ix (ix_seqK (K := K) rfl) (pv 2) pe_int (fun _ _ => rfl))) (pa_cons (pe_op op_mulW (pe_ix (ix_seqK (K := K) rfl) (pv 2) pe_int (fun _ _ => rfl)) (pe_op op_sub (pv 6) (pv 5))) pa_nil))))) pss_nil)
      (pss_one (ps_ret (pe_tup (pa_cons pe_int (pa_cons pe_int pa_nil))))))))), ?_⟩
  try dsimp only [cxOf, Cx.nox, Cx.wish]
  rintro S ds ⟨w, x, a, b, c, q, rfl, ⟨kvs, hx, h1, h2⟩, ok, ⟨t1, t2, t3, t4⟩, hq, hR⟩
  show Goes S [] (nEnd S) _ [some x, some (.key [a, b, c]), some (.tup [.int q.num, .int (q.den : Int)]), none, none, none, none, none] S.C0
  have hn := ok.hn
  have hpl : ((w.ps.map (·.1)).map D.int).length = w.n := by rw [List.length_map, List.length_map]; rfl
  walk_at "pf"
  refine w_lst ?_
  walk_at "pf"
  refine ⟨by simp, ?_⟩
  refine w_dgetS ?_
  walk_at "pf"
  refine ⟨kvs, _, _, hx, rfl, h2, ?_⟩
  refine o_plusL (by rw [hpl]; simp; omega) ?_
  refine w_lst ?_
  walk_at "pf"
  refine w_dgetS ?_
  walk_at "pf"
  refine ⟨kvs, _, _, hx, rfl, h1, ?_⟩
  walk_at "pf"
  refine ⟨by simp, ?_⟩
  refine o_plusL (by rw [List.length_append, hpl]; simp; omega) ?_
  refine g_asgG ?_
  refine w_lc (i_key ?_)
  walk_at "pf"
  refine ⟨_, rfl, by simp, fun i acc => acc = ([a, b, c].take i).map fun r => D.int (w.pos r), rfl, ?_, ?_⟩
  · rintro i d acc hd rfl
    obtain ⟨r, hr, rfl⟩ := map_get hd
    have hr' : -1 ≤ r ∧ r ≤ (w.n : Int) := by
      have := List.mem_of_getElem? hr
      simp only [List.mem_cons, List.not_mem_nil, or_false] at this
      rcases this with e | e | e <;> omega
    refine gw_name (by simp) (t_yes (tT ?_))
    walk_at "pf"
    refine o_ixLi (places_at hr'.1 hr'.2) ?_
    exact map_snoc hr
  · rintro acc rfl
    refine gw_tupL rfl (gws_cons (gw_name trivial (gws_cons (gw_name trivial (gws_cons (gw_name trivial (gws_nil ?_)))))))
    walk_at "pf"
    have la := ok.pos_lt t1 (by omega) t2
    have lb := ok.pos_lt (a := b) (b := c) (by omega) t4 t3
    have ba := ok.pos_bd (a := a) t1 (by omega)
    have bb := ok.pos_bd (a := b) (by omega) (by omega)
    have bc := ok.pos_bd (a := c) (by omega) t4
    have sa := ok.pos_sz (a := a) t1 (by omega)
    have sb := ok.pos_sz (a := b) (by omega) (by omega)
    have sc := ok.pos_sz (a := c) (by omega) t4
    have hL := ok.hL
    have hsm := hq.sm (by decide)
    have hq1 := hq.1
    have hq2 := hq.2
    have qd : ((q.den : Int)).natAbs < 2 ^ 2200 := by rw [Int.natAbs_natCast]; exact hq2
    have e8 : (2 : Nat) ^ 8 = 256 := by decide
    have sml : ∀ i : Int, 0 ≤ i → i ≤ 180 → i.natAbs < 2 ^ 8 := fun i h1 h2 => by omega
    have bnd : ∀ i : Int, 0 ≤ i → i ≤ 180 → CMulW i (q.den : Int) ∧ CMulW (q.den : Int) i := fun i h1 h2 => ⟨wide_mul (sml i h1 h2) qd (by decide) (by decide) (by decide), wide_mul qd (sml i h1 h2) (by decide) (by decide) (by decide)⟩
    have prod : ∀ i : Int, 0 ≤ i → i ≤ 180 → (i * (q.den : Int)).natAbs < 2 ^ 2208 := fun i h1 h2 => by
      rw [Int.natAbs_mul, Int.natAbs_natCast]
      have := mul_pow (sml i h1 h2) hq2
      exact this
    have up : ∀ i : Int, 0 ≤ i → i ≤ 180 → (q.num - i * (q.den : Int)).natAbs < 2 ^ 8900 ∧ (i * (q.den : Int) - q.num).natAbs < 2 ^ 8900 := fun i h1 h2 => by
      have z1 := prod i h1 h2
      have z2 : (2 : Nat) ^ 2209 ≤ 2 ^ 8900 := Nat.pow_le_pow_right (by decide) (by decide)
      have z3 : (2 : Nat) ^ 2209 = 2 ^ 2208 + 2 ^ 2208 := by rw [Nat.pow_succ]; omega
      have z4 : (2 : Nat) ^ 2200 ≤ 2 ^ 2208 := Nat.pow_le_pow_right (by decide) (by decide)
      generalize (2 : Nat) ^ 2208 = X at *
      generalize (2 : Nat) ^ 2209 = Y at *
      generalize (2 : Nat) ^ 8900 = Z at *
      generalize (2 : Nat) ^ 2200 = U at *
      omega
    have dn : ∀ i j : Int, i < j → 0 ≤ i → j ≤ 180 → q.den * (j - i).natAbs < 2 ^ 8900 := fun i j h1 h2 h3 => by
      have := mul_pow hq2 (sml (j - i) (by omega) (by omega))
      exact Nat.lt_of_lt_of_le this (Nat.pow_le_pow_right (by decide) (by decide))
    have dnI : ∀ i j : Int, i < j → (q.den : Int) * (j - i) = ((q.den * (j - i).natAbs : Nat) : Int) := fun i j h1 => by
      rw [Int.natCast_mul]
      congr 1
      omega
    have frI : ∀ i : Int, D.tup [D.int i, D.int 1] = fr (i : Rat) := fun i => rfl
    refine w_tup ?_
    walk_at "pf"
    refine ⟨by simp, ?_⟩
    walk_at "pf"
    refine ⟨((w.pos a : Int) : Rat), q, rfl, sa.sm (by decide), hsm, ?_⟩
    refine ⟨_, rfl, ?_⟩
    unfold Wd.sh shr at hR
    by_cases c1 : ((w.pos a : Int) : Rat) < q
    · rw [decide_eq_true c1]
      refine ifpB rfl ?_
      walk_at "pf"
      refine w_tup ?_
      walk_at "pf"
      refine ⟨by simp, ?_⟩
      walk_at "pf"
      refine ⟨((w.pos b : Int) : Rat), q, rfl, sb.sm (by decide), hsm, ?_⟩
      refine ⟨_, rfl, ?_⟩
      by_cases c2 : ((w.pos b : Int) : Rat) < q
      · rw [decide_eq_true c2]
        rw [if_neg (fun z => z.2 c2)] at hR
        refine ifnB rfl ?_
        walk_at "pf"
        refine w_tup ?_
        walk_at "pf"
        refine ⟨by simp, ?_⟩
        walk_at "pf"
        refine ⟨((w.pos b : Int) : Rat), q, rfl, sb.sm (by decide), hsm, ?_⟩
        refine ⟨_, rfl, ?_⟩
        rw [decide_eq_true c2]
        refine ifpB rfl ?_
        walk_at "pf"
        refine w_tup ?_
        walk_at "pf"
        refine ⟨by simp, ?_⟩
        walk_at "pf"
        refine ⟨q, ((w.pos c : Int) : Rat), rfl, hsm, sc.sm (by decide), ?_⟩
        refine ⟨_, rfl, ?_⟩
        by_cases c3 : q < ((w.pos c : Int) : Rat)
        · rw [decide_eq_true c3]
          rw [if_pos ⟨c2, c3⟩] at hR
          refine ifpB rfl ?_
          refine g_retS (g_ret ?_ Cov.refl)
          walk_at "pf"
          refine o_mulW (bnd _ bc.1 (by omega)).1 ?_
          walk_at "pf"
          refine o_mulW (bnd _ (by omega) (by omega)).2 ?_
          walk_at "pf"
          exact ⟨_, q.den * (w.pos c - w.pos b).natAbs, by rw [dnI _ _ lb], Nat.mul_pos q.den_pos (by omega), (up _ bc.1 (by omega)).2, dn _ _ lb bb.1 (by omega), by rw [cutR2 lb]; exact hR⟩
        · rw [decide_eq_false c3]
          rw [if_neg (fun z => c3 z.2)] at hR
          refine ifnB rfl ?_
          refine g_next (g_ret ?_ Cov.refl)
          refine w_tup ?_
          walk_at "pf"
          exact ⟨by simp, hR⟩
      · rw [decide_eq_false c2]
        rw [if_pos ⟨c1, c2⟩] at hR
        refine ifpB rfl ?_
        refine g_retS (g_ret ?_ Cov.refl)
        walk_at "pf"
        refine o_mulW (bnd _ ba.1 (by omega)).1 ?_
        walk_at "pf"
        refine o_mulW (bnd _ (by omega) (by omega)).2 ?_
        walk_at "pf"
        exact ⟨_, q.den * (w.pos b - w.pos a).natAbs, by rw [dnI _ _ la], Nat.mul_pos q.den_pos (by omega), (up _ ba.1 (by omega)).1, dn _ _ la ba.1 (by omega), by rw [cutR1 la]; exact hR⟩
    · rw [decide_eq_false c1]
      have c2 : ¬ ((w.pos b : Int) : Rat) < q := fun z => c1 (rlt_trans (ilt la) z)
      rw [if_neg (fun z => c1 z.1), if_neg (fun z => c2 z.1)] at hR
      refine ifnB rfl ?_
      walk_at "pf"
      refine w_tup ?_
      walk_at "pf"
      refine ⟨by simp, ?_⟩
      walk_at "pf"
      refine ⟨((w.pos b : Int) : Rat), q, rfl, sb.sm (by decide), hsm, ?_⟩
      refine ⟨_, rfl, ?_⟩
      rw [decide_eq_false c2]
      refine ifnB rfl ?_
      refine g_next (g_ret ?_ Cov.refl)
      refine w_tup ?_
      walk_at "pf"
      exact ⟨by simp, hR⟩
def pLLoad : PT_ := fun Γ ds R => ∃ (w : Wd) (x : D) (a b c : Int), ds = [x, .lst (w.hs.map wtD), .key [a, b, c]] ∧ WorldIs Γ x w ∧ w.Ok ∧ Tri w a b c ∧ R (fr (w.ld a b c))
abbrev N_law_load : List Str := ["_law_world_here", "_law_heavy_here", "_law_key", "_law_found", "_law_spot", "_law_much"]
theorem sc_law_load : FnScope N_law_load ["_law_world_here", "_law_heavy_here", "_law_key"] (defScope s_law_load) := ⟨rfl, rfl, rfl, by decide +kernel, rfl, by decide +kernel, by decide +kernel⟩
theorem ok_law_load {P : Program} {w : World} {K : PySem.W.Frag} {mg : Str → Option Value} {base : Heap} {aN aO CP CL : Addr} (T : Tp K mg aN aO CP CL)  (F_law_by : Fk P w K mg base "_law_by" ["_law_one", "_law_other"] 2 (SpG K (pTimes))) (F_law_plus : Fk P w K mg base "_law_plus" ["_law_one", "_law_other"] 2 (SpG K (pPlus))) (F_law_share : Fk P w K mg base "_law_share" ["_law_world_here", "_law_key", "_law_spot"] 2 (SpG K (pLShare))) {f : Addr} {fd : FuncData} (F : FunD K "_law_load" "_law_load" (defArgs s_law_load) (defBody s_law_load) (defScope s_law_load) [] [] f fd) : FnOk P w K mg base CX0 3 f fd ["_law_world_here", "_law_heavy_here", "_law_key"] (SpG K (pLLoad)) := by
  refine okG F sc_law_load (by intro Γ ds R h; repeat' (first | (obtain ⟨e, _⟩ := h; subst e; rfl) | (obtain ⟨_, h⟩ := h))) (fun cdv A outer s H E hr => ?_)
  refine ⟨_, (pss_cons (ps_set (i := 3) sc_law_load.nd rfl (by first | exact Or.inl rfl | exact Or.inr rfl) (pe_tup (pa_cons pe_int (pa_cons pe_int pa_nil))))
      (pss_cons (ps_for PassesOwn.never rfl (pi_listK (K := K) rfl (pv 1)) (pg_tupK (K := K) (n := 2) rfl rfl (pgs_cons (pg_name (i := 4) sc_law_load.nd rfl (by first | exact Or.inl rfl | exact Or.inr rfl)) (pgs_cons (pg_name (i := 5) sc_law_load.nd rfl (by first | exact Or.inl rfl | exact Or.inr rfl)) pgs_nil))) 
          (pss_one (ps_set (i := 3) sc_law_load.nd rfl (by first | exact Or.inl rfl | exact Or.inr rfl) (pe_F F_law_plus (hr.mono (by decide)) rfl (pa_cons (pv 3) (pa_cons (pe_F F_law_by (hr.mono (by decide)) rfl (pa_cons (pv 5) (pa_cons (pe_F F_law_share (hr.mono (by decide)) rfl (pa_cons (pv 0) (pa_cons (pv 2) (pa_cons (pv 4) pa_nil)))) pa_nil))) pa_nil))))))
      (pss_one (ps_ret (pv 3))))), ?_⟩
  try dsimp only [cxOf, Cx.nox, Cx.wish]
  rintro S ds ⟨w, x, a, b, c, rfl, hx, ok, ht, hR⟩
  show Goes S [] (nEnd S) _ [some x, some (.lst (w.hs.map wtD)), some (.key [a, b, c]), none, none, none] S.C0
  obtain ⟨hqs, hld⟩ := ok.ld_sz ht.1 ht.2.1 ht.2.2.1 ht.2.2.2
  walk_at "pf"
  refine w_tup ?_
  walk_at "pf"
  refine ⟨by simp, ?_⟩
  refine g_for (i_list ?_)
  walk_at "pf"
  refine ⟨_, rfl, fun i ρ Γ => ∃ y4 y5, ρ = [some x, some (.lst (w.hs.map wtD)), some (.key [a, b, c]), some (fr (sumQ ((w.hs.take i).map fun h => h.2 * w.sh a b c h.1))), y4, y5] ∧ Γ = S.C0, ⟨_, _, rfl, rfl⟩, ?_, ?_⟩
  · rintro i d ρ Γ B1 hd ⟨y4, y5, rfl, rfl⟩
    obtain ⟨h, hh, rfl⟩ := map_get hd
    obtain ⟨a1, a2, a3, a4, a5⟩ := ok.hw h (List.mem_of_getElem? hh)
    refine gw_tup rfl (gws_cons (gw_name trivial (gws_cons (gw_name trivial (gws_nil ?_)))))
    refine g_one ?_
    walk_at "pf"
    refine ⟨w, x, a, b, c, h.1, rfl, hx, ok, ht, a3.mono (by decide), ?_⟩
    walk_at "pf"
    refine ⟨h.2, _, rfl, a5.sm (by decide), (ok.sh_sz ht.1 ht.2.1 ht.2.2.1 ht.2.2.2 a3).sm (by decide), ?_⟩
    walk_at "pf"
    have hi : Sz 161 (sumQ ((w.hs.take i).map fun h => h.2 * w.sh a b c h.1)) := by
      rw [List.map_take]
      exact sumQ_sz' (n := 5) (k := 31) (fun q hq' => hqs q (List.mem_of_mem_take hq')) (by rw [List.length_take, List.length_map]; have := ok.hh; omega)
    refine ⟨_, _, rfl, hi.sm (by decide), (hqs _ (List.mem_map.mpr ⟨h, List.mem_of_getElem? hh, rfl⟩)).sm (by decide), g_done ⟨some (fr h.1), some (fr h.2), ?_, rfl⟩⟩
    rw [take_succ hh, List.map_append]
    rw [show sumQ ((w.hs.take i).map (fun h => h.2 * w.sh a b c h.1) ++ [h].map (fun h => h.2 * w.sh a b c h.1)) = sumQ ((w.hs.take i).map fun h => h.2 * w.sh a b c h.1) + h.2 * w.sh a b c h.1 from sumQ_snoc _ _]
    rfl
  · rintro ρ Γ ⟨y4, y5, rfl, rfl⟩
    refine g_ret (w_var rfl ?_) Cov.refl
    rw [List.length_map, List.take_length]
    exact hR
end PF
end
section
set_option Elab.async false
set_option linter.all false
set_option maxRecDepth 100000
set_option maxHeartbeats 2000000
namespace PF
open PySem PySem.Spec L2 RZ
local macro_rules | `(tactic| walk_at "pf1") => `(tactic| first
  | ((with_reducible refine' w_var ?pfh ?_); (case pfh => rfl))
  | with_reducible refine w_int ?_
  | with_reducible refine w_ty ?_
  | with_reducible refine w_op ?_
  | with_reducible refine w_listVals ?_ ?_
  | with_reducible refine w_cb ?_
  | with_reducible refine w_call ?_
  | with_reducible refine a_cons ?_
  | with_reducible refine a_nil ?_
  | with_reducible refine o_sub ?_
  | with_reducible refine o_plusI ?_
  | ((with_reducible refine' o_ixTu ?pfh ?_); (case pfh => rfl))
  | ((with_reducible refine' o_ixLi ?pfh ?_); (case pfh => rfl))
  | ((with_reducible refine' o_ixKe ?pfh ?_); (case pfh => rfl))
  | with_reducible refine w_bl ?_
  | with_reducible refine w_non ?_
  | with_reducible refine w_str ?_
  | with_reducible refine w_un ?_
  | with_reducible refine w_fld ?_
  | with_reducible refine w_meth ?_
  | with_reducible refine t_test ?_
  | with_reducible refine t_B ?_
  | with_reducible refine t_and ?_
  | with_reducible refine t_or ?_
  | with_reducible refine t_not ?_
  | with_reducible refine w_andV ?_
  | with_reducible refine w_orV ?_
  | with_reducible refine w_notV ?_
  | with_reducible refine w_if ?_
  | with_reducible refine w_chain ?_
  | with_reducible refine o_lt ?_
  | with_reducible refine o_gt ?_
  | with_reducible refine o_le ?_
  | with_reducible refine o_ge ?_
  | with_reducible refine o_equI ?_
  | with_reducible refine o_neqI ?_
  | with_reducible refine o_neg ?_
  | with_reducible refine c_abs ?_
  | with_reducible refine c_int ?_
  | with_reducible refine g_asgX ?_
  | with_reducible refine g_asg ?_
  | with_reducible refine g_drop ?_
  | with_reducible refine g_if ?_
  | with_reducible refine g_next ?_
  | with_reducible refine g_assoc ?_
  | with_reducible refine g_retS ?_
  | with_reducible refine exbl ?_
  | with_reducible refine tT ?_
  | with_reducible refine tF ?_
  | with_reducible refine tNT ?_
  | with_reducible refine tNF ?_
  | ((with_reducible refine' ifpB ?pfh ?_); (case pfh => rfl))
  | ((with_reducible refine' ifnB ?pfh ?_); (case pfh => rfl)))
local macro_rules | `(tactic| walk_at "fl") => `(tactic| first
  | refine ⟨_, _, _, rfl, Tp.cl_Plank ‹_›, Tp.n_long ‹_›, rfl, ?_⟩
  | refine ⟨_, _, _, rfl, Tp.cl_Plank ‹_›, Tp.n_stakes ‹_›, rfl, ?_⟩
  | refine ⟨_, _, _, rfl, Tp.cl_Plank ‹_›, Tp.n_limit ‹_›, rfl, ?_⟩
  | refine ⟨_, _, _, rfl, Tp.cl_Loads ‹_›, Tp.n_plank ‹_›, rfl, ?_⟩
  | refine ⟨_, _, _, rfl, Tp.cl_Loads ‹_›, Tp.n_weights ‹_›, rfl, ?_⟩
  | refine ⟨_, _, _, rfl, Tp.cl_Loads ‹_›, Tp.n_known ‹_›, rfl, ?_⟩
  | refine ⟨_, _, _, rfl, Tp.cl_Loads ‹_›, Tp.n_over ‹_›, rfl, ?_⟩)
local macro_rules | `(tactic| walk_at "pf") => `(tactic| repeat (walk_at "pf1"))

def rowK (n p l : Nat) : List (List Int) := (List.range (n - p)).map fun r : Nat => [-1 + (l : Int), (p : Int), (p : Int) + 1 + (r : Nat)]
def keysP (n p k : Nat) : List (List Int) := (List.range k).flatMap (rowK n p)
def keysL (n k : Nat) : List (List Int) := (List.range k).flatMap fun p => keysP n p (p + 1)
theorem flat_len {α : Type} {f : Nat → List α} {c : Nat} : ∀ {k : Nat}, (∀ i, i < k → (f i).length ≤ c) → ((List.range k).flatMap f).length ≤ k * c
  | 0, _ => by simp
  | k + 1, h => by
    rw [List.range_succ, List.flatMap_append, List.length_append, Nat.succ_mul]
    have := flat_len (f := f) (c := c) (k := k) fun i hi => h i (by omega)
    have h2 := h k (by omega)
    simp only [List.flatMap_cons, List.flatMap_nil, List.append_nil]
    omega
theorem keysP_len {n p k : Nat} (hn : n ≤ 5) (hk : k ≤ 6) : (keysP n p k).length ≤ 30 := by
  have := flat_len (f := rowK n p) (c := 5) (k := k) fun i _ => by unfold rowK; rw [List.length_map, List.length_range]; omega
  unfold keysP
  omega
theorem keysL_len {n k : Nat} (hn : n ≤ 5) (hk : k ≤ 5) : (keysL n k).length ≤ 150 := by
  have := flat_len (f := fun p => keysP n p (p + 1)) (c := 30) (k := k) fun i hi => keysP_len hn (by omega)
  unfold keysL
  omega
theorem keysP_succ (n p k : Nat) : keysP n p (k + 1) = keysP n p k ++ rowK n p k := by
  unfold keysP
  rw [List.range_succ, List.flatMap_append]
  simp
theorem keysL_succ (n k : Nat) : keysL n (k + 1) = keysL n k ++ keysP n k (k + 1) := by
  unfold keysL
  rw [List.range_succ, List.flatMap_append]
  simp
theorem mem_keysL {n : Nat} {k : List Int} : k ∈ keysL n n ↔ ∃ a b c : Int, k = [a, b, c] ∧ -1 ≤ a ∧ a < b ∧ b < c ∧ c ≤ (n : Int) := by
  unfold keysL keysP rowK
  constructor
  · intro h
    obtain ⟨p, hp, h⟩ := List.mem_flatMap.mp h
    obtain ⟨l, hl, h⟩ := List.mem_flatMap.mp h
    obtain ⟨r, hr, h⟩ := List.mem_map.mp h
    have h1 := List.mem_range.mp hp
    have h2 := List.mem_range.mp hl
    have h3 := List.mem_range.mp hr
    exact ⟨_, _, _, h.symm, by omega, by omega, by omega, by omega⟩
  · rintro ⟨a, b, c, rfl, h1, h2, h3, h4⟩
    refine List.mem_flatMap.mpr ⟨b.toNat, List.mem_range.mpr (by omega), List.mem_flatMap.mpr ⟨(a + 1).toNat, List.mem_range.mpr (by omega), List.mem_map.mpr ⟨(c - b - 1).toNat, List.mem_range.mpr (by omega), ?_⟩⟩⟩
    have e1 : -1 + (((a + 1).toNat : Nat) : Int) = a := by omega
    have e2 : ((b.toNat : Nat) : Int) = b := by omega
    have e3 : b + 1 + (((c - b - 1).toNat : Nat) : Int) = c := by omega
    rw [e2, e1, e3]
theorem keysL_nodup {n : Nat} (h : n ≤ 5) : (keysL n n).Nodup := by
  match n, h with
  | 0, _ => decide +kernel
  | 1, _ => decide +kernel
  | 2, _ => decide +kernel
  | 3, _ => decide +kernel
  | 4, _ => decide +kernel
  | 5, _ => decide +kernel
def pLKeys : PT_ := fun Γ ds R => ∃ n : Nat, ds = [.int (n : Int)] ∧ n ≤ 5 ∧ R (.lst ((keysL n n).map .key))
abbrev N_law_keys : List Str := ["_law_many", "_law_found", "_law_prop", "_law_left_here", "_law_right_here"]
theorem sc_law_keys : FnScope N_law_keys ["_law_many"] (defScope s_law_keys) := ⟨rfl, rfl, rfl, by decide +kernel, rfl, by decide +kernel, by decide +kernel⟩
theorem ok_law_keys {P : Program} {w : World} {K : PySem.W.Frag} {mg : Str → Option Value} {base : Heap} {aN aO CP CL : Addr} (T : Tp K mg aN aO CP CL)   {f : Addr} {fd : FuncData} (F : FunD K "_law_keys" "_law_keys" (defArgs s_law_keys) (defBody s_law_keys) (defScope s_law_keys) [] [] f fd) : FnOk P w K mg base CX0 1 f fd ["_law_many"] (SpG K (pLKeys)) := by
  refine okG F sc_law_keys (by intro Γ ds R h; repeat' (first | (obtain ⟨e, _⟩ := h; subst e; rfl) | (obtain ⟨_, h⟩ := h))) (fun cdv A outer s H E hr => ?_)
  refine ⟨_, (pss_cons (ps_set (i := 1) sc_law_keys.nd rfl (by first | exact Or.inl rfl | exact Or.inr rfl) (pe_lst pa_nil))
      (pss_cons (ps_for PassesOwn.never rfl (pi_range1 rfl T.b_range (pa_cons (pv 0) pa_nil)) (pg_name (i := 2) sc_law_keys.nd rfl (by first | exact Or.inl rfl | exact Or.inr rfl)) 
          (pss_one (ps_for PassesOwn.never rfl (pi_range2 rfl T.b_range (pa_cons (pe_un un_neg pe_int) (pa_cons (pv 2) pa_nil))) (pg_name (i := 3) sc_law_keys.nd rfl (by first | exact Or.inl rfl | exact Or.inr rfl)) 
              (pss_one (ps_expr (pe_bm PySem.F.plainAttrs_list PySem.F.slot_list_extend PySem.F.type_list_extend mt_extend (pv 1) (pa_cons (pe_lc (own := [("_law_right_here", 4)]) rfl sc_law_keys.nd (pi_range2 rfl T.b_range (pa_cons (pe_op (op_plusK (K := K) rfl) (pv 2) pe_int) (pa_cons (pe_op (op_plusK (K := K) rfl) (pv 0) pe_int) pa_nil))) (blkOk_by (own := [("_law_right_here", 4)]) (N := N_law_keys) (sc := defScope s_law_keys) (by decide +kernel)) (fun _ _ _ _ _ => (pg_name (i := 4) sc_law_keys.nd rfl (by first | exact Or.inl rfl | exact Or.inr rfl))) (fun _ _ _ _ _ => pts_nil) (fun _ _ _ _ _ => (pe_tup (pa_cons (pv 3) (pa_cons (pv 2) (pa_cons (pv 4) pa_nil)))))) pa_nil)))))))
      (pss_one (ps_ret (pv 1))))), ?_⟩
  try dsimp only [cxOf, Cx.nox, Cx.wish]
  rintro S ds ⟨n, rfl, hn, hR⟩
  show Goes S [] (nEnd S) _ [some (.int (n : Int)), none, none, none, none] S.C0
  refine g_newL fun p hp0 => ?_
  refine g_for (i_rng1 ?_)
  walk_at "pf"
  refine ⟨_, rfl, by omega, by omega, fun i ρ Γ => ∃ y2 y3 y4, ρ = [some (.int (n : Int)), some (.cell p), y2, y3, y4] ∧ Γ = ⟨(p, .lst ((keysL n i).map .key)) :: S.C0.c, S.C0.z⟩, ⟨_, _, _, rfl, rfl⟩, ?_, ?_⟩
  · rintro i d ρ Γ B1 hd ⟨y2, y3, y4, rfl, rfl⟩
    obtain ⟨hi, rfl⟩ := rangeD_get hd
    refine gw_name trivial (g_one ?_)
    rw [Int.zero_add]
    refine g_for (i_rng2 ?_)
    walk_at "pf"
    refine ⟨-1, _, rfl, by omega, by omega, fun l ρ Γ => ∃ y3 y4, ρ = [some (.int (n : Int)), some (.cell p), some (.int (i : Int)), y3, y4] ∧ Γ = ⟨(p, .lst ((keysL n i ++ keysP n i l).map .key)) :: S.C0.c, S.C0.z⟩, ⟨_, _, rfl, ?_⟩, ?_, ?_⟩
    · unfold keysP
      simp
    · rintro l d ρ Γ B2 hd ⟨y3, y4, rfl, rfl⟩
      obtain ⟨hl, rfl⟩ := rangeD_get hd
      have hl' : l < i + 1 := by omega
      refine gw_name trivial (g_one ?_)
      refine g_ext rfl ?_
      refine w_lc (i_rng2 ?_)
      walk_at "pf"
      refine ⟨_, _, rfl, by omega, by omega, ?_⟩
      have e5 : ((n : Int) + 1 - ((i : Int) + 1)).toNat = n - i := by omega
      rw [e5]
      refine ⟨by rw [rangeD_len]; omega, fun r acc => acc = ((rowK n i l).take r).map .key, rfl, ?_, ?_⟩
      · rintro r d acc hd rfl
        obtain ⟨hr, rfl⟩ := rangeD_get hd
        refine gw_name (by simp) (t_yes (tT ?_))
        refine w_tupK ?_
        walk_at "pf"
        refine ⟨[-1 + (l : Int), (i : Int), (i : Int) + 1 + (r : Int)], rfl, by simp, ?_⟩
        refine map_snoc (f := D.key) ?_
        unfold rowK
        rw [List.getElem?_map, List.getElem?_range hr]
        rfl
      · rintro acc rfl
        rw [rangeD_len]
        have hrl : (rowK n i l).length = n - i := by unfold rowK; rw [List.length_map, List.length_range]
        rw [← hrl, List.take_length]
        refine ⟨_, rfl, ?_, g_done ⟨_, _, rfl, ?_⟩⟩
        · have z1 := keysL_len (n := n) (k := i) hn (by omega)
          have z2 := keysP_len (n := n) (p := i) (k := l) hn (by omega)
          rw [List.length_map, List.length_append, List.length_map]
          omega
        · rw [keysP_succ, ← List.append_assoc, List.map_append (l₂ := rowK n i l)]
    · rintro ρ Γ ⟨y3, y4, rfl, rfl⟩
      refine g_done ⟨_, _, _, rfl, ?_⟩
      have e6 : (rangeD (-1) ((i : Int) - -1).toNat).length = i + 1 := by rw [rangeD_len]; omega
      rw [e6, keysL_succ]
  · rintro ρ Γ ⟨y2, y3, y4, rfl, rfl⟩
    refine g_offL (i := 1) hp0 rfl ?_
    refine g_ret (w_var rfl ?_) Cov.refl
    rw [rangeD_len]
    exact hR
/-- a dict over all keys -/
def kD (n : Nat) (f : List Int → D) : List (List Key × D) := (keysL n n).map fun k => (ik k, f k)
def kTo (n i : Nat) (f : List Int → D) : List (List Key × D) := ((keysL n n).take i).map fun k => (ik k, f k)
theorem ik_inj {a b : List Int} (h : ik a = ik b) : a = b := List.map_inj_right (fun x y e => Sum.inl.inj e) |>.mp h
theorem kTo_put {n i : Nat} (hn : n ≤ 5) {f : List Int → D} {k : List Int} (h : (keysL n n)[i]? = some k) : putD (kTo n i f) (ik k) (f k) = kTo n (i + 1) f := by
  rw [putD_new]
  · exact map_snoc (f := fun k => (ik k, f k)) h
  · intro hm
    unfold kTo at hm
    rw [List.map_map] at hm
    obtain ⟨k', hk', e⟩ := List.mem_map.mp hm
    have e2 := ik_inj e
    subst e2
    have nd := (List.take_sublist (i + 1) (keysL n n)).nodup (keysL_nodup hn)
    rw [take_succ h] at nd
    exact (List.nodup_append.mp nd).2.2 _ hk' _ (List.mem_singleton.mpr rfl) rfl
theorem kTo_len {n i : Nat} (hn : n ≤ 5) {f : List Int → D} : (kTo n i f).length < 1000 := by
  unfold kTo
  have := keysL_len hn hn
  rw [List.length_map, List.length_take]
  omega
theorem kD_look {n : Nat} (hn : n ≤ 5) {f : List Int → D} {k : List Int} (h : k ∈ keysL n n) : lookD (kD n f) (ik k) = some (f k) := by
  refine lookD_of ?_ (List.mem_map.mpr ⟨k, h, rfl⟩)
  unfold kD
  rw [List.map_map]
  exact List.Pairwise.map _ (fun a b (hab : a ≠ b) e => hab (ik_inj e)) (keysL_nodup hn)
theorem kD_keys (n : Nat) (f : List Int → D) : (kD n f).map (·.1) = (keysL n n).map ik := by unfold kD; rw [List.map_map]; rfl
abbrev wdF (w : Wd) : List (Key × D) := [(Sum.inr "long", .int w.L), (Sum.inr "spots", .lst ((w.ps.map (·.1)).map .int)), (Sum.inr "heavy", .lst (w.hs.map wtD)), (Sum.inr "strong", .lst ((w.ps.map (·.2)).map fr))]
theorem world_is (Γ : Ctx) (w : Wd) : WorldIs Γ (.dK (wdF w)) w := ⟨_, .inl rfl, rfl, rfl⟩
def spk (w : Wd) : List Int → Rat
  | [a, b, c] => w.str b - w.ld a b c
  | _ => 0
def pLSpares : PT_ := fun Γ ds R => ∃ w : Wd, ds = [.dK (wdF w), .lst (w.hs.map wtD)] ∧ w.Ok ∧ R (.dT (kD w.n fun k => fr (spk w k)))
abbrev N_law_spares : List Str := ["_law_world_here", "_law_heavy_here", "_law_found", "_law_key"]
theorem sc_law_spares : FnScope N_law_spares ["_law_world_here", "_law_heavy_here"] (defScope s_law_spares) := ⟨rfl, rfl, rfl, by decide +kernel, rfl, by decide +kernel, by decide +kernel⟩
theorem ok_law_spares {P : Program} {w : World} {K : PySem.W.Frag} {mg : Str → Option Value} {base : Heap} {aN aO CP CL : Addr} (T : Tp K mg aN aO CP CL)  (F_law_keys : Fk P w K mg base "_law_keys" ["_law_many"] 1 (SpG K (pLKeys))) (F_law_load : Fk P w K mg base "_law_load" ["_law_world_here", "_law_heavy_here", "_law_key"] 3 (SpG K (pLLoad))) (F_law_minus : Fk P w K mg base "_law_minus" ["_law_one", "_law_other"] 2 (SpG K (pLess))) {f : Addr} {fd : FuncData} (F : FunD K "_law_spares" "_law_spares" (defArgs s_law_spares) (defBody s_law_spares) (defScope s_law_spares) [] [] f fd) : FnOk P w K mg base CX0 4 f fd ["_law_world_here", "_law_heavy_here"] (SpG K (pLSpares)) := by
  refine okG F sc_law_spares (by intro Γ ds R h; repeat' (first | (obtain ⟨e, _⟩ := h; subst e; rfl) | (obtain ⟨_, h⟩ := h))) (fun cdv A outer s H E hr => ?_)
  refine ⟨_, (pss_cons (ps_set (i := 2) sc_law_spares.nd rfl (by first | exact Or.inl rfl | exact Or.inr rfl) pe_dnewT)
      (pss_cons (ps_for PassesOwn.never rfl (pi_listK (K := K) rfl (pe_F F_law_keys (hr.mono (by decide)) rfl (pa_cons (pe_callB (call_len_seqK (K := K) rfl) (by rfl) T.b_len bt_len (pa_cons (pe_dget (hu_of hr) (pv 0) pe_str (fun _ _ => rfl)) pa_nil)) pa_nil))) (pg_name (i := 3) sc_law_spares.nd rfl (by first | exact Or.inl rfl | exact Or.inr rfl)) 
          (pss_one (ps_dput (hu_of hr) (pv 2) (pv 3) (pe_F F_law_minus (hr.mono (by decide)) rfl (pa_cons (pe_ix (ix_seqK (K := K) rfl) (pe_dget (hu_of hr) (pv 0) pe_str (fun _ _ => rfl)) (pe_ix (ix_seqK (K := K) rfl) (pv 3) pe_int (fun _ _ => rfl)) (fun _ _ => rfl)) (pa_cons (pe_F F_law_load (hr.mono (by decide)) rfl (pa_cons (pv 0) (pa_cons (pv 1) (pa_cons (pv 3) pa_nil)))) pa_nil))) rfl)))
      (pss_one (ps_ret (pv 2))))), ?_⟩
  try dsimp only [cxOf, Cx.nox, Cx.wish]
  rintro S ds ⟨w, rfl, ok, hR⟩
  show Goes S [] (nEnd S) _ [some (.dK (wdF w)), some (.lst (w.hs.map wtD)), none, none] S.C0
  have hn := ok.hn
  refine g_newT fun p hp0 => ?_
  refine g_for (i_list ?_)
  walk_at "pf"
  refine w_dgetS ?_
  walk_at "pf"
  refine ⟨_, _, _, .inl rfl, rfl, rfl, ?_⟩
  walk_at "pf"
  refine c_len (.inl rfl) ?_
  walk_at "pf"
  have e1 : (((w.ps.map (·.1)).map D.int).length : Int) = (w.n : Int) := by rw [List.length_map, List.length_map]; rfl
  rw [e1]
  refine ⟨w.n, rfl, hn, ?_⟩
  refine ⟨_, rfl, fun i ρ Γ => ∃ y3, ρ = [some (.dK (wdF w)), some (.lst (w.hs.map wtD)), some (.cell p), y3] ∧ Γ = ⟨(p, .dT (kTo w.n i fun k => fr (spk w k))) :: S.C0.c, S.C0.z⟩, ⟨_, rfl, ?_⟩, ?_, ?_⟩
  · unfold kTo; rfl
  · rintro i d ρ Γ B1 hd ⟨y3, rfl, rfl⟩
    obtain ⟨k, hk, rfl⟩ := map_get hd
    obtain ⟨a, b, c, rfl, t1, t2, t3, t4⟩ := mem_keysL.mp (List.mem_of_getElem? hk)
    refine gw_name trivial (g_one ?_)
    refine g_putTc (kTo_len hn) ?_
    walk_at "pf"
    refine w_dgetS ?_
    walk_at "pf"
    refine ⟨_, _, _, .inl rfl, rfl, rfl, ?_⟩
    walk_at "pf"
    obtain ⟨j, hj⟩ : ∃ j : Nat, b = (j : Int) := ⟨b.toNat, by omega⟩
    obtain ⟨pr, hpj, hpm⟩ := ps_at (w := w) (i := j) (by omega)
    refine o_ixLi (d := fr pr.2) ?_ ?_
    · rw [hj]
      refine atI_nat ?_
      rw [List.getElem?_map, List.getElem?_map, hpj]
      rfl
    walk_at "pf"
    refine ⟨w, _, a, b, c, rfl, world_is _ w, ok, ⟨t1, t2, t3, t4⟩, ?_⟩
    walk_at "pf"
    refine ⟨pr.2, _, rfl, (ok.hp pr hpm).2.2.1.sm (by decide), (ok.ld_sz t1 t2 t3 t4).2.sm (by decide), ?_⟩
    walk_at "pf"
    refine ⟨_, rfl, rfl, g_done ⟨_, rfl, ?_⟩⟩
    have es : w.str b = pr.2 := by rw [hj]; exact str_in hpj
    have e2 : fr (pr.2 - w.ld a b c) = (fun k => fr (spk w k)) [a, b, c] := by show _ = fr (w.str b - w.ld a b c); rw [es]
    rw [e2, kTo_put hn hk]
  · rintro ρ Γ ⟨y3, rfl, rfl⟩
    refine g_offT (i := 2) hp0 rfl ?_
    refine g_ret (w_var rfl ?_) Cov.refl
    rw [List.length_map]
    have e3 : (kTo w.n (keysL w.n w.n).length fun k => fr (spk w k)) = kD w.n fun k => fr (spk w k) := by unfold kTo kD; rw [List.take_length]
    rw [e3]
    exact hR
end PF
end
section
set_option Elab.async false
set_option linter.all false
set_option maxRecDepth 100000
set_option maxHeartbeats 2000000
namespace PF
open PySem PySem.Spec L2 RZ
local macro_rules | `(tactic| walk_at "pf1") => `(tactic| first
  | ((with_reducible refine' w_var ?pfh ?_); (case pfh => rfl))
  | with_reducible refine w_int ?_
  | with_reducible refine w_ty ?_
  | with_reducible refine w_op ?_
  | with_reducible refine w_listVals ?_ ?_
  | with_reducible refine w_cb ?_
  | with_reducible refine w_call ?_
  | with_reducible refine a_cons ?_
  | with_reducible refine a_nil ?_
  | with_reducible refine o_sub ?_
  | with_reducible refine o_plusI ?_
  | ((with_reducible refine' o_ixTu ?pfh ?_); (case pfh => rfl))
  | ((with_reducible refine' o_ixLi ?pfh ?_); (case pfh => rfl))
  | ((with_reducible refine' o_ixKe ?pfh ?_); (case pfh => rfl))
  | with_reducible refine w_bl ?_
  | with_reducible refine w_non ?_
  | with_reducible refine w_str ?_
  | with_reducible refine w_un ?_
  | with_reducible refine w_fld ?_
  | with_reducible refine w_meth ?_
  | with_reducible refine t_test ?_
  | with_reducible refine t_B ?_
  | with_reducible refine t_and ?_
  | with_reducible refine t_or ?_
  | with_reducible refine t_not ?_
  | with_reducible refine w_andV ?_
  | with_reducible refine w_orV ?_
  | with_reducible refine w_notV ?_
  | with_reducible refine w_if ?_
  | with_reducible refine w_chain ?_
  | with_reducible refine o_lt ?_
  | with_reducible refine o_gt ?_
  | with_reducible refine o_le ?_
  | with_reducible refine o_ge ?_
  | with_reducible refine o_equI ?_
  | with_reducible refine o_neqI ?_
  | with_reducible refine o_neg ?_
  | with_reducible refine c_abs ?_
  | with_reducible refine c_int ?_
  | with_reducible refine g_asgX ?_
  | with_reducible refine g_asg ?_
  | with_reducible refine g_drop ?_
  | with_reducible refine g_if ?_
  | with_reducible refine g_next ?_
  | with_reducible refine g_assoc ?_
  | with_reducible refine g_retS ?_
  | with_reducible refine exbl ?_
  | with_reducible refine tT ?_
  | with_reducible refine tF ?_
  | with_reducible refine tNT ?_
  | with_reducible refine tNF ?_
  | ((with_reducible refine' ifpB ?pfh ?_); (case pfh => rfl))
  | ((with_reducible refine' ifnB ?pfh ?_); (case pfh => rfl)))
local macro_rules | `(tactic| walk_at "fl") => `(tactic| first
  | refine ⟨_, _, _, rfl, Tp.cl_Plank ‹_›, Tp.n_long ‹_›, rfl, ?_⟩
  | refine ⟨_, _, _, rfl, Tp.cl_Plank ‹_›, Tp.n_stakes ‹_›, rfl, ?_⟩
  | refine ⟨_, _, _, rfl, Tp.cl_Plank ‹_›, Tp.n_limit ‹_›, rfl, ?_⟩
  | refine ⟨_, _, _, rfl, Tp.cl_Loads ‹_›, Tp.n_plank ‹_›, rfl, ?_⟩
  | refine ⟨_, _, _, rfl, Tp.cl_Loads ‹_›, Tp.n_weights ‹_›, rfl, ?_⟩
  | refine ⟨_, _, _, rfl, Tp.cl_Loads ‹_›, Tp.n_known ‹_›, rfl, ?_⟩
  | refine ⟨_, _, _, rfl, Tp.cl_Loads ‹_›, Tp.n_over ‹_›, rfl, ?_⟩)
local macro_rules | `(tactic| walk_at "pf") => `(tactic| repeat (walk_at "pf1"))

def bit (num k : Nat) : Bool := decide (num / 2 ^ k % 2 = 1)
def sub (n num : Nat) : List Int := ((List.range n).filter (bit num)).map fun k : Nat => (k : Int)
theorem sub_lot (w : Wd) (num : Nat) : Lot w (sub w.n num) := by
  refine ⟨List.Pairwise.map _ (fun a b h => by omega) (List.pairwise_lt_range.filter _), fun x hx => ?_⟩
  unfold sub at hx
  obtain ⟨i, hi, rfl⟩ := List.mem_map.mp hx
  have := List.mem_range.mp (List.mem_filter.mp hi).1
  omega
theorem sub_len (n num : Nat) : (sub n num).length ≤ n := by
  unfold sub
  rw [List.length_map]
  have := List.length_filter_le (bit num) (List.range n)
  rw [List.length_range] at this
  exact this
def fK (F : List Int → Bool) (n : Nat) (lot : List Int) (i : Nat) : Bool := F [RR n lot i, RR n lot (i + 1), RR n lot (i + 2)]
def FS (F : List Int → Bool) (n : Nat) (lot : List Int) : Prop := ∀ i, i < lot.length → fK F n lot i = false
def UpTo (F : List Int → Bool) (n k : Nat) (u : List Int) : Prop := u.Pairwise (· < ·) ∧ ∀ x, x ∈ u ↔ ∃ j, j < k ∧ FS F n (sub n j) ∧ x ∈ sub n j
theorem UpTo.len {F : List Int → Bool} {w : Wd} {k : Nat} {u : List Int} (h : UpTo F w.n k u) : u.length ≤ w.n := by
  have := nodup_len (l := u) (U := allL w.n) (h.1.imp fun h => by omega) fun x hx => by
    obtain ⟨j, _, _, hxj⟩ := (h.2 x).mp hx
    have := (sub_lot w j).bd x hxj
    unfold allL
    exact List.mem_map.mpr ⟨x.toNat, List.mem_range.mpr (by omega), by omega⟩
  rw [allL_len] at this
  exact this
theorem any_iff (F : List Int → Bool) (n : Nat) (lot : List Int) : (((List.range lot.length).map (fK F n lot)).any id) = false ↔ FS F n lot := by
  rw [List.any_eq_false]
  constructor
  · intro h i hi
    have := h _ (List.mem_map.mpr ⟨i, List.mem_range.mpr hi, rfl⟩)
    simpa using this
  · intro h x hx
    obtain ⟨i, hi, rfl⟩ := List.mem_map.mp hx
    rw [h i (List.mem_range.mp hi)]
    decide
def pGreat : PT_ := fun Γ ds R => ∃ (w : Wd) (F : List Int → Bool), ds = [.int (w.n : Int), .dT (kD w.n fun k => .bl (F k))] ∧ w.n ≤ 5 ∧ ∀ u, UpTo F w.n (2 ^ w.n) u → R (.tup (u.map .int))
abbrev N_law_greatest : List Str := ["_law_many", "_law_fails", "_law_found", "_law_number", "_law_some", "_law_k", "_law_rests"]
theorem sc_law_greatest : FnScope N_law_greatest ["_law_many", "_law_fails"] (defScope s_law_greatest) := ⟨rfl, rfl, rfl, by decide +kernel, rfl, by decide +kernel, by decide +kernel⟩
theorem ok_law_greatest {P : Program} {w : World} {K : PySem.W.Frag} {mg : Str → Option Value} {base : Heap} {aN aO CP CL : Addr} (T : Tp K mg aN aO CP CL)   {f : Addr} {fd : FuncData} (F : FunD K "_law_greatest" "_law_greatest" (defArgs s_law_greatest) (defBody s_law_greatest) (defScope s_law_greatest) [] [] f fd) : FnOk P w K mg base CX0 1 f fd ["_law_many", "_law_fails"] (SpG K (pGreat)) := by
  refine okG F sc_law_greatest (by intro Γ ds R h; repeat' (first | (obtain ⟨e, _⟩ := h; subst e; rfl) | (obtain ⟨_, h⟩ := h))) (fun cdv A outer s H E hr => ?_)
  refine ⟨_, (pss_cons (ps_set (i := 2) sc_law_greatest.nd rfl (by first | exact Or.inl rfl | exact Or.inr rfl) (pe_lst pa_nil))
      (pss_cons (ps_for PassesOwn.never rfl (pi_range1 rfl T.b_range (pa_cons (pe_op op_shl pe_int (pv 0)) pa_nil)) (pg_name (i := 3) sc_law_greatest.nd rfl (by first | exact Or.inl rfl | exact Or.inr rfl)) 
          (pss_cons (ps_setLc (i := 4) (own := [("_law_k", 5)]) rfl sc_law_greatest.nd rfl rfl (sw_true rfl rfl rfl (by decide +kernel)) (pi_range1 rfl T.b_range (pa_cons (pv 0) pa_nil)) (blkOk_by (own := [("_law_k", 5)]) (N := N_law_greatest) (sc := defScope s_law_greatest) (by decide +kernel)) (fun _ _ _ _ _ => (pg_name (i := 5) sc_law_greatest.nd rfl (by first | exact Or.inl rfl | exact Or.inr rfl))) (fun _ _ _ _ _ => (pts_one (pt_cmpR (op_equK (K := K) rfl hr.units) (pe_op op_mod (pe_callTy call_int1 (by rfl) T.b_int bt_int (pa_cons (pe_op op_shr (pv 3) (pv 5)) pa_nil)) pe_int) pe_int (nomark _)))) (fun _ _ _ _ _ => (pv 5)))
          (pss_cons (ps_set (i := 6) sc_law_greatest.nd rfl (by first | exact Or.inl rfl | exact Or.inr rfl) (pe_op (op_plusK (K := K) rfl) (pe_op (op_plusK (K := K) rfl) (pe_lst (pa_cons (pe_un un_neg pe_int) pa_nil)) (pv 4)) (pe_lst (pa_cons (pv 0) pa_nil))))
          (pss_one (ps_if (pt_not (pt_val (pe_callB (cr_anyK (K := K) rfl rfl) (by rfl) T.b_any bt_any (pa_cons (pe_lc (own := [("_law_k", 5)]) rfl sc_law_greatest.nd (pi_range1 rfl T.b_range (pa_cons (pe_callB (call_len_seqK (K := K) rfl) (by rfl) T.b_len bt_len (pa_cons (pv 4) pa_nil)) pa_nil)) (blkOk_by (own := [("_law_k", 5)]) (N := N_law_greatest) (sc := defScope s_law_greatest) (by decide +kernel)) (fun _ _ _ _ _ => (pg_name (i := 5) sc_law_greatest.nd rfl (by first | exact Or.inl rfl | exact Or.inr rfl))) (fun _ _ _ _ _ => pts_nil) (fun _ _ _ _ _ => (pe_dget (hu_of hr) (pv 1) (pe_tup (pa_cons (pe_ix (ix_seqK (K := K) rfl) (pv 6) (pv 5) (fun _ _ => rfl)) (pa_cons (pe_ix (ix_seqK (K := K) rfl) (pv 6) (pe_op (op_plusK (K := K) rfl) (pv 5) pe_int) (fun _ _ => rfl)) (pa_cons (pe_ix (ix_seqK (K := K) rfl) (pv 6) (pe_op (op_plusK (K := K) rfl) (pv 5) pe_int) (fun _ _ => rfl)) pa_nil)))) (fun _ _ => rfl)))) pa_nil)) (by intro _; rfl))) 
              (pss_one (ps_set (i := 2) sc_law_greatest.nd rfl (by first | exact Or.inl rfl | exact Or.inr rfl) (pe_sortedSet (ta := tNil) (by rfl) T.b_sorted (by rfl) T.b_set (pe_op (op_plusK (K := K) rfl) (pv 2) (pv 4))))) pss_nil)))))
      (pss_one (ps_ret (pe_callTy (call_tuple_ofK (K := K) rfl) (by rfl) T.b_tuple bt_tuple (pa_cons (pv 2) pa_nil)))))), ?_⟩
  try dsimp only [cxOf, Cx.nox, Cx.wish]
  rintro S ds ⟨w, F, rfl, hn, hR⟩
  show Goes S [] (nEnd S) _ [some (.int (w.n : Int)), some (.dT (kD w.n fun k => .bl (F k))), none, none, none, none, none] S.C0
  have h2n : 2 ^ w.n ≤ 32 := by
    have : 2 ^ w.n ≤ 2 ^ 5 := Nat.pow_le_pow_right (by decide) hn
    exact this
  refine g_asg (w_lst ?_)
  walk_at "pf"
  refine ⟨by simp, ?_⟩
  refine g_for (i_rng1 ?_)
  walk_at "pf"
  refine o_shl ⟨by omega, by omega, by decide⟩ ?_
  walk_at "pf"
  have ep : (1 : Int) * 2 ^ ((w.n : Int)).toNat = ((2 ^ w.n : Nat) : Int) := by rw [Int.one_mul, Int.toNat_natCast]; simp
  have b1 : ((2 ^ w.n : Nat) : Int) ≤ 100000 := Int.ofNat_le.mpr (Nat.le_trans h2n (by decide))
  have b2 : (0 : Int) ≤ ((2 ^ w.n : Nat) : Int) := Int.natCast_nonneg _
  rw [ep]
  generalize hM : 2 ^ w.n = M at *
  refine ⟨_, rfl, b1, b2, fun i ρ Γ => ∃ (u : List Int) (y3 y4 y5 y6 : Option D), ρ = [some (.int (w.n : Int)), some (.dT (kD w.n fun k => .bl (F k))), some (.lst (u.map .int)), y3, y4, y5, y6] ∧ Γ = S.C0 ∧ UpTo F w.n i u, ⟨[], _, _, _, _, rfl, rfl, .nil, fun x => ⟨fun h => (nomatch h), fun ⟨j, hj, _⟩ => absurd hj (by omega)⟩⟩, ?_, ?_⟩
  · rintro i d ρ Γ B1 hd ⟨u, y3, y4, y5, y6, rfl, rfl, hu⟩
    obtain ⟨hi, rfl⟩ := rangeD_get hd
    refine gw_name trivial ?_
    rw [Int.zero_add]
    refine g_asg ?_
    refine w_lc (i_rng1 ?_)
    walk_at "pf"
    refine ⟨_, rfl, by omega, by omega, ?_⟩
    rw [Int.toNat_natCast]
    refine ⟨by rw [rangeD_len]; omega, fun k acc => acc = ((List.range k).filter (bit i)).map fun k : Nat => D.int (k : Int), rfl, ?_, ?_⟩
    · rintro k d acc hd rfl
      obtain ⟨hk, rfl⟩ := rangeD_get hd
      refine gw_name (by simp) ?_
      rw [Int.zero_add]
      walk_at "pf"
      refine o_shr (by omega) ?_
      walk_at "pf"
      refine o_mod (by decide) ?_
      walk_at "pf"
      have eb : decide ((i : Int) / 2 ^ ((k : Int)).toNat % 2 = 1) = bit i k := by
        unfold bit
        rw [Int.toNat_natCast]
        have e1 : (i : Int) / 2 ^ k % 2 = ((i / 2 ^ k % 2 : Nat) : Int) := by
          rw [Int.natCast_emod, Int.natCast_ediv, Int.natCast_pow]
          rfl
        rw [e1]
        by_cases h : i / 2 ^ k % 2 = 1
        · rw [h]; rfl
        · rw [decide_eq_false h, decide_eq_false (by omega)]
      rw [eb]
      have efs : (List.range (k + 1)).filter (bit i) = (List.range k).filter (bit i) ++ (if bit i k = true then [k] else []) := by
        rw [List.range_succ, List.filter_append]
        congr 1
        by_cases h : bit i k = true <;> simp [h]
      by_cases h : bit i k = true
      · rw [h]
        refine ifpB rfl ?_
        walk_at "pf"
        show _ ++ _ = _
        rw [efs, if_pos h, List.map_append]
        rfl
      · rw [(Bool.not_eq_true _).mp h]
        refine ifnB rfl ?_
        show _ = _
        rw [efs, if_neg h, List.append_nil]
    · rintro acc rfl
      rw [rangeD_len]
      have es : (((List.range w.n).filter (bit i)).map fun k : Nat => D.int (k : Int)) = (sub w.n i).map .int := by unfold sub; rw [List.map_map]; rfl
      rw [es]
      have hsl := sub_len w.n i
      walk_at "pf"
      refine w_lst ?_
      walk_at "pf"
      refine ⟨by simp, ?_⟩
      walk_at "pf"
      refine o_plusL (by simp; omega) ?_
      refine w_lst ?_
      walk_at "pf"
      refine ⟨by simp, ?_⟩
      refine o_plusL (by simp; omega) ?_
      rw [← rests_D]
      refine g_one ?_
      refine g_ifJ (fun ρ' Γ' => ∃ (u : List Int) (y3 y4 y5 y6 : Option D), ρ' = [some (.int (w.n : Int)), some (.dT (kD w.n fun k => .bl (F k))), some (.lst (u.map .int)), y3, y4, y5, y6] ∧ Γ' = S.C0 ∧ UpTo F w.n (i + 1) u) ?_ (fun ρ' Γ' h => g_done h)
      walk_at "pf"
      refine w_lc (i_rng1 ?_)
      walk_at "pf"
      refine c_len (.inl rfl) ?_
      walk_at "pf"
      rw [List.length_map]
      refine ⟨_, rfl, by omega, by omega, ?_⟩
      rw [Int.toNat_natCast]
      refine ⟨by rw [rangeD_len]; omega, fun k acc => acc = ((List.range k).map (fK F w.n (sub w.n i))).map D.bl, rfl, ?_, ?_⟩
      · rintro k d acc hd rfl
        obtain ⟨hk, rfl⟩ := rangeD_get hd
        refine gw_name (by simp) (t_yes (tT ?_))
        rw [Int.zero_add]
        have ix : ∀ j : Nat, j < (sub w.n i).length + 2 → atI ((rests w.n (sub w.n i)).map D.int) (j : Int) = some (.int (RR w.n (sub w.n i) j)) := fun j hj => atI_nat (by rw [List.getElem?_map, RR_get hj]; rfl)
        refine w_dgetT ?_
        walk_at "pf"
        refine w_tupK ?_
        walk_at "pf"
        refine o_ixLi (ix k (by omega)) ?_
        walk_at "pf"
        refine o_ixLi (ix (k + 1) (by omega)) ?_
        walk_at "pf"
        refine o_ixLi (ix (k + 2) (by omega)) ?_
        walk_at "pf"
        obtain ⟨t1, t2, t3, t4⟩ := (sub_lot w i).tri hk
        refine ⟨[RR w.n (sub w.n i) k, RR w.n (sub w.n i) (k + 1), RR w.n (sub w.n i) (k + 2)], rfl, by simp, _, _, _, rfl, rfl, kD_look hn (mem_keysL.mpr ⟨_, _, _, rfl, t1, t2, t3, t4⟩), ?_⟩
        show _ ++ _ = _
        rw [List.range_succ, List.map_append, List.map_append]
        rfl
      · rintro acc rfl
        rw [rangeD_len]
        walk_at "pf"
        refine c_any ?_
        refine ⟨_, rfl, ?_⟩
        have hav := any_iff F w.n (sub w.n i)
        have ext : ∀ u', u'.Pairwise (· < ·) → (∀ x, x ∈ u' ↔ (x ∈ u ∨ (FS F w.n (sub w.n i) ∧ x ∈ sub w.n i))) → UpTo F w.n (i + 1) u' := fun u' h1 h2 => ⟨h1, fun x => by
          rw [h2 x, hu.2 x]
          constructor
          · rintro (⟨j, hj, a, b⟩ | ⟨a, b⟩)
            · exact ⟨j, by omega, a, b⟩
            · exact ⟨i, by omega, a, b⟩
          · rintro ⟨j, hj, a, b⟩
            by_cases e : j = i
            · subst e; exact .inr ⟨a, b⟩
            · exact .inl ⟨j, by omega, a, b⟩⟩
        cases hc : (((List.range (sub w.n i).length).map (fK F w.n (sub w.n i))).any id) with
        | true =>
          walk_at "pf"
          have hnf : ¬ FS F w.n (sub w.n i) := fun z => by rw [hav.mpr z] at hc; cases hc
          exact ⟨u, _, _, _, _, rfl, rfl, ext u hu.1 fun x => ⟨.inl, fun z => z.elim id fun z => absurd z.1 hnf⟩⟩
        | false =>
          have hf := hav.mp hc
          walk_at "pf"
          refine g_one (g_asg ?_)
          refine w_sortedSet ?_
          walk_at "pf"
          have hul := hu.len
          refine o_plusL (by simp; omega) ?_
          rw [← List.map_append]
          refine ⟨_, rfl, by rw [List.length_append]; omega, fun ms h1 h2 => g_done ⟨ms, _, _, _, _, rfl, rfl, ext ms h1 fun x => ?_⟩⟩
          rw [h2 x, List.mem_append]
          exact ⟨fun z => z.imp_right fun z => ⟨hf, z⟩, fun z => z.imp_right fun z => z.2⟩
  · rintro ρ Γ ⟨u, y3, y4, y5, y6, rfl, rfl, hu⟩
    rw [rangeD_len, Int.toNat_natCast] at hu
    refine g_ret ?_ Cov.refl
    walk_at "pf"
    exact c_tuple (hR u hu)
end PF
end
section
set_option Elab.async false
set_option linter.all false
set_option maxRecDepth 100000
set_option maxHeartbeats 2000000
namespace PF
open PySem PySem.Spec L2 RZ
local macro_rules | `(tactic| walk_at "pf1") => `(tactic| first
  | ((with_reducible refine' w_var ?pfh ?_); (case pfh => rfl))
  | with_reducible refine w_int ?_
  | with_reducible refine w_ty ?_
  | with_reducible refine w_op ?_
  | with_reducible refine w_listVals ?_ ?_
  | with_reducible refine w_cb ?_
  | with_reducible refine w_call ?_
  | with_reducible refine a_cons ?_
  | with_reducible refine a_nil ?_
  | with_reducible refine o_sub ?_
  | with_reducible refine o_plusI ?_
  | ((with_reducible refine' o_ixTu ?pfh ?_); (case pfh => rfl))
  | ((with_reducible refine' o_ixLi ?pfh ?_); (case pfh => rfl))
  | ((with_reducible refine' o_ixKe ?pfh ?_); (case pfh => rfl))
  | with_reducible refine w_bl ?_
  | with_reducible refine w_non ?_
  | with_reducible refine w_str ?_
  | with_reducible refine w_un ?_
  | with_reducible refine w_fld ?_
  | with_reducible refine w_meth ?_
  | with_reducible refine t_test ?_
  | with_reducible refine t_B ?_
  | with_reducible refine t_and ?_
  | with_reducible refine t_or ?_
  | with_reducible refine t_not ?_
  | with_reducible refine w_andV ?_
  | with_reducible refine w_orV ?_
  | with_reducible refine w_notV ?_
  | with_reducible refine w_if ?_
  | with_reducible refine w_chain ?_
  | with_reducible refine o_lt ?_
  | with_reducible refine o_gt ?_
  | with_reducible refine o_le ?_
  | with_reducible refine o_ge ?_
  | with_reducible refine o_equI ?_
  | with_reducible refine o_neqI ?_
  | with_reducible refine o_neg ?_
  | with_reducible refine c_abs ?_
  | with_reducible refine c_int ?_
  | with_reducible refine g_asgX ?_
  | with_reducible refine g_asg ?_
  | with_reducible refine g_drop ?_
  | with_reducible refine g_if ?_
  | with_reducible refine g_next ?_
  | with_reducible refine g_assoc ?_
  | with_reducible refine g_retS ?_
  | with_reducible refine exbl ?_
  | with_reducible refine tT ?_
  | with_reducible refine tF ?_
  | with_reducible refine tNT ?_
  | with_reducible refine tNF ?_
  | ((with_reducible refine' ifpB ?pfh ?_); (case pfh => rfl))
  | ((with_reducible refine' ifnB ?pfh ?_); (case pfh => rfl)))
local macro_rules | `(tactic| walk_at "fl") => `(tactic| first
  | refine ⟨_, _, _, rfl, Tp.cl_Plank ‹_›, Tp.n_long ‹_›, rfl, ?_⟩
  | refine ⟨_, _, _, rfl, Tp.cl_Plank ‹_›, Tp.n_stakes ‹_›, rfl, ?_⟩
  | refine ⟨_, _, _, rfl, Tp.cl_Plank ‹_›, Tp.n_limit ‹_›, rfl, ?_⟩
  | refine ⟨_, _, _, rfl, Tp.cl_Loads ‹_›, Tp.n_plank ‹_›, rfl, ?_⟩
  | refine ⟨_, _, _, rfl, Tp.cl_Loads ‹_›, Tp.n_weights ‹_›, rfl, ?_⟩
  | refine ⟨_, _, _, rfl, Tp.cl_Loads ‹_›, Tp.n_known ‹_›, rfl, ?_⟩
  | refine ⟨_, _, _, rfl, Tp.cl_Loads ‹_›, Tp.n_over ‹_›, rfl, ?_⟩)
local macro_rules | `(tactic| walk_at "pf") => `(tactic| repeat (walk_at "pf1"))

def pLeft : PT_ := fun Γ ds R => ∃ (w : Wd) (A Sh : List Int → Rat) (m : Rat), ds = [.int (w.n : Int), .dT (kD w.n fun k => fr (A k)), .dT (kD w.n fun k => fr (Sh k)), fr m] ∧ w.n ≤ 5 ∧ Γ.z = [] ∧ Sm m ∧ (∀ k ∈ keysL w.n w.n, Sm (A k) ∧ Sm (Sh k) ∧ Sm (m * Sh k)) ∧ ∀ u, UpTo (fun k => decide (A k < m * Sh k)) w.n (2 ^ w.n) u → R (.tup (u.map .int))
abbrev N_law_left : List Str := ["_law_many", "_law_spares_here", "_law_shares", "_law_much", "_law_fails", "_law_key"]
theorem sc_law_left : FnScope N_law_left ["_law_many", "_law_spares_here", "_law_shares", "_law_much"] (defScope s_law_left) := ⟨rfl, rfl, rfl, by decide +kernel, rfl, by decide +kernel, by decide +kernel⟩
theorem ok_law_left {P : Program} {w : World} {K : PySem.W.Frag} {mg : Str → Option Value} {base : Heap} {aN aO CP CL : Addr} (T : Tp K mg aN aO CP CL)  (F_law_by : Fk P w K mg base "_law_by" ["_law_one", "_law_other"] 2 (SpG K (pTimes))) (F_law_greatest : Fk P w K mg base "_law_greatest" ["_law_many", "_law_fails"] 1 (SpG K (pGreat))) (F_law_is_below : Fk P w K mg base "_law_is_below" ["_law_one", "_law_other"] 1 (SpG K (pBelow))) {f : Addr} {fd : FuncData} (F : FunD K "_law_left" "_law_left" (defArgs s_law_left) (defBody s_law_left) (defScope s_law_left) [] [] f fd) : FnOk P w K mg base CX0 3 f fd ["_law_many", "_law_spares_here", "_law_shares", "_law_much"] (SpG K (pLeft)) := by
  refine okG F sc_law_left (by intro Γ ds R h; repeat' (first | (obtain ⟨e, _⟩ := h; subst e; rfl) | (obtain ⟨_, h⟩ := h))) (fun cdv A outer s H E hr => ?_)
  refine ⟨_, (pss_cons (ps_set (i := 4) sc_law_left.nd rfl (by first | exact Or.inl rfl | exact Or.inr rfl) pe_dnewT)
      (pss_cons (ps_lock (ps_for PassesOwn.never rfl (pi_keys (pv 1)) (pg_name (i := 5) sc_law_left.nd rfl (by first | exact Or.inl rfl | exact Or.inr rfl)) 
          (pss_one (ps_dput (hu_of hr) (pv 4) (pv 5) (pe_F F_law_is_below (hr.mono (by decide)) rfl (pa_cons (pe_dget (hu_of hr) (pv 1) (pv 5) (fun _ _ => rfl)) (pa_cons (pe_F F_law_by (hr.mono (by decide)) rfl (pa_cons (pv 3) (pa_cons (pe_dget (hu_of hr) (pv 2) (pv 5) (fun _ _ => rfl)) pa_nil))) pa_nil))) rfl))))
      (pss_one (ps_ret (pe_F F_law_greatest (hr.mono (by decide)) rfl (pa_cons (pv 0) (pa_cons (pv 4) pa_nil))))))), ?_⟩
  try dsimp only [cxOf, Cx.nox, Cx.wish]
  rintro S ds ⟨w, A, Sh, m, rfl, hn, hz, hm, hs, hR⟩
  show Goes S [] (nEnd S) _ [some (.int (w.n : Int)), some (.dT (kD w.n fun k => fr (A k))), some (.dT (kD w.n fun k => fr (Sh k))), some (fr m), none, none] S.C0
  refine g_newT fun p hp0 => ?_
  refine g_forKeysT (i := 1) rfl (kD_keys _ _) hz (fun j ρ cs => ∃ y5, ρ = [some (.int (w.n : Int)), some (.dT (kD w.n fun k => fr (A k))), some (.dT (kD w.n fun k => fr (Sh k))), some (fr m), some (.cell p), y5] ∧ cs = (p, Cel.dT (kTo w.n j fun k => .bl (decide (A k < m * Sh k)))) :: S.C0.c) ⟨_, rfl, by unfold kTo; rfl⟩ ?_ ?_
  · rintro S' mk' a j k ρ cs hk ⟨y5, rfl, rfl⟩
    have hmem := List.mem_of_getElem? hk
    obtain ⟨s1, s2, s3⟩ := hs k hmem
    refine gw_name trivial (g_one ?_)
    refine g_putTc (kTo_len hn) ?_
    walk_at "pf"
    refine w_dgetT ?_
    walk_at "pf"
    refine ⟨_, _, _, rfl, rfl, kD_look hn hmem, ?_⟩
    walk_at "pf"
    refine w_dgetT ?_
    walk_at "pf"
    refine ⟨_, _, _, rfl, rfl, kD_look hn hmem, ?_⟩
    walk_at "pf"
    refine ⟨_, _, rfl, hm, s2, ?_⟩
    walk_at "pf"
    refine ⟨_, _, rfl, s1, s3, ?_⟩
    walk_at "pf"
    refine ⟨_, rfl, rfl, g_done ⟨rfl, _, rfl, ?_⟩⟩
    show (p, Cel.dT (putD _ _ _)) :: S.C0.c = _
    rw [kTo_put hn (f := fun k => D.bl (decide (A k < m * Sh k))) hk]
  · rintro ρ cs ⟨y5, rfl, rfl⟩
    refine g_offT (i := 4) hp0 rfl ?_
    have e3 : (kTo w.n (keysL w.n w.n).length fun k => D.bl (decide (A k < m * Sh k))) = kD w.n fun k => .bl (decide (A k < m * Sh k)) := by unfold kTo kD; rw [List.take_length]
    rw [e3]
    have eC : (⟨S.C0.c, []⟩ : Ctx) = S.C0 := by rw [← hz]
    rw [eC]
    refine g_ret ?_ Cov.refl
    walk_at "pf"
    exact ⟨w, fun k => decide (A k < m * Sh k), rfl, hn, hR⟩
theorem ins_take {x : Rat} : ∀ {rs : List Rat}, rs.Pairwise (· < ·) → rs.take (rs.filter fun y => decide (y < x)).length = rs.filter (fun y => decide (y < x)) ∧ rs.drop (rs.filter fun y => decide (y < x)).length = rs.filter fun y => !decide (y < x)
  | [], _ => ⟨rfl, rfl⟩
  | y :: ys, h => by
    have hy := List.pairwise_cons.mp h
    by_cases c : y < x
    · obtain ⟨h1, h2⟩ := ins_take (x := x) hy.2
      rw [List.filter_cons_of_pos (by simpa using c), List.filter_cons_of_neg (by simpa using c), List.length_cons, List.take_succ_cons, List.drop_succ_cons]
      exact ⟨by rw [h1], h2⟩
    · have hall : ∀ z ∈ y :: ys, ¬ z < x := by
        intro z hz
        rcases List.mem_cons.mp hz with rfl | hz
        · exact c
        · have := hy.1 z hz
          grind
      have e1 : (y :: ys).filter (fun z => decide (z < x)) = [] := List.filter_eq_nil_iff.mpr fun z hz => by simpa using hall z hz
      have e2 : (y :: ys).filter (fun z => !decide (z < x)) = y :: ys := List.filter_eq_self.mpr fun z hz => by simpa using hall z hz
      rw [e1, e2]
      exact ⟨rfl, rfl⟩
theorem ins_ok {x : Rat} {rs : List Rat} (h : rs.Pairwise (· < ·)) (hx : x ∉ rs) : (rs.take (rs.filter fun y => decide (y < x)).length ++ [x] ++ rs.drop (rs.filter fun y => decide (y < x)).length).Pairwise (· < ·) ∧ ∀ q, q ∈ (rs.take (rs.filter fun y => decide (y < x)).length ++ [x] ++ rs.drop (rs.filter fun y => decide (y < x)).length) ↔ (q ∈ rs ∨ q = x) := by
  obtain ⟨h1, h2⟩ := ins_take (x := x) h
  rw [h1, h2]
  have lt : ∀ y ∈ rs.filter (fun y => decide (y < x)), y < x := fun y hy => by simpa using (List.mem_filter.mp hy).2
  have gt : ∀ y ∈ rs.filter (fun y => !decide (y < x)), x < y := fun y hy => by
    have a := (List.mem_filter.mp hy).2
    have b := (List.mem_filter.mp hy).1
    have c : ¬ y < x := by simpa using a
    have d : y ≠ x := fun e => hx (e ▸ b)
    grind
  constructor
  · refine List.pairwise_append.mpr ⟨List.pairwise_append.mpr ⟨h.filter _, by simp, fun a ha b hb => ?_⟩, h.filter _, fun a ha b hb => ?_⟩
    · rw [List.mem_singleton.mp hb]; exact lt a ha
    · rcases List.mem_append.mp ha with ha | ha
      · exact rlt_trans (lt a ha) (gt b hb)
      · rw [List.mem_singleton.mp ha]; exact gt b hb
  · intro q
    simp only [List.mem_append, List.mem_filter, List.mem_singleton]
    constructor
    · rintro ((⟨a, _⟩ | a) | ⟨a, _⟩)
      · exact .inl a
      · exact .inr a
      · exact .inl a
    · rintro (a | a)
      · by_cases c : q < x
        · exact .inl (.inl ⟨a, by simpa using c⟩)
        · exact .inr ⟨a, by simpa using c⟩
      · exact .inl (.inr a)
def Ris (qs rs : List Rat) : Prop := rs.Pairwise (· < ·) ∧ ∀ q, q ∈ rs ↔ q ∈ qs
def pRising : PT_ := fun Γ ds R => ∃ qs : List Rat, ds = [.lst (qs.map fr)] ∧ qs.length ≤ 100 ∧ (∀ q ∈ qs, Sm q) ∧ ∀ rs, Ris qs rs → R (.lst (rs.map fr))
theorem mem_fr {q : Rat} {rs : List Rat} : fr q ∈ rs.map fr ↔ q ∈ rs := by
  constructor
  · intro h
    obtain ⟨x, hx, e⟩ := List.mem_map.mp h
    rw [← fr_inj e]; exact hx
  · exact fun h => List.mem_map.mpr ⟨q, h, rfl⟩
theorem ris_len {qs rs : List Rat} (h : Ris qs rs) : rs.length ≤ qs.length :=
  nodup_len (h.1.imp fun h => by intro e; subst e; exact Rat.lt_irrefl h) fun x hx => (h.2 x).mp hx
abbrev N_law_rising : List Str := ["_law_some", "_law_found", "_law_one", "_law_at", "_law_other"]
theorem sc_law_rising : FnScope N_law_rising ["_law_some"] (defScope s_law_rising) := ⟨rfl, rfl, rfl, by decide +kernel, rfl, by decide +kernel, by decide +kernel⟩
theorem ok_law_rising {P : Program} {w : World} {K : PySem.W.Frag} {mg : Str → Option Value} {base : Heap} {aN aO CP CL : Addr} (T : Tp K mg aN aO CP CL)  (F_law_is_below : Fk P w K mg base "_law_is_below" ["_law_one", "_law_other"] 1 (SpG K (pBelow))) {f : Addr} {fd : FuncData} (F : FunD K "_law_rising" "_law_rising" (defArgs s_law_rising) (defBody s_law_rising) (defScope s_law_rising) [] [] f fd) : FnOk P w K mg base CX0 2 f fd ["_law_some"] (SpG K (pRising)) := by
  refine okG F sc_law_rising (by intro Γ ds R h; repeat' (first | (obtain ⟨e, _⟩ := h; subst e; rfl) | (obtain ⟨_, h⟩ := h))) (fun cdv A outer s H E hr => ?_)
  refine ⟨_, (pss_cons (ps_set (i := 1) sc_law_rising.nd rfl (by first | exact Or.inl rfl | exact Or.inr rfl) (pe_lst pa_nil))
      (pss_cons (ps_for PassesOwn.never rfl (pi_listK (K := K) rfl (pv 0)) (pg_name (i := 2) sc_law_rising.nd rfl (by first | exact Or.inl rfl | exact Or.inr rfl)) 
          (pss_one (ps_if (pt_cmpR (op_notInDK (K := K) rfl hr.units65) (pv 2) (pv 1) (by rfl)) 
              (pss_cons (ps_set (i := 3) sc_law_rising.nd rfl (by first | exact Or.inl rfl | exact Or.inr rfl) (pe_callB (call_len_seqK (K := K) rfl) (by rfl) T.b_len bt_len (pa_cons (pe_lc (own := [("_law_other", 4)]) rfl sc_law_rising.nd (pi_listK (K := K) rfl (pv 1)) (blkOk_by (own := [("_law_other", 4)]) (N := N_law_rising) (sc := defScope s_law_rising) (by decide +kernel)) (fun _ _ _ _ _ => (pg_name (i := 4) sc_law_rising.nd rfl (by first | exact Or.inl rfl | exact Or.inr rfl))) (fun _ _ _ _ _ => (pts_one (pt_val (pe_F F_law_is_below (hr.mono (by decide)) rfl (pa_cons (pv 4) (pa_cons (pv 2) pa_nil))) (by intro _; rfl)))) (fun _ _ _ _ _ => (pv 4))) pa_nil)))
              (pss_one (ps_set (i := 1) sc_law_rising.nd rfl (by first | exact Or.inl rfl | exact Or.inr rfl) (pe_op (op_plusK (K := K) rfl) (pe_op (op_plusK (K := K) rfl) (pe_slice (sl_seqK (K := K) rfl) (pv 1) po_none (po_some (pv 3))) (pe_lst (pa_cons (pv 2) pa_nil))) (pe_slice (sl_seqK (K := K) rfl) (pv 1) (po_some (pv 3)) po_none))))) pss_nil)))
      (pss_one (ps_ret (pv 1))))), ?_⟩
  try dsimp only [cxOf, Cx.nox, Cx.wish]
  rintro S ds ⟨qs, rfl, hlen, hs, hR⟩
  show Goes S [] (nEnd S) _ [some (.lst (qs.map fr)), none, none, none, none] S.C0
  refine g_asg (w_lst ?_)
  walk_at "pf"
  refine ⟨by simp, ?_⟩
  refine g_for (i_list ?_)
  walk_at "pf"
  refine ⟨_, rfl, fun i ρ Γ => ∃ (rs : List Rat) (y2 y3 y4 : Option D), ρ = [some (.lst (qs.map fr)), some (.lst (rs.map fr)), y2, y3, y4] ∧ Γ = S.C0 ∧ Ris (qs.take i) rs, ⟨[], _, _, _, rfl, rfl, .nil, fun q => by simp⟩, ?_, ?_⟩
  · rintro i d ρ Γ B1 hd ⟨rs, y2, y3, y4, rfl, rfl, hr⟩
    obtain ⟨q, hq, rfl⟩ := map_get hd
    have hsq := hs q (List.mem_of_getElem? hq)
    have hrs : ∀ x ∈ rs, Sm x := fun x hx => hs x (List.mem_of_mem_take ((hr.2 x).mp hx))
    have hrl := ris_len hr
    rw [List.length_take] at hrl
    refine gw_name trivial (g_one ?_)
    refine g_ifJ (fun ρ' Γ' => ∃ (rs : List Rat) (y2 y3 y4 : Option D), ρ' = [some (.lst (qs.map fr)), some (.lst (rs.map fr)), y2, y3, y4] ∧ Γ' = S.C0 ∧ Ris (qs.take (i + 1)) rs) ?_ (fun ρ' Γ' h => g_done h)
    walk_at "pf"
    refine o_notInD (n := 1) (by decide) (fr_pl q) (fun d hd => by obtain ⟨x, _, rfl⟩ := List.mem_map.mp hd; exact fr_pl x) fun b hb => ?_
    refine ⟨_, rfl, ?_⟩
    have hb' := hb.trans mem_fr
    cases b with
    | true =>
      refine ifnB rfl ?_
      have hin := hb'.mp rfl
      refine ⟨rs, _, _, _, rfl, rfl, hr.1, fun x => ?_⟩
      rw [take_succ hq, List.mem_append, List.mem_singleton, ← hr.2 x]
      exact ⟨.inl, fun z => z.elim id fun z => z ▸ hin⟩
    | false =>
      refine ifpB rfl ?_
      have hnin : q ∉ rs := fun z => absurd (hb'.mpr z) (by decide)
      walk_at "pf"
      refine w_lc (i_list ?_)
      walk_at "pf"
      refine ⟨_, rfl, by rw [List.length_map]; omega, fun k acc => acc = ((rs.take k).filter fun y => decide (y < q)).map fr, rfl, ?_, ?_⟩
      · rintro k d acc hd rfl
        obtain ⟨y, hy, rfl⟩ := map_get hd
        refine gw_name (by simp) ?_
        walk_at "pf"
        refine ⟨y, q, rfl, hrs y (List.mem_of_getElem? hy), hsq, ?_⟩
        refine ⟨_, rfl, ?_⟩
        by_cases c : y < q
        · rw [decide_eq_true c]
          refine ifpB rfl ?_
          walk_at "pf"
          show _ ++ _ = _
          rw [filter_take hy, if_pos (by simpa using c), List.map_append]
          rfl
        · rw [decide_eq_false c]
          refine ifnB rfl ?_
          show _ = _
          rw [filter_take hy, if_neg (by simpa using c), List.append_nil]
      · rintro acc rfl
        rw [List.length_map, List.take_length]
        walk_at "pf"
        refine c_len (.inl rfl) ?_
        rw [List.length_map]
        walk_at "pf"
        refine g_one ?_
        walk_at "pf"
        refine w_sliceTo ?_
        walk_at "pf"
        refine ⟨_, _, rfl, rfl, ?_⟩
        refine w_lst ?_
        walk_at "pf"
        refine ⟨by simp, ?_⟩
        refine o_plusL (by rw [List.length_take, List.length_map]; simp; omega) ?_
        refine w_sliceFrom ?_
        walk_at "pf"
        refine ⟨_, _, rfl, .inl ⟨rfl, ?_⟩⟩
        refine o_plusL (by rw [List.length_append, List.length_take, List.length_drop, List.length_map]; simp; omega) ?_
        obtain ⟨o1, o2⟩ := ins_ok hr.1 hnin
        have e1 : (rs.map fr).take (rs.filter fun y => decide (y < q)).length ++ [fr q] ++ (rs.map fr).drop (rs.filter fun y => decide (y < q)).length = (rs.take (rs.filter fun y => decide (y < q)).length ++ [q] ++ rs.drop (rs.filter fun y => decide (y < q)).length).map fr := by
          rw [List.map_append, List.map_append, List.map_take, List.map_drop]
          rfl
        rw [e1]
        refine g_done ⟨_, _, _, _, rfl, rfl, o1, fun x => ?_⟩
        rw [o2 x, take_succ hq, List.mem_append, List.mem_singleton, ← hr.2 x]
  · rintro ρ Γ ⟨rs, y2, y3, y4, rfl, rfl, hr⟩
    rw [List.length_map, List.take_length] at hr
    exact g_ret (w_var rfl (hR rs hr)) Cov.refl
def pAmid : PT_ := fun Γ ds R => ∃ p q, ds = [fr p, fr q] ∧ Sz 1100 p ∧ Sz 1100 q ∧ R (fr ((p + q) / 2))
abbrev N_law_amid : List Str := ["_law_one", "_law_other"]
theorem sc_law_amid : FnScope N_law_amid ["_law_one", "_law_other"] (defScope s_law_amid) := ⟨rfl, rfl, rfl, by decide +kernel, rfl, by decide +kernel, by decide +kernel⟩
theorem ok_law_amid {P : Program} {w : World} {K : PySem.W.Frag} {mg : Str → Option Value} {base : Heap} {aN aO CP CL : Addr} (T : Tp K mg aN aO CP CL)  (F_law_part_of : Fk P w K mg base "_law_part_of" ["_law_one", "_law_other"] 2 (SpG K (pOver))) (F_law_plus : Fk P w K mg base "_law_plus" ["_law_one", "_law_other"] 2 (SpG K (pPlus))) {f : Addr} {fd : FuncData} (F : FunD K "_law_amid" "_law_amid" (defArgs s_law_amid) (defBody s_law_amid) (defScope s_law_amid) [] [] f fd) : FnOk P w K mg base CX0 3 f fd ["_law_one", "_law_other"] (SpG K (pAmid)) := by
  refine okG F sc_law_amid (by intro Γ ds R h; repeat' (first | (obtain ⟨e, _⟩ := h; subst e; rfl) | (obtain ⟨_, h⟩ := h))) (fun cdv A outer s H E hr => ?_)
  refine ⟨_, (pss_one (ps_ret (pe_F F_law_part_of (hr.mono (by decide)) rfl (pa_cons (pe_F F_law_plus (hr.mono (by decide)) rfl (pa_cons (pv 0) (pa_cons (pv 1) pa_nil))) (pa_cons (pe_tup (pa_cons pe_int (pa_cons pe_int pa_nil))) pa_nil))))), ?_⟩
  try dsimp only [cxOf, Cx.nox, Cx.wish]
  rintro S ds ⟨p, q, rfl, hp, hq, hR⟩
  show Goes S [] (nEnd S) _ [some (fr p), some (fr q)] S.C0
  refine g_ret ?_ Cov.refl
  walk_at "pf"
  refine ⟨p, q, rfl, hp.sm (by decide), hq.sm (by decide), ?_⟩
  walk_at "pf"
  refine w_tup ?_
  walk_at "pf"
  refine ⟨by simp, ?_⟩
  walk_at "pf"
  exact ⟨_, 2, rfl, (hp.add hq).sm (by decide), (show Sz 3 2 from ⟨by decide, by decide⟩).sm (by decide), by decide, hR⟩
end PF
end
section
set_option Elab.async false
set_option linter.all false
set_option maxRecDepth 100000
set_option maxHeartbeats 2000000
namespace PF
open PySem PySem.Spec L2 RZ
local macro_rules | `(tactic| walk_at "pf1") => `(tactic| first
  | ((with_reducible refine' w_var ?pfh ?_); (case pfh => rfl))
  | with_reducible refine w_int ?_
  | with_reducible refine w_ty ?_
  | with_reducible refine w_op ?_
  | with_reducible refine w_listVals ?_ ?_
  | with_reducible refine w_cb ?_
  | with_reducible refine w_call ?_
  | with_reducible refine a_cons ?_
  | with_reducible refine a_nil ?_
  | with_reducible refine o_sub ?_
  | with_reducible refine o_plusI ?_
  | ((with_reducible refine' o_ixTu ?pfh ?_); (case pfh => rfl))
  | ((with_reducible refine' o_ixLi ?pfh ?_); (case pfh => rfl))
  | ((with_reducible refine' o_ixKe ?pfh ?_); (case pfh => rfl))
  | with_reducible refine w_bl ?_
  | with_reducible refine w_non ?_
  | with_reducible refine w_str ?_
  | with_reducible refine w_un ?_
  | with_reducible refine w_fld ?_
  | with_reducible refine w_meth ?_
  | with_reducible refine t_test ?_
  | with_reducible refine t_B ?_
  | with_reducible refine t_and ?_
  | with_reducible refine t_or ?_
  | with_reducible refine t_not ?_
  | with_reducible refine w_andV ?_
  | with_reducible refine w_orV ?_
  | with_reducible refine w_notV ?_
  | with_reducible refine w_if ?_
  | with_reducible refine w_chain ?_
  | with_reducible refine o_lt ?_
  | with_reducible refine o_gt ?_
  | with_reducible refine o_le ?_
  | with_reducible refine o_ge ?_
  | with_reducible refine o_equI ?_
  | with_reducible refine o_neqI ?_
  | with_reducible refine o_neg ?_
  | with_reducible refine c_abs ?_
  | with_reducible refine c_int ?_
  | with_reducible refine g_asgX ?_
  | with_reducible refine g_asg ?_
  | with_reducible refine g_drop ?_
  | with_reducible refine g_if ?_
  | with_reducible refine g_next ?_
  | with_reducible refine g_assoc ?_
  | with_reducible refine g_retS ?_
  | with_reducible refine exbl ?_
  | with_reducible refine tT ?_
  | with_reducible refine tF ?_
  | with_reducible refine tNT ?_
  | with_reducible refine tNF ?_
  | ((with_reducible refine' ifpB ?pfh ?_); (case pfh => rfl))
  | ((with_reducible refine' ifnB ?pfh ?_); (case pfh => rfl)))
local macro_rules | `(tactic| walk_at "fl") => `(tactic| first
  | refine ⟨_, _, _, rfl, Tp.cl_Plank ‹_›, Tp.n_long ‹_›, rfl, ?_⟩
  | refine ⟨_, _, _, rfl, Tp.cl_Plank ‹_›, Tp.n_stakes ‹_›, rfl, ?_⟩
  | refine ⟨_, _, _, rfl, Tp.cl_Plank ‹_›, Tp.n_limit ‹_›, rfl, ?_⟩
  | refine ⟨_, _, _, rfl, Tp.cl_Loads ‹_›, Tp.n_plank ‹_›, rfl, ?_⟩
  | refine ⟨_, _, _, rfl, Tp.cl_Loads ‹_›, Tp.n_weights ‹_›, rfl, ?_⟩
  | refine ⟨_, _, _, rfl, Tp.cl_Loads ‹_›, Tp.n_known ‹_›, rfl, ?_⟩
  | refine ⟨_, _, _, rfl, Tp.cl_Loads ‹_›, Tp.n_over ‹_›, rfl, ?_⟩)
local macro_rules | `(tactic| walk_at "pf") => `(tactic| repeat (walk_at "pf1"))

theorem str_at {w : Wd} {r : Int} (h1 : 0 ≤ r) (h2 : r < (w.n : Int)) : atI ((w.ps.map (·.2)).map fr) r = some (fr (w.str r)) := by
  obtain ⟨j, hj⟩ : ∃ j : Nat, r = (j : Int) := ⟨r.toNat, by omega⟩
  obtain ⟨pr, hpj, hpm⟩ := ps_at (w := w) (i := j) (by omega)
  rw [hj, str_in hpj]
  refine atI_nat ?_
  rw [List.getElem?_map, List.getElem?_map, hpj]
  rfl
theorem spot_at {w : Wd} {r : Int} (h1 : 0 ≤ r) (h2 : r < (w.n : Int)) : atI ((w.ps.map (·.1)).map D.int) r = some (.int (w.pos r)) := by
  obtain ⟨j, hj⟩ : ∃ j : Nat, r = (j : Int) := ⟨r.toNat, by omega⟩
  obtain ⟨pr, hpj, hpm⟩ := ps_at (w := w) (i := j) (by omega)
  rw [hj, pos_in hpj]
  refine atI_nat ?_
  rw [List.getElem?_map, List.getElem?_map, hpj]
  rfl
theorem ixR {n : Nat} {lot : List Int} {i : Nat} (h : i < lot.length + 2) : atI ((rests n lot).map D.int) (i : Int) = some (.int (RR n lot i)) := atI_nat (by rw [List.getElem?_map, RR_get h]; rfl)
theorem n_len (w : Wd) : (((w.ps.map (·.1)).map D.int).length : Int) = (w.n : Int) := by rw [List.length_map, List.length_map]; rfl
def pSides : PT_ := fun Γ ds R => ∃ (w : Wd) (lot : List Int), ds = [.dK (wdF w), .tup (lot.map .int)] ∧ w.Ok ∧ Lot w lot ∧ lot.length ≤ 100 ∧ R (.dK (spD (spK w lot)))
abbrev N_law_sides : List Str := ["_law_world_here", "_law_stood", "_law_rests", "_law_found", "_law_k", "_law_prop", "_law_much"]
theorem sc_law_sides : FnScope N_law_sides ["_law_world_here", "_law_stood"] (defScope s_law_sides) := ⟨rfl, rfl, rfl, by decide +kernel, rfl, by decide +kernel, by decide +kernel⟩
theorem ok_law_sides {P : Program} {w : World} {K : PySem.W.Frag} {mg : Str → Option Value} {base : Heap} {aN aO CP CL : Addr} (T : Tp K mg aN aO CP CL)  (F_law_load : Fk P w K mg base "_law_load" ["_law_world_here", "_law_heavy_here", "_law_key"] 3 (SpG K (pLLoad))) (F_law_minus : Fk P w K mg base "_law_minus" ["_law_one", "_law_other"] 2 (SpG K (pLess))) {f : Addr} {fd : FuncData} (F : FunD K "_law_sides" "_law_sides" (defArgs s_law_sides) (defBody s_law_sides) (defScope s_law_sides) [] [] f fd) : FnOk P w K mg base CX0 4 f fd ["_law_world_here", "_law_stood"] (SpG K (pSides)) := by
  refine okG F sc_law_sides (by intro Γ ds R h; repeat' (first | (obtain ⟨e, _⟩ := h; subst e; rfl) | (obtain ⟨_, h⟩ := h))) (fun cdv A outer s H E hr => ?_)
  refine ⟨_, (pss_cons (ps_set (i := 2) sc_law_sides.nd rfl (by first | exact Or.inl rfl | exact Or.inr rfl) (pe_op (op_plusK (K := K) rfl) (pe_op (op_plusK (K := K) rfl) (pe_lst (pa_cons (pe_un un_neg pe_int) pa_nil)) (pe_callTy (call_list_ofK (K := K) rfl) (by rfl) T.b_list bt_list (pa_cons (pv 1) pa_nil))) (pe_lst (pa_cons (pe_callB (call_len_seqK (K := K) rfl) (by rfl) T.b_len bt_len (pa_cons (pe_dget (hu_of hr) (pv 0) pe_str (fun _ _ => rfl)) pa_nil)) pa_nil))))
      (pss_cons (ps_set (i := 3) sc_law_sides.nd rfl (by first | exact Or.inl rfl | exact Or.inr rfl) pe_dnewK)
      (pss_cons (ps_for PassesOwn.never rfl (pi_enumTK (K := K) rfl (by rfl) T.b_enumerate (pa_cons (pv 1) pa_nil)) (pg_tupK (K := K) (n := 2) rfl rfl (pgs_cons (pg_name (i := 4) sc_law_sides.nd rfl (by first | exact Or.inl rfl | exact Or.inr rfl)) (pgs_cons (pg_name (i := 5) sc_law_sides.nd rfl (by first | exact Or.inl rfl | exact Or.inr rfl)) pgs_nil))) 
          (pss_cons (ps_set (i := 6) sc_law_sides.nd rfl (by first | exact Or.inl rfl | exact Or.inr rfl) (pe_F F_law_load (hr.mono (by decide)) rfl (pa_cons (pv 0) (pa_cons (pe_dget (hu_of hr) (pv 0) pe_str (fun _ _ => rfl)) (pa_cons (pe_tup (pa_cons (pe_ix (ix_seqK (K := K) rfl) (pv 2) (pv 4) (fun _ _ => rfl)) (pa_cons (pv 5) (pa_cons (pe_ix (ix_seqK (K := K) rfl) (pv 2) (pe_op (op_plusK (K := K) rfl) (pv 4) pe_int) (fun _ _ => rfl)) pa_nil)))) pa_nil)))))
          (pss_one (ps_dput (hu_of hr) (pv 3) (pv 5) (pe_F F_law_minus (hr.mono (by decide)) rfl (pa_cons (pe_ix (ix_seqK (K := K) rfl) (pe_dget (hu_of hr) (pv 0) pe_str (fun _ _ => rfl)) (pv 5) (fun _ _ => rfl)) (pa_cons (pv 6) pa_nil))) rfl))))
      (pss_one (ps_ret (pv 3)))))), ?_⟩
  try dsimp only [cxOf, Cx.nox, Cx.wish]
  rintro S ds ⟨w, lot, rfl, ok, hl, hlen, hR⟩
  show Goes S [] (nEnd S) _ [some (.dK (wdF w)), some (.tup (lot.map .int)), none, none, none, none, none] S.C0
  have hn := ok.hn
  walk_at "pf"
  refine w_lst ?_
  walk_at "pf"
  refine ⟨by simp, ?_⟩
  walk_at "pf"
  refine c_list (.inr rfl) ?_
  refine o_plusL (by simp; omega) ?_
  refine w_lst ?_
  walk_at "pf"
  refine w_dgetS ?_
  walk_at "pf"
  refine ⟨_, _, _, .inl rfl, rfl, rfl, ?_⟩
  walk_at "pf"
  refine c_len (.inl rfl) ?_
  walk_at "pf"
  rw [n_len]
  refine ⟨by simp, ?_⟩
  refine o_plusL (by simp; omega) ?_
  rw [← rests_D]
  refine g_newK fun p hp0 => ?_
  refine g_for (i_enumT ?_)
  walk_at "pf"
  refine ⟨_, rfl, fun i ρ Γ => ∃ y4 y5 y6, ρ = [some (.dK (wdF w)), some (.tup (lot.map .int)), some (.lst ((rests w.n lot).map .int)), some (.cell p), y4, y5, y6] ∧ Γ = ⟨(p, .dK (spD (spTo w lot i))) :: S.C0.c, S.C0.z⟩, ⟨_, _, _, rfl, rfl⟩, ?_, ?_⟩
  · rintro i d ρ Γ B1 hd ⟨y4, y5, y6, rfl, rfl⟩
    unfold enumD at hd
    rw [List.getElem?_mapIdx] at hd
    cases e : (lot.map D.int)[i]? with
    | none => rw [e] at hd; cases hd
    | some d2 =>
      rw [e] at hd
      cases hd
      obtain ⟨x, hx, rfl⟩ := map_get e
      have hi := (List.getElem?_eq_some_iff.mp hx).1
      have ex := RR_mid (n := w.n) hx
      rw [← ex]
      obtain ⟨t1, t2, t3, t4⟩ := hl.tri hi
      refine gw_tup rfl (gws_cons (gw_name trivial (gws_cons (gw_name trivial (gws_nil ?_)))))
      walk_at "pf"
      refine w_dgetS ?_
      walk_at "pf"
      refine ⟨_, _, _, .inl rfl, rfl, rfl, ?_⟩
      walk_at "pf"
      refine w_tupK ?_
      walk_at "pf"
      refine o_ixLi (ixR (by omega)) ?_
      walk_at "pf"
      refine o_ixLi (ixR (i := i + 2) (by omega)) ?_
      walk_at "pf"
      refine ⟨[RR w.n lot i, RR w.n lot (i + 1), RR w.n lot (i + 2)], rfl, by simp, ?_⟩
      walk_at "pf"
      refine ⟨w, _, _, _, _, rfl, world_is _ w, ok, ⟨t1, t2, t3, t4⟩, ?_⟩
      refine g_one ?_
      have hle : (spD (spTo w lot i)).length < 1000 := by unfold spTo; rw [List.length_map, List.length_map, List.length_range]; omega
      refine g_putKc hle ?_
      walk_at "pf"
      refine w_dgetS ?_
      walk_at "pf"
      refine ⟨_, _, _, .inl rfl, rfl, rfl, ?_⟩
      walk_at "pf"
      refine o_ixLi (str_at (w := w) (by omega) (by omega)) ?_
      walk_at "pf"
      have hstr : Sz 180 (w.str (RR w.n lot (i + 1))) := by
        obtain ⟨j, hj⟩ : ∃ j : Nat, RR w.n lot (i + 1) = (j : Int) := ⟨(RR w.n lot (i + 1)).toNat, by omega⟩
        obtain ⟨pr, hpj, hpm⟩ := ps_at (w := w) (i := j) (by omega)
        rw [hj, str_in hpj]
        exact (ok.hp pr hpm).2.2.1
      refine ⟨_, _, rfl, hstr.sm (by decide), (ok.ld_sz t1 t2 t3 t4).2.sm (by decide), ?_⟩
      walk_at "pf"
      refine ⟨_, rfl, rfl, g_done ⟨_, _, _, rfl, ?_⟩⟩
      rw [putD_new (spTo_new hl hi), spTo_succ]
      unfold spD
      rw [List.map_append]
      rfl
  · rintro ρ Γ ⟨y4, y5, y6, rfl, rfl⟩
    refine g_offK (i := 3) hp0 rfl ?_
    refine g_ret (w_var rfl ?_) Cov.refl
    have e9 : (enumD (lot.map D.int)).length = lot.length := by unfold enumD; rw [List.length_mapIdx, List.length_map]
    rw [e9]
    exact hR
theorem pos_num {q : Rat} : 0 < q.num ↔ 0 < q := ⟨fun h => (Rat.lt_iff 0 q).mpr (by simpa using h), num_pos⟩
def pTops : PT_ := fun Γ ds R => ∃ (w : Wd) (lot : List Int), ds = [.dK (wdF w), .tup (lot.map .int), .dK (spD (spK w lot))] ∧ w.Ok ∧ Lot w lot ∧ lot.length ≤ 100 ∧ overs w lot = [] ∧ R (.lst (topsTo w lot (lot.length - 1)))
abbrev N_law_tops : List Str := ["_law_world_here", "_law_stood", "_law_sides_here", "_law_found", "_law_left_here", "_law_right_here", "_law_low", "_law_high", "_law_both", "_law_spot"]
theorem sc_law_tops : FnScope N_law_tops ["_law_world_here", "_law_stood", "_law_sides_here"] (defScope s_law_tops) := ⟨rfl, rfl, rfl, by decide +kernel, rfl, by decide +kernel, by decide +kernel⟩
theorem ok_law_tops {P : Program} {w : World} {K : PySem.W.Frag} {mg : Str → Option Value} {base : Heap} {aN aO CP CL : Addr} (T : Tp K mg aN aO CP CL)  (F_law_by : Fk P w K mg base "_law_by" ["_law_one", "_law_other"] 2 (SpG K (pTimes))) (F_law_part_of : Fk P w K mg base "_law_part_of" ["_law_one", "_law_other"] 2 (SpG K (pOver))) (F_law_plus : Fk P w K mg base "_law_plus" ["_law_one", "_law_other"] 2 (SpG K (pPlus))) {f : Addr} {fd : FuncData} (F : FunD K "_law_tops" "_law_tops" (defArgs s_law_tops) (defBody s_law_tops) (defScope s_law_tops) [] [] f fd) : FnOk P w K mg base CX0 3 f fd ["_law_world_here", "_law_stood", "_law_sides_here"] (SpG K (pTops)) := by
  refine okG F sc_law_tops (by intro Γ ds R h; repeat' (first | (obtain ⟨e, _⟩ := h; subst e; rfl) | (obtain ⟨_, h⟩ := h))) (fun cdv A outer s H E hr => ?_)
  refine ⟨_, (pss_cons (ps_set (i := 3) sc_law_tops.nd rfl (by first | exact Or.inl rfl | exact Or.inr rfl) (pe_lst pa_nil))
      (pss_cons (ps_for PassesOwn.never rfl (pi_zipAK (K := K) rfl (by rfl) T.b_zip (pa_cons (pv 1) (pa_cons (pe_slice (sl_seqK (K := K) rfl) (pv 1) (po_some pe_int) po_none) pa_nil))) (pg_tupK (K := K) (n := 2) rfl rfl (pgs_cons (pg_name (i := 4) sc_law_tops.nd rfl (by first | exact Or.inl rfl | exact Or.inr rfl)) (pgs_cons (pg_name (i := 5) sc_law_tops.nd rfl (by first | exact Or.inl rfl | exact Or.inr rfl)) pgs_nil))) 
          (pss_cons (ps_par (i := 6) (j := 7) (by rfl) sc_law_tops.nd rfl rfl (by decide) rfl rfl (pa_cons (pe_ix (ix_seqK (K := K) rfl) (pe_dget (hu_of hr) (pv 0) pe_str (fun _ _ => rfl)) (pv 4) (fun _ _ => rfl)) (pa_cons (pe_ix (ix_seqK (K := K) rfl) (pe_dget (hu_of hr) (pv 0) pe_str (fun _ _ => rfl)) (pv 5) (fun _ _ => rfl)) pa_nil)) (by rfl))
          (pss_cons (ps_set (i := 8) sc_law_tops.nd rfl (by first | exact Or.inl rfl | exact Or.inr rfl) (pe_F F_law_plus (hr.mono (by decide)) rfl (pa_cons (pe_dget (hu_of hr) (pv 2) (pv 4) (fun _ _ => rfl)) (pa_cons (pe_dget (hu_of hr) (pv 2) (pv 5) (fun _ _ => rfl)) pa_nil))))
          (pss_cons (ps_set (i := 9) sc_law_tops.nd rfl (by first | exact Or.inl rfl | exact Or.inr rfl) (pe_tup (pa_cons (pv 6) (pa_cons pe_int pa_nil))))
          (pss_cons (ps_if (pt_cmpR op_gt (pe_ix (ix_seqK (K := K) rfl) (pv 8) pe_int (fun _ _ => rfl)) pe_int (nomark _)) 
              (pss_one (ps_set (i := 9) sc_law_tops.nd rfl (by first | exact Or.inl rfl | exact Or.inr rfl) (pe_F F_law_plus (hr.mono (by decide)) rfl (pa_cons (pv 9) (pa_cons (pe_F F_law_part_of (hr.mono (by decide)) rfl (pa_cons (pe_F F_law_by (hr.mono (by decide)) rfl (pa_cons (pe_dget (hu_of hr) (pv 2) (pv 5) (fun _ _ => rfl)) (pa_cons (pe_tup (pa_cons (pe_op op_sub (pv 7) (pv 6)) (pa_cons pe_int pa_nil))) pa_nil))) (pa_cons (pv 8) pa_nil))) pa_nil))))) pss_nil)
          (pss_one (ps_expr (pe_bm PySem.F.plainAttrs_list PySem.F.slot_list_append PySem.F.type_list_append mt_append (pv 3) (pa_cons (pe_tup (pa_cons (pv 4) (pa_cons (pv 5) (pa_cons (pv 8) (pa_cons (pv 9) pa_nil))))) pa_nil)))))))))
      (pss_one (ps_ret (pv 3))))), ?_⟩
  try dsimp only [cxOf, Cx.nox, Cx.wish]
  rintro S ds ⟨w, lot, rfl, ok, hl, hlen, hst, hR⟩
  show Goes S [] (nEnd S) _ [some (.dK (wdF w)), some (.tup (lot.map .int)), some (.dK (spD (spK w lot))), none, none, none, none, none, none, none] S.C0
  have hn := ok.hn
  refine g_newL fun p hp0 => ?_
  refine g_for (i_zip ?_)
  walk_at "pf"
  refine w_sliceFrom ?_
  walk_at "pf"
  refine ⟨1, _, rfl, .inr ⟨rfl, ?_⟩⟩
  walk_at "pf"
  refine ⟨_, _, .inr rfl, fun i ρ Γ => ∃ y4 y5 y6 y7 y8 y9, ρ = [some (.dK (wdF w)), some (.tup (lot.map .int)), some (.dK (spD (spK w lot))), some (.cell p), y4, y5, y6, y7, y8, y9] ∧ Γ = ⟨(p, .lst (topsTo w lot i)) :: S.C0.c, S.C0.z⟩, ⟨_, _, _, _, _, _, rfl, rfl⟩, ?_, ?_⟩
  · rintro i d ρ Γ B1 hd ⟨y4, y5, y6, y7, y8, y9, rfl, rfl⟩
    obtain ⟨a, b, ha, hb, rfl⟩ := zip1_at hd
    have hi1 := (List.getElem?_eq_some_iff.mp hb).1
    have ea := RR_mid (n := w.n) ha
    have eb := RR_mid (n := w.n) hb
    refine gw_tup rfl (gws_cons (gw_name trivial (gws_cons (gw_name trivial (gws_nil ?_)))))
    rw [← ea, ← eb]
    obtain ⟨t1, t2, t3, t4⟩ := hl.tri (i := i) (by omega)
    obtain ⟨t5, t6, t7, t8⟩ := hl.tri (i := i + 1) (by omega)
    have hb' := bot_sz ok hl (i := i) (by omega)
    have s0 := ok.sp_sz hl (i := i) (by omega)
    have s1 := ok.sp_sz hl (i := i + 1) (by omega)
    have l1 := ok.lo_sz hl (i := i + 1) (by omega)
    have l2 := ok.lo_sz hl (i := i + 2) (by omega)
    refine g_par ?_
    walk_at "pf"
    refine w_dgetS ?_
    walk_at "pf"
    refine ⟨_, _, _, .inl rfl, rfl, rfl, ?_⟩
    walk_at "pf"
    refine o_ixLi (spot_at (w := w) (by omega) (by omega)) ?_
    walk_at "pf"
    refine w_dgetS ?_
    walk_at "pf"
    refine ⟨_, _, _, .inl rfl, rfl, rfl, ?_⟩
    walk_at "pf"
    refine o_ixLi (spot_at (w := w) (by omega) (by omega)) ?_
    walk_at "pf"
    refine ⟨_, _, rfl, ?_⟩
    walk_at "pf"
    refine w_dgetI ?_
    walk_at "pf"
    refine ⟨_, _, _, .inl rfl, rfl, sp_look hl (i := i) (by omega), ?_⟩
    walk_at "pf"
    refine w_dgetI ?_
    walk_at "pf"
    refine ⟨_, _, _, .inl rfl, rfl, sp_look hl (i := i + 1) (by omega), ?_⟩
    walk_at "pf"
    refine ⟨_, _, rfl, s0.sm (by decide), s1.sm (by decide), ?_⟩
    refine g_asg (w_tup ?_)
    walk_at "pf"
    refine ⟨by simp, ?_⟩
    have hbq : spAt w lot i + spAt w lot (i + 1) = botQ w lot i := rfl
    rw [hbq]
    refine g_ifJ (fun ρ' Γ' => ∃ y4 y5, ρ' = [some (.dK (wdF w)), some (.tup (lot.map .int)), some (.dK (spD (spK w lot))), some (.cell p), some (.int (RR w.n lot (i + 1))), some (.int (RR w.n lot (i + 2))), y4, y5, some (fr (botQ w lot i)), some (fr (topQ w lot i))] ∧ Γ' = ⟨(p, .lst (topsTo w lot i)) :: S.C0.c, S.C0.z⟩) ?_ ?_
    · have h0 : 0 ≤ botQ w lot i := by
        have a1 := sp_nonneg hst (i := i) (by omega)
        have a2 := sp_nonneg hst (i := i + 1) (by omega)
        unfold botQ
        grind
      walk_at "pf"
      refine o_ixTu (ds := [.int (botQ w lot i).num, .int ((botQ w lot i).den : Int)]) (d := .int (botQ w lot i).num) rfl ?_
      walk_at "pf"
      by_cases hpos : 0 < botQ w lot i
      · refine ifpB (decide_eq_true (pos_num.mpr hpos)) ?_
        have e0 : ¬ botQ w lot i = 0 := fun z => by rw [z] at hpos; exact Rat.lt_irrefl hpos
        refine g_one ?_
        walk_at "pf"
        refine w_dgetI ?_
        walk_at "pf"
        refine ⟨_, _, _, .inl rfl, rfl, sp_look hl (i := i + 1) (by omega), ?_⟩
        walk_at "pf"
        refine w_tup ?_
        walk_at "pf"
        refine ⟨by simp, ?_⟩
        walk_at "pf"
        have z1 := l2.sub l1
        have e5 : loQ w lot (i + 2) - loQ w lot (i + 1) = ((w.pos (RR w.n lot (i + 2)) - w.pos (RR w.n lot (i + 1)) : Int) : Rat) := by rw [Rat.intCast_sub]; rfl
        have z2 := s1.mul z1
        have z3 := z2.div hb' hpos
        rw [e5] at z1 z2 z3
        refine ⟨_, _, rfl, s1.sm (by decide), z1.sm (by decide), ?_⟩
        walk_at "pf"
        refine ⟨_, _, rfl, z2.sm (by decide), hb'.sm (by decide), hpos, ?_⟩
        walk_at "pf"
        refine ⟨loQ w lot (i + 1), _, rfl, l1.sm (by decide), z3.sm (by decide), g_done ⟨some (.int (w.pos (RR w.n lot (i + 1)))), some (.int (w.pos (RR w.n lot (i + 2)))), ?_, rfl⟩⟩
        have e1 : topQ w lot i = loQ w lot (i + 1) + spAt w lot (i + 1) * ((w.pos (RR w.n lot (i + 2)) - w.pos (RR w.n lot (i + 1)) : Int) : Rat) / botQ w lot i := by unfold topQ; rw [if_neg e0, e5]
        rw [e1]
        rfl
      · refine ifnB (decide_eq_false (fun z => hpos (pos_num.mp z))) ?_
        have e0 : botQ w lot i = 0 := Rat.le_antisymm (Rat.not_lt.mp hpos) h0
        refine ⟨some (.int (w.pos (RR w.n lot (i + 1)))), some (.int (w.pos (RR w.n lot (i + 2)))), ?_, rfl⟩
        have e1 : topQ w lot i = loQ w lot (i + 1) := by unfold topQ; rw [if_pos e0, Rat.add_zero]
        rw [e1]
        rfl
    · rintro ρ' Γ' ⟨y4, y5, rfl, rfl⟩
      have tl : (topsTo w lot i).length < 1000 := by unfold topsTo; rw [List.length_map, List.length_range]; omega
      refine g_one (g_app rfl tl ?_)
      refine w_tup ?_
      walk_at "pf"
      refine ⟨by simp, g_done ⟨_, _, _, _, _, _, rfl, ?_⟩⟩
      show (⟨(p, .lst (topsTo w lot i ++ [topD w lot i])) :: _, _⟩ : Ctx) = _
      unfold topsTo
      rw [range_snoc]
  · rintro ρ Γ ⟨y4, y5, y6, y7, y8, y9, rfl, rfl⟩
    refine g_offL (i := 3) hp0 rfl ?_
    refine g_ret (w_var rfl ?_) Cov.refl
    rw [zip1_len]
    exact hR
def pStretch : PT_ := fun Γ ds R => ∃ (w : Wd) (lot : List Int) (m : Rat), ds = [.dK (wdF w), .tup (lot.map .int), .dK (spD (spK w lot)), fr m] ∧ w.Ok ∧ Lot w lot ∧ lot.length ≤ 100 ∧ Sz 700 m ∧ 0 < m ∧ R (.lst (stTo w lot m (lot.length + 1)))
abbrev N_law_stretches : List Str := ["_law_world_here", "_law_stood", "_law_sides_here", "_law_much", "_law_places_here", "_law_rests", "_law_found", "_law_left_here", "_law_right_here", "_law_low", "_law_high", "_law_first", "_law_last", "_law_reach"]
theorem sc_law_stretches : FnScope N_law_stretches ["_law_world_here", "_law_stood", "_law_sides_here", "_law_much"] (defScope s_law_stretches) := ⟨rfl, rfl, rfl, by decide +kernel, rfl, by decide +kernel, by decide +kernel⟩
theorem ok_law_stretches {P : Program} {w : World} {K : PySem.W.Frag} {mg : Str → Option Value} {base : Heap} {aN aO CP CL : Addr} (T : Tp K mg aN aO CP CL)  (F_law_by : Fk P w K mg base "_law_by" ["_law_one", "_law_other"] 2 (SpG K (pTimes))) (F_law_is_below : Fk P w K mg base "_law_is_below" ["_law_one", "_law_other"] 1 (SpG K (pBelow))) (F_law_minus : Fk P w K mg base "_law_minus" ["_law_one", "_law_other"] 2 (SpG K (pLess))) (F_law_part_of : Fk P w K mg base "_law_part_of" ["_law_one", "_law_other"] 2 (SpG K (pOver))) (F_law_plus : Fk P w K mg base "_law_plus" ["_law_one", "_law_other"] 2 (SpG K (pPlus))) {f : Addr} {fd : FuncData} (F : FunD K "_law_stretches" "_law_stretches" (defArgs s_law_stretches) (defBody s_law_stretches) (defScope s_law_stretches) [] [] f fd) : FnOk P w K mg base CX0 3 f fd ["_law_world_here", "_law_stood", "_law_sides_here", "_law_much"] (SpG K (pStretch)) := by
  refine okG F sc_law_stretches (by intro Γ ds R h; repeat' (first | (obtain ⟨e, _⟩ := h; subst e; rfl) | (obtain ⟨_, h⟩ := h))) (fun cdv A outer s H E hr => ?_)
  refine ⟨_, (pss_cons (ps_set (i := 4) sc_law_stretches.nd rfl (by first | exact Or.inl rfl | exact Or.inr rfl) (pe_op (op_plusK (K := K) rfl) (pe_op (op_plusK (K := K) rfl) (pe_lst (pa_cons pe_int pa_nil)) (pe_dget (hu_of hr) (pv 0) pe_str (fun _ _ => rfl))) (pe_lst (pa_cons (pe_dget (hu_of hr) (pv 0) pe_str (fun _ _ => rfl)) pa_nil))))
      (pss_cons (ps_set (i := 5) sc_law_stretches.nd rfl (by first | exact Or.inl rfl | exact Or.inr rfl) (pe_op (op_plusK (K := K) rfl) (pe_op (op_plusK (K := K) rfl) (pe_lst (pa_cons (pe_un un_neg pe_int) pa_nil)) (pe_callTy (call_list_ofK (K := K) rfl) (by rfl) T.b_list bt_list (pa_cons (pv 1) pa_nil))) (pe_lst (pa_cons (pe_callB (call_len_seqK (K := K) rfl) (by rfl) T.b_len bt_len (pa_cons (pe_dget (hu_of hr) (pv 0) pe_str (fun _ _ => rfl)) pa_nil)) pa_nil))))
      (pss_cons (ps_set (i := 6) sc_law_stretches.nd rfl (by first | exact Or.inl rfl | exact Or.inr rfl) (pe_lst pa_nil))
      (pss_cons (ps_for PassesOwn.never rfl (pi_zipAK (K := K) rfl (by rfl) T.b_zip (pa_cons (pv 5) (pa_cons (pe_slice (sl_seqK (K := K) rfl) (pv 5) (po_some pe_int) po_none) pa_nil))) (pg_tupK (K := K) (n := 2) rfl rfl (pgs_cons (pg_name (i := 7) sc_law_stretches.nd rfl (by first | exact Or.inl rfl | exact Or.inr rfl)) (pgs_cons (pg_name (i := 8) sc_law_stretches.nd rfl (by first | exact Or.inl rfl | exact Or.inr rfl)) pgs_nil))) 
          (pss_cons (ps_par (i := 9) (j := 10) (by rfl) sc_law_stretches.nd rfl rfl (by decide) rfl rfl (pa_cons (pe_ix (ix_seqK (K := K) rfl) (pv 4) (pe_op (op_plusK (K := K) rfl) (pv 7) pe_int) (fun _ _ => rfl)) (pa_cons (pe_ix (ix_seqK (K := K) rfl) (pv 4) (pe_op (op_plusK (K := K) rfl) (pv 8) pe_int) (fun _ _ => rfl)) pa_nil)) (by rfl))
          (pss_cons (ps_par (i := 11) (j := 12) (by rfl) sc_law_stretches.nd rfl rfl (by decide) rfl rfl (pa_cons (pe_tup (pa_cons (pv 9) (pa_cons pe_int pa_nil))) (pa_cons (pe_tup (pa_cons (pv 10) (pa_cons pe_int pa_nil))) pa_nil)) (by rfl))
          (pss_cons (ps_if (pt_cmp (pc_din (hu_of hr) (pv 7) (pv 2)) (by rfl)) 
              (pss_cons (ps_set (i := 13) sc_law_stretches.nd rfl (by first | exact Or.inl rfl | exact Or.inr rfl) (pe_F F_law_part_of (hr.mono (by decide)) rfl (pa_cons (pe_F F_law_by (hr.mono (by decide)) rfl (pa_cons (pe_dget (hu_of hr) (pv 2) (pv 7) (fun _ _ => rfl)) (pa_cons (pe_tup (pa_cons (pe_op op_sub (pv 10) (pv 9)) (pa_cons pe_int pa_nil))) pa_nil))) (pa_cons (pv 3) pa_nil))))
              (pss_one (ps_set (i := 11) sc_law_stretches.nd rfl (by first | exact Or.inl rfl | exact Or.inr rfl) (pe_ix (ix_seqK (K := K) rfl) (pe_lst (pa_cons (pv 11) (pa_cons (pe_F F_law_minus (hr.mono (by decide)) rfl (pa_cons (pe_tup (pa_cons (pv 10) (pa_cons pe_int pa_nil))) (pa_cons (pv 13) pa_nil))) pa_nil))) (pe_callTy call_int1 (by rfl) T.b_int bt_int (pa_cons (pe_F F_law_is_below (hr.mono (by decide)) rfl (pa_cons (pv 13) (pa_cons (pe_tup (pa_cons (pe_op op_sub (pv 10) (pv 9)) (pa_cons pe_int pa_nil))) pa_nil))) pa_nil)) (fun _ _ => rfl))))) pss_nil)
          (pss_cons (ps_if (pt_cmp (pc_din (hu_of hr) (pv 8) (pv 2)) (by rfl)) 
              (pss_cons (ps_set (i := 13) sc_law_stretches.nd rfl (by first | exact Or.inl rfl | exact Or.inr rfl) (pe_F F_law_part_of (hr.mono (by decide)) rfl (pa_cons (pe_F F_law_by (hr.mono (by decide)) rfl (pa_cons (pe_dget (hu_of hr) (pv 2) (pv 8) (fun _ _ => rfl)) (pa_cons (pe_tup (pa_cons (pe_op op_sub (pv 10) (pv 9)) (pa_cons pe_int pa_nil))) pa_nil))) (pa_cons (pv 3) pa_nil))))
              (pss_one (ps_set (i := 12) sc_law_stretches.nd rfl (by first | exact Or.inl rfl | exact Or.inr rfl) (pe_ix (ix_seqK (K := K) rfl) (pe_lst (pa_cons (pv 12) (pa_cons (pe_F F_law_plus (hr.mono (by decide)) rfl (pa_cons (pe_tup (pa_cons (pv 9) (pa_cons pe_int pa_nil))) (pa_cons (pv 13) pa_nil))) pa_nil))) (pe_callTy call_int1 (by rfl) T.b_int bt_int (pa_cons (pe_F F_law_is_below (hr.mono (by decide)) rfl (pa_cons (pv 13) (pa_cons (pe_tup (pa_cons (pe_op op_sub (pv 10) (pv 9)) (pa_cons pe_int pa_nil))) pa_nil))) pa_nil)) (fun _ _ => rfl))))) pss_nil)
          (pss_one (ps_expr (pe_bm PySem.F.plainAttrs_list PySem.F.slot_list_append PySem.F.type_list_append mt_append (pv 6) (pa_cons (pe_ifExp (pt_val (pe_F F_law_is_below (hr.mono (by decide)) rfl (pa_cons (pv 12) (pa_cons (pv 11) pa_nil))) (by intro _; rfl)) (pe_tup (pa_cons (pv 7) (pa_cons (pv 8) (pa_cons pe_non (pa_cons pe_non pa_nil))))) (pe_tup (pa_cons (pv 7) (pa_cons (pv 8) (pa_cons (pv 11) (pa_cons (pv 12) pa_nil)))))) pa_nil)))))))))
      (pss_one (ps_ret (pv 6))))))), ?_⟩
  try dsimp only [cxOf, Cx.nox, Cx.wish]
  rintro S ds ⟨w, lot, m, rfl, ok, hl, hlen, hm, hm0, hR⟩
  show Goes S [] (nEnd S) _ [some (.dK (wdF w)), some (.tup (lot.map .int)), some (.dK (spD (spK w lot))), some (fr m), none, none, none, none, none, none, none, none, none, none] S.C0
  have hn := ok.hn
  have hpl : ((w.ps.map (·.1)).map D.int).length = w.n := by rw [List.length_map, List.length_map]; rfl
  walk_at "pf"
  refine w_lst ?_
  walk_at "pf"
  refine ⟨by simp, ?_⟩
  refine w_dgetS ?_
  walk_at "pf"
  refine ⟨_, _, _, .inl rfl, rfl, rfl, ?_⟩
  refine o_plusL (by rw [hpl]; simp; omega) ?_
  refine w_lst ?_
  walk_at "pf"
  refine w_dgetS ?_
  walk_at "pf"
  refine ⟨_, _, _, .inl rfl, rfl, rfl, ?_⟩
  walk_at "pf"
  refine ⟨by simp, ?_⟩
  refine o_plusL (by rw [List.length_append, hpl]; simp; omega) ?_
  walk_at "pf"
  refine w_lst ?_
  walk_at "pf"
  refine ⟨by simp, ?_⟩
  walk_at "pf"
  refine c_list (.inr rfl) ?_
  refine o_plusL (by simp; omega) ?_
  refine w_lst ?_
  walk_at "pf"
  refine w_dgetS ?_
  walk_at "pf"
  refine ⟨_, _, _, .inl rfl, rfl, rfl, ?_⟩
  walk_at "pf"
  refine c_len (.inl rfl) ?_
  walk_at "pf"
  rw [n_len]
  refine ⟨by simp, ?_⟩
  refine o_plusL (by simp; omega) ?_
  rw [← rests_D]
  refine g_newL fun p hp0 => ?_
  refine g_for (i_zip ?_)
  walk_at "pf"
  refine w_sliceFrom ?_
  walk_at "pf"
  refine ⟨1, _, rfl, .inl ⟨rfl, ?_⟩⟩
  walk_at "pf"
  refine ⟨_, _, .inl rfl, fun i ρ Γ => ∃ y7 y8 y9 y10 y11 y12 y13, ρ = [some (.dK (wdF w)), some (.tup (lot.map .int)), some (.dK (spD (spK w lot))), some (fr m), some (.lst ([D.int 0] ++ (w.ps.map (·.1)).map D.int ++ [D.int w.L])), some (.lst ((rests w.n lot).map .int)), some (.cell p), y7, y8, y9, y10, y11, y12, y13] ∧ Γ = ⟨(p, .lst (stTo w lot m i)) :: S.C0.c, S.C0.z⟩, ⟨_, _, _, _, _, _, _, rfl, rfl⟩, ?_, ?_⟩
  · rintro i d ρ Γ B1 hd ⟨y7, y8, y9, y10, y11, y12, y13, rfl, rfl⟩
    obtain ⟨a, b, ha, hb, rfl⟩ := zip1_at (xs := rests w.n lot) hd
    have hi1 : i + 1 < lot.length + 2 := by have := (List.getElem?_eq_some_iff.mp hb).1; rw [rests_len] at this; exact this
    rw [RR_get (by omega)] at ha hb
    cases ha
    cases hb
    refine gw_tup rfl (gws_cons (gw_name trivial (gws_cons (gw_name trivial (gws_nil ?_)))))
    have r1 := hl.rest (i := i) (by omega)
    have r2 := hl.rest (i := i + 1) (by omega)
    have l1 := ok.lo_sz hl (i := i) (by omega)
    have l2 := ok.lo_sz hl (i := i + 1) (by omega)
    have e5 : loQ w lot (i + 1) - loQ w lot i = ((w.pos (RR w.n lot (i + 1)) - w.pos (RR w.n lot i) : Int) : Rat) := by rw [Rat.intCast_sub]; rfl
    have z1 := l2.sub l1
    have z1' := z1
    rw [e5] at z1'
    refine g_par ?_
    walk_at "pf"
    refine o_ixLi (places_at r1.1 r1.2) ?_
    walk_at "pf"
    refine o_ixLi (places_at r2.1 r2.2) ?_
    walk_at "pf"
    refine ⟨_, _, rfl, ?_⟩
    refine g_par ?_
    walk_at "pf"
    refine w_tup ?_
    walk_at "pf"
    refine ⟨by simp, ?_⟩
    walk_at "pf"
    refine w_tup ?_
    walk_at "pf"
    refine ⟨by simp, ?_⟩
    walk_at "pf"
    refine ⟨_, _, rfl, ?_⟩
    refine g_ifJ (fun ρ' Γ' => ∃ y13, ρ' = [some (.dK (wdF w)), some (.tup (lot.map .int)), some (.dK (spD (spK w lot))), some (fr m), some (.lst ([D.int 0] ++ (w.ps.map (·.1)).map D.int ++ [D.int w.L])), some (.lst ((rests w.n lot).map .int)), some (.cell p), some (.int (RR w.n lot i)), some (.int (RR w.n lot (i + 1))), some (.int (w.pos (RR w.n lot i))), some (.int (w.pos (RR w.n lot (i + 1)))), some (fr (bgQ w lot m i)), some (fr (loQ w lot (i + 1))), y13] ∧ Γ' = ⟨(p, .lst (stTo w lot m i)) :: S.C0.c, S.C0.z⟩) ?_ ?_
    · walk_at "pf"
      refine w_dinK ?_
      walk_at "pf"
      refine ⟨_, _, rfl, rfl, fun b hbb => ?_⟩
      refine ⟨b, rfl, ?_⟩
      have hbi : b = true ↔ (1 ≤ i ∧ i ≤ lot.length) := hbb.trans (sp_key.trans (RR_in hl (by omega)))
      cases b with
      | true =>
        obtain ⟨c1, c2⟩ := hbi.mp rfl
        obtain ⟨j, rfl⟩ : ∃ j, i = j + 1 := ⟨i - 1, by omega⟩
        have sj := ok.sp_sz hl (i := j) (by omega)
        have sr := ok.rch_sz hl (i := j + 1) (j := j) (by omega) (by omega) hm hm0
        have er : spAt w lot j * ((w.pos (RR w.n lot (j + 1 + 1)) - w.pos (RR w.n lot (j + 1)) : Int) : Rat) / m = rch w lot m j (j + 1) := by unfold rch; rw [e5]
        refine ifpB rfl ?_
        walk_at "pf"
        refine w_dgetI ?_
        walk_at "pf"
        refine ⟨_, _, _, .inl rfl, rfl, sp_look hl (i := j) (by omega), ?_⟩
        walk_at "pf"
        refine w_tup ?_
        walk_at "pf"
        refine ⟨by simp, ?_⟩
        walk_at "pf"
        refine ⟨_, _, rfl, sj.sm (by decide), z1'.sm (by decide), ?_⟩
        walk_at "pf"
        refine ⟨_, _, rfl, (sj.mul z1').sm (by decide), hm.sm (by decide), hm0, ?_⟩
        rw [er]
        refine g_one ?_
        walk_at "pf"
        refine w_lst ?_
        walk_at "pf"
        refine w_tup ?_
        walk_at "pf"
        refine ⟨by simp, ?_⟩
        walk_at "pf"
        refine ⟨loQ w lot (j + 1 + 1), _, rfl, l2.sm (by decide), sr.sm (by decide), ?_⟩
        walk_at "pf"
        refine ⟨by simp, ?_⟩
        walk_at "pf"
        refine w_tup ?_
        walk_at "pf"
        refine ⟨by simp, ?_⟩
        walk_at "pf"
        refine ⟨_, ((w.pos (RR w.n lot (j + 1 + 1)) - w.pos (RR w.n lot (j + 1)) : Int) : Rat), rfl, sr.sm (by decide), z1'.sm (by decide), ?_⟩
        walk_at "pf"
        refine c_intB ?_
        have e : bgQ w lot m (j + 1) = if loQ w lot (j + 1) < loQ w lot (j + 1 + 1) - rch w lot m j (j + 1) then loQ w lot (j + 1 + 1) - rch w lot m j (j + 1) else loQ w lot (j + 1) := by unfold bgQ; rw [if_neg (by omega)]; rfl
        have ec : rch w lot m j (j + 1) < ((w.pos (RR w.n lot (j + 1 + 1)) - w.pos (RR w.n lot (j + 1)) : Int) : Rat) ↔ loQ w lot (j + 1) < loQ w lot (j + 1 + 1) - rch w lot m j (j + 1) := by rw [← e5]; constructor <;> intro h <;> grind
        by_cases c : rch w lot m j (j + 1) < ((w.pos (RR w.n lot (j + 1 + 1)) - w.pos (RR w.n lot (j + 1)) : Int) : Rat)
        · rw [decide_eq_true c]
          refine o_ixLi (i := 1) (d := fr (loQ w lot (j + 1 + 1) - rch w lot m j (j + 1))) rfl ?_
          refine g_done ⟨some (fr (rch w lot m j (j + 1))), ?_, rfl⟩
          rw [e, if_pos (ec.mp c)]
          rfl
        · rw [decide_eq_false c]
          refine o_ixLi (i := 0) (d := fr (loQ w lot (j + 1))) rfl ?_
          refine g_done ⟨some (fr (rch w lot m j (j + 1))), ?_, rfl⟩
          rw [e, if_neg (fun z => c (ec.mpr z))]
          rfl
      | false =>
        refine ifnB rfl ?_
        have hi0 : i = 0 := by
          rcases Nat.eq_zero_or_pos i with z | z
          · exact z
          · exact absurd (hbi.mpr ⟨z, by omega⟩) (by decide)
        refine ⟨y13, ?_, rfl⟩
        have e : bgQ w lot m i = loQ w lot i := by unfold bgQ; rw [if_pos hi0]
        rw [e]
        rfl
    rintro ρ' Γ' ⟨y13', rfl, rfl⟩
    refine g_ifJ (fun ρ' Γ' => ∃ y13, ρ' = [some (.dK (wdF w)), some (.tup (lot.map .int)), some (.dK (spD (spK w lot))), some (fr m), some (.lst ([D.int 0] ++ (w.ps.map (·.1)).map D.int ++ [D.int w.L])), some (.lst ((rests w.n lot).map .int)), some (.cell p), some (.int (RR w.n lot i)), some (.int (RR w.n lot (i + 1))), some (.int (w.pos (RR w.n lot i))), some (.int (w.pos (RR w.n lot (i + 1)))), some (fr (bgQ w lot m i)), some (fr (enQ w lot m i)), y13] ∧ Γ' = ⟨(p, .lst (stTo w lot m i)) :: S.C0.c, S.C0.z⟩) ?_ ?_
    · walk_at "pf"
      refine w_dinK ?_
      walk_at "pf"
      refine ⟨_, _, rfl, rfl, fun b hbb => ?_⟩
      refine ⟨b, rfl, ?_⟩
      have hbi : b = true ↔ (1 ≤ i + 1 ∧ i + 1 ≤ lot.length) := hbb.trans (sp_key.trans (RR_in hl (by omega)))
      cases b with
      | true =>
        obtain ⟨c1, c2⟩ := hbi.mp rfl
        have sj := ok.sp_sz hl (i := i) (by omega)
        have sr := ok.rch_sz hl (i := i) (j := i) (by omega) (by omega) hm hm0
        have er : spAt w lot i * ((w.pos (RR w.n lot (i + 1)) - w.pos (RR w.n lot i) : Int) : Rat) / m = rch w lot m i i := by unfold rch; rw [e5]
        refine ifpB rfl ?_
        walk_at "pf"
        refine w_dgetI ?_
        walk_at "pf"
        refine ⟨_, _, _, .inl rfl, rfl, sp_look hl (i := i) (by omega), ?_⟩
        walk_at "pf"
        refine w_tup ?_
        walk_at "pf"
        refine ⟨by simp, ?_⟩
        walk_at "pf"
        refine ⟨_, _, rfl, sj.sm (by decide), z1'.sm (by decide), ?_⟩
        walk_at "pf"
        refine ⟨_, _, rfl, (sj.mul z1').sm (by decide), hm.sm (by decide), hm0, ?_⟩
        rw [er]
        refine g_one ?_
        walk_at "pf"
        refine w_lst ?_
        walk_at "pf"
        refine w_tup ?_
        walk_at "pf"
        refine ⟨by simp, ?_⟩
        walk_at "pf"
        refine ⟨loQ w lot i, _, rfl, l1.sm (by decide), sr.sm (by decide), ?_⟩
        walk_at "pf"
        refine ⟨by simp, ?_⟩
        walk_at "pf"
        refine w_tup ?_
        walk_at "pf"
        refine ⟨by simp, ?_⟩
        walk_at "pf"
        refine ⟨_, ((w.pos (RR w.n lot (i + 1)) - w.pos (RR w.n lot i) : Int) : Rat), rfl, sr.sm (by decide), z1'.sm (by decide), ?_⟩
        walk_at "pf"
        refine c_intB ?_
        have e : enQ w lot m i = if loQ w lot i + rch w lot m i i < loQ w lot (i + 1) then loQ w lot i + rch w lot m i i else loQ w lot (i + 1) := by unfold enQ; rw [if_neg (by omega)]
        have ec : rch w lot m i i < ((w.pos (RR w.n lot (i + 1)) - w.pos (RR w.n lot i) : Int) : Rat) ↔ loQ w lot i + rch w lot m i i < loQ w lot (i + 1) := by rw [← e5]; constructor <;> intro h <;> grind
        by_cases c : rch w lot m i i < ((w.pos (RR w.n lot (i + 1)) - w.pos (RR w.n lot i) : Int) : Rat)
        · rw [decide_eq_true c]
          refine o_ixLi (i := 1) (d := fr (loQ w lot i + rch w lot m i i)) rfl ?_
          refine g_done ⟨some (fr (rch w lot m i i)), ?_, rfl⟩
          rw [e, if_pos (ec.mp c)]
          rfl
        · rw [decide_eq_false c]
          refine o_ixLi (i := 0) (d := fr (loQ w lot (i + 1))) rfl ?_
          refine g_done ⟨some (fr (rch w lot m i i)), ?_, rfl⟩
          rw [e, if_neg (fun z => c (ec.mpr z))]
          rfl
      | false =>
        refine ifnB rfl ?_
        have hi0 : i = lot.length := by
          rcases Nat.lt_or_ge i lot.length with z | z
          · exact absurd (hbi.mpr ⟨by omega, z⟩) (by decide)
          · omega
        refine ⟨y13', ?_, rfl⟩
        have e : enQ w lot m i = loQ w lot (i + 1) := by unfold enQ; rw [if_pos hi0]
        rw [e]
    rintro ρ' Γ' ⟨y13', rfl, rfl⟩
    have tl : (stTo w lot m i).length < 1000 := by unfold stTo; rw [List.length_map, List.length_range]; omega
    refine g_one (g_app rfl tl ?_)
    walk_at "pf"
    refine ⟨_, _, rfl, (ok.en_sz hl (by omega) hm hm0).sm (by decide), (ok.bg_sz hl (by omega) hm hm0).sm (by decide), ?_⟩
    refine ⟨_, rfl, ?_⟩
    by_cases hlt : enQ w lot m i < bgQ w lot m i
    · rw [decide_eq_true hlt]
      refine ifpB rfl ?_
      refine w_tup ?_
      walk_at "pf"
      refine ⟨by simp, g_done ⟨_, _, _, _, _, _, _, rfl, ?_⟩⟩
      have e2 : D.tup [.int (RR w.n lot i), .int (RR w.n lot (i + 1)), .non, .non] = stD w lot m i := by unfold stD; rw [if_pos hlt]
      rw [e2]
      unfold stTo
      rw [range_snoc]
    · rw [decide_eq_false hlt]
      refine ifnB rfl ?_
      refine w_tup ?_
      walk_at "pf"
      refine ⟨by simp, g_done ⟨_, _, _, _, _, _, _, rfl, ?_⟩⟩
      have e2 : D.tup [.int (RR w.n lot i), .int (RR w.n lot (i + 1)), fr (bgQ w lot m i), fr (enQ w lot m i)] = stD w lot m i := by unfold stD; rw [if_neg hlt]
      rw [e2]
      unfold stTo
      rw [range_snoc]
  · rintro ρ Γ ⟨y7, y8, y9, y10, y11, y12, y13, rfl, rfl⟩
    refine g_offL (i := 6) hp0 rfl ?_
    refine g_ret (w_var rfl ?_) Cov.refl
    rw [zip1_len, rests_len]
    exact hR
end PF
end
section
set_option Elab.async false
set_option linter.all false
set_option maxRecDepth 100000
set_option maxHeartbeats 2000000
namespace PF
open PySem PySem.Spec L2 RZ
local macro_rules | `(tactic| walk_at "pf1") => `(tactic| first
  | ((with_reducible refine' w_var ?pfh ?_); (case pfh => rfl))
  | with_reducible refine w_int ?_
  | with_reducible refine w_ty ?_
  | with_reducible refine w_op ?_
  | with_reducible refine w_listVals ?_ ?_
  | with_reducible refine w_cb ?_
  | with_reducible refine w_call ?_
  | with_reducible refine a_cons ?_
  | with_reducible refine a_nil ?_
  | with_reducible refine o_sub ?_
  | with_reducible refine o_plusI ?_
  | ((with_reducible refine' o_ixTu ?pfh ?_); (case pfh => rfl))
  | ((with_reducible refine' o_ixLi ?pfh ?_); (case pfh => rfl))
  | ((with_reducible refine' o_ixKe ?pfh ?_); (case pfh => rfl))
  | with_reducible refine w_bl ?_
  | with_reducible refine w_non ?_
  | with_reducible refine w_str ?_
  | with_reducible refine w_un ?_
  | with_reducible refine w_fld ?_
  | with_reducible refine w_meth ?_
  | with_reducible refine t_test ?_
  | with_reducible refine t_B ?_
  | with_reducible refine t_and ?_
  | with_reducible refine t_or ?_
  | with_reducible refine t_not ?_
  | with_reducible refine w_andV ?_
  | with_reducible refine w_orV ?_
  | with_reducible refine w_notV ?_
  | with_reducible refine w_if ?_
  | with_reducible refine w_chain ?_
  | with_reducible refine o_lt ?_
  | with_reducible refine o_gt ?_
  | with_reducible refine o_le ?_
  | with_reducible refine o_ge ?_
  | with_reducible refine o_equI ?_
  | with_reducible refine o_neqI ?_
  | with_reducible refine o_neg ?_
  | with_reducible refine c_abs ?_
  | with_reducible refine c_int ?_
  | with_reducible refine g_asgX ?_
  | with_reducible refine g_asg ?_
  | with_reducible refine g_drop ?_
  | with_reducible refine g_if ?_
  | with_reducible refine g_next ?_
  | with_reducible refine g_assoc ?_
  | with_reducible refine g_retS ?_
  | with_reducible refine exbl ?_
  | with_reducible refine tT ?_
  | with_reducible refine tF ?_
  | with_reducible refine tNT ?_
  | with_reducible refine tNF ?_
  | ((with_reducible refine' ifpB ?pfh ?_); (case pfh => rfl))
  | ((with_reducible refine' ifnB ?pfh ?_); (case pfh => rfl)))
local macro_rules | `(tactic| walk_at "fl") => `(tactic| first
  | refine ⟨_, _, _, rfl, Tp.cl_Plank ‹_›, Tp.n_long ‹_›, rfl, ?_⟩
  | refine ⟨_, _, _, rfl, Tp.cl_Plank ‹_›, Tp.n_stakes ‹_›, rfl, ?_⟩
  | refine ⟨_, _, _, rfl, Tp.cl_Plank ‹_›, Tp.n_limit ‹_›, rfl, ?_⟩
  | refine ⟨_, _, _, rfl, Tp.cl_Loads ‹_›, Tp.n_plank ‹_›, rfl, ?_⟩
  | refine ⟨_, _, _, rfl, Tp.cl_Loads ‹_›, Tp.n_weights ‹_›, rfl, ?_⟩
  | refine ⟨_, _, _, rfl, Tp.cl_Loads ‹_›, Tp.n_known ‹_›, rfl, ?_⟩
  | refine ⟨_, _, _, rfl, Tp.cl_Loads ‹_›, Tp.n_over ‹_›, rfl, ?_⟩)
local macro_rules | `(tactic| walk_at "pf") => `(tactic| repeat (walk_at "pf1"))

theorem sorted_ext : ∀ {a b : List Int}, a.Pairwise (· < ·) → b.Pairwise (· < ·) → (∀ x, x ∈ a ↔ x ∈ b) → a = b
  | [], [], _, _, _ => rfl
  | [], y :: _, _, _, h => by have := (h y).mpr List.mem_cons_self; cases this
  | x :: _, [], _, _, h => by have := (h x).mp List.mem_cons_self; cases this
  | x :: a, y :: b, ha, hb, h => by
    have ha' := List.pairwise_cons.mp ha
    have hb' := List.pairwise_cons.mp hb
    have e : x = y := by
      have h1 := (h x).mp List.mem_cons_self
      have h2 := (h y).mpr List.mem_cons_self
      rcases List.mem_cons.mp h1 with z | z
      · exact z
      · rcases List.mem_cons.mp h2 with z2 | z2
        · exact z2.symm
        · have := hb'.1 x z
          have := ha'.1 y z2
          omega
    subst e
    congr 1
    refine sorted_ext ha'.2 hb'.2 fun z => ?_
    constructor
    · intro hz
      rcases List.mem_cons.mp ((h z).mp (List.mem_cons_of_mem _ hz)) with e | e
      · have := ha'.1 z hz; omega
      · exact e
    · intro hz
      rcases List.mem_cons.mp ((h z).mpr (List.mem_cons_of_mem _ hz)) with e | e
      · have := hb'.1 z hz; omega
      · exact e
theorem bits : ∀ (n : Nat) (p : Nat → Bool), ∃ j, j < 2 ^ n ∧ ∀ k, k < n → bit j k = p k
  | 0, p => ⟨0, by decide, fun k h => absurd h (by omega)⟩
  | n + 1, p => by
    obtain ⟨j, hj, h⟩ := bits n fun k => p (k + 1)
    have e : 2 ^ (n + 1) = 2 * 2 ^ n := by rw [Nat.pow_succ, Nat.mul_comm]
    refine ⟨2 * j + (if p 0 = true then 1 else 0), by rw [e]; split <;> omega, fun k hk => ?_⟩
    cases k with
    | zero =>
      unfold bit
      rw [Nat.pow_zero, Nat.div_one]
      cases hp : p 0 with
      | true => rw [if_pos rfl, decide_eq_true]; omega
      | false => rw [if_neg (by decide), decide_eq_false]; omega
    | succ k =>
      rw [← h k (by omega)]
      unfold bit
      have e2 : (2 * j + (if p 0 = true then 1 else 0)) / 2 ^ (k + 1) = j / 2 ^ k := by
        rw [Nat.pow_succ, Nat.mul_comm (2 ^ k) 2, ← Nat.div_div_eq_div_mul]
        congr 1
        split <;> omega
      rw [e2]
theorem lot_sub {w : Wd} {A : List Int} (hA : Lot w A) : ∃ j, j < 2 ^ w.n ∧ sub w.n j = A := by
  obtain ⟨j, hj, h⟩ := bits w.n fun k => decide ((k : Int) ∈ A)
  refine ⟨j, hj, sorted_ext (sub_lot w j).up hA.up fun x => ?_⟩
  unfold sub
  rw [List.mem_map]
  constructor
  · rintro ⟨k, hk, rfl⟩
    obtain ⟨h1, h2⟩ := List.mem_filter.mp hk
    rw [h k (List.mem_range.mp h1)] at h2
    simpa using h2
  · intro hx
    have hb := hA.bd x hx
    refine ⟨x.toNat, List.mem_filter.mpr ⟨List.mem_range.mpr (by omega), ?_⟩, by omega⟩
    rw [h _ (by omega)]
    have : ((x.toNat : Nat) : Int) = x := by omega
    rw [this]
    simpa using hx
def shK (w : Wd) (q : Rat) : List Int → Rat
  | [a, b, c] => w.sh a b c q
  | _ => 0
def FF (w : Wd) (q m : Rat) : List Int → Bool := fun k => decide (spk w k < m * shK w q k)
theorem fs_iff {w : Wd} {q m : Rat} {lot : List Int} : FS (FF w q m) w.n lot ↔ ∀ i, i < lot.length → m * w.sh (RR w.n lot i) (RR w.n lot (i + 1)) (RR w.n lot (i + 2)) q ≤ spAt w lot i := by
  unfold FS
  constructor
  · intro h i hi
    have := h i hi
    unfold fK FF at this
    have h2 := of_decide_eq_false this
    exact Rat.not_lt.mp h2
  · intro h i hi
    unfold fK FF
    exact decide_eq_false (Rat.not_lt.mpr (h i hi))
section
variable {w : Wd}
theorem Wd.Ok.sh_nonneg (ok : w.Ok) {lot : List Int} (hl : Lot w lot) {i : Nat} (hi : i < lot.length) (q : Rat) : 0 ≤ w.sh (RR w.n lot i) (RR w.n lot (i + 1)) (RR w.n lot (i + 2)) q := by
  obtain ⟨t1, t2, t3, t4⟩ := hl.tri hi
  exact shr_nonneg (ok.pos_lt t1 (by omega) t2) (ok.pos_lt (by omega) t4 t3)
theorem Wd.Ok.fs_mono (ok : w.Ok) {q m : Rat} (hm : 0 ≤ m) {A B : List Int} (hA : Lot w A) (hB : Lot w B) (hs : ∀ x ∈ A, x ∈ B) (hf : FS (FF w q m) w.n A) {j : Nat} (hj : j < B.length) (hp : RR w.n B (j + 1) ∈ A) :
    m * w.sh (RR w.n B j) (RR w.n B (j + 1)) (RR w.n B (j + 2)) q ≤ spAt w B j := by
  obtain ⟨i, hi⟩ := List.mem_iff_getElem?.mp hp
  have il := (List.getElem?_eq_some_iff.mp hi).1
  have ei := RR_mid (n := w.n) hi
  have na := hA.nb il
  have nb := hB.nb hj
  rw [ei] at na
  have t := hB.tri hj
  have t2 := hA.tri il
  rw [ei] at t2
  have g1 : RR w.n A i ≤ RR w.n B j := by
    rcases na.la with z | z
    · rw [z]; exact t.1
    · exact nb.lm _ (hs _ z) na.lt
  have g2 : RR w.n B (j + 2) ≤ RR w.n A (i + 2) := by
    rcases na.rc with z | z
    · rw [z]; exact t.2.2.2
    · exact nb.rm _ (hs _ z) na.rt
  have h1 := fs_iff.mp hf i il
  rw [ei] at h1
  have h2 := ok.ld_mono t2.1 g1 nb.lt nb.rt g2 t2.2.2.2
  have e1 : w.pos (RR w.n A i) ≤ w.pos (RR w.n B j) := by
    rcases Int.lt_or_eq_of_le g1 with z | z
    · exact Int.le_of_lt (ok.pos_lt t2.1 (by omega) z)
    · rw [z]; exact Int.le_refl _
  have e2 : w.pos (RR w.n B (j + 2)) ≤ w.pos (RR w.n A (i + 2)) := by
    rcases Int.lt_or_eq_of_le g2 with z | z
    · exact Int.le_of_lt (ok.pos_lt (by omega) t2.2.2.2 z)
    · rw [z]; exact Int.le_refl _
  have h3 : w.sh (RR w.n B j) (RR w.n B (j + 1)) (RR w.n B (j + 2)) q ≤ w.sh (RR w.n A i) (RR w.n B (j + 1)) (RR w.n A (i + 2)) q := shr_mono e1 (ok.pos_lt t.1 (by omega) t.2.1) (ok.pos_lt (by omega) t.2.2.2 t.2.2.1) e2
  have h4 := mul_mono hm h3
  unfold spAt at h1 ⊢
  rw [ei] at h1
  grind
theorem Wd.Ok.up_all (ok : w.Ok) {q m : Rat} (hm : 0 ≤ m) {u : List Int} (hu : UpTo (FF w q m) w.n (2 ^ w.n) u) : Lot w u ∧ FS (FF w q m) w.n u ∧ ∀ A, Lot w A → FS (FF w q m) w.n A → ∀ x ∈ A, x ∈ u := by
  have hl : Lot w u := ⟨hu.1, fun x hx => by
    obtain ⟨j, _, _, hxj⟩ := (hu.2 x).mp hx
    exact (sub_lot w j).bd x hxj⟩
  have sub_in : ∀ j, j < 2 ^ w.n → FS (FF w q m) w.n (sub w.n j) → ∀ x ∈ sub w.n j, x ∈ u := fun j hj hf x hx => (hu.2 x).mpr ⟨j, hj, hf, hx⟩
  refine ⟨hl, fs_iff.mpr fun i hi => ?_, fun A hA hf x hx => ?_⟩
  · have hmem : RR w.n u (i + 1) ∈ u := (RR_in hl (by omega)).mpr ⟨by omega, by omega⟩
    obtain ⟨j, hj, hf, hxj⟩ := (hu.2 _).mp hmem
    exact ok.fs_mono hm (sub_lot w j) hl (sub_in j hj hf) hf hi hxj
  · obtain ⟨j, hj, e⟩ := lot_sub hA
    subst e
    exact sub_in j hj hf x hx
theorem fs_zero {q : Rat} {lot : List Int} : FS (FF w q 0) w.n lot ↔ overs w lot = [] := by
  rw [fs_iff]
  constructor
  · intro h
    refine List.eq_nil_iff_forall_not_mem.mpr fun p hp => ?_
    obtain ⟨i, hi, _, ho⟩ := mem_overs.mp hp
    have h1 := h i hi
    rw [Rat.zero_mul] at h1
    unfold overAt at ho
    rw [decide_eq_true_eq] at ho
    unfold spAt at h1
    grind
  · intro h i hi
    rw [Rat.zero_mul]
    exact sp_nonneg h hi
theorem Wd.Ok.fin_of (ok : w.Ok) {q : Rat} {u : List Int} (hu : UpTo (FF w q 0) w.n (2 ^ w.n) u) : Fin_ w (allL w.n) u := by
  obtain ⟨h1, h2, h3⟩ := ok.up_all Rat.le_refl hu
  refine ⟨h1, fun x hx => ?_, ?_, fs_zero.mp h2, fun A hA ho _ => h3 A hA (fs_zero.mpr ho)⟩
  · have := h1.bd x hx
    exact List.mem_map.mpr ⟨x.toNat, List.mem_range.mpr (by omega), by omega⟩
  · rw [allL_len]; exact hu.len
theorem fin_uniq {a b : List Int} (ha : Fin_ w (allL w.n) a) (hb : Fin_ w (allL w.n) b) : a = b :=
  sorted_ext ha.isLot.up hb.isLot.up fun x => ⟨fun h => hb.max a ha.isLot ha.st ha.sub x h, fun h => ha.max b hb.isLot hb.st hb.sub x h⟩
theorem Wd.Ok.stays_iff (ok : w.Ok) {q m : Rat} (hm : 0 ≤ m) {u fin : List Int} (hf : Fin_ w (allL w.n) fin) (hu : UpTo (FF w q m) w.n (2 ^ w.n) u) : u = fin ↔ FS (FF w q m) w.n fin := by
  obtain ⟨h1, h2, h3⟩ := ok.up_all hm hu
  constructor
  · intro e; subst e; exact h2
  · intro hs
    refine sorted_ext h1.up hf.isLot.up fun x => ⟨fun hx => ?_, fun hx => h3 fin hf.isLot hs x hx⟩
    have h0 : overs w u = [] := fs_zero (q := q).mp (fs_iff.mpr fun i hi => by
      have := fs_iff.mp h2 i hi
      have h4 := Rat.mul_nonneg hm (ok.sh_nonneg h1 hi q)
      rw [Rat.zero_mul]
      grind)
    refine hf.max u h1 h0 (fun y hy => ?_) x hx
    have := h1.bd y hy
    exact List.mem_map.mpr ⟨y.toNat, List.mem_range.mpr (by omega), by omega⟩
end
/-! ### one stretch -/
theorem mul_le_iff {a b c : Rat} (hc : 0 < c) : a * c ≤ b * c ↔ a ≤ b := by
  constructor
  · intro h
    rcases Rat.le_total (a := a) (b := b) with h1 | h1
    · exact h1
    · by_cases e : b = a
      · rw [e]; exact Rat.le_refl
      · have := rmul_lt hc (Rat.lt_of_le_of_ne h1 e)
        exact absurd h (Rat.not_le.mpr this)
  · intro h
    have := mul_mono (x := c) (y := a) (z := b) (Rat.le_of_lt hc) h
    rw [Rat.mul_comm c a, Rat.mul_comm c b] at this
    exact this
theorem scal {m x d s : Rat} (hm : 0 < m) (hd : 0 < d) : m * (x / d) ≤ s ↔ x ≤ s * d / m := by
  rw [← mul_le_iff (a := m * (x / d)) hd, ← mul_le_iff (a := x) hm, Rat.div_mul_cancel (Rat.ne_of_gt hm), Rat.mul_assoc, Rat.div_mul_cancel (Rat.ne_of_gt hd), Rat.mul_comm m x]
theorem lo_le {w : Wd} (ok : w.Ok) {lot : List Int} (hl : Lot w lot) {i j : Nat} (h : i ≤ j) (hj : j < lot.length + 2) : loQ w lot i ≤ loQ w lot j := by
  rcases Nat.lt_or_eq_of_le h with z | z
  · have g1 := RR_get (n := w.n) (lot := lot) (i := i) (by omega)
    have g2 := RR_get (n := w.n) (lot := lot) (i := j) (by omega)
    have := pw_get hl.rests_up z g1 g2
    exact ile (Int.le_of_lt (ok.pos_lt (hl.rest (by omega)).1 (hl.rest hj).2 this))
  · rw [z]; exact Rat.le_refl
section
variable {w : Wd} {lot : List Int} {q m : Rat} {i : Nat}
theorem rdiv_self {d : Rat} (h : 0 < d) : d / d = 1 := by rw [Rat.div_def, Rat.mul_inv_cancel _ (Rat.ne_of_gt h)]
theorem rdiv_zero {d : Rat} : (0 : Rat) / d = 0 := by rw [Rat.div_def, Rat.zero_mul]
/-- the prop at the stretch's left end -/
theorem sh_left (ok : w.Ok) (hl : Lot w lot) (hi : i < lot.length) (h1 : loQ w lot (i + 1) ≤ q) (h2 : q ≤ loQ w lot (i + 2)) : w.sh (RR w.n lot i) (RR w.n lot (i + 1)) (RR w.n lot (i + 2)) q = (loQ w lot (i + 2) - q) / (loQ w lot (i + 2) - loQ w lot (i + 1)) := by
  obtain ⟨t1, t2, t3, t4⟩ := hl.tri hi
  have p1 := ok.pos_lt t1 (by omega) t2
  have p2 := ok.pos_lt (a := RR w.n lot (i + 1)) (by omega) t4 t3
  have hd : 0 < loQ w lot (i + 2) - loQ w lot (i + 1) := by have := ok.lo_lt hl (i := i + 1) (by omega); grind
  unfold Wd.sh
  by_cases e : q = loQ w lot (i + 1)
  · rw [e]
    show shr _ _ _ ((w.pos (RR w.n lot (i + 1)) : Int) : Rat) = _
    rw [shr_here p1]
    exact (rdiv_self hd).symm
  · have hlt : loQ w lot (i + 1) < q := Rat.lt_of_le_of_ne h1 fun z => e z.symm
    have hlt' : ((w.pos (RR w.n lot (i + 1)) : Int) : Rat) < q := hlt
    unfold shr
    rw [if_neg (fun z => z.2 hlt')]
    by_cases e2 : q = loQ w lot (i + 2)
    · rw [if_neg (fun z => by have := z.2; rw [e2] at this; exact Rat.lt_irrefl this), e2, Rat.sub_self, rdiv_zero]
    · have hlt2 : q < ((w.pos (RR w.n lot (i + 2)) : Int) : Rat) := Rat.lt_of_le_of_ne h2 e2
      rw [if_pos ⟨hlt', hlt2⟩, Rat.intCast_sub]
      rfl
/-- the prop at the stretch's right end -/
theorem sh_right (ok : w.Ok) (hl : Lot w lot) (hi : i < lot.length) (h1 : loQ w lot i ≤ q) (h2 : q ≤ loQ w lot (i + 1)) : w.sh (RR w.n lot i) (RR w.n lot (i + 1)) (RR w.n lot (i + 2)) q = (q - loQ w lot i) / (loQ w lot (i + 1) - loQ w lot i) := by
  have h2' : ¬ ((w.pos (RR w.n lot (i + 1)) : Int) : Rat) < q := Rat.not_lt.mpr h2
  unfold Wd.sh shr
  by_cases e : q = loQ w lot i
  · have e' : ¬ ((w.pos (RR w.n lot i) : Int) : Rat) < q := by rw [e]; exact Rat.lt_irrefl
    rw [if_neg (fun z => e' z.1), if_neg (fun z => h2' z.1), e, Rat.sub_self, rdiv_zero]
  · have hlt : ((w.pos (RR w.n lot i) : Int) : Rat) < q := Rat.lt_of_le_of_ne h1 fun z => e z.symm
    rw [if_pos ⟨hlt, h2'⟩, Rat.intCast_sub]
    rfl
/-- a prop elsewhere -/
theorem sh_off (ok : w.Ok) (hl : Lot w lot) {j : Nat} (hj : j < lot.length) (h : loQ w lot (j + 2) ≤ q ∨ q ≤ loQ w lot j) : w.sh (RR w.n lot j) (RR w.n lot (j + 1)) (RR w.n lot (j + 2)) q = 0 := by
  have a1 := ok.lo_lt hl (i := j) (by omega)
  have a2 := ok.lo_lt hl (i := j + 1) (by omega)
  have c1 : ((w.pos (RR w.n lot j) : Int) : Rat) = loQ w lot j := rfl
  have c2 : ((w.pos (RR w.n lot (j + 1)) : Int) : Rat) = loQ w lot (j + 1) := rfl
  have c3 : ((w.pos (RR w.n lot (j + 2)) : Int) : Rat) = loQ w lot (j + 2) := rfl
  unfold Wd.sh shr
  rw [c1, c2, c3]
  rcases h with h | h
  · rw [if_neg (by grind), if_neg (by grind)]
  · rw [if_neg (by grind), if_neg (by grind)]
def LC (w : Wd) (lot : List Int) (q m : Rat) (i : Nat) : Prop := i = 0 ∨ m * ((loQ w lot (i + 1) - q) / (loQ w lot (i + 1) - loQ w lot i)) ≤ spAt w lot (i - 1)
def RC (w : Wd) (lot : List Int) (q m : Rat) (i : Nat) : Prop := i = lot.length ∨ m * ((q - loQ w lot i) / (loQ w lot (i + 1) - loQ w lot i)) ≤ spAt w lot i
theorem fs_iv (ok : w.Ok) (hl : Lot w lot) (hs : overs w lot = []) (hi : i ≤ lot.length) (h1 : loQ w lot i ≤ q) (h2 : q ≤ loQ w lot (i + 1)) : FS (FF w q m) w.n lot ↔ LC w lot q m i ∧ RC w lot q m i := by
  rw [fs_iff]
  constructor
  · intro h
    constructor
    · by_cases e : i = 0
      · exact .inl e
      · obtain ⟨j, rfl⟩ : ∃ j, i = j + 1 := ⟨i - 1, by omega⟩
        have := h j (by omega)
        rw [sh_left ok hl (by omega) h1 h2] at this
        exact .inr this
    · by_cases e : i = lot.length
      · exact .inl e
      · have := h i (by omega)
        rw [sh_right ok hl (by omega) h1 h2] at this
        exact .inr this
  · rintro ⟨hL, hR⟩ j hj
    by_cases e1 : j + 1 = i
    · subst e1
      rw [sh_left ok hl hj h1 h2]
      rcases hL with z | z
      · omega
      · exact z
    · by_cases e2 : j = i
      · subst e2
        rw [sh_right ok hl hj h1 h2]
        rcases hR with z | z
        · omega
        · exact z
      · have hoff : loQ w lot (j + 2) ≤ q ∨ q ≤ loQ w lot j := by
          rcases Nat.lt_or_ge j i with z | z
          · exact .inl (Rat.le_trans (lo_le ok hl (by omega) (by omega)) h1)
          · exact .inr (Rat.le_trans h2 (lo_le ok hl (by omega) (by omega)))
        rw [sh_off ok hl hj hoff, Rat.mul_zero]
        exact sp_nonneg hs hj
theorem lc_iff (ok : w.Ok) (hl : Lot w lot) (hi : i ≤ lot.length) (hm : 0 < m) (h1 : loQ w lot i ≤ q) : LC w lot q m i ↔ ¬ q < bgQ w lot m i := by
  have hd : 0 < loQ w lot (i + 1) - loQ w lot i := by have := ok.lo_lt hl (i := i) (by omega); grind
  unfold LC bgQ
  by_cases e : i = 0
  · rw [if_pos e]
    exact ⟨fun _ => Rat.not_lt.mpr h1, fun _ => .inl e⟩
  · rw [if_neg e, scal hm hd]
    have er : spAt w lot (i - 1) * (loQ w lot (i + 1) - loQ w lot i) / m = rch w lot m (i - 1) i := rfl
    rw [er]
    constructor
    · rintro (z | z)
      · exact absurd z e
      · split <;> grind
    · intro h
      refine .inr ?_
      split at h <;> grind
theorem rc_iff (ok : w.Ok) (hl : Lot w lot) (hi : i ≤ lot.length) (hm : 0 < m) (h2 : q ≤ loQ w lot (i + 1)) : RC w lot q m i ↔ ¬ enQ w lot m i < q := by
  have hd : 0 < loQ w lot (i + 1) - loQ w lot i := by have := ok.lo_lt hl (i := i) (by omega); grind
  unfold RC enQ
  by_cases e : i = lot.length
  · rw [if_pos e]
    exact ⟨fun _ => Rat.not_lt.mpr h2, fun _ => .inl e⟩
  · rw [if_neg e, scal hm hd]
    have er : spAt w lot i * (loQ w lot (i + 1) - loQ w lot i) / m = rch w lot m i i := rfl
    rw [er]
    constructor
    · rintro (z | z)
      · exact absurd z e
      · split <;> grind
    · intro h
      refine .inr ?_
      split at h <;> grind
theorem find_iv (w : Wd) (lot : List Int) (q : Rat) (h0 : loQ w lot 0 ≤ q) : ∀ k, 1 ≤ k → q ≤ loQ w lot k → ∃ i, i < k ∧ loQ w lot i ≤ q ∧ q ≤ loQ w lot (i + 1)
  | 0, h, _ => absurd h (by decide)
  | 1, _, h => ⟨0, by decide, h0, h⟩
  | k + 2, _, h => by
    by_cases c : loQ w lot (k + 1) ≤ q
    · exact ⟨k + 1, by omega, c, h⟩
    · obtain ⟨i, hi, a, b⟩ := find_iv w lot q h0 (k + 1) (by omega) (Rat.le_of_lt (Rat.not_le.mp c))
      exact ⟨i, by omega, a, b⟩
theorem RR_zero (n : Nat) (lot : List Int) : RR n lot 0 = -1 := rfl
theorem RR_last (n : Nat) (lot : List Int) : RR n lot (lot.length + 1) = (n : Int) := by
  unfold RR rests
  rw [List.getD_eq_getElem?_getD, List.getElem?_cons_succ, List.getElem?_append_right (Nat.le_refl _), Nat.sub_self]
  rfl
theorem bg_lo (ok : w.Ok) : loQ w lot i ≤ bgQ w lot m i := by
  unfold bgQ
  split
  · exact Rat.le_refl
  · split <;> grind
theorem en_hi : enQ w lot m i ≤ loQ w lot (i + 1) := by
  unfold enQ
  split
  · exact Rat.le_refl
  · split <;> grind
def InSt (w : Wd) (lot : List Int) (m q : Rat) : Prop := ∃ i, i < lot.length + 1 ∧ ¬ enQ w lot m i < bgQ w lot m i ∧ ¬ q < bgQ w lot m i ∧ ¬ enQ w lot m i < q
theorem stands_iff (ok : w.Ok) (hl : Lot w lot) (hs : overs w lot = []) (hm : 0 < m) (h0 : 0 ≤ q) (h1 : q ≤ (w.L : Rat)) : FS (FF w q m) w.n lot ↔ InSt w lot m q := by
  constructor
  · intro h
    obtain ⟨i, hi, a, b⟩ := find_iv w lot q (by show ((w.pos (RR w.n lot 0) : Int) : Rat) ≤ q; rw [RR_zero, pos_left]; exact h0) (lot.length + 1) (by omega) (by show q ≤ ((w.pos (RR w.n lot (lot.length + 1)) : Int) : Rat); rw [RR_last, pos_right]; exact h1)
    obtain ⟨hL, hR⟩ := (fs_iv ok hl hs (by omega) a b).mp h
    have c1 := (lc_iff ok hl (by omega) hm a).mp hL
    have c2 := (rc_iff ok hl (by omega) hm b).mp hR
    exact ⟨i, hi, by grind, c1, c2⟩
  · rintro ⟨i, hi, c0, c1, c2⟩
    have a : loQ w lot i ≤ q := by have := bg_lo (w := w) (lot := lot) (m := m) (i := i) ok; grind
    have b : q ≤ loQ w lot (i + 1) := by have := en_hi (w := w) (lot := lot) (m := m) (i := i); grind
    exact (fs_iv ok hl hs (by omega) a b).mpr ⟨(lc_iff ok hl (by omega) hm a).mpr c1, (rc_iff ok hl (by omega) hm b).mpr c2⟩
theorem topA (B S0 S1 lo hi x : Rat) (e : B = S0 + S1) (hx : x * B = S1 * (hi - lo)) : B * (hi - (lo + x)) = S0 * (hi - lo) := by
  subst e
  grind
theorem topB (B S1 lo hi x : Rat) (hx : x * B = S1 * (hi - lo)) : B * ((lo + x) - lo) = S1 * (hi - lo) := by grind
theorem topC (B S0 S1 lo hi x m : Rat) (h1 : m * (hi - (lo + x)) ≤ S0 * (hi - lo)) (h2 : m * ((lo + x) - lo) ≤ S1 * (hi - lo)) (h3 : B * (hi - lo) < m * (hi - lo)) (e : B = S0 + S1) : False := by
  have e1 : m * (hi - (lo + x)) + m * ((lo + x) - lo) = m * (hi - lo) := by grind
  have e2 : B * (hi - lo) = S0 * (hi - lo) + S1 * (hi - lo) := by rw [e, Rat.add_mul]
  generalize m * (hi - (lo + x)) = a at *
  generalize m * ((lo + x) - lo) = b at *
  generalize m * (hi - lo) = c at *
  generalize B * (hi - lo) = d at *
  generalize S0 * (hi - lo) = f at *
  generalize S1 * (hi - lo) = g at *
  grind
theorem top_in (ok : w.Ok) (hl : Lot w lot) (hs : overs w lot = []) (hi : i + 1 < lot.length) (hb : 0 < botQ w lot i) : loQ w lot (i + 1) ≤ topQ w lot i ∧ topQ w lot i ≤ loQ w lot (i + 2) ∧ FS (FF w (topQ w lot i) (botQ w lot i)) w.n lot ∧ ∀ m, botQ w lot i < m → ¬ FS (FF w (topQ w lot i) m) w.n lot := by
  have hd : 0 < loQ w lot (i + 2) - loQ w lot (i + 1) := by have := ok.lo_lt hl (i := i + 1) (by omega); grind
  have s0 := sp_nonneg hs (i := i) (by omega)
  have s1 := sp_nonneg hs (i := i + 1) (by omega)
  have hne : botQ w lot i ≠ 0 := Rat.ne_of_gt hb
  have et : topQ w lot i = loQ w lot (i + 1) + spAt w lot (i + 1) * (loQ w lot (i + 2) - loQ w lot (i + 1)) / botQ w lot i := by unfold topQ; rw [if_neg hne]
  have eb : botQ w lot i = spAt w lot i + spAt w lot (i + 1) := rfl
  generalize hx : spAt w lot (i + 1) * (loQ w lot (i + 2) - loQ w lot (i + 1)) / botQ w lot i = x at et
  have hxb : x * botQ w lot i = spAt w lot (i + 1) * (loQ w lot (i + 2) - loQ w lot (i + 1)) := by rw [← hx, Rat.div_mul_cancel hne]
  have x0 : 0 ≤ x := by rw [← hx]; exact div_nonneg (Rat.mul_nonneg s1 (Rat.le_of_lt hd)) hb
  have x1 : x ≤ loQ w lot (i + 2) - loQ w lot (i + 1) := by
    rw [← mul_le_iff hb, hxb, eb]
    have := Rat.mul_nonneg s0 (Rat.le_of_lt hd)
    grind
  have a : loQ w lot (i + 1) ≤ topQ w lot i := by grind
  have b : topQ w lot i ≤ loQ w lot (i + 2) := by grind
  have eL : ∀ m, LC w lot (topQ w lot i) m (i + 1) ↔ m * (loQ w lot (i + 2) - topQ w lot i) ≤ spAt w lot i * (loQ w lot (i + 2) - loQ w lot (i + 1)) := fun m => by
    unfold LC
    have : m * ((loQ w lot (i + 2) - topQ w lot i) / (loQ w lot (i + 2) - loQ w lot (i + 1))) ≤ spAt w lot i ↔ m * (loQ w lot (i + 2) - topQ w lot i) ≤ spAt w lot i * (loQ w lot (i + 2) - loQ w lot (i + 1)) := by
      rw [← mul_le_iff (a := m * _) hd, Rat.mul_assoc, Rat.div_mul_cancel (Rat.ne_of_gt hd)]
    rw [← this]
    exact ⟨fun z => z.elim (fun z => absurd z (by omega)) id, .inr⟩
  have eR : ∀ m, RC w lot (topQ w lot i) m (i + 1) ↔ m * (topQ w lot i - loQ w lot (i + 1)) ≤ spAt w lot (i + 1) * (loQ w lot (i + 2) - loQ w lot (i + 1)) := fun m => by
    unfold RC
    have : m * ((topQ w lot i - loQ w lot (i + 1)) / (loQ w lot (i + 2) - loQ w lot (i + 1))) ≤ spAt w lot (i + 1) ↔ m * (topQ w lot i - loQ w lot (i + 1)) ≤ spAt w lot (i + 1) * (loQ w lot (i + 2) - loQ w lot (i + 1)) := by
      rw [← mul_le_iff (a := m * _) hd, Rat.mul_assoc, Rat.div_mul_cancel (Rat.ne_of_gt hd)]
    rw [← this]
    exact ⟨fun z => z.elim (fun z => absurd z (by omega)) id, .inr⟩
  refine ⟨a, b, (fs_iv ok hl hs (i := i + 1) (by omega) a b).mpr ⟨(eL _).mpr ?_, (eR _).mpr ?_⟩, fun m hm h => ?_⟩
  · rw [et, topA (botQ w lot i) _ _ _ _ _ eb hxb]
    exact Rat.le_refl
  · rw [et, topB (botQ w lot i) _ _ _ _ hxb]
    exact Rat.le_refl
  · obtain ⟨hL, hR⟩ := (fs_iv ok hl hs (i := i + 1) (by omega) a b).mp h
    have h1 := (eL m).mp hL
    have h2 := (eR m).mp hR
    have h3 := rmul_lt hd hm
    rw [et] at h1 h2
    exact topC _ _ _ _ _ _ _ h1 h2 h3 eb
end
end PF
end
section
set_option Elab.async false
set_option linter.all false
set_option maxRecDepth 100000
namespace PF
open PySem PySem.Spec L2 RZ
section
variable {K : PySem.W.Frag} {S : Sig K} {mk : List Hp} {ρ : En} {Γ : Ctx} {N : En → Ctx → Prop} {wi : TI} {g : TG} {tt : TT} {te : TE} {vs : List Nat} {ts : TS}
/-- x = [.. for ..], a list that will grow -/
theorem g_lcCell {i : Nat} (h : ItW K wi ρ Γ fun ds => ds.length ≤ 1000 ∧ ∃ Acc : Nat → List D → Prop, Acc 0 [] ∧
    (∀ i d acc, ds[i]? = some d → Acc i acc → GW K (· ∈ vs) g (wipeR ρ vs) d fun ρ' => EvT K tt ρ' Γ fun b => if b = true then EvW K te ρ' Γ fun e => Acc (i + 1) (acc ++ [e]) else Acc (i + 1) acc) ∧
    ∀ acc, Acc ds.length acc → ∀ p, S.H0 p = none → Goes S mk N ts (ρ.set i (some (.cell p))) ⟨(p, .lst acc) :: Γ.c, Γ.z⟩) : Goes S mk N (tSeq (tAsg (tLc wi g tt te vs) (gName i)) ts) ρ Γ := fun E hE hN B H σ a =>
  h B H σ a.ok a.sl _ fun J B1 H1 ds k1 f1 w ⟨hn, Acc, h0, hs, hd⟩ Dl hDl => by
    have a1 := a.step k1 f1
    have s := a1.sl
    obtain ⟨G, Y, hw, hG, hY⟩ := w.ex
    have st : ∀ {B2 H2 : Hp} {acc : List D} {B3 H3 : Hp}, Ok K B2 H2 ⟨(Dl, .lst acc) :: Γ.c, Γ.z⟩ → Fut ⟨(Dl, .lst acc) :: Γ.c, Γ.z⟩ B1 (upd H1 Dl (.lst [])) B2 H2 → Ok K B3 H3 Γ → Fut Γ B2 H2 B3 H3 →
        Ok K B3 H3 ⟨(Dl, .lst acc) :: Γ.c, Γ.z⟩ ∧ Fut ⟨(Dl, .lst acc) :: Γ.c, Γ.z⟩ B1 (upd H1 Dl (.lst [])) B3 H3 := fun k2 f2 k3 f3 =>
      ⟨k2.carry k3 f3, f2.trans f3 fun a ha => .inl (List.mem_cons_of_mem _ ha)⟩
    refine lc_it hw (fun i H => ∃ B2 acc, Ok K B2 H ⟨(Dl, .lst acc) :: Γ.c, Γ.z⟩ ∧ Fut ⟨(Dl, .lst acc) :: Γ.c, Γ.z⟩ B1 (upd H1 Dl (.lst [])) B2 H ∧ acc.length ≤ i ∧ Acc i acc)
      ⟨B1, [], k1.cellNew hDl ⟨[], upd_same, .nil⟩, Fut.refl, Nat.le_refl _, h0⟩ (fun i H _ ⟨B2, acc, k2, f2, _⟩ => hG H (f2.ex.trans k2.ext)) ?_ ?_
    · rintro i x H H' hi ⟨B2, acc, k2, f2, hl, ha⟩ y
      have hdi : ds[i]? = some ds[i] := List.getElem?_eq_getElem hi
      obtain ⟨B3, k3, f3, r3⟩ := hY i x H H' _ _ B2 hdi y k2.extend f2.ex
      obtain ⟨k3', f3'⟩ := st k2 f2 k3 f3
      refine hs i _ acc hdi ha Γ B3 H' _ x k3 ((s.wipe vs).le (sameLe f3'.ex)) r3 _ fun σ' ρ' s' e' l' q' => ?_
      refine ⟨wipe_ext (l'.trans (wipe_length _ _)) fun j hj => e' j hj, ?_⟩
      refine q' B3 H' σ' k3 s' _ fun b B4 H4 k4 f4 q4 => ?_
      obtain ⟨k4', f4'⟩ := st k3' f3' k4 f4
      cases b with
      | false => exact ⟨B4, acc, k4', f4', by omega, q4⟩
      | true =>
        refine (show EvW K te ρ' Γ _ from q4) B4 H4 σ' k4 (s'.le (sameLe f4.ex)) _ fun v B5 H5 d k5 f5 r5 q5 => ?_
        obtain ⟨k5', f5'⟩ := st k4' f4' k5 f5
        obtain ⟨b5, xs, hx, hr⟩ := k5'.cel (Dl, .lst acc) List.mem_cons_self
        refine ⟨xs, hx, small1000 (by rw [hr.length]; omega), B5, acc ++ [d], k5'.cellSet ⟨_, upd_same, hr.snoc r5⟩, ?_, by rw [List.length_append, List.length_singleton]; omega, q5⟩
        refine ⟨f5'.ex, fun a o ht hb hc h => ?_, fun a ys h => ?_, fun a h => ?_⟩
        · obtain ⟨z1, z2⟩ := f5'.fr a o ht hb hc h
          rw [upd_ne (fun q => hc (by rw [q]; exact List.mem_cons_self))]
          exact ⟨z1, z2⟩
        · have ne : a ≠ Dl := by
            intro q
            rw [q, upd_same] at h
            cases h
          rw [upd_ne ne]
          exact f5'.tp a ys h
        · by_cases q : a = Dl
          · rw [q, upd_same] at h; cases h
          · rw [upd_ne q] at h; exact f5'.lv a h
    · rintro H ⟨B2, acc, k2, f2, _, ha⟩
      have fB : Fut ⟨(Dl, .lst acc) :: Γ.c, Γ.z⟩ B1 H1 B2 H := by
        refine ⟨f2.ex, fun a o ht hb hc h => ?_, fun a ys h => ?_, fun a h => ?_⟩
        · have ne : a ≠ Dl := ne_of_none h hDl
          exact f2.fr a o ht hb hc (by rw [upd_ne ne]; exact h)
        · exact f2.tp a ys (by rw [upd_ne (ne_of_none h hDl)]; exact h)
        · have z := f2.lv a h
          by_cases q : a = Dl
          · rw [q]; exact hDl
          · rw [upd_ne q] at z; exact z
      have hD0 : S.H0 Dl = none := a1.h0 hDl
      refine hd acc ha Dl hD0 E hE hN B2 H _ (At.setS ⟨k2, s.le (sameLe f2.ex), a1.fut.trans fB fun b hb => ?_, fun b hb => ?_, fun m hm => (a1.mks m hm).trans f2.ex⟩ (.cell Dl))
      · rcases List.mem_cons.mp hb with e | hb
        · rw [e]; exact .inr hD0
        · exact a1.new b hb
      · rcases List.mem_cons.mp hb with e | hb
        · rw [e]; exact .inr hD0
        · exact a1.new b hb
end
theorem call_dictTK {X : Cx} {K : PySem.W.Frag} (h : X.K = K) (hc : X.calm = true) (hu : X.A.units + 64 < cLine) : CallR X (.type "dict") (rDictT K) := by subst h; exact call_dictT hc hu
end PF
end
section
set_option Elab.async false
set_option linter.all false
set_option maxRecDepth 100000
set_option maxHeartbeats 2000000
namespace PF
open PySem PySem.Spec L2 RZ
local macro_rules | `(tactic| walk_at "pf1") => `(tactic| first
  | ((with_reducible refine' w_var ?pfh ?_); (case pfh => rfl))
  | with_reducible refine w_int ?_
  | with_reducible refine w_ty ?_
  | with_reducible refine w_op ?_
  | with_reducible refine w_listVals ?_ ?_
  | with_reducible refine w_cb ?_
  | with_reducible refine w_call ?_
  | with_reducible refine a_cons ?_
  | with_reducible refine a_nil ?_
  | with_reducible refine o_sub ?_
  | with_reducible refine o_plusI ?_
  | ((with_reducible refine' o_ixTu ?pfh ?_); (case pfh => rfl))
  | ((with_reducible refine' o_ixLi ?pfh ?_); (case pfh => rfl))
  | ((with_reducible refine' o_ixKe ?pfh ?_); (case pfh => rfl))
  | with_reducible refine w_bl ?_
  | with_reducible refine w_non ?_
  | with_reducible refine w_str ?_
  | with_reducible refine w_un ?_
  | with_reducible refine w_fld ?_
  | with_reducible refine w_meth ?_
  | with_reducible refine t_test ?_
  | with_reducible refine t_B ?_
  | with_reducible refine t_and ?_
  | with_reducible refine t_or ?_
  | with_reducible refine t_not ?_
  | with_reducible refine w_andV ?_
  | with_reducible refine w_orV ?_
  | with_reducible refine w_notV ?_
  | with_reducible refine w_if ?_
  | with_reducible refine w_chain ?_
  | with_reducible refine o_lt ?_
  | with_reducible refine o_gt ?_
  | with_reducible refine o_le ?_
  | with_reducible refine o_ge ?_
  | with_reducible refine o_equI ?_
  | with_reducible refine o_neqI ?_
  | with_reducible refine o_neg ?_
  | with_reducible refine c_abs ?_
  | with_reducible refine c_int ?_
  | with_reducible refine g_asgX ?_
  | with_reducible refine g_asg ?_
  | with_reducible refine g_drop ?_
  | with_reducible refine g_if ?_
  | with_reducible refine g_next ?_
  | with_reducible refine g_assoc ?_
  | with_reducible refine g_retS ?_
  | with_reducible refine exbl ?_
  | with_reducible refine tT ?_
  | with_reducible refine tF ?_
  | with_reducible refine tNT ?_
  | with_reducible refine tNF ?_
  | ((with_reducible refine' ifpB ?pfh ?_); (case pfh => rfl))
  | ((with_reducible refine' ifnB ?pfh ?_); (case pfh => rfl)))
local macro_rules | `(tactic| walk_at "fl") => `(tactic| first
  | refine ⟨_, _, _, rfl, Tp.cl_Plank ‹_›, Tp.n_long ‹_›, rfl, ?_⟩
  | refine ⟨_, _, _, rfl, Tp.cl_Plank ‹_›, Tp.n_stakes ‹_›, rfl, ?_⟩
  | refine ⟨_, _, _, rfl, Tp.cl_Plank ‹_›, Tp.n_limit ‹_›, rfl, ?_⟩
  | refine ⟨_, _, _, rfl, Tp.cl_Loads ‹_›, Tp.n_plank ‹_›, rfl, ?_⟩
  | refine ⟨_, _, _, rfl, Tp.cl_Loads ‹_›, Tp.n_weights ‹_›, rfl, ?_⟩
  | refine ⟨_, _, _, rfl, Tp.cl_Loads ‹_›, Tp.n_known ‹_›, rfl, ?_⟩
  | refine ⟨_, _, _, rfl, Tp.cl_Loads ‹_›, Tp.n_over ‹_›, rfl, ?_⟩)
local macro_rules | `(tactic| walk_at "pf") => `(tactic| repeat (walk_at "pf1"))

def pStays : PT_ := fun Γ ds R => ∃ (w : Wd) (fin : List Int) (m q : Rat), ds = [.dK (wdF w), .dT (kD w.n fun k => fr (spk w k)), .tup (fin.map .int), fr m, fr q] ∧ w.Ok ∧ Γ.z = [] ∧ Sz 710 m ∧ 0 ≤ m ∧ Sz 2200 q ∧ Fin_ w (allL w.n) fin ∧ ∀ b : Bool, (b = true ↔ FS (FF w q m) w.n fin) → R (.bl b)
theorem spk_sz {w : Wd} (ok : w.Ok) {k : List Int} (h : k ∈ keysL w.n w.n) : Sz 342 (spk w k) := by
  obtain ⟨a, b, c, rfl, t1, t2, t3, t4⟩ := mem_keysL.mp h
  have hs : Sz 180 (w.str b) := by
    obtain ⟨i, hi⟩ : ∃ i : Nat, b = (i : Int) := ⟨b.toNat, by omega⟩
    obtain ⟨p, hp, hm⟩ := ps_at (w := w) (i := i) (by omega)
    rw [hi, str_in hp]
    exact (ok.hp p hm).2.2.1
  exact (hs.sub (ok.ld_sz t1 t2 t3 t4).2).mono (by decide)
theorem shK_sz {w : Wd} (ok : w.Ok) {k : List Int} (h : k ∈ keysL w.n w.n) {n : Nat} {q : Rat} (hq : Sz n q) : Sz (n + 17) (shK w q k) := by
  obtain ⟨a, b, c, rfl, t1, t2, t3, t4⟩ := mem_keysL.mp h
  exact ok.sh_sz t1 t2 t3 t4 hq
abbrev N_law_stays : List Str := ["_law_world_here", "_law_spares_here", "_law_stood", "_law_much", "_law_spot", "_law_shares", "_law_key"]
theorem sc_law_stays : FnScope N_law_stays ["_law_world_here", "_law_spares_here", "_law_stood", "_law_much", "_law_spot"] (defScope s_law_stays) := ⟨rfl, rfl, rfl, by decide +kernel, rfl, by decide +kernel, by decide +kernel⟩
theorem ok_law_stays {P : Program} {w : World} {K : PySem.W.Frag} {mg : Str → Option Value} {base : Heap} {aN aO CP CL : Addr} (T : Tp K mg aN aO CP CL)  (F_law_left : Fk P w K mg base "_law_left" ["_law_many", "_law_spares_here", "_law_shares", "_law_much"] 3 (SpG K (pLeft))) (F_law_share : Fk P w K mg base "_law_share" ["_law_world_here", "_law_key", "_law_spot"] 2 (SpG K (pLShare))) {f : Addr} {fd : FuncData} (F : FunD K "_law_stays" "_law_stays" (defArgs s_law_stays) (defBody s_law_stays) (defScope s_law_stays) [] [] f fd) : FnOk P w K mg base CX0 4 f fd ["_law_world_here", "_law_spares_here", "_law_stood", "_law_much", "_law_spot"] (SpG K (pStays)) := by
  refine okG F sc_law_stays (by intro Γ ds R h; repeat' (first | (obtain ⟨e, _⟩ := h; subst e; rfl) | (obtain ⟨_, h⟩ := h))) (fun cdv A outer s H E hr => ?_)
  refine ⟨_, (pss_cons (ps_set (i := 5) sc_law_stays.nd rfl (by first | exact Or.inl rfl | exact Or.inr rfl) (pe_callTy (call_dictTK (K := K) rfl rfl hr.units) (by rfl) T.b_dict bt_dict (pa_cons (pe_lock (pe_lc (own := [("_law_key", 6)]) rfl sc_law_stays.nd (pi_keys (pv 1)) (blkOk_by (own := [("_law_key", 6)]) (N := N_law_stays) (sc := defScope s_law_stays) (by decide +kernel)) (fun _ _ _ _ _ => (pg_name (i := 6) sc_law_stays.nd rfl (by first | exact Or.inl rfl | exact Or.inr rfl))) (fun _ _ _ _ _ => pts_nil) (fun _ _ _ _ _ => (pe_tup (pa_cons (pv 6) (pa_cons (pe_F F_law_share (hr.mono (by decide)) rfl (pa_cons (pv 0) (pa_cons (pv 6) (pa_cons (pv 4) pa_nil)))) pa_nil)))))) pa_nil)))
      (pss_one (ps_ret (pe_cmpR (op_equK (K := K) rfl hr.units) (pe_F F_law_left (hr.mono (by decide)) rfl (pa_cons (pe_callB (call_len_seqK (K := K) rfl) (by rfl) T.b_len bt_len (pa_cons (pe_dget (hu_of hr) (pv 0) pe_str (fun _ _ => rfl)) pa_nil)) (pa_cons (pv 1) (pa_cons (pv 5) (pa_cons (pv 3) pa_nil))))) (pv 2) (nomark _))))), ?_⟩
  try dsimp only [cxOf, Cx.nox, Cx.wish]
  rintro S ds ⟨w, fin, m, q, rfl, ok, hz, hm, hm0, hq, hf, hR⟩
  show Goes S [] (nEnd S) _ [some (.dK (wdF w)), some (.dT (kD w.n fun k => fr (spk w k))), some (.tup (fin.map .int)), some (fr m), some (fr q), none, none] S.C0
  have hn := ok.hn
  refine g_asg (w_dictT (a_cons ?_))
  refine w_lcKeysT (i := 1) rfl (kD_keys _ _) hz (by have := keysL_len hn hn; omega) (fun j acc => acc = ((keysL w.n w.n).take j).map fun k => .tup [.key k, fr (shK w q k)]) rfl ?_ ?_
  · rintro a j k acc hk rfl
    obtain ⟨x, y, z, rfl, t1, t2, t3, t4⟩ := mem_keysL.mp (List.mem_of_getElem? hk)
    refine gw_name (by simp) (t_yes (tT ?_))
    refine w_tup ?_
    walk_at "pf"
    refine ⟨w, _, x, y, z, q, rfl, world_is _ w, ok, ⟨t1, t2, t3, t4⟩, hq, ?_⟩
    walk_at "pf"
    refine ⟨by simp, ?_⟩
    exact map_snoc (f := fun k => D.tup [.key k, fr (shK w q k)]) hk
  · rintro acc rfl
    rw [List.take_length]
    walk_at "pf"
    refine ⟨(keysL w.n w.n).map fun k => (k, fr (shK w q k)), by rw [List.map_map]; rfl, ?_, ?_⟩
    · have : ((keysL w.n w.n).map fun k => (k, fr (shK w q k))).map (·.1) = keysL w.n w.n := by rw [List.map_map]; exact List.map_id _
      rw [this]
      exact keysL_nodup hn
    have e1 : (((keysL w.n w.n).map fun k => (k, fr (shK w q k))).map fun kv => (ik kv.1, kv.2)) = kD w.n fun k => fr (shK w q k) := by rw [List.map_map]; rfl
    rw [e1]
    walk_at "pf"
    refine g_ret ?_ Cov.refl
    walk_at "pf"
    refine w_dgetS ?_
    walk_at "pf"
    refine ⟨_, _, _, .inl rfl, rfl, rfl, ?_⟩
    walk_at "pf"
    refine c_len (.inl rfl) ?_
    walk_at "pf"
    rw [n_len]
    refine ⟨w, spk w, shK w q, m, rfl, hn, hz, hm.sm (by decide), fun k hk => ⟨(spk_sz ok hk).sm (by decide), (shK_sz ok hk hq).sm (by decide), (hm.mul (shK_sz ok hk hq)).sm (by decide)⟩, fun u hu => ?_⟩
    walk_at "pf"
    refine o_equD (n := 1) (m := 1) (.tup fun d hd => by obtain ⟨n, _, rfl⟩ := List.mem_map.mp hd; exact .int n) (.tup fun d hd => by obtain ⟨n, _, rfl⟩ := List.mem_map.mp hd; exact .int n) (by decide) (by decide) fun b hb => hR b ?_
    rw [hb, ← ok.stays_iff hm0 hf hu, D.tup.injEq]
    exact List.map_inj_right (fun x y e => D.int.inj e)
theorem dg_at {l : List Int} {k n : Nat} (h : k < n) (hl : l.length = n) : ∃ x, l[k]? = some x := ⟨l[k]'(by omega), List.getElem?_eq_getElem _⟩
theorem dgI {l : List Int} {k : Nat} {x : Int} (h : l[k]? = some x) : atI (l.map D.int) (k : Int) = some (.int x) := atI_nat (by rw [List.getElem?_map, h]; rfl)
def pPlaces : PT_ := fun Γ ds R => ∃ (w : Wd) (lot : List Int) (m : Rat) (l : List Int) (p : Addr), ds = [.lst (l.map .int), .dK (wdF w), .cell p] ∧ w.Ok ∧ Lot w lot ∧ lot.length ≤ 5 ∧ Sz 700 m ∧ 0 < m ∧ 3 ≤ l.length ∧ (p, Cel.lst (stTo w lot m (lot.length + 1))) ∈ Γ.c ∧ ∀ qs : List Rat, (∀ q ∈ qs, 0 ≤ q ∧ q ≤ (w.L : Rat) ∧ Sz 2200 q) → R (.lst (qs.map fr))
abbrev N_law_places : List Str := ["_law_digits_here", "_law_world_here", "_law_told", "_law_found", "_law_k", "_law_left_here", "_law_right_here", "_law_low", "_law_high", "_law_spot"]
theorem sc_law_places : FnScope N_law_places ["_law_digits_here", "_law_world_here", "_law_told"] (defScope s_law_places) := ⟨rfl, rfl, rfl, by decide +kernel, rfl, by decide +kernel, by decide +kernel⟩
theorem ok_law_places {P : Program} {w : World} {K : PySem.W.Frag} {mg : Str → Option Value} {base : Heap} {aN aO CP CL : Addr} (T : Tp K mg aN aO CP CL)  (F_law_amid : Fk P w K mg base "_law_amid" ["_law_one", "_law_other"] 3 (SpG K (pAmid))) (F_law_cut : Fk P w K mg base "_law_cut" ["_law_top", "_law_bottom"] 1 (SpG K (pCut))) (F_law_is_below : Fk P w K mg base "_law_is_below" ["_law_one", "_law_other"] 1 (SpG K (pBelow))) (F_law_minus : Fk P w K mg base "_law_minus" ["_law_one", "_law_other"] 2 (SpG K (pLess))) (F_law_plus : Fk P w K mg base "_law_plus" ["_law_one", "_law_other"] 2 (SpG K (pPlus))) {f : Addr} {fd : FuncData} (F : FunD K "_law_places" "_law_places" (defArgs s_law_places) (defBody s_law_places) (defScope s_law_places) [] [] f fd) : FnOk P w K mg base CX0 4 f fd ["_law_digits_here", "_law_world_here", "_law_told"] (SpG K (pPlaces)) := by
  refine okG F sc_law_places (by intro Γ ds R h; repeat' (first | (obtain ⟨e, _⟩ := h; subst e; rfl) | (obtain ⟨_, h⟩ := h))) (fun cdv A outer s H E hr => ?_)
  refine ⟨_, (pss_cons (ps_setLc (i := 3) (own := [("_law_k", 4)]) rfl sc_law_places.nd rfl rfl (sw_true rfl rfl rfl (by decide +kernel)) (pi_range1 rfl T.b_range (pa_cons pe_int pa_nil)) (blkOk_by (own := [("_law_k", 4)]) (N := N_law_places) (sc := defScope s_law_places) (by decide +kernel)) (fun _ _ _ _ _ => (pg_name (i := 4) sc_law_places.nd rfl (by first | exact Or.inl rfl | exact Or.inr rfl))) (fun _ _ _ _ _ => pts_nil) (fun _ _ _ _ _ => (pe_F F_law_cut (hr.mono (by decide)) rfl (pa_cons (pe_op op_mod (pe_callTy call_int1 (by rfl) T.b_int bt_int (pa_cons (pe_ix (ix_seqK (K := K) rfl) (pv 0) (pv 4) (fun _ _ => rfl)) pa_nil)) (pe_op (op_plusK (K := K) rfl) (pe_op op_mulW pe_int (pe_dget (hu_of hr) (pv 1) pe_str (fun _ _ => rfl))) pe_int)) (pa_cons pe_int pa_nil)))))
      (pss_cons (ps_for PassesOwn.never rfl (pi_listK (K := K) rfl (pv 2)) (pg_tupK (K := K) (n := 4) rfl rfl (pgs_cons (pg_name (i := 5) sc_law_places.nd rfl (by first | exact Or.inl rfl | exact Or.inr rfl)) (pgs_cons (pg_name (i := 6) sc_law_places.nd rfl (by first | exact Or.inl rfl | exact Or.inr rfl)) (pgs_cons (pg_name (i := 7) sc_law_places.nd rfl (by first | exact Or.inl rfl | exact Or.inr rfl)) (pgs_cons (pg_name (i := 8) sc_law_places.nd rfl (by first | exact Or.inl rfl | exact Or.inr rfl)) pgs_nil))))) 
          (pss_one (ps_if (pt_cmpR op_notN (pv 7) pe_non (nomark _)) 
              (pss_cons (ps_expr (pe_bm PySem.F.plainAttrs_list PySem.F.slot_list_extend PySem.F.type_list_extend mt_extend (pv 3) (pa_cons (pe_lst (pa_cons (pv 7) (pa_cons (pv 8) (pa_cons (pe_F F_law_amid (hr.mono (by decide)) rfl (pa_cons (pv 7) (pa_cons (pv 8) pa_nil))) pa_nil)))) pa_nil)))
              (pss_one (ps_expr (pe_bm PySem.F.plainAttrs_list PySem.F.slot_list_extend PySem.F.type_list_extend mt_extend (pv 3) (pa_cons (pe_lst (pa_cons (pe_F F_law_minus (hr.mono (by decide)) rfl (pa_cons (pv 7) (pa_cons (pe_tup (pa_cons pe_int (pa_cons pe_int pa_nil))) pa_nil))) (pa_cons (pe_F F_law_plus (hr.mono (by decide)) rfl (pa_cons (pv 8) (pa_cons (pe_tup (pa_cons pe_int (pa_cons pe_int pa_nil))) pa_nil))) pa_nil))) pa_nil))))) pss_nil)))
      (pss_one (ps_ret (pe_lc (own := [("_law_spot", 9)]) rfl sc_law_places.nd (pi_listK (K := K) rfl (pv 3)) (blkOk_by (own := [("_law_spot", 9)]) (N := N_law_places) (sc := defScope s_law_places) (by decide +kernel)) (fun _ _ _ _ _ => (pg_name (i := 9) sc_law_places.nd rfl (by first | exact Or.inl rfl | exact Or.inr rfl))) (fun _ _ _ _ _ => (pts_one (PW.pt (pw_and (pt_cmpR op_ge (pe_ix (ix_seqK (K := K) rfl) (pv 9) pe_int (fun _ _ => rfl)) pe_int (nomark _)) (pw_and1 (pt_not (pt_val (pe_F F_law_is_below (hr.mono (by decide)) rfl (pa_cons (pe_tup (pa_cons (pe_dget (hu_of hr) (pv 1) pe_str (fun _ _ => rfl)) (pa_cons pe_int pa_nil))) (pa_cons (pv 9) pa_nil))) (by intro _; rfl)))))))) (fun _ _ _ _ _ => (pv 9))))))), ?_⟩
  try dsimp only [cxOf, Cx.nox, Cx.wish]
  rintro S ds ⟨w, lot, m, l, p, rfl, ok, hl, hlen, hm, hm0, h3, hp, hR⟩
  show Goes S [] (nEnd S) _ [some (.lst (l.map .int)), some (.dK (wdF w)), some (.cell p), none, none, none, none, none, none, none] S.C0
  have hn := ok.hn
  have hL := ok.hL
  refine g_lcCell (i_rng1 ?_)
  walk_at "pf"
  refine ⟨3, rfl, by decide, by decide, by decide, fun k acc => ∃ qs : List Rat, acc = qs.map fr ∧ qs.length = k ∧ ∀ q ∈ qs, Sz 2200 q, ⟨[], rfl, rfl, fun _ h => nomatch h⟩, ?_, ?_⟩
  · rintro k d acc hd ⟨qs, rfl, hql, hqs⟩
    obtain ⟨hk, rfl⟩ := rangeD_get hd
    have hk' : k < 3 := hk
    obtain ⟨x, hx⟩ : ∃ x, l[k]? = some x := ⟨l[k]'(by omega), List.getElem?_eq_getElem _⟩
    refine gw_name (by simp) (t_yes (tT ?_))
    rw [Int.zero_add]
    walk_at "pf"
    refine o_ixLi (dgI hx) ?_
    walk_at "pf"
    refine w_dgetS ?_
    walk_at "pf"
    refine ⟨_, _, _, .inl rfl, rfl, rfl, ?_⟩
    refine o_mulW (mulS (by decide) (n64 (by omega) (by omega))) ?_
    walk_at "pf"
    refine o_mod (by omega) ?_
    walk_at "pf"
    have b0 := Int.emod_nonneg x (b := 5 * w.L + 1) (by omega)
    have b1 := Int.emod_lt_of_pos x (b := 5 * w.L + 1) (by omega)
    generalize x % (5 * w.L + 1) = y at b0 b1 ⊢
    have e10 : (2 : Nat) ^ 10 = 1024 := by decide
    have y10 : y.natAbs < 2 ^ 10 := by omega
    refine ⟨y, 5, rfl, by decide, Nat.lt_of_lt_of_le y10 (Nat.pow_le_pow_right (by decide) (by decide)), Nat.lt_of_lt_of_le (show 5 < 2 ^ 3 by decide) (Nat.pow_le_pow_right (by decide) (by decide)), qs ++ [mkRat y 5], ?_, by rw [List.length_append, hql]; rfl, fun q hq => ?_⟩
    · rw [List.map_append]; rfl
    · rcases List.mem_append.mp hq with hq | hq
      · exact hqs q hq
      · rw [List.mem_singleton.mp hq]
        exact Sz.mk (a := 10) (b := 3) (by decide) y10 (by decide) (by decide) (by decide)
  rintro acc ⟨qs0, rfl, hq0, hqs0⟩ f hf0
  rw [rangeD_len] at hq0
  refine g_forC (i := 2) (p := p) (ds := stTo w lot m (lot.length + 1)) rfl (List.mem_cons_of_mem _ hp) (fun i ρ Γ => ∃ (qs : List Rat) (y4 y5 y6 y7 y8 y9 : Option D), ρ = [some (.lst (l.map .int)), some (.dK (wdF w)), some (.cell p), some (.cell f), y4, y5, y6, y7, y8, y9] ∧ Γ = ⟨(f, .lst (qs.map fr)) :: S.C0.c, S.C0.z⟩ ∧ qs.length ≤ 3 + 5 * i ∧ ∀ q ∈ qs, Sz 2200 q) ⟨qs0, _, _, _, _, _, _, rfl, rfl, by rw [hq0]; decide, hqs0⟩ (fun j ρ' Γ' h => by obtain ⟨qs, _, _, _, _, _, _, _, rfl, _⟩ := h; exact List.mem_cons_of_mem _ hp) ?_ ?_
  · rintro j d ρ Γ mk' hd ⟨qs, y4, y5, y6, y7, y8, y9, rfl, rfl, hql, hqs⟩
    have hj : j < lot.length + 1 := by
      have := (List.getElem?_eq_some_iff.mp hd).1
      unfold stTo at this
      rw [List.length_map, List.length_range] at this
      exact this
    have ed : d = stD w lot m j := by
      unfold stTo at hd
      rw [List.getElem?_map, List.getElem?_range hj] at hd
      exact (Option.some.inj hd).symm
    subst ed
    by_cases hlt : enQ w lot m j < bgQ w lot m j
    · have e2 : stD w lot m j = D.tup [.int (RR w.n lot j), .int (RR w.n lot (j + 1)), .non, .non] := by unfold stD; rw [if_pos hlt]
      rw [e2]
      refine gw_tup rfl (gws_cons (gw_name trivial (gws_cons (gw_name trivial (gws_cons (gw_name trivial (gws_cons (gw_name trivial (gws_nil ?_)))))))))
      refine g_one ?_
      walk_at "pf"
      refine o_notN ?_
      walk_at "pf"
      exact g_done ⟨qs, _, _, _, _, _, _, rfl, rfl, by omega, hqs⟩
    · have e2 : stD w lot m j = D.tup [.int (RR w.n lot j), .int (RR w.n lot (j + 1)), fr (bgQ w lot m j), fr (enQ w lot m j)] := by unfold stD; rw [if_neg hlt]
      rw [e2]
      have sb := ok.bg_sz hl hj hm hm0
      have se := ok.en_sz hl hj hm hm0
      refine gw_tup rfl (gws_cons (gw_name trivial (gws_cons (gw_name trivial (gws_cons (gw_name trivial (gws_cons (gw_name trivial (gws_nil ?_)))))))))
      refine g_one ?_
      walk_at "pf"
      refine o_notN ?_
      refine exbl ?_
      refine ifpB rfl ?_
      refine g_assoc ?_
      refine g_ext rfl ?_
      refine w_lst ?_
      walk_at "pf"
      refine ⟨_, _, rfl, sb.mono (by decide), se.mono (by decide), ?_⟩
      walk_at "pf"
      refine ⟨by simp, _, rfl, by rw [List.length_map]; simp; omega, ?_⟩
      refine g_one ?_
      refine g_ext rfl ?_
      refine w_lst ?_
      walk_at "pf"
      refine w_tup ?_
      walk_at "pf"
      refine ⟨by simp, ?_⟩
      walk_at "pf"
      have s97 : Sz 7 (mkRat 1 97) := Sz.mk (a := 1) (b := 7) (by decide) (by decide) (by decide) (by decide) (by decide)
      have s89 : Sz 7 (mkRat 1 89) := Sz.mk (a := 1) (b := 7) (by decide) (by decide) (by decide) (by decide) (by decide)
      refine ⟨_, mkRat 1 97, rfl, sb.sm (by decide), s97.sm (by decide), ?_⟩
      walk_at "pf"
      refine w_tup ?_
      walk_at "pf"
      refine ⟨by simp, ?_⟩
      walk_at "pf"
      refine ⟨_, mkRat 1 89, rfl, se.sm (by decide), s89.sm (by decide), ?_⟩
      walk_at "pf"
      refine ⟨by simp, _, rfl, by simp; omega, ?_⟩
      refine g_done ⟨qs ++ [bgQ w lot m j, enQ w lot m j, (bgQ w lot m j + enQ w lot m j) / 2] ++ [bgQ w lot m j - mkRat 1 97, enQ w lot m j + mkRat 1 89], _, _, _, _, _, _, rfl, ?_, by simp; omega, fun q hq => ?_⟩
      · rw [List.map_append, List.map_append]; rfl
      · simp only [List.mem_append, List.mem_cons, List.not_mem_nil, or_false] at hq
        rcases hq with (hq | rfl | rfl | rfl) | rfl | rfl
        · exact hqs q hq
        · exact sb.mono (by decide)
        · exact se.mono (by decide)
        · exact ((sb.add se).div (show Sz 3 2 from ⟨by decide, by decide⟩) (by decide)).mono (by decide)
        · exact (sb.sub s97).mono (by decide)
        · exact (se.add s89).mono (by decide)
  · rintro ρ Γ ⟨qs, y4, y5, y6, y7, y8, y9, rfl, rfl, hql, hqs⟩
    have hsl : (stTo w lot m (lot.length + 1)).length = lot.length + 1 := by unfold stTo; rw [List.length_map, List.length_range]
    rw [hsl] at hql
    refine g_offL (i := 3) hf0 rfl ?_
    refine g_ret ?_ Cov.refl
    refine w_lc (i_list ?_)
    walk_at "pf"
    refine ⟨_, rfl, by rw [List.length_map]; omega, fun i acc => acc = ((qs.take i).filter fun q => decide (0 ≤ q.num) && !decide ((w.L : Rat) < q)).map fr, rfl, ?_, ?_⟩
    · rintro i d acc hd rfl
      obtain ⟨q, hq, rfl⟩ := map_get hd
      have hsq := hqs q (List.mem_of_getElem? hq)
      refine gw_name (by simp) ?_
      walk_at "pf"
      refine o_ixTu (ds := [.int q.num, .int (q.den : Int)]) (d := .int q.num) rfl ?_
      walk_at "pf"
      by_cases c1 : 0 ≤ q.num
      · refine ifpB (decide_eq_true c1) ?_
        walk_at "pf"
        refine w_tup ?_
        walk_at "pf"
        refine w_dgetS ?_
        walk_at "pf"
        refine ⟨_, _, _, .inl rfl, rfl, rfl, ?_⟩
        walk_at "pf"
        refine ⟨by simp, ?_⟩
        walk_at "pf"
        refine ⟨(w.L : Rat), q, rfl, ok.L_sz.sm (by decide), hsq.sm (by decide), ?_⟩
        refine ⟨_, rfl, ?_⟩
        by_cases c2 : (w.L : Rat) < q
        · rw [decide_eq_true c2]
          refine ifnB rfl ?_
          show _ = _
          rw [filter_take hq, if_neg (by simp [c1, c2]), List.append_nil]
        · rw [decide_eq_false c2]
          refine ifpB rfl ?_
          walk_at "pf"
          show _ ++ _ = _
          rw [filter_take hq, if_pos (by simp [c1, c2]), List.map_append]
          rfl
      · refine ifnB (decide_eq_false c1) ?_
        refine ifnB rfl ?_
        show _ = _
        rw [filter_take hq, if_neg (by simp [c1]), List.append_nil]
    · rintro acc rfl
      rw [List.length_map, List.take_length]
      refine hR _ fun q hq => ?_
      obtain ⟨h1, h2⟩ := List.mem_filter.mp hq
      rw [Bool.and_eq_true, decide_eq_true_eq] at h2
      have h4 : ¬ (w.L : Rat) < q := by simpa using h2.2
      refine ⟨?_, Rat.not_lt.mp h4, hqs q h1⟩
      have := h2.1
      exact Rat.num_nonneg.mp this
end PF
end
section
set_option Elab.async false
set_option linter.all false
set_option maxRecDepth 100000
set_option maxHeartbeats 2000000
namespace PF
open PySem PySem.Spec L2 RZ
local macro_rules | `(tactic| walk_at "pf1") => `(tactic| first
  | ((with_reducible refine' w_var ?pfh ?_); (case pfh => rfl))
  | with_reducible refine w_int ?_
  | with_reducible refine w_ty ?_
  | with_reducible refine w_op ?_
  | with_reducible refine w_listVals ?_ ?_
  | with_reducible refine w_cb ?_
  | with_reducible refine w_call ?_
  | with_reducible refine a_cons ?_
  | with_reducible refine a_nil ?_
  | with_reducible refine o_sub ?_
  | with_reducible refine o_plusI ?_
  | ((with_reducible refine' o_ixTu ?pfh ?_); (case pfh => rfl))
  | ((with_reducible refine' o_ixLi ?pfh ?_); (case pfh => rfl))
  | ((with_reducible refine' o_ixKe ?pfh ?_); (case pfh => rfl))
  | with_reducible refine w_bl ?_
  | with_reducible refine w_non ?_
  | with_reducible refine w_str ?_
  | with_reducible refine w_un ?_
  | with_reducible refine w_fld ?_
  | with_reducible refine w_meth ?_
  | with_reducible refine t_test ?_
  | with_reducible refine t_B ?_
  | with_reducible refine t_and ?_
  | with_reducible refine t_or ?_
  | with_reducible refine t_not ?_
  | with_reducible refine w_andV ?_
  | with_reducible refine w_orV ?_
  | with_reducible refine w_notV ?_
  | with_reducible refine w_if ?_
  | with_reducible refine w_chain ?_
  | with_reducible refine o_lt ?_
  | with_reducible refine o_gt ?_
  | with_reducible refine o_le ?_
  | with_reducible refine o_ge ?_
  | with_reducible refine o_equI ?_
  | with_reducible refine o_neqI ?_
  | with_reducible refine o_neg ?_
  | with_reducible refine c_abs ?_
  | with_reducible refine c_int ?_
  | with_reducible refine g_asgX ?_
  | with_reducible refine g_asg ?_
  | with_reducible refine g_drop ?_
  | with_reducible refine g_if ?_
  | with_reducible refine g_next ?_
  | with_reducible refine g_assoc ?_
  | with_reducible refine g_retS ?_
  | with_reducible refine exbl ?_
  | with_reducible refine tT ?_
  | with_reducible refine tF ?_
  | with_reducible refine tNT ?_
  | with_reducible refine tNF ?_
  | ((with_reducible refine' ifpB ?pfh ?_); (case pfh => rfl))
  | ((with_reducible refine' ifnB ?pfh ?_); (case pfh => rfl)))
local macro_rules | `(tactic| walk_at "fl") => `(tactic| first
  | refine ⟨_, _, _, rfl, Tp.cl_Plank ‹_›, Tp.n_long ‹_›, rfl, ?_⟩
  | refine ⟨_, _, _, rfl, Tp.cl_Plank ‹_›, Tp.n_stakes ‹_›, rfl, ?_⟩
  | refine ⟨_, _, _, rfl, Tp.cl_Plank ‹_›, Tp.n_limit ‹_›, rfl, ?_⟩
  | refine ⟨_, _, _, rfl, Tp.cl_Loads ‹_›, Tp.n_plank ‹_›, rfl, ?_⟩
  | refine ⟨_, _, _, rfl, Tp.cl_Loads ‹_›, Tp.n_weights ‹_›, rfl, ?_⟩
  | refine ⟨_, _, _, rfl, Tp.cl_Loads ‹_›, Tp.n_known ‹_›, rfl, ?_⟩
  | refine ⟨_, _, _, rfl, Tp.cl_Loads ‹_›, Tp.n_over ‹_›, rfl, ?_⟩)
local macro_rules | `(tactic| walk_at "pf") => `(tactic| repeat (walk_at "pf1"))

theorem wt_pl (h : Rat × Rat) : Pl 2 (wtD h) := .tup fun d hd => by
  rcases List.mem_cons.mp hd with rfl | hd
  · exact fr_pl _
  · rcases List.mem_cons.mp hd with rfl | hd
    · exact fr_pl _
    · cases hd
theorem hs_pl (hs : List (Rat × Rat)) : Pl 3 (.lst (hs.map wtD)) := .lst fun d hd => by
  obtain ⟨h, _, rfl⟩ := List.mem_map.mp hd
  exact wt_pl h
theorem st_pl (w : Wd) (lot : List Int) (m : Rat) (k : Nat) : Pl 3 (.lst (stTo w lot m k)) := .lst fun d hd => by
  obtain ⟨i, _, rfl⟩ := List.mem_map.mp hd
  unfold stD
  split
  · refine .tup fun d hd => ?_
    simp only [List.mem_cons, List.not_mem_nil, or_false] at hd
    rcases hd with rfl | rfl | rfl | rfl
    · exact .int _
    · exact .int _
    · exact .non
    · exact .non
  · refine .tup fun d hd => ?_
    simp only [List.mem_cons, List.not_mem_nil, or_false] at hd
    rcases hd with rfl | rfl | rfl | rfl
    · exact .int _
    · exact .int _
    · exact (fr_pl _)
    · exact (fr_pl _)
theorem top_pl (w : Wd) (lot : List Int) (k : Nat) : Pl 3 (.lst (topsTo w lot k)) := .lst fun d hd => by
  obtain ⟨i, _, rfl⟩ := List.mem_map.mp hd
  unfold topD
  refine .tup fun d hd => ?_
  simp only [List.mem_cons, List.not_mem_nil, or_false] at hd
  rcases hd with rfl | rfl | rfl | rfl
  · exact .int _
  · exact .int _
  · exact (fr_pl _)
  · exact (fr_pl _)
def InAt (w : Wd) (lot : List Int) (m q : Rat) (i : Nat) : Prop := ¬ enQ w lot m i < bgQ w lot m i ∧ ¬ q < bgQ w lot m i ∧ ¬ enQ w lot m i < q
def pRight (CP : Addr) : PT_ := fun Γ ds R => ∃ (w : Wd) (fin : List Int) (m : Rat) (l : List Int), ds = [.lst (l.map .int), .dK (wdF w), plD CP w, .dT (kD w.n fun k => fr (spk w k)), .tup (fin.map .int), fr m] ∧ w.Ok ∧ Γ.z = [] ∧ Sz 700 m ∧ 0 < m ∧ 3 ≤ l.length ∧ Fin_ w (allL w.n) fin ∧ R (.bl true)
abbrev N_law_right : List Str := ["_law_digits_here", "_law_world_here", "_law_plank", "_law_spares_here", "_law_stood", "_law_much", "_law_sides_here", "_law_laid", "_law_told", "_law_spot", "_law_within", "_law_left_here", "_law_right_here", "_law_low", "_law_high"]
theorem sc_law_right : FnScope N_law_right ["_law_digits_here", "_law_world_here", "_law_plank", "_law_spares_here", "_law_stood", "_law_much"] (defScope s_law_right) := ⟨rfl, rfl, rfl, by decide +kernel, rfl, by decide +kernel, by decide +kernel⟩
theorem ok_law_right {P : Program} {w : World} {K : PySem.W.Frag} {mg : Str → Option Value} {base : Heap} {aN aO CP CL : Addr} (T : Tp K mg aN aO CP CL)  (F_law_is_below : Fk P w K mg base "_law_is_below" ["_law_one", "_law_other"] 1 (SpG K (pBelow))) (F_law_places : Fk P w K mg base "_law_places" ["_law_digits_here", "_law_world_here", "_law_told"] 4 (SpG K (pPlaces))) (F_law_sides : Fk P w K mg base "_law_sides" ["_law_world_here", "_law_stood"] 4 (SpG K (pSides))) (F_law_stays : Fk P w K mg base "_law_stays" ["_law_world_here", "_law_spares_here", "_law_stood", "_law_much", "_law_spot"] 4 (SpG K (pStays))) (F_law_stretches : Fk P w K mg base "_law_stretches" ["_law_world_here", "_law_stood", "_law_sides_here", "_law_much"] 3 (SpG K (pStretch))) (F_safe : Fk P w K mg base "safe" ["plank", "weights", "weight"] 11 (SpX K (pSafe CP))) {f : Addr} {fd : FuncData} (F : FunD K "_law_right" "_law_right" (defArgs s_law_right) (defBody s_law_right) (defScope s_law_right) [] [] f fd) : FnOk P w K mg base CX0 12 f fd ["_law_digits_here", "_law_world_here", "_law_plank", "_law_spares_here", "_law_stood", "_law_much"] (SpG K (pRight CP)) := by
  refine okG F sc_law_right (by intro Γ ds R h; repeat' (first | (obtain ⟨e, _⟩ := h; subst e; rfl) | (obtain ⟨_, h⟩ := h))) (fun cdv A outer s H E hr => ?_)
  refine ⟨_, (pss_cons (ps_set (i := 6) sc_law_right.nd rfl (by first | exact Or.inl rfl | exact Or.inr rfl) (pe_F F_law_sides (hr.mono (by decide)) rfl (pa_cons (pv 1) (pa_cons (pv 4) pa_nil))))
      (pss_cons (ps_set (i := 7) sc_law_right.nd rfl (by first | exact Or.inl rfl | exact Or.inr rfl) (pe_callTy (call_list_ofK (K := K) rfl) (by rfl) T.b_list bt_list (pa_cons (pe_dget (hu_of hr) (pv 1) pe_str (fun _ _ => rfl)) pa_nil)))
      (pss_cons (ps_set (i := 8) sc_law_right.nd rfl (by first | exact Or.inl rfl | exact Or.inr rfl) (pe_F F_safe (hr.mono (by decide)) rfl (pa_cons (pv 2) (pa_cons (pv 7) (pa_cons (pv 5) pa_nil)))))
      (pss_cons (ps_if (pt_cmpR (op_neqK (K := K) rfl hr.units) (pv 7) (pe_callTy (call_list_ofK (K := K) rfl) (by rfl) T.b_list bt_list (pa_cons (pe_dget (hu_of hr) (pv 1) pe_str (fun _ _ => rfl)) pa_nil)) (nomark _)) 
          (pss_one (ps_ret pe_bl)) pss_nil)
      (pss_cons (ps_if (PW.pt (pw_or (pt_cmpR (op_neqK (K := K) rfl hr.units) (pv 8) (pe_F F_law_stretches (hr.mono (by decide)) rfl (pa_cons (pv 1) (pa_cons (pv 4) (pa_cons (pv 6) (pa_cons (pv 5) pa_nil))))) (nomark _)) (pw_or1 (pt_not (pt_val (pe_callB (call_isiK' (K := K) rfl) (by rfl) T.b_isinstance bt_isinstance (pa_cons (pv 8) (pa_cons (pe_bltn (v := .ty "list") rfl T.b_list bt_list rfl) pa_nil))) (by intro _; rfl)))))) 
          (pss_one (ps_ret pe_bl)) pss_nil)
      (pss_cons (ps_for PassesOwn.never rfl (pi_listK (K := K) rfl (pe_slice (sl_seqK (K := K) rfl) (pe_F F_law_places (hr.mono (by decide)) rfl (pa_cons (pv 0) (pa_cons (pv 1) (pa_cons (pv 8) pa_nil)))) po_none (po_some pe_int))) (pg_name (i := 9) sc_law_right.nd rfl (by first | exact Or.inl rfl | exact Or.inr rfl)) 
          (pss_cons (ps_set (i := 10) sc_law_right.nd rfl (by first | exact Or.inl rfl | exact Or.inr rfl) pe_bl)
          (pss_cons (ps_for PassesOwn.never rfl (pi_listK (K := K) rfl (pv 8)) (pg_tupK (K := K) (n := 4) rfl rfl (pgs_cons (pg_name (i := 11) sc_law_right.nd rfl (by first | exact Or.inl rfl | exact Or.inr rfl)) (pgs_cons (pg_name (i := 12) sc_law_right.nd rfl (by first | exact Or.inl rfl | exact Or.inr rfl)) (pgs_cons (pg_name (i := 13) sc_law_right.nd rfl (by first | exact Or.inl rfl | exact Or.inr rfl)) (pgs_cons (pg_name (i := 14) sc_law_right.nd rfl (by first | exact Or.inl rfl | exact Or.inr rfl)) pgs_nil))))) 
              (pss_one (ps_if (PW.pt (pw_and (pt_cmpR op_notN (pv 13) pe_non (nomark _)) (pw_and (pt_not (pt_val (pe_F F_law_is_below (hr.mono (by decide)) rfl (pa_cons (pv 9) (pa_cons (pv 13) pa_nil))) (by intro _; rfl))) (pw_and1 (pt_not (pt_val (pe_F F_law_is_below (hr.mono (by decide)) rfl (pa_cons (pv 14) (pa_cons (pv 9) pa_nil))) (by intro _; rfl))))))) 
                  (pss_one (ps_set (i := 10) sc_law_right.nd rfl (by first | exact Or.inl rfl | exact Or.inr rfl) pe_bl)) pss_nil)))
          (pss_one (ps_if (pt_cmpR (op_neqK (K := K) rfl hr.units) (pe_F F_law_stays (hr.mono (by decide)) rfl (pa_cons (pv 1) (pa_cons (pv 3) (pa_cons (pv 4) (pa_cons (pv 5) (pa_cons (pv 9) pa_nil)))))) (pv 10) (nomark _)) 
              (pss_one (ps_ret pe_bl)) pss_nil)))))
      (pss_cons (ps_expr (pe_bm0 PySem.F.plainAttrs_list PySem.F.slot_list_clear PySem.F.type_list_clear mt_clear (pv 8)))
      (pss_one (ps_ret (pe_cmpR (op_equK (K := K) rfl hr.units) (pe_F F_safe (hr.mono (by decide)) rfl (pa_cons (pv 2) (pa_cons (pe_callTy (call_list_ofK (K := K) rfl) (by rfl) T.b_list bt_list (pa_cons (pe_dget (hu_of hr) (pv 1) pe_str (fun _ _ => rfl)) pa_nil)) (pa_cons (pv 5) pa_nil)))) (pe_F F_law_stretches (hr.mono (by decide)) rfl (pa_cons (pv 1) (pa_cons (pv 4) (pa_cons (pv 6) (pa_cons (pv 5) pa_nil))))) (nomark _))))))))))), ?_⟩
  try dsimp only [cxOf, Cx.nox, Cx.wish]
  rintro S ds ⟨w, fin, m, l, rfl, ok, hz, hm, hm0, h3, hf, hR⟩
  show Goes S [] (nEnd S) _ [some (.lst (l.map .int)), some (.dK (wdF w)), some (plD CP w), some (.dT (kD w.n fun k => fr (spk w k))), some (.tup (fin.map .int)), some (fr m), none, none, none, none, none, none, none, none, none] S.C0
  have hn := ok.hn
  have hl := hf.isLot
  have hlen := hf.len
  rw [allL_len] at hlen
  walk_at "pf"
  refine ⟨w, fin, rfl, ok, hl, by omega, ?_⟩
  walk_at "pf"
  refine w_dgetS ?_
  walk_at "pf"
  refine ⟨_, _, _, .inl rfl, rfl, rfl, ?_⟩
  walk_at "pf"
  refine c_list (.inl rfl) ?_
  walk_at "pf"
  refine ⟨w, m, rfl, ok, hm, hm0, fun fin' p hf' hnew => ?_⟩
  have ef := fin_uniq hf' hf
  subst ef
  walk_at "pf"
  refine w_dgetS ?_
  walk_at "pf"
  refine ⟨_, _, _, .inl rfl, rfl, rfl, ?_⟩
  walk_at "pf"
  refine c_list (.inl rfl) ?_
  refine o_neqD (hs_pl _) (hs_pl _) (by decide) (by decide) fun b hb => ?_
  have hbt := hb.mpr rfl
  subst hbt
  walk_at "pf"
  refine ⟨w, fin', m, rfl, ok, hl, by omega, hm, hm0, ?_⟩
  refine o_neqCD (n := 3) (m := 3) List.mem_cons_self (st_pl _ _ _ _) (st_pl _ _ _ _) (by decide) (by decide) fun b hb => ?_
  have hbt := hb.mpr rfl
  subst hbt
  walk_at "pf"
  refine c_isiC List.mem_cons_self ?_
  walk_at "pf"
  refine g_for (i_list ?_)
  walk_at "pf"
  refine w_sliceTo ?_
  walk_at "pf"
  refine ⟨w, fin', m, l, p, rfl, ok, hl, by omega, hm, hm0, h3, List.mem_cons_self, fun qs hqs => ?_⟩
  walk_at "pf"
  refine ⟨16, _, rfl, rfl, ?_⟩
  rw [← List.map_take]
  refine ⟨_, rfl, fun i ρ Γ => ∃ (y9 y10 y11 y12 y13 y14 : Option D), ρ = [some (.lst (l.map .int)), some (.dK (wdF w)), some (plD CP w), some (.dT (kD w.n fun k => fr (spk w k))), some (.tup (fin'.map .int)), some (fr m), some (.dK (spD (spK w fin'))), some (.lst (w.hs.map wtD)), some (.cell p), y9, y10, y11, y12, y13, y14] ∧ Γ = ⟨(p, .lst (stTo w fin' m (fin'.length + 1))) :: S.C0.c, S.C0.z⟩, ⟨_, _, _, _, _, _, rfl, rfl⟩, ?_, ?_⟩
  · rintro i d ρ Γ B1 hd ⟨y9, y10, y11, y12, y13, y14, rfl, rfl⟩
    obtain ⟨q, hq, rfl⟩ := map_get hd
    obtain ⟨q0, q1, sq⟩ := hqs q (List.mem_of_mem_take (List.mem_of_getElem? hq))
    refine gw_name trivial ?_
    refine g_asg (w_bl ?_)
    refine g_forC (i := 8) (p := p) (ds := stTo w fin' m (fin'.length + 1)) rfl List.mem_cons_self (fun j ρ Γ => ∃ (b : Bool) (y11 y12 y13 y14 : Option D), ρ = [some (.lst (l.map .int)), some (.dK (wdF w)), some (plD CP w), some (.dT (kD w.n fun k => fr (spk w k))), some (.tup (fin'.map .int)), some (fr m), some (.dK (spD (spK w fin'))), some (.lst (w.hs.map wtD)), some (.cell p), some (fr q), some (.bl b), y11, y12, y13, y14] ∧ Γ = ⟨(p, .lst (stTo w fin' m (fin'.length + 1))) :: S.C0.c, S.C0.z⟩ ∧ (b = true ↔ ∃ i, i < j ∧ InAt w fin' m q i)) ⟨false, _, _, _, _, rfl, rfl, by simp⟩ (fun j ρ' Γ' h => by obtain ⟨_, _, _, _, _, _, rfl, _⟩ := h; exact List.mem_cons_self) ?_ ?_
    · rintro j d ρ Γ mk' hd ⟨b, y11, y12, y13, y14, rfl, rfl, hb⟩
      have hj : j < fin'.length + 1 := by
        have := (List.getElem?_eq_some_iff.mp hd).1
        unfold stTo at this
        rw [List.length_map, List.length_range] at this
        exact this
      have ed : d = stD w fin' m j := by
        unfold stTo at hd
        rw [List.getElem?_map, List.getElem?_range hj] at hd
        exact (Option.some.inj hd).symm
      subst ed
      have nxt : ∀ b' : Bool, (b' = true ↔ (b = true ∨ InAt w fin' m q j)) → (b' = true ↔ ∃ i, i < j + 1 ∧ InAt w fin' m q i) := fun b' h => by
        rw [h, hb]
        constructor
        · rintro (⟨i, hi, a⟩ | a)
          · exact ⟨i, by omega, a⟩
          · exact ⟨j, by omega, a⟩
        · rintro ⟨i, hi, a⟩
          by_cases e : i = j
          · subst e; exact .inr a
          · exact .inl ⟨i, by omega, a⟩
      by_cases hlt : enQ w fin' m j < bgQ w fin' m j
      · have e2 : stD w fin' m j = D.tup [.int (RR w.n fin' j), .int (RR w.n fin' (j + 1)), .non, .non] := by unfold stD; rw [if_pos hlt]
        rw [e2]
        refine gw_tup rfl (gws_cons (gw_name trivial (gws_cons (gw_name trivial (gws_cons (gw_name trivial (gws_cons (gw_name trivial (gws_nil ?_)))))))))
        refine g_one ?_
        walk_at "pf"
        refine o_notN ?_
        refine exbl ?_
        refine ifnB rfl ?_
        refine ifnB rfl ?_
        exact g_next (g_done ⟨b, _, _, _, _, rfl, rfl, nxt b ⟨.inl, fun z => z.elim id fun z => absurd hlt z.1⟩⟩)
      · have e2 : stD w fin' m j = D.tup [.int (RR w.n fin' j), .int (RR w.n fin' (j + 1)), fr (bgQ w fin' m j), fr (enQ w fin' m j)] := by unfold stD; rw [if_neg hlt]
        rw [e2]
        have sb := ok.bg_sz hl hj hm hm0
        have se := ok.en_sz hl hj hm hm0
        refine gw_tup rfl (gws_cons (gw_name trivial (gws_cons (gw_name trivial (gws_cons (gw_name trivial (gws_cons (gw_name trivial (gws_nil ?_)))))))))
        refine g_one ?_
        walk_at "pf"
        refine o_notN ?_
        refine exbl ?_
        refine ifpB rfl ?_
        walk_at "pf"
        refine ⟨q, _, rfl, sq.sm (by decide), sb.sm (by decide), ?_⟩
        refine ⟨_, rfl, ?_⟩
        by_cases c1 : q < bgQ w fin' m j
        · rw [decide_eq_true c1]
          refine ifnB rfl ?_
          refine ifnB rfl ?_
          exact g_next (g_done ⟨b, _, _, _, _, rfl, rfl, nxt b ⟨.inl, fun z => z.elim id fun z => absurd c1 z.2.1⟩⟩)
        · rw [decide_eq_false c1]
          refine ifpB rfl ?_
          walk_at "pf"
          refine ⟨_, q, rfl, se.sm (by decide), sq.sm (by decide), ?_⟩
          refine ⟨_, rfl, ?_⟩
          by_cases c2 : enQ w fin' m j < q
          · rw [decide_eq_true c2]
            refine ifnB rfl ?_
            exact g_next (g_done ⟨b, _, _, _, _, rfl, rfl, nxt b ⟨.inl, fun z => z.elim id fun z => absurd c2 z.2.2⟩⟩)
          · rw [decide_eq_false c2]
            refine ifpB rfl ?_
            refine g_one (g_asg (w_bl ?_))
            exact g_done ⟨true, _, _, _, _, rfl, rfl, nxt true ⟨fun _ => .inr ⟨hlt, c1, c2⟩, fun _ => rfl⟩⟩
    · rintro ρ Γ ⟨b, y11, y12, y13, y14, rfl, rfl, hb⟩
      have hsl : (stTo w fin' m (fin'.length + 1)).length = fin'.length + 1 := by unfold stTo; rw [List.length_map, List.length_range]
      rw [hsl] at hb
      refine g_one ?_
      walk_at "pf"
      refine ⟨w, fin', m, q, rfl, ok, hz, hm.mono (by decide), Rat.le_of_lt hm0, sq, hf, fun b2 hb2 => ?_⟩
      walk_at "pf"
      have eb : b2 = b := by
        have h1 := hb2.trans (stands_iff ok hl hf.st hm0 q0 q1)
        have h2 : b2 = true ↔ b = true := h1.trans hb.symm
        cases b2 <;> cases b <;> simp_all
      subst eb
      refine o_neqB ?_
      refine exbl ?_
      refine ifnB (by simp) ?_
      exact g_next (g_done ⟨_, _, _, _, _, _, rfl, rfl⟩)
  · rintro ρ Γ ⟨y9, y10, y11, y12, y13, y14, rfl, rfl⟩
    refine g_clear rfl ?_
    refine g_ret ?_ Cov.tail
    walk_at "pf"
    refine w_callX ?_
    walk_at "pf"
    refine w_dgetS ?_
    walk_at "pf"
    refine ⟨_, _, _, .inl rfl, rfl, rfl, ?_⟩
    walk_at "pf"
    refine c_list (.inl rfl) ?_
    walk_at "pf"
    refine ⟨w, m, rfl, ok, hm, hm0, fun fin2 p2 hf2 => ⟨p2, _, rfl, rfl, ?_⟩⟩
    have ef2 := fin_uniq hf2 hf
    subst ef2
    walk_at "pf"
    refine ⟨w, fin2, m, rfl, ok, hl, by omega, hm, hm0, ?_⟩
    refine o_equD (st_pl _ _ _ _) (st_pl _ _ _ _) (by decide) (by decide) fun b hb => ?_
    rw [hb.mpr rfl]
    exact hR
end PF
end
section
set_option Elab.async false
set_option linter.all false
set_option maxRecDepth 100000
set_option maxHeartbeats 2000000
namespace PF
open PySem PySem.Spec L2 RZ
local macro_rules | `(tactic| walk_at "pf1") => `(tactic| first
  | ((with_reducible refine' w_var ?pfh ?_); (case pfh => rfl))
  | with_reducible refine w_int ?_
  | with_reducible refine w_ty ?_
  | with_reducible refine w_op ?_
  | with_reducible refine w_listVals ?_ ?_
  | with_reducible refine w_cb ?_
  | with_reducible refine w_call ?_
  | with_reducible refine a_cons ?_
  | with_reducible refine a_nil ?_
  | with_reducible refine o_sub ?_
  | with_reducible refine o_plusI ?_
  | ((with_reducible refine' o_ixTu ?pfh ?_); (case pfh => rfl))
  | ((with_reducible refine' o_ixLi ?pfh ?_); (case pfh => rfl))
  | ((with_reducible refine' o_ixKe ?pfh ?_); (case pfh => rfl))
  | with_reducible refine w_bl ?_
  | with_reducible refine w_non ?_
  | with_reducible refine w_str ?_
  | with_reducible refine w_un ?_
  | with_reducible refine w_fld ?_
  | with_reducible refine w_meth ?_
  | with_reducible refine t_test ?_
  | with_reducible refine t_B ?_
  | with_reducible refine t_and ?_
  | with_reducible refine t_or ?_
  | with_reducible refine t_not ?_
  | with_reducible refine w_andV ?_
  | with_reducible refine w_orV ?_
  | with_reducible refine w_notV ?_
  | with_reducible refine w_if ?_
  | with_reducible refine w_chain ?_
  | with_reducible refine o_lt ?_
  | with_reducible refine o_gt ?_
  | with_reducible refine o_le ?_
  | with_reducible refine o_ge ?_
  | with_reducible refine o_equI ?_
  | with_reducible refine o_neqI ?_
  | with_reducible refine o_neg ?_
  | with_reducible refine c_abs ?_
  | with_reducible refine c_int ?_
  | with_reducible refine g_asgX ?_
  | with_reducible refine g_asg ?_
  | with_reducible refine g_drop ?_
  | with_reducible refine g_if ?_
  | with_reducible refine g_next ?_
  | with_reducible refine g_assoc ?_
  | with_reducible refine g_retS ?_
  | with_reducible refine exbl ?_
  | with_reducible refine tT ?_
  | with_reducible refine tF ?_
  | with_reducible refine tNT ?_
  | with_reducible refine tNF ?_
  | ((with_reducible refine' ifpB ?pfh ?_); (case pfh => rfl))
  | ((with_reducible refine' ifnB ?pfh ?_); (case pfh => rfl)))
local macro_rules | `(tactic| walk_at "fl") => `(tactic| first
  | refine ⟨_, _, _, rfl, Tp.cl_Plank ‹_›, Tp.n_long ‹_›, rfl, ?_⟩
  | refine ⟨_, _, _, rfl, Tp.cl_Plank ‹_›, Tp.n_stakes ‹_›, rfl, ?_⟩
  | refine ⟨_, _, _, rfl, Tp.cl_Plank ‹_›, Tp.n_limit ‹_›, rfl, ?_⟩
  | refine ⟨_, _, _, rfl, Tp.cl_Loads ‹_›, Tp.n_plank ‹_›, rfl, ?_⟩
  | refine ⟨_, _, _, rfl, Tp.cl_Loads ‹_›, Tp.n_weights ‹_›, rfl, ?_⟩
  | refine ⟨_, _, _, rfl, Tp.cl_Loads ‹_›, Tp.n_known ‹_›, rfl, ?_⟩
  | refine ⟨_, _, _, rfl, Tp.cl_Loads ‹_›, Tp.n_over ‹_›, rfl, ?_⟩)
local macro_rules | `(tactic| walk_at "pf") => `(tactic| repeat (walk_at "pf1"))

theorem zip_ps (ps : List (Int × Rat)) : zipD ((ps.map (·.1)).map D.int) ((ps.map (·.2)).map fr) = ps.map prD := by
  induction ps with
  | nil => rfl
  | cons p ps ih =>
    show D.tup [.int p.1, fr p.2] :: zipD ((ps.map (·.1)).map D.int) ((ps.map (·.2)).map fr) = prD p :: ps.map prD
    rw [ih]
def pMade (CP : Addr) : PT_ := fun Γ ds R => ∃ w : Wd, ds = [.dK (wdF w)] ∧ w.Ok ∧ R (plD CP w)
abbrev N_law_made : List Str := ["_law_world_here"]
theorem sc_law_made : FnScope N_law_made ["_law_world_here"] (defScope s_law_made) := ⟨rfl, rfl, rfl, by decide +kernel, rfl, by decide +kernel, by decide +kernel⟩
theorem ok_law_made {P : Program} {w : World} {K : PySem.W.Frag} {mg : Str → Option Value} {base : Heap} {aN aO CP CL : Addr} (T : Tp K mg aN aO CP CL)  (C_Plank : Fc P w K mg base "Plank" CP ["self", "length", "props", "bend"] 7 (SpX K (pPlank CP)) [.non]) {f : Addr} {fd : FuncData} (F : FunD K "_law_made" "_law_made" (defArgs s_law_made) (defBody s_law_made) (defScope s_law_made) [] [] f fd) : FnOk P w K mg base CX0 9 f fd ["_law_world_here"] (SpG K (pMade CP)) := by
  refine okG F sc_law_made (by intro Γ ds R h; repeat' (first | (obtain ⟨e, _⟩ := h; subst e; rfl) | (obtain ⟨_, h⟩ := h))) (fun cdv A outer s H E hr => ?_)
  refine ⟨_, (pss_one (ps_ret (pe_C C_Plank (hr.mono (by decide)) rfl (pa_cons (pe_dget (hu_of hr) (pv 0) pe_str (fun _ _ => rfl)) (pa_cons (pe_listZip2 (by rfl) T.b_list (by rfl) T.b_zip (pa_cons (pe_dget (hu_of hr) (pv 0) pe_str (fun _ _ => rfl)) (pa_cons (pe_dget (hu_of hr) (pv 0) pe_str (fun _ _ => rfl)) pa_nil))) pa_nil))))), ?_⟩
  try dsimp only [cxOf, Cx.nox, Cx.wish]
  rintro S ds ⟨w, rfl, ok, hR⟩
  show Goes S [] (nEnd S) _ [some (.dK (wdF w))] S.C0
  refine g_ret ?_ Cov.refl
  refine w_make (dd := [.non]) (fs := plF w) (fun B => .one .non) ?_
  walk_at "pf"
  refine w_dgetS ?_
  walk_at "pf"
  refine ⟨_, _, _, .inl rfl, rfl, rfl, ?_⟩
  walk_at "pf"
  refine w_listZip2 ?_
  walk_at "pf"
  refine w_dgetS ?_
  walk_at "pf"
  refine ⟨_, _, _, .inl rfl, rfl, rfl, ?_⟩
  walk_at "pf"
  refine w_dgetS ?_
  walk_at "pf"
  refine ⟨_, _, _, .inl rfl, rfl, rfl, ?_⟩
  walk_at "pf"
  refine ⟨_, _, rfl, ?_⟩
  rw [zip_ps]
  walk_at "pf"
  exact ⟨fun x => ⟨w, x, _, _, rfl, ok, rfl, rfl, rfl⟩, hR⟩
def WOk (L : Int) (h : Rat × Rat) : Prop := 0 ≤ h.1 ∧ h.1 ≤ (L : Rat) ∧ Sz 10 h.1 ∧ 0 < h.2 ∧ Sz 4 h.2
theorem mk_pos {y : Int} {b : Nat} (hb : 0 < b) (h : 0 ≤ y) : 0 ≤ mkRat y b := by
  have : 0 ≤ (mkRat y b).num := by
    rw [Rat.num_mkRat, if_neg (by omega)]
    exact Int.ediv_nonneg h (by omega)
  exact Rat.num_nonneg.mp this
theorem bcast {b : Nat} (hb : 0 < b) : (0 : Rat) < ((b : Int) : Rat) := by
  have : ((0 : Int) : Rat) < ((b : Int) : Rat) := ilt (by omega)
  exact this
theorem mk_mul {y : Int} {b : Nat} (hb : 0 < b) : mkRat y b * ((b : Int) : Rat) = (y : Rat) := by
  have h1 := Rat.mkRat_eq_div y b
  have h2 : ((b : Nat) : Rat) = ((b : Int) : Rat) := rfl
  rw [h2] at h1
  rw [h1, Rat.div_mul_cancel (Rat.ne_of_gt (bcast hb))]
theorem mk_le {y L : Int} {b : Nat} (hb : 0 < b) (h : y ≤ L * (b : Int)) : mkRat y b ≤ (L : Rat) := by
  rw [← mul_le_iff (bcast hb), mk_mul hb, ← Rat.intCast_mul]
  exact ile h
theorem mk_gt {y : Int} {b : Nat} (hb : 0 < b) (h : 0 < y) : 0 < mkRat y b := by
  have h1 := mk_pos (y := y) hb (Int.le_of_lt h)
  refine Rat.lt_of_le_of_ne h1 fun e => ?_
  have h2 := mk_mul (y := y) hb
  rw [← e, Rat.zero_mul] at h2
  have h3 : ((0 : Int) : Rat) = (y : Rat) := h2
  have := Rat.intCast_inj.mp h3
  omega
def pHeavy : PT_ := fun Γ ds R => ∃ (w : Wd) (x : D) (l : List Int), ds = [.lst (l.map .int), x] ∧ WorldIs Γ x w ∧ w.Ok ∧ 1 ≤ w.n ∧ 26 ≤ l.length ∧ Dg l ∧ ∀ hs : List (Rat × Rat), hs.length ≤ 5 → (∀ h ∈ hs, WOk w.L h) → R (.lst (hs.map wtD))
theorem dgA {l : List Int} {k : Nat} (hk : k < l.length) : ∃ x, x ∈ l ∧ atI (l.map D.int) (k : Int) = some (.int x) := ⟨l[k], List.getElem_mem hk, dgI (List.getElem?_eq_getElem hk)⟩
abbrev N_law_heavy : List Str := ["_law_digits_here", "_law_world_here", "_law_found", "_law_k", "_law_bottom", "_law_spot"]
theorem sc_law_heavy : FnScope N_law_heavy ["_law_digits_here", "_law_world_here"] (defScope s_law_heavy) := ⟨rfl, rfl, rfl, by decide +kernel, rfl, by decide +kernel, by decide +kernel⟩
theorem ok_law_heavy {P : Program} {w : World} {K : PySem.W.Frag} {mg : Str → Option Value} {base : Heap} {aN aO CP CL : Addr} (T : Tp K mg aN aO CP CL)  (F_law_cut : Fk P w K mg base "_law_cut" ["_law_top", "_law_bottom"] 1 (SpG K (pCut))) {f : Addr} {fd : FuncData} (F : FunD K "_law_heavy" "_law_heavy" (defArgs s_law_heavy) (defBody s_law_heavy) (defScope s_law_heavy) [] [] f fd) : FnOk P w K mg base CX0 2 f fd ["_law_digits_here", "_law_world_here"] (SpG K (pHeavy)) := by
  refine okG F sc_law_heavy (by intro Γ ds R h; repeat' (first | (obtain ⟨e, _⟩ := h; subst e; rfl) | (obtain ⟨_, h⟩ := h))) (fun cdv A outer s H E hr => ?_)
  refine ⟨_, (pss_cons (ps_set (i := 2) sc_law_heavy.nd rfl (by first | exact Or.inl rfl | exact Or.inr rfl) (pe_lst pa_nil))
      (pss_cons (ps_for PassesOwn.never rfl (pi_range1 rfl T.b_range (pa_cons (pe_op op_mod (pe_callTy call_int1 (by rfl) T.b_int bt_int (pa_cons (pe_ix (ix_seqK (K := K) rfl) (pv 0) pe_int (fun _ _ => rfl)) pa_nil)) pe_int) pa_nil)) (pg_name (i := 3) sc_law_heavy.nd rfl (by first | exact Or.inl rfl | exact Or.inr rfl)) 
          (pss_cons (ps_set (i := 4) sc_law_heavy.nd rfl (by first | exact Or.inl rfl | exact Or.inr rfl) (pe_op (op_plusK (K := K) rfl) pe_int (pe_op op_mod (pe_callTy call_int1 (by rfl) T.b_int bt_int (pa_cons (pe_ix (ix_seqK (K := K) rfl) (pv 0) (pe_op (op_plusK (K := K) rfl) pe_int (pv 3)) (fun _ _ => rfl)) pa_nil)) pe_int)))
          (pss_cons (ps_set (i := 5) sc_law_heavy.nd rfl (by first | exact Or.inl rfl | exact Or.inr rfl) (pe_F F_law_cut (hr.mono (by decide)) rfl (pa_cons (pe_op op_mod (pe_callTy call_int1 (by rfl) T.b_int bt_int (pa_cons (pe_ix (ix_seqK (K := K) rfl) (pv 0) (pe_op (op_plusK (K := K) rfl) pe_int (pv 3)) (fun _ _ => rfl)) pa_nil)) (pe_op (op_plusK (K := K) rfl) (pe_op op_mulW (pe_dget (hu_of hr) (pv 1) pe_str (fun _ _ => rfl)) (pv 4)) pe_int)) (pa_cons (pv 4) pa_nil))))
          (pss_cons (ps_if (pt_cmpR (op_equK (K := K) rfl hr.units) (pe_op op_mod (pe_callTy call_int1 (by rfl) T.b_int bt_int (pa_cons (pe_ix (ix_seqK (K := K) rfl) (pv 0) (pe_op (op_plusK (K := K) rfl) pe_int (pv 3)) (fun _ _ => rfl)) pa_nil)) pe_int) pe_int (nomark _)) 
              (pss_one (ps_set (i := 5) sc_law_heavy.nd rfl (by first | exact Or.inl rfl | exact Or.inr rfl) (pe_tup (pa_cons (pe_ix (ix_seqK (K := K) rfl) (pe_dget (hu_of hr) (pv 1) pe_str (fun _ _ => rfl)) (pe_op op_mod (pe_callTy call_int1 (by rfl) T.b_int bt_int (pa_cons (pe_ix (ix_seqK (K := K) rfl) (pv 0) (pe_op (op_plusK (K := K) rfl) pe_int (pv 3)) (fun _ _ => rfl)) pa_nil)) (pe_callB (call_len_seqK (K := K) rfl) (by rfl) T.b_len bt_len (pa_cons (pe_dget (hu_of hr) (pv 1) pe_str (fun _ _ => rfl)) pa_nil))) (fun _ _ => rfl)) (pa_cons pe_int pa_nil))))) pss_nil)
          (pss_one (ps_expr (pe_bm PySem.F.plainAttrs_list PySem.F.slot_list_append PySem.F.type_list_append mt_append (pv 2) (pa_cons (pe_tup (pa_cons (pv 5) (pa_cons (pe_F F_law_cut (hr.mono (by decide)) rfl (pa_cons (pe_op (op_plusK (K := K) rfl) pe_int (pe_op op_mod (pe_callTy call_int1 (by rfl) T.b_int bt_int (pa_cons (pe_ix (ix_seqK (K := K) rfl) (pv 0) (pe_op (op_plusK (K := K) rfl) pe_int (pv 3)) (fun _ _ => rfl)) pa_nil)) pe_int)) (pa_cons (pe_op (op_plusK (K := K) rfl) pe_int (pe_op op_mod (pe_callTy call_int1 (by rfl) T.b_int bt_int (pa_cons (pe_ix (ix_seqK (K := K) rfl) (pv 0) (pe_op (op_plusK (K := K) rfl) pe_int (pv 3)) (fun _ _ => rfl)) pa_nil)) pe_int)) pa_nil))) pa_nil))) pa_nil))))))))
      (pss_one (ps_ret (pv 2))))), ?_⟩
  try dsimp only [cxOf, Cx.nox, Cx.wish]
  rintro S ds ⟨w, x, l, rfl, ⟨kvs, hx, hLg, hSp⟩, ok, hn1, hll, hdg, hR⟩
  show Goes S [] (nEnd S) _ [some (.lst (l.map .int)), some x, none, none, none, none] S.C0
  have hn := ok.hn
  have hL := ok.hL
  refine g_newL fun p hp0 => ?_
  have hx' : ∀ acc, DictIs ⟨(p, .lst acc) :: S.C0.c, S.C0.z⟩ x kvs := fun acc => by
    rcases hx with e | ⟨q, e, hm⟩
    · exact .inl e
    · exact .inr ⟨q, e, List.mem_cons_of_mem _ hm⟩
  refine g_for (i_rng1 ?_)
  obtain ⟨d0, hd0, a0⟩ := dgA (l := l) (k := 0) (by omega)
  have r0 := hdg d0 hd0
  have m0 := Int.emod_nonneg d0 (b := 6) (by decide)
  have m1 := Int.emod_lt_of_pos d0 (b := 6) (by decide)
  walk_at "pf"
  refine o_ixLi a0 ?_
  walk_at "pf"
  refine o_mod (by decide) ?_
  walk_at "pf"
  refine ⟨_, rfl, by omega, m0, fun i ρ Γ => ∃ (hs : List (Rat × Rat)) (y3 y4 y5 : Option D), ρ = [some (.lst (l.map .int)), some x, some (.cell p), y3, y4, y5] ∧ Γ = ⟨(p, .lst (hs.map wtD)) :: S.C0.c, S.C0.z⟩ ∧ hs.length = i ∧ ∀ h ∈ hs, WOk w.L h, ⟨[], _, _, _, rfl, rfl, rfl, fun _ h => nomatch h⟩, ?_, ?_⟩
  · rintro i d ρ Γ B1 hd ⟨hs, y3, y4, y5, rfl, rfl, hlh, hh⟩
    obtain ⟨hi, rfl⟩ := rangeD_get hd
    have hi5 : i < 5 := by omega
    refine gw_name trivial ?_
    rw [Int.zero_add]
    obtain ⟨d1, hd1, a1⟩ := dgA (l := l) (k := 1 + i) (by omega)
    obtain ⟨d6, hd6, a6⟩ := dgA (l := l) (k := 6 + i) (by omega)
    obtain ⟨d11, hd11, a11⟩ := dgA (l := l) (k := 11 + i) (by omega)
    obtain ⟨d16, hd16, a16⟩ := dgA (l := l) (k := 16 + i) (by omega)
    obtain ⟨d21, hd21, a21⟩ := dgA (l := l) (k := 21 + i) (by omega)
    rw [Int.natCast_add] at a1 a6 a11 a16 a21
    walk_at "pf"
    refine o_ixLi a1 ?_
    walk_at "pf"
    refine o_mod (by decide) ?_
    walk_at "pf"
    have b1 := Int.emod_nonneg d1 (b := 3) (by decide)
    have b2 := Int.emod_lt_of_pos d1 (b := 3) (by decide)
    obtain ⟨bt, hbt⟩ : ∃ bt : Nat, 1 + d1 % 3 = (bt : Int) := ⟨(1 + d1 % 3).toNat, by omega⟩
    rw [hbt]
    have bt1 : 1 ≤ bt := by omega
    have bt3 : bt ≤ 3 := by omega
    refine o_ixLi a6 ?_
    walk_at "pf"
    refine w_dgetS ?_
    walk_at "pf"
    refine ⟨kvs, _, _, hx' _, rfl, hLg, ?_⟩
    walk_at "pf"
    refine o_mulW (mulS (n64 (by omega) (by omega)) (n64 (by omega) (by omega))) ?_
    walk_at "pf"
    have hprod : 0 ≤ w.L * (bt : Int) ∧ w.L * (bt : Int) ≤ 540 := by
      have h1 : w.L * (bt : Int) ≤ w.L * 3 := Int.mul_le_mul_of_nonneg_left (by omega) (by omega)
      have h2 : 0 ≤ w.L * (bt : Int) := Int.mul_nonneg (by omega) (by omega)
      omega
    refine o_mod (by omega) ?_
    walk_at "pf"
    have y1 := Int.emod_nonneg d6 (b := w.L * (bt : Int) + 1) (by omega)
    have y2 := Int.emod_lt_of_pos d6 (b := w.L * (bt : Int) + 1) (by omega)
    generalize d6 % (w.L * (bt : Int) + 1) = y at y1 y2 ⊢
    have e10 : (2 : Nat) ^ 10 = 1024 := by decide
    have yn : y.natAbs < 2 ^ 10 := by omega
    have btn : bt < 2 ^ 2 := by have : (2 : Nat) ^ 2 = 4 := by decide
                                omega
    refine ⟨y, bt, rfl, by omega, Nat.lt_of_lt_of_le yn (Nat.pow_le_pow_right (by decide) (by decide)), Nat.lt_of_lt_of_le btn (Nat.pow_le_pow_right (by decide) (by decide)), ?_⟩
    refine g_ifJ (fun ρ' Γ' => ∃ q : Rat, ρ' = [some (.lst (l.map .int)), some x, some (.cell p), some (.int (i : Int)), some (.int (bt : Int)), some (fr q)] ∧ Γ' = ⟨(p, .lst (hs.map wtD)) :: S.C0.c, S.C0.z⟩ ∧ 0 ≤ q ∧ q ≤ (w.L : Rat) ∧ Sz 10 q) ?_ ?_
    · walk_at "pf"
      refine o_ixLi a11 ?_
      walk_at "pf"
      refine o_mod (by decide) ?_
      walk_at "pf"
      split
      · refine g_one ?_
        walk_at "pf"
        refine w_tup ?_
        walk_at "pf"
        refine w_dgetS ?_
        walk_at "pf"
        refine ⟨kvs, _, _, hx' _, rfl, hSp, ?_⟩
        walk_at "pf"
        refine o_ixLi a6 ?_
        walk_at "pf"
        refine w_dgetS ?_
        walk_at "pf"
        refine ⟨kvs, _, _, hx' _, rfl, hSp, ?_⟩
        walk_at "pf"
        refine c_len (.inl rfl) ?_
        rw [n_len]
        refine o_mod (by omega) ?_
        have j1 := Int.emod_nonneg d6 (b := (w.n : Int)) (by omega)
        have j2 := Int.emod_lt_of_pos d6 (b := (w.n : Int)) (by omega)
        refine o_ixLi (spot_at (w := w) j1 j2) ?_
        walk_at "pf"
        have bd := ok.pos_bd (a := d6 % (w.n : Int)) (by omega) (by omega)
        refine ⟨by simp, g_done ⟨((w.pos (d6 % (w.n : Int)) : Int) : Rat), rfl, rfl, ?_, ile bd.2, (ok.pos_sz (by omega) (by omega)).mono (by decide)⟩⟩
        have : ((0 : Int) : Rat) ≤ ((w.pos (d6 % (w.n : Int)) : Int) : Rat) := ile bd.1
        exact this
      · exact ⟨_, rfl, rfl, mk_pos (by omega) y1, mk_le (by omega) (by omega), Sz.mk (a := 10) (b := 2) (by omega) yn btn (by decide) (by decide)⟩
    · rintro ρ' Γ' ⟨q, rfl, rfl, q0, q1, sq⟩
      refine g_one (g_app rfl (by rw [List.length_map]; omega) ?_)
      refine w_tup ?_
      walk_at "pf"
      refine o_ixLi a16 ?_
      walk_at "pf"
      refine o_mod (by decide) ?_
      walk_at "pf"
      refine o_ixLi a21 ?_
      walk_at "pf"
      refine o_mod (by decide) ?_
      walk_at "pf"
      have f1 := Int.emod_nonneg d16 (b := 9) (by decide)
      have f2 := Int.emod_lt_of_pos d16 (b := 9) (by decide)
      have f3 := Int.emod_nonneg d21 (b := 3) (by decide)
      have f4 := Int.emod_lt_of_pos d21 (b := 3) (by decide)
      generalize d16 % 9 = u at f1 f2 ⊢
      obtain ⟨v, hv⟩ : ∃ v : Nat, 1 + d21 % 3 = (v : Int) := ⟨(1 + d21 % 3).toNat, by omega⟩
      rw [hv]
      have e16 : (2 : Nat) ^ 4 = 16 := by decide
      have e4 : (2 : Nat) ^ 2 = 4 := by decide
      have un : (1 + u).natAbs < 2 ^ 4 := by omega
      have vn : v < 2 ^ 2 := by omega
      refine ⟨1 + u, v, rfl, by omega, Nat.lt_of_lt_of_le un (Nat.pow_le_pow_right (by decide) (by decide)), Nat.lt_of_lt_of_le vn (Nat.pow_le_pow_right (by decide) (by decide)), ?_⟩
      walk_at "pf"
      refine ⟨by simp, g_done ⟨hs ++ [(q, mkRat (1 + u) v)], _, _, _, rfl, ?_, by rw [List.length_append, hlh]; rfl, fun h hmem => ?_⟩⟩
      · rw [List.map_append]; rfl
      · rcases List.mem_append.mp hmem with hmem | hmem
        · exact hh h hmem
        · rw [List.mem_singleton.mp hmem]
          exact ⟨q0, q1, sq, mk_gt (by omega) (by omega), Sz.mk (a := 4) (b := 2) (by omega) un vn (by decide) (by decide)⟩
  · rintro ρ Γ ⟨hs, y3, y4, y5, rfl, rfl, hlh, hh⟩
    rw [rangeD_len] at hlh
    refine g_offL (i := 2) hp0 rfl ?_
    exact g_ret (w_var rfl (hR hs (by omega) hh)) Cov.refl
end PF
end
section
set_option Elab.async false
set_option linter.all false
set_option maxRecDepth 100000
set_option maxHeartbeats 2000000
namespace PF
open PySem PySem.Spec L2 RZ
local macro_rules | `(tactic| walk_at "pf1") => `(tactic| first
  | ((with_reducible refine' w_var ?pfh ?_); (case pfh => rfl))
  | with_reducible refine w_int ?_
  | with_reducible refine w_ty ?_
  | with_reducible refine w_op ?_
  | with_reducible refine w_listVals ?_ ?_
  | with_reducible refine w_cb ?_
  | with_reducible refine w_call ?_
  | with_reducible refine a_cons ?_
  | with_reducible refine a_nil ?_
  | with_reducible refine o_sub ?_
  | with_reducible refine o_plusI ?_
  | ((with_reducible refine' o_ixTu ?pfh ?_); (case pfh => rfl))
  | ((with_reducible refine' o_ixLi ?pfh ?_); (case pfh => rfl))
  | ((with_reducible refine' o_ixKe ?pfh ?_); (case pfh => rfl))
  | with_reducible refine w_bl ?_
  | with_reducible refine w_non ?_
  | with_reducible refine w_str ?_
  | with_reducible refine w_un ?_
  | with_reducible refine w_fld ?_
  | with_reducible refine w_meth ?_
  | with_reducible refine t_test ?_
  | with_reducible refine t_B ?_
  | with_reducible refine t_and ?_
  | with_reducible refine t_or ?_
  | with_reducible refine t_not ?_
  | with_reducible refine w_andV ?_
  | with_reducible refine w_orV ?_
  | with_reducible refine w_notV ?_
  | with_reducible refine w_if ?_
  | with_reducible refine w_chain ?_
  | with_reducible refine o_lt ?_
  | with_reducible refine o_gt ?_
  | with_reducible refine o_le ?_
  | with_reducible refine o_ge ?_
  | with_reducible refine o_equI ?_
  | with_reducible refine o_neqI ?_
  | with_reducible refine o_neg ?_
  | with_reducible refine c_abs ?_
  | with_reducible refine c_int ?_
  | with_reducible refine g_asgX ?_
  | with_reducible refine g_asg ?_
  | with_reducible refine g_drop ?_
  | with_reducible refine g_if ?_
  | with_reducible refine g_next ?_
  | with_reducible refine g_assoc ?_
  | with_reducible refine g_retS ?_
  | with_reducible refine exbl ?_
  | with_reducible refine tT ?_
  | with_reducible refine tF ?_
  | with_reducible refine tNT ?_
  | with_reducible refine tNF ?_
  | ((with_reducible refine' ifpB ?pfh ?_); (case pfh => rfl))
  | ((with_reducible refine' ifnB ?pfh ?_); (case pfh => rfl)))
local macro_rules | `(tactic| walk_at "fl") => `(tactic| first
  | refine ⟨_, _, _, rfl, Tp.cl_Plank ‹_›, Tp.n_long ‹_›, rfl, ?_⟩
  | refine ⟨_, _, _, rfl, Tp.cl_Plank ‹_›, Tp.n_stakes ‹_›, rfl, ?_⟩
  | refine ⟨_, _, _, rfl, Tp.cl_Plank ‹_›, Tp.n_limit ‹_›, rfl, ?_⟩
  | refine ⟨_, _, _, rfl, Tp.cl_Loads ‹_›, Tp.n_plank ‹_›, rfl, ?_⟩
  | refine ⟨_, _, _, rfl, Tp.cl_Loads ‹_›, Tp.n_weights ‹_›, rfl, ?_⟩
  | refine ⟨_, _, _, rfl, Tp.cl_Loads ‹_›, Tp.n_known ‹_›, rfl, ?_⟩
  | refine ⟨_, _, _, rfl, Tp.cl_Loads ‹_›, Tp.n_over ‹_›, rfl, ?_⟩)
local macro_rules | `(tactic| walk_at "pf") => `(tactic| repeat (walk_at "pf1"))

theorem sum_take {gs : List Int} {k : Nat} {g : Int} (h : gs[k]? = some g) : (gs.take (k + 1)).sum = (gs.take k).sum + g := by
  rw [take_succ h, List.sum_append]
  simp
structure Gaps (gs : List Int) (n : Nat) : Prop where
  len : gs.length = n + 1
  bd : ∀ g ∈ gs, 1 ≤ g ∧ g ≤ 30
theorem Gaps.up {gs : List Int} {n : Nat} (h : Gaps gs n) : ∀ (d k : Nat), k + d ≤ n + 1 → (gs.take k).sum + d ≤ (gs.take (k + d)).sum ∧ (gs.take (k + d)).sum ≤ (gs.take k).sum + 30 * d
  | 0, k, _ => by simp
  | d + 1, k, hk => by
    obtain ⟨a, b⟩ := h.up d k (by omega)
    have hg : gs[k + d]? = some (gs[k + d]'(by rw [h.len]; omega)) := List.getElem?_eq_getElem _
    have e := sum_take hg
    have := h.bd _ (List.mem_of_getElem? hg)
    rw [← Nat.add_assoc, e]
    omega
def xsOf (gs : List Int) (n : Nat) : List Int := (List.range n).map fun k : Nat => (gs.take (k + 1)).sum
theorem xs_at {gs : List Int} {n i : Nat} {x : Int} (h : (xsOf gs n)[i]? = some x) : i < n ∧ x = (gs.take (i + 1)).sum := by
  have hi := (List.getElem?_eq_some_iff.mp h).1
  unfold xsOf at hi h
  rw [List.length_map, List.length_range] at hi
  rw [List.getElem?_map, List.getElem?_range hi] at h
  exact ⟨hi, (Option.some.inj h).symm⟩
theorem xs_len (gs : List Int) (n : Nat) : (xsOf gs n).length = n := by unfold xsOf; rw [List.length_map, List.length_range]
def mkW (gs : List Int) (n : Nat) (ss : List Rat) (hs : List (Rat × Rat)) : Wd := ⟨gs.sum, (xsOf gs n).zip ss, hs⟩
section
variable {gs : List Int} {n : Nat} {ss : List Rat} {hs : List (Rat × Rat)}
theorem mkW_xs (h : ss.length = n) : (mkW gs n ss hs).ps.map (·.1) = xsOf gs n := List.map_fst_zip (by rw [xs_len, h]; exact Nat.le_refl _)
theorem mkW_ss (h : ss.length = n) : (mkW gs n ss hs).ps.map (·.2) = ss := List.map_snd_zip (by rw [xs_len, h]; exact Nat.le_refl _)
theorem mkW_n (h : ss.length = n) : (mkW gs n ss hs).n = n := by
  have := congrArg List.length (mkW_xs (gs := gs) (hs := hs) h)
  rw [List.length_map, xs_len] at this
  exact this
theorem mkW_ok (g : Gaps gs n) (h1 : 1 ≤ n) (h5 : n ≤ 5) (h : ss.length = n) (hss : ∀ s ∈ ss, Sz 180 s ∧ 0 ≤ s) (hl : hs.length ≤ 5) (hw : ∀ x ∈ hs, WOk gs.sum x) : (mkW gs n ss hs).Ok := by
  have eL : gs.sum = (gs.take (n + 1)).sum := by rw [← g.len, List.take_length]
  have u0 := g.up (n + 1) 0 (by omega)
  simp at u0
  refine ⟨?_, by rw [mkW_n h]; exact h5, fun p hp => ?_, fun i a b ha hb => ?_, hl, hw⟩
  · show 2 ≤ gs.sum ∧ gs.sum ≤ 180
    rw [eL]
    omega
  · obtain ⟨i, hi⟩ := List.mem_iff_getElem?.mp hp
    obtain ⟨e1, e2⟩ := List.getElem?_zip_eq_some.mp hi
    obtain ⟨hin, ex⟩ := xs_at e1
    have s2 := hss _ (List.mem_of_getElem? e2)
    have v0 := g.up (i + 1) 0 (by omega)
    have v1 := g.up (n + 1 - (i + 1)) (i + 1) (by omega)
    have ei : i + 1 + (n + 1 - (i + 1)) = n + 1 := by omega
    rw [ei] at v1
    simp at v0
    show 0 < p.1 ∧ p.1 < gs.sum ∧ _
    rw [eL, ex]
    exact ⟨by omega, by omega, s2⟩
  · obtain ⟨e1, _⟩ := List.getElem?_zip_eq_some.mp ha
    obtain ⟨e2, _⟩ := List.getElem?_zip_eq_some.mp hb
    obtain ⟨_, x1⟩ := xs_at e1
    obtain ⟨hb', x2⟩ := xs_at e2
    have v := g.up 1 (i + 1) (by omega)
    rw [x1, x2]
    omega
end
def pWorld : PT_ := fun Γ ds R => ∃ l : List Int, ds = [.lst (l.map .int), .int 5] ∧ l.length = 110 ∧ Dg l ∧ ∀ w : Wd, w.Ok → 1 ≤ w.n → R (.dK (wdF w))
abbrev kL : Key := Sum.inr ("long" : Str)
abbrev kS : Key := Sum.inr ("spots" : Str)
abbrev kH : Key := Sum.inr ("heavy" : Str)
abbrev kT : Key := Sum.inr ("strong" : Str)
theorem put_heavy (a b d : D) : putD [(kL, a), (kS, b)] kH d = [(kL, a), (kS, b), (kH, d)] := rfl
theorem put_strong (a b c d : D) : putD [(kL, a), (kS, b), (kH, c)] kT d = [(kL, a), (kS, b), (kH, c), (kT, d)] := rfl
theorem cases4 {d : Int} (h : 0 ≤ d) : ∃ v : Int, (v = 1 ∨ v = 2 ∨ v = 5 ∨ v = 30) ∧ atI [D.int 1, .int 2, .int 5, .int 30] (d % 4) = some (.int v) := by
  have h1 := Int.emod_nonneg d (b := 4) (by decide)
  have h2 := Int.emod_lt_of_pos d (b := 4) (by decide)
  have : d % 4 = 0 ∨ d % 4 = 1 ∨ d % 4 = 2 ∨ d % 4 = 3 := by omega
  rcases this with e | e | e | e <;> rw [e]
  · exact ⟨1, by decide, rfl⟩
  · exact ⟨2, by decide, rfl⟩
  · exact ⟨5, by decide, rfl⟩
  · exact ⟨30, by decide, rfl⟩
theorem cases6 {d x : Int} (h : 0 ≤ d) (hx : 0 ≤ x) (hx2 : x < 20) : ∃ r : Rat, Sz 5 r ∧ atI [D.tup [.int 0, .int 1], .tup [.int (-1), .int 2], .tup [.int 1, .int 3], .tup [.int 1, .int 1], .tup [.int 4, .int 1], .tup [.int x, .int 1]] (d % 6) = some (fr r) := by
  have h1 := Int.emod_nonneg d (b := 6) (by decide)
  have h2 := Int.emod_lt_of_pos d (b := 6) (by decide)
  have : d % 6 = 0 ∨ d % 6 = 1 ∨ d % 6 = 2 ∨ d % 6 = 3 ∨ d % 6 = 4 ∨ d % 6 = 5 := by omega
  rcases this with e | e | e | e | e | e <;> rw [e]
  · exact ⟨0, ⟨by decide, by decide⟩, rfl⟩
  · exact ⟨mkRat (-1) 2, ⟨by decide +kernel, by decide +kernel⟩, by rw [show fr (mkRat (-1) 2) = D.tup [.int (-1), .int 2] from by unfold fr; rw [show (mkRat (-1) 2).num = -1 by decide +kernel, show (mkRat (-1) 2).den = 2 by decide +kernel]; rfl]; rfl⟩
  · exact ⟨mkRat 1 3, ⟨by decide +kernel, by decide +kernel⟩, by rw [show fr (mkRat 1 3) = D.tup [.int 1, .int 3] from by unfold fr; rw [show (mkRat 1 3).num = 1 by decide +kernel, show (mkRat 1 3).den = 3 by decide +kernel]; rfl]; rfl⟩
  · exact ⟨1, ⟨by decide, by decide⟩, rfl⟩
  · exact ⟨4, ⟨by decide, by decide⟩, rfl⟩
  · refine ⟨(x : Rat), Sz.int ?_ (by decide), rfl⟩
    have : (2 : Nat) ^ 5 = 32 := by decide
    omega
theorem pickW {q : Rat} (h : Sz 180 q) : ∃ m : Rat, Sz 180 m ∧ 0 ≤ m ∧ atI [fr q, D.tup [.int 0, .int 1]] (if decide (q.num < 0) = true then 1 else 0) = some (fr m) := by
  by_cases hq : q.num < 0
  · exact ⟨0, Sz.zero.mono (by decide), Rat.le_refl, by rw [decide_eq_true hq]; rfl⟩
  · refine ⟨q, h, Rat.num_nonneg.mp (by omega), by rw [decide_eq_false hq]; rfl⟩
abbrev N_law_world : List Str := ["_law_digits_here", "_law_most", "_law_many", "_law_wide", "_law_gaps", "_law_k", "_law_world_here", "_law_much", "_law_more"]
theorem sc_law_world : FnScope N_law_world ["_law_digits_here", "_law_most"] (defScope s_law_world) := ⟨rfl, rfl, rfl, by decide +kernel, rfl, by decide +kernel, by decide +kernel⟩
theorem ok_law_world {P : Program} {w : World} {K : PySem.W.Frag} {mg : Str → Option Value} {base : Heap} {aN aO CP CL : Addr} (T : Tp K mg aN aO CP CL)  (F_law_heavy : Fk P w K mg base "_law_heavy" ["_law_digits_here", "_law_world_here"] 2 (SpG K (pHeavy))) (F_law_load : Fk P w K mg base "_law_load" ["_law_world_here", "_law_heavy_here", "_law_key"] 3 (SpG K (pLLoad))) (F_law_plus : Fk P w K mg base "_law_plus" ["_law_one", "_law_other"] 2 (SpG K (pPlus))) {f : Addr} {fd : FuncData} (F : FunD K "_law_world" "_law_world" (defArgs s_law_world) (defBody s_law_world) (defScope s_law_world) [] [] f fd) : FnOk P w K mg base CX0 4 f fd ["_law_digits_here", "_law_most"] (SpG K (pWorld)) := by
  refine okG F sc_law_world (by intro Γ ds R h; repeat' (first | (obtain ⟨e, _⟩ := h; subst e; rfl) | (obtain ⟨_, h⟩ := h))) (fun cdv A outer s H E hr => ?_)
  refine ⟨_, (pss_cons (ps_set (i := 2) sc_law_world.nd rfl (by first | exact Or.inl rfl | exact Or.inr rfl) (pe_op (op_plusK (K := K) rfl) pe_int (pe_op op_mod (pe_callTy call_int1 (by rfl) T.b_int bt_int (pa_cons (pe_ix (ix_seqK (K := K) rfl) (pv 0) pe_int (fun _ _ => rfl)) pa_nil)) (pv 1))))
      (pss_cons (ps_set (i := 3) sc_law_world.nd rfl (by first | exact Or.inl rfl | exact Or.inr rfl) (pe_ix (ix_seqK (K := K) rfl) (pe_lst (pa_cons pe_int (pa_cons pe_int (pa_cons pe_int (pa_cons pe_int pa_nil))))) (pe_op op_mod (pe_callTy call_int1 (by rfl) T.b_int bt_int (pa_cons (pe_ix (ix_seqK (K := K) rfl) (pv 0) pe_int (fun _ _ => rfl)) pa_nil)) pe_int) (fun _ _ => rfl)))
      (pss_cons (ps_set (i := 4) sc_law_world.nd rfl (by first | exact Or.inl rfl | exact Or.inr rfl) (pe_lc (own := [("_law_k", 5)]) rfl sc_law_world.nd (pi_range1 rfl T.b_range (pa_cons (pe_op (op_plusK (K := K) rfl) (pv 2) pe_int) pa_nil)) (blkOk_by (own := [("_law_k", 5)]) (N := N_law_world) (sc := defScope s_law_world) (by decide +kernel)) (fun _ _ _ _ _ => (pg_name (i := 5) sc_law_world.nd rfl (by first | exact Or.inl rfl | exact Or.inr rfl))) (fun _ _ _ _ _ => pts_nil) (fun _ _ _ _ _ => (pe_op (op_plusK (K := K) rfl) pe_int (pe_op op_mod (pe_callTy call_int1 (by rfl) T.b_int bt_int (pa_cons (pe_ix (ix_seqK (K := K) rfl) (pv 0) (pe_op (op_plusK (K := K) rfl) pe_int (pv 5)) (fun _ _ => rfl)) pa_nil)) (pv 3))))))
      (pss_cons (ps_set (i := 6) sc_law_world.nd rfl (by first | exact Or.inl rfl | exact Or.inr rfl) (pe_disp (pps_cons pe_str (pe_callB (cr_sumK (K := K) rfl rfl) (by rfl) T.b_sum bt_sum (pa_cons (pv 4) pa_nil)) (pps_cons pe_str (pe_lc (own := [("_law_k", 5)]) rfl sc_law_world.nd (pi_range1 rfl T.b_range (pa_cons (pv 2) pa_nil)) (blkOk_by (own := [("_law_k", 5)]) (N := N_law_world) (sc := defScope s_law_world) (by decide +kernel)) (fun _ _ _ _ _ => (pg_name (i := 5) sc_law_world.nd rfl (by first | exact Or.inl rfl | exact Or.inr rfl))) (fun _ _ _ _ _ => pts_nil) (fun _ _ _ _ _ => (pe_callB (cr_sumK (K := K) rfl rfl) (by rfl) T.b_sum bt_sum (pa_cons (pe_slice (sl_seqK (K := K) rfl) (pv 4) po_none (po_some (pe_op (op_plusK (K := K) rfl) (pv 5) pe_int))) pa_nil)))) pps_nil)) (by rfl) (by rfl) (fun z => by cases z) (by decide)))
      (pss_cons (ps_dput (hu_of hr) (pv 6) pe_str (pe_F F_law_heavy (hr.mono (by decide)) rfl (pa_cons (pe_slice (sl_seqK (K := K) rfl) (pv 0) (po_some pe_int) po_none) (pa_cons (pv 6) pa_nil))) rfl)
      (pss_cons (ps_dput (hu_of hr) (pv 6) pe_str (pe_lst pa_nil) rfl)
      (pss_cons (ps_for PassesOwn.never rfl (pi_range1 rfl T.b_range (pa_cons (pv 2) pa_nil)) (pg_name (i := 5) sc_law_world.nd rfl (by first | exact Or.inl rfl | exact Or.inr rfl)) 
          (pss_cons (ps_set (i := 7) sc_law_world.nd rfl (by first | exact Or.inl rfl | exact Or.inr rfl) (pe_F F_law_load (hr.mono (by decide)) rfl (pa_cons (pv 6) (pa_cons (pe_dget (hu_of hr) (pv 6) pe_str (fun _ _ => rfl)) (pa_cons (pe_tup (pa_cons (pe_op op_sub (pv 5) pe_int) (pa_cons (pv 5) (pa_cons (pe_op (op_plusK (K := K) rfl) (pv 5) pe_int) pa_nil)))) pa_nil)))))
          (pss_cons (ps_set (i := 8) sc_law_world.nd rfl (by first | exact Or.inl rfl | exact Or.inr rfl) (pe_ix (ix_seqK (K := K) rfl) (pe_lst (pa_cons (pe_tup (pa_cons pe_int (pa_cons pe_int pa_nil))) (pa_cons (pe_tup (pa_cons (pe_un un_neg pe_int) (pa_cons pe_int pa_nil))) (pa_cons (pe_tup (pa_cons pe_int (pa_cons pe_int pa_nil))) (pa_cons (pe_tup (pa_cons pe_int (pa_cons pe_int pa_nil))) (pa_cons (pe_tup (pa_cons pe_int (pa_cons pe_int pa_nil))) (pa_cons (pe_tup (pa_cons (pe_op op_mod (pe_callTy call_int1 (by rfl) T.b_int bt_int (pa_cons (pe_ix (ix_seqK (K := K) rfl) (pv 0) (pe_op (op_plusK (K := K) rfl) pe_int (pv 5)) (fun _ _ => rfl)) pa_nil)) pe_int) (pa_cons pe_int pa_nil))) pa_nil))))))) (pe_op op_mod (pe_callTy call_int1 (by rfl) T.b_int bt_int (pa_cons (pe_ix (ix_seqK (K := K) rfl) (pv 0) (pe_op (op_plusK (K := K) rfl) pe_int (pv 5)) (fun _ _ => rfl)) pa_nil)) pe_int) (fun _ _ => rfl)))
          (pss_cons (ps_set (i := 7) sc_law_world.nd rfl (by first | exact Or.inl rfl | exact Or.inr rfl) (pe_F F_law_plus (hr.mono (by decide)) rfl (pa_cons (pv 7) (pa_cons (pv 8) pa_nil))))
          (pss_one (ps_expr (pe_bm PySem.F.plainAttrs_list PySem.F.slot_list_append PySem.F.type_list_append mt_append (pe_dget (hu_of hr) (pv 6) pe_str (fun _ _ => rfl)) (pa_cons (pe_ix (ix_seqK (K := K) rfl) (pe_lst (pa_cons (pv 7) (pa_cons (pe_tup (pa_cons pe_int (pa_cons pe_int pa_nil))) pa_nil))) (pe_callTy call_int1 (by rfl) T.b_int bt_int (pa_cons (pe_cmpR op_lt (pe_ix (ix_seqK (K := K) rfl) (pv 7) pe_int (fun _ _ => rfl)) pe_int (nomark _)) pa_nil)) (fun _ _ => rfl)) pa_nil))))))))
      (pss_one (ps_ret (pv 6)))))))))), ?_⟩
  try dsimp only [cxOf, Cx.nox, Cx.wish]
  rintro S ds ⟨l, rfl, hll, hdg, hR⟩
  show Goes S [] (nEnd S) _ [some (.lst (l.map .int)), some (.int 5), none, none, none, none, none, none, none] S.C0
  obtain ⟨d0, hd0, a0⟩ := dgA (l := l) (k := 0) (by omega)
  obtain ⟨d1, hd1, a1⟩ := dgA (l := l) (k := 1) (by omega)
  have r0 := hdg d0 hd0
  have r1 := hdg d1 hd1
  have m0 := Int.emod_nonneg d0 (b := 5) (by decide)
  have m1 := Int.emod_lt_of_pos d0 (b := 5) (by decide)
  walk_at "pf"
  refine o_ixLi a0 ?_
  walk_at "pf"
  refine o_mod (by decide) ?_
  obtain ⟨n, hn⟩ : ∃ n : Nat, 1 + d0 % 5 = (n : Int) := ⟨(1 + d0 % 5).toNat, by omega⟩
  have n1 : 1 ≤ n := by omega
  have n5 : n ≤ 5 := by omega
  refine o_plusI ?_
  rw [hn]
  walk_at "pf"
  refine w_lst ?_
  walk_at "pf"
  refine ⟨by simp, ?_⟩
  walk_at "pf"
  refine o_ixLi a1 ?_
  walk_at "pf"
  refine o_mod (by decide) ?_
  obtain ⟨v, hv, av⟩ := cases4 (d := d1) r1.1
  refine o_ixLi av ?_
  refine g_asg ?_
  refine w_lc (i_rng1 ?_)
  walk_at "pf"
  refine ⟨_, rfl, by omega, by omega, by rw [rangeD_len]; omega, fun k acc => ∃ gs : List Int, acc = gs.map .int ∧ gs.length = k ∧ ∀ g ∈ gs, 1 ≤ g ∧ g ≤ 30, ⟨[], rfl, rfl, fun _ h => nomatch h⟩, ?_, ?_⟩
  · rintro k d acc hd ⟨gs, rfl, hgl, hgb⟩
    obtain ⟨hk, rfl⟩ := rangeD_get hd
    obtain ⟨dk, hdk, ak⟩ := dgA (l := l) (k := 2 + k) (by omega)
    rw [Int.natCast_add] at ak
    refine gw_name (by simp) (t_yes (tT ?_))
    rw [Int.zero_add]
    walk_at "pf"
    refine o_ixLi ak ?_
    walk_at "pf"
    have v0 : 0 < v := by rcases hv with e | e | e | e <;> omega
    refine o_mod v0 ?_
    walk_at "pf"
    have b1 := Int.emod_nonneg dk (b := v) (by omega)
    have b2 := Int.emod_lt_of_pos dk v0
    refine ⟨gs ++ [1 + dk % v], by rw [List.map_append]; rfl, by rw [List.length_append, hgl]; rfl, fun g hg => ?_⟩
    rcases List.mem_append.mp hg with hg | hg
    · exact hgb g hg
    · rw [List.mem_singleton.mp hg]
      rcases hv with e | e | e | e <;> omega
  rintro acc ⟨gs, rfl, hgl, hgb⟩
  rw [rangeD_len] at hgl
  have hG : Gaps gs n := ⟨by omega, hgb⟩
  refine g_disp2 (by decide) fun pw hpw => ?_
  walk_at "pf"
  refine c_sum ?_
  refine w_lc (i_rng1 ?_)
  walk_at "pf"
  refine ⟨_, rfl, by omega, by omega, by rw [rangeD_len]; omega, fun k acc => acc = ((List.range k).map fun k : Nat => (gs.take (k + 1)).sum).map .int, rfl, ?_, ?_⟩
  · rintro k d acc hd rfl
    obtain ⟨hk, rfl⟩ := rangeD_get hd
    refine gw_name (by simp) (t_yes (tT ?_))
    rw [Int.zero_add]
    walk_at "pf"
    refine w_sliceTo ?_
    walk_at "pf"
    refine ⟨k + 1, _, rfl, rfl, ?_⟩
    rw [← List.map_take]
    walk_at "pf"
    refine c_sum ?_
    show _ = List.map D.int (List.map (fun k : Nat => (List.take (k + 1) gs).sum) (List.range (k + 1)))
    rw [List.range_succ, List.map_append, List.map_append]
    rfl
  rintro acc rfl
  rw [rangeD_len, Int.toNat_natCast]
  have exs : ((List.range n).map fun k : Nat => (gs.take (k + 1)).sum) = xsOf gs n := rfl
  rw [exs]
  let z0 : List Rat := List.replicate n 0
  have z0l : z0.length = n := List.length_replicate
  have z0s : ∀ s ∈ z0, Sz 180 s ∧ 0 ≤ s := fun s hs => by rw [List.eq_of_mem_replicate hs]; exact ⟨Sz.zero.mono (by decide), Rat.le_refl⟩
  have ok0 : (mkW gs n z0 []).Ok := mkW_ok hG n1 n5 z0l z0s (by simp) (fun _ h => nomatch h)
  refine g_putSc (by simp) ?_
  walk_at "pf"
  refine w_sliceFrom ?_
  walk_at "pf"
  refine ⟨10, _, rfl, .inl ⟨rfl, ?_⟩⟩
  rw [← List.map_drop]
  walk_at "pf"
  refine ⟨mkW gs n z0 [], _, l.drop 10, rfl, ⟨_, .inr ⟨pw, rfl, List.mem_cons_self⟩, rfl, ?_⟩, ok0, by rw [mkW_n z0l]; exact n1, by rw [List.length_drop]; omega, fun x hx => hdg x (List.mem_of_mem_drop hx), fun hs hsl hsw => ?_⟩
  · rw [mkW_xs z0l]; rfl
  walk_at "pf"
  refine ⟨_, rfl, rfl, ?_⟩
  rw [put_heavy]
  have okW : ∀ ss : List Rat, ss.length = n → (∀ s ∈ ss, Sz 180 s ∧ 0 ≤ s) → (mkW gs n ss hs).Ok := fun ss h1 h2 => mkW_ok hG n1 n5 h1 h2 hsl hsw
  refine g_putSL (i := 6) (by simp) rfl fun q hq => ?_
  rw [put_strong]
  refine g_for (i_rng1 ?_)
  walk_at "pf"
  refine ⟨_, rfl, by omega, by omega, fun i ρ Γ => ∃ (ss : List Rat) (y5 y7 y8 : Option D), ρ = [some (.lst (l.map .int)), some (.int 5), some (.int (n : Int)), some (.int v), some (.lst (gs.map .int)), y5, some (.cell pw), y7, y8] ∧ Γ = ⟨(q, .lst (ss.map fr)) :: (pw, .dK [(kL, .int gs.sum), (kS, .lst ((xsOf gs n).map .int)), (kH, .lst (hs.map wtD)), (kT, .cell q)]) :: S.C0.c, S.C0.z⟩ ∧ ss.length = i ∧ ∀ s ∈ ss, Sz 180 s ∧ 0 ≤ s, ⟨[], _, _, _, rfl, rfl, rfl, fun _ h => nomatch h⟩, ?_, ?_⟩
  · rintro i d ρ Γ B1 hd ⟨ss, y5, y7, y8, rfl, rfl, hsl', hss⟩
    obtain ⟨hi, rfl⟩ := rangeD_get hd
    have hi' : i < n := by rw [Int.toNat_natCast] at hi; exact hi
    obtain ⟨d50, hd50, a50⟩ := dgA (l := l) (k := 50 + i) (by omega)
    obtain ⟨d40, hd40, a40⟩ := dgA (l := l) (k := 40 + i) (by omega)
    rw [Int.natCast_add] at a50 a40
    refine gw_name trivial ?_
    rw [Int.zero_add]
    have dis : DictIs ⟨(q, .lst (ss.map fr)) :: (pw, .dK [(kL, .int gs.sum), (kS, .lst ((xsOf gs n).map .int)), (kH, .lst (hs.map wtD)), (kT, .cell q)]) :: S.C0.c, S.C0.z⟩ (.cell pw) [(kL, .int gs.sum), (kS, .lst ((xsOf gs n).map .int)), (kH, .lst (hs.map wtD)), (kT, .cell q)] := .inr ⟨pw, rfl, List.mem_cons_of_mem _ List.mem_cons_self⟩
    have tri : Tri (mkW gs n z0 hs) ((i : Int) - 1) (i : Int) ((i : Int) + 1) := ⟨by omega, by omega, by omega, by rw [mkW_n z0l]; omega⟩
    have okz := okW z0 z0l z0s
    have hld := (okz.ld_sz tri.1 tri.2.1 tri.2.2.1 tri.2.2.2).2
    walk_at "pf"
    refine w_dgetS ?_
    walk_at "pf"
    refine ⟨_, _, _, dis, rfl, rfl, ?_⟩
    walk_at "pf"
    refine w_tupK ?_
    walk_at "pf"
    refine ⟨[(i : Int) - 1, (i : Int), (i : Int) + 1], rfl, by simp, ?_⟩
    walk_at "pf"
    refine ⟨mkW gs n z0 hs, _, _, _, _, rfl, ⟨_, dis, rfl, by rw [mkW_xs z0l]; rfl⟩, okz, tri, ?_⟩
    walk_at "pf"
    refine w_lst ?_
    walk_at "pf"
    refine w_tup ?_
    walk_at "pf"
    refine ⟨by simp, ?_⟩
    walk_at "pf"
    refine w_tup ?_
    walk_at "pf"
    refine ⟨by simp, ?_⟩
    walk_at "pf"
    refine w_tup ?_
    walk_at "pf"
    refine ⟨by simp, ?_⟩
    walk_at "pf"
    refine w_tup ?_
    walk_at "pf"
    refine ⟨by simp, ?_⟩
    walk_at "pf"
    refine w_tup ?_
    walk_at "pf"
    refine ⟨by simp, ?_⟩
    walk_at "pf"
    refine w_tup ?_
    walk_at "pf"
    refine o_ixLi a50 ?_
    walk_at "pf"
    refine o_mod (by decide) ?_
    walk_at "pf"
    refine ⟨by simp, ?_⟩
    walk_at "pf"
    refine ⟨by simp, ?_⟩
    walk_at "pf"
    refine o_ixLi a40 ?_
    walk_at "pf"
    refine o_mod (by decide) ?_
    have m50 := Int.emod_nonneg d50 (b := 20) (by decide)
    have m50' := Int.emod_lt_of_pos d50 (b := 20) (by decide)
    obtain ⟨r, hr, ar⟩ := cases6 (d := d40) (x := d50 % 20) (hdg d40 hd40).1 m50 m50'
    refine o_ixLi ar ?_
    walk_at "pf"
    refine ⟨_, r, rfl, hld.sm (by decide), hr.sm (by decide), ?_⟩
    walk_at "pf"
    refine g_one (g_appX (by rw [List.length_map]; omega) ?_)
    refine w_dgetS ?_
    walk_at "pf"
    refine ⟨_, _, _, dis, rfl, rfl, rfl, ?_⟩
    walk_at "pf"
    refine w_lst ?_
    walk_at "pf"
    refine w_tup ?_
    walk_at "pf"
    refine ⟨by simp, ?_⟩
    walk_at "pf"
    refine ⟨by simp, ?_⟩
    walk_at "pf"
    refine o_ixTu rfl ?_
    walk_at "pf"
    refine c_intB ?_
    obtain ⟨m, hm, hm2, hmi⟩ := pickW ((hld.add hr).mono (by decide : 161 + 5 + 1 ≤ 180))
    refine o_ixLi hmi ?_
    refine g_done ⟨ss ++ [m], _, _, _, rfl, by rw [List.map_append]; rfl, by rw [List.length_append, hsl']; rfl, fun s hs => ?_⟩
    rcases List.mem_append.mp hs with hs | hs
    · exact hss s hs
    · rw [List.mem_singleton.mp hs]
      exact ⟨hm, hm2⟩
  · rintro ρ Γ ⟨ss, y5, y7, y8, rfl, rfl, hsl', hss⟩
    rw [rangeD_len, Int.toNat_natCast] at hsl'
    refine g_offDL (i := 6) (kvs' := wdF (mkW gs n ss hs)) hq hpw rfl (fun j d d' h1 h2 => ?_) rfl ?_
    · have e1 : (wdF (mkW gs n ss hs)).map (·.2) = [.int gs.sum, .lst ((xsOf gs n).map .int), .lst (hs.map wtD), .lst (ss.map fr)] := by
        show [D.int gs.sum, .lst (((mkW gs n ss hs).ps.map (·.1)).map .int), .lst (hs.map wtD), .lst (((mkW gs n ss hs).ps.map (·.2)).map fr)] = _
        rw [mkW_xs hsl', mkW_ss hsl']
      rw [e1] at h2
      match j, h1, h2 with
      | 0, h1, h2 => cases h1; cases h2; exact .inl rfl
      | 1, h1, h2 => cases h1; cases h2; exact .inl rfl
      | 2, h1, h2 => cases h1; cases h2; exact .inl rfl
      | 3, h1, h2 => cases h1; cases h2; exact .inr ⟨rfl, rfl⟩
      | j + 4, h1, h2 => cases h1
    exact g_ret (w_var rfl (hR _ (okW ss hsl' hss) (by rw [mkW_n hsl']; exact n1))) Cov.refl
end PF
end
section
set_option Elab.async false
set_option linter.all false
set_option maxRecDepth 100000
set_option maxHeartbeats 2000000
namespace PF
open PySem PySem.Spec L2 RZ
local macro_rules | `(tactic| walk_at "pf1") => `(tactic| first
  | ((with_reducible refine' w_var ?pfh ?_); (case pfh => rfl))
  | with_reducible refine w_int ?_
  | with_reducible refine w_ty ?_
  | with_reducible refine w_op ?_
  | with_reducible refine w_listVals ?_ ?_
  | with_reducible refine w_cb ?_
  | with_reducible refine w_call ?_
  | with_reducible refine a_cons ?_
  | with_reducible refine a_nil ?_
  | with_reducible refine o_sub ?_
  | with_reducible refine o_plusI ?_
  | ((with_reducible refine' o_ixTu ?pfh ?_); (case pfh => rfl))
  | ((with_reducible refine' o_ixLi ?pfh ?_); (case pfh => rfl))
  | ((with_reducible refine' o_ixKe ?pfh ?_); (case pfh => rfl))
  | with_reducible refine w_bl ?_
  | with_reducible refine w_non ?_
  | with_reducible refine w_str ?_
  | with_reducible refine w_un ?_
  | with_reducible refine w_fld ?_
  | with_reducible refine w_meth ?_
  | with_reducible refine t_test ?_
  | with_reducible refine t_B ?_
  | with_reducible refine t_and ?_
  | with_reducible refine t_or ?_
  | with_reducible refine t_not ?_
  | with_reducible refine w_andV ?_
  | with_reducible refine w_orV ?_
  | with_reducible refine w_notV ?_
  | with_reducible refine w_if ?_
  | with_reducible refine w_chain ?_
  | with_reducible refine o_lt ?_
  | with_reducible refine o_gt ?_
  | with_reducible refine o_le ?_
  | with_reducible refine o_ge ?_
  | with_reducible refine o_equI ?_
  | with_reducible refine o_neqI ?_
  | with_reducible refine o_neg ?_
  | with_reducible refine c_abs ?_
  | with_reducible refine c_int ?_
  | with_reducible refine g_asgX ?_
  | with_reducible refine g_asg ?_
  | with_reducible refine g_drop ?_
  | with_reducible refine g_if ?_
  | with_reducible refine g_next ?_
  | with_reducible refine g_assoc ?_
  | with_reducible refine g_retS ?_
  | with_reducible refine exbl ?_
  | with_reducible refine tT ?_
  | with_reducible refine tF ?_
  | with_reducible refine tNT ?_
  | with_reducible refine tNF ?_
  | ((with_reducible refine' ifpB ?pfh ?_); (case pfh => rfl))
  | ((with_reducible refine' ifnB ?pfh ?_); (case pfh => rfl)))
local macro_rules | `(tactic| walk_at "fl") => `(tactic| first
  | refine ⟨_, _, _, rfl, Tp.cl_Plank ‹_›, Tp.n_long ‹_›, rfl, ?_⟩
  | refine ⟨_, _, _, rfl, Tp.cl_Plank ‹_›, Tp.n_stakes ‹_›, rfl, ?_⟩
  | refine ⟨_, _, _, rfl, Tp.cl_Plank ‹_›, Tp.n_limit ‹_›, rfl, ?_⟩
  | refine ⟨_, _, _, rfl, Tp.cl_Loads ‹_›, Tp.n_plank ‹_›, rfl, ?_⟩
  | refine ⟨_, _, _, rfl, Tp.cl_Loads ‹_›, Tp.n_weights ‹_›, rfl, ?_⟩
  | refine ⟨_, _, _, rfl, Tp.cl_Loads ‹_›, Tp.n_known ‹_›, rfl, ?_⟩
  | refine ⟨_, _, _, rfl, Tp.cl_Loads ‹_›, Tp.n_over ‹_›, rfl, ?_⟩)
local macro_rules | `(tactic| walk_at "pf") => `(tactic| repeat (walk_at "pf1"))

def bareW (L : Int) (hs : List (Rat × Rat)) : Wd := ⟨L, [], hs⟩
theorem bare_ok {L : Int} {hs : List (Rat × Rat)} (hL : 2 ≤ L ∧ L ≤ 10) (hl : hs.length ≤ 5) (hw : ∀ h ∈ hs, WOk L h) : (bareW L hs).Ok := by
  refine ⟨⟨hL.1, by show L ≤ 180; omega⟩, by show (0 : Nat) ≤ 5; omega, (fun p hp => nomatch hp), (fun i a b h _ => ?_), hl, hw⟩
  cases h
theorem bare_fin {L : Int} {hs : List (Rat × Rat)} {fin : List Int} (h : Fin_ (bareW L hs) (allL (bareW L hs).n) fin) : fin = [] := by
  have := h.len
  have e : (allL (bareW L hs).n).length = 0 := rfl
  rw [e] at this
  exact List.length_eq_zero_iff.mp (by omega)
theorem bare_safe {L : Int} {hs : List (Rat × Rat)} {m : Rat} (hL : 2 ≤ L ∧ L ≤ 10) : stTo (bareW L hs) [] m (([] : List Int).length + 1) = [D.tup [.int (-1), .int 0, .tup [.int 0, .int 1], .tup [.int L, .int 1]]] := by
  show [stD (bareW L hs) [] m 0] = _
  have e1 : bgQ (bareW L hs) [] m 0 = ((0 : Int) : Rat) := rfl
  have e2 : enQ (bareW L hs) [] m 0 = (L : Rat) := rfl
  have e3 : ¬ enQ (bareW L hs) [] m 0 < bgQ (bareW L hs) [] m 0 := by
    rw [e1, e2]
    intro h
    have := Rat.intCast_lt_intCast.mp h
    omega
  unfold stD
  rw [if_neg e3, e1, e2]
  rfl
def pBareRight : PT_ := fun Γ ds R => ∃ l : List Int, ds = [.lst (l.map .int)] ∧ l.length = 50 ∧ Dg l ∧ Γ.z = [] ∧ R (.bl true)
abbrev N_law_bare_right : List Str := ["_law_digits_here", "_law_long", "_law_spots", "_law_k", "_law_heavy_here", "_law_spot", "_law_plank"]
theorem sc_law_bare_right : FnScope N_law_bare_right ["_law_digits_here"] (defScope s_law_bare_right) := ⟨rfl, rfl, rfl, by decide +kernel, rfl, by decide +kernel, by decide +kernel⟩
theorem ok_law_bare_right {P : Program} {w : World} {K : PySem.W.Frag} {mg : Str → Option Value} {base : Heap} {aN aO CP CL : Addr} (T : Tp K mg aN aO CP CL)  (C_Plank : Fc P w K mg base "Plank" CP ["self", "length", "props", "bend"] 7 (SpX K (pPlank CP)) [.non]) (F_law_cut : Fk P w K mg base "_law_cut" ["_law_top", "_law_bottom"] 1 (SpG K (pCut))) (F_most_borne : Fk P w K mg base "most_borne" ["plank", "weights"] 11 (SpG K (pMost CP))) (F_safe : Fk P w K mg base "safe" ["plank", "weights", "weight"] 11 (SpX K (pSafe CP))) (F_weakest : Fk P w K mg base "weakest" ["plank", "weights"] 11 (SpG K (pWeakest CP))) {f : Addr} {fd : FuncData} (F : FunD K "_law_bare_right" "_law_bare_right" (defArgs s_law_bare_right) (defBody s_law_bare_right) (defScope s_law_bare_right) [] [] f fd) : FnOk P w K mg base CX0 12 f fd ["_law_digits_here"] (SpG K (pBareRight)) := by
  refine okG F sc_law_bare_right (by intro Γ ds R h; repeat' (first | (obtain ⟨e, _⟩ := h; subst e; rfl) | (obtain ⟨_, h⟩ := h))) (fun cdv A outer s H E hr => ?_)
  refine ⟨_, (pss_cons (ps_set (i := 1) sc_law_bare_right.nd rfl (by first | exact Or.inl rfl | exact Or.inr rfl) (pe_op (op_plusK (K := K) rfl) pe_int (pe_op op_mod (pe_callTy call_int1 (by rfl) T.b_int bt_int (pa_cons (pe_ix (ix_seqK (K := K) rfl) (pv 0) pe_int (fun _ _ => rfl)) pa_nil)) pe_int)))
      (pss_cons (ps_setLc (i := 2) (own := [("_law_k", 3)]) rfl sc_law_bare_right.nd rfl rfl (sw_true rfl rfl rfl (by decide +kernel)) (pi_range1 rfl T.b_range (pa_cons (pe_op op_mod (pe_callTy call_int1 (by rfl) T.b_int bt_int (pa_cons (pe_ix (ix_seqK (K := K) rfl) (pv 0) pe_int (fun _ _ => rfl)) pa_nil)) pe_int) pa_nil)) (blkOk_by (own := [("_law_k", 3)]) (N := N_law_bare_right) (sc := defScope s_law_bare_right) (by decide +kernel)) (fun _ _ _ _ _ => (pg_name (i := 3) sc_law_bare_right.nd rfl (by first | exact Or.inl rfl | exact Or.inr rfl))) (fun _ _ _ _ _ => pts_nil) (fun _ _ _ _ _ => (pe_F F_law_cut (hr.mono (by decide)) rfl (pa_cons (pe_op op_mod (pe_callTy call_int1 (by rfl) T.b_int bt_int (pa_cons (pe_ix (ix_seqK (K := K) rfl) (pv 0) (pe_op (op_plusK (K := K) rfl) pe_int (pv 3)) (fun _ _ => rfl)) pa_nil)) (pe_op (op_plusK (K := K) rfl) (pe_op op_mulW pe_int (pv 1)) pe_int)) (pa_cons pe_int pa_nil)))))
      (pss_cons (ps_setLc (i := 4) (own := [("_law_k", 3), ("_law_spot", 5)]) rfl sc_law_bare_right.nd rfl rfl (sw_true rfl rfl rfl (by decide +kernel)) (pi_enumK (K := K) rfl (by rfl) T.b_enumerate (pa_cons (pv 2) pa_nil)) (blkOk_by (own := [("_law_k", 3), ("_law_spot", 5)]) (N := N_law_bare_right) (sc := defScope s_law_bare_right) (by decide +kernel)) (fun _ _ _ _ _ => (pg_tupK (K := K) (n := 2) rfl rfl (pgs_cons (pg_name (i := 3) sc_law_bare_right.nd rfl (by first | exact Or.inl rfl | exact Or.inr rfl)) (pgs_cons (pg_name (i := 5) sc_law_bare_right.nd rfl (by first | exact Or.inl rfl | exact Or.inr rfl)) pgs_nil)))) (fun _ _ _ _ _ => pts_nil) (fun _ _ _ _ _ => (pe_tup (pa_cons (pv 5) (pa_cons (pe_tup (pa_cons (pe_op (op_plusK (K := K) rfl) pe_int (pe_op op_mod (pe_callTy call_int1 (by rfl) T.b_int bt_int (pa_cons (pe_ix (ix_seqK (K := K) rfl) (pv 0) (pe_op (op_plusK (K := K) rfl) pe_int (pv 3)) (fun _ _ => rfl)) pa_nil)) pe_int)) (pa_cons pe_int pa_nil))) pa_nil)))))
      (pss_cons (ps_set (i := 6) sc_law_bare_right.nd rfl (by first | exact Or.inl rfl | exact Or.inr rfl) (pe_C C_Plank (hr.mono (by decide)) rfl (pa_cons (pv 1) (pa_cons (pe_lst pa_nil) pa_nil))))
      (pss_cons (ps_if (PW.pt (pw_or (pt_cmpR op_notN (pe_F F_weakest (hr.mono (by decide)) rfl (pa_cons (pv 6) (pa_cons (pv 4) pa_nil))) pe_non (nomark _)) (pw_or1 (pt_cmpR (op_neqK (K := K) rfl hr.units) (pe_F F_most_borne (hr.mono (by decide)) rfl (pa_cons (pv 6) (pa_cons (pv 4) pa_nil))) (pe_lst pa_nil) (nomark _))))) 
          (pss_one (ps_ret pe_bl)) pss_nil)
      (pss_one (ps_ret (pe_cmpR (op_equK (K := K) rfl hr.units) (pe_F F_safe (hr.mono (by decide)) rfl (pa_cons (pv 6) (pa_cons (pv 4) (pa_cons (pe_tup (pa_cons (pe_op (op_plusK (K := K) rfl) pe_int (pe_op op_mod (pe_callTy call_int1 (by rfl) T.b_int bt_int (pa_cons (pe_ix (ix_seqK (K := K) rfl) (pv 0) pe_int (fun _ _ => rfl)) pa_nil)) pe_int)) (pa_cons pe_int pa_nil))) pa_nil)))) (pe_lst (pa_cons (pe_tup (pa_cons (pe_un un_neg pe_int) (pa_cons pe_int (pa_cons (pe_tup (pa_cons pe_int (pa_cons pe_int pa_nil))) (pa_cons (pe_tup (pa_cons (pv 1) (pa_cons pe_int pa_nil))) pa_nil))))) pa_nil)) (nomark _))))))))), ?_⟩
  try dsimp only [cxOf, Cx.nox, Cx.wish]
  rintro S ds ⟨l, rfl, hll, hdg, hz, hR⟩
  show Goes S [] (nEnd S) _ [some (.lst (l.map .int)), none, none, none, none, none, none] S.C0
  obtain ⟨d0, hd0, a0⟩ := dgA (l := l) (k := 0) (by omega)
  obtain ⟨d1, hd1, a1⟩ := dgA (l := l) (k := 1) (by omega)
  obtain ⟨d8, hd8, a8⟩ := dgA (l := l) (k := 8) (by omega)
  have m0 := Int.emod_nonneg d0 (b := 9) (by decide)
  have m1 := Int.emod_lt_of_pos d0 (b := 9) (by decide)
  have s0 := Int.emod_nonneg d1 (b := 3) (by decide)
  have s1 := Int.emod_lt_of_pos d1 (b := 3) (by decide)
  have g0 := Int.emod_nonneg d8 (b := 9) (by decide)
  have g1 := Int.emod_lt_of_pos d8 (b := 9) (by decide)
  walk_at "pf"
  refine o_ixLi a0 ?_
  walk_at "pf"
  refine o_mod (by decide) ?_
  walk_at "pf"
  obtain ⟨L, hL⟩ : ∃ L : Int, 2 + d0 % 9 = L := ⟨_, rfl⟩
  rw [hL]
  have L2 : 2 ≤ L ∧ L ≤ 10 := by omega
  refine w_lc (i_rng1 ?_)
  walk_at "pf"
  refine o_ixLi a1 ?_
  walk_at "pf"
  refine o_mod (by decide) ?_
  walk_at "pf"
  refine ⟨_, rfl, by omega, s0, by rw [rangeD_len]; omega, fun k acc => ∃ qs : List Rat, acc = qs.map fr ∧ qs.length = k ∧ ∀ q ∈ qs, 0 ≤ q ∧ q ≤ (L : Rat) ∧ Sz 10 q, ⟨[], rfl, rfl, fun _ h => nomatch h⟩, ?_, ?_⟩
  · rintro k d acc hd ⟨qs, rfl, hql, hqb⟩
    obtain ⟨hk, rfl⟩ := rangeD_get hd
    obtain ⟨dk, hdk, ak⟩ := dgA (l := l) (k := 2 + k) (by omega)
    rw [Int.natCast_add] at ak
    refine gw_name (by simp) (t_yes (tT ?_))
    rw [Int.zero_add]
    walk_at "pf"
    refine o_ixLi ak ?_
    walk_at "pf"
    refine o_mulW (mulS (n64 (by omega) (by omega)) (n64 (by omega) (by omega))) ?_
    walk_at "pf"
    refine o_mod (by omega) ?_
    walk_at "pf"
    have y1 := Int.emod_nonneg dk (b := 2 * L + 1) (by omega)
    have y2 := Int.emod_lt_of_pos dk (b := 2 * L + 1) (by omega)
    generalize dk % (2 * L + 1) = y at y1 y2 ⊢
    have e10 : (2 : Nat) ^ 10 = 1024 := by decide
    have yn : y.natAbs < 2 ^ 10 := by omega
    have bn : 2 < 2 ^ 2 := by decide
    refine ⟨y, 2, rfl, by omega, Nat.lt_of_lt_of_le yn (Nat.pow_le_pow_right (by decide) (by decide)), Nat.lt_of_lt_of_le bn (Nat.pow_le_pow_right (by decide) (by decide)), ?_⟩
    refine ⟨qs ++ [mkRat y 2], by rw [List.map_append]; rfl, by rw [List.length_append, hql]; rfl, fun q hq => ?_⟩
    rcases List.mem_append.mp hq with hq | hq
    · exact hqb q hq
    · rw [List.mem_singleton.mp hq]
      exact ⟨mk_pos (by omega) y1, mk_le (by omega) (by omega), Sz.mk (a := 10) (b := 2) (by omega) yn bn (by decide) (by decide)⟩
  rintro acc ⟨qs, rfl, hql, hqb⟩
  rw [rangeD_len] at hql
  walk_at "pf"
  refine w_lc (i_enum ?_)
  walk_at "pf"
  have e9 : (enumD (qs.map fr)).length = qs.length := by unfold enumD; rw [List.length_mapIdx, List.length_map]
  refine ⟨_, rfl, by rw [e9]; omega, fun k acc => ∃ hs : List (Rat × Rat), acc = hs.map wtD ∧ hs.length = k ∧ ∀ h ∈ hs, WOk L h, ⟨[], rfl, rfl, fun _ h => nomatch h⟩, ?_, ?_⟩
  · rintro k d acc hd ⟨hs, rfl, hsl, hsw⟩
    unfold enumD at hd
    rw [List.getElem?_mapIdx] at hd
    cases e : (qs.map fr)[k]? with
    | none => rw [e] at hd; cases hd
    | some d2 =>
      rw [e] at hd
      cases hd
      obtain ⟨q, hq, rfl⟩ := map_get e
      have hk := (List.getElem?_eq_some_iff.mp hq).1
      obtain ⟨q0, q1, sq⟩ := hqb q (List.mem_of_getElem? hq)
      obtain ⟨dk, hdk, ak⟩ := dgA (l := l) (k := 5 + k) (by omega)
      rw [Int.natCast_add] at ak
      refine gw_tup rfl (gws_cons (gw_name (by simp) (gws_cons (gw_name (by simp) (gws_nil (t_yes (tT ?_)))))))
      refine w_tup ?_
      walk_at "pf"
      refine w_tup ?_
      walk_at "pf"
      refine o_ixLi ak ?_
      walk_at "pf"
      refine o_mod (by decide) ?_
      walk_at "pf"
      refine ⟨by simp, ?_⟩
      walk_at "pf"
      refine ⟨by simp, ?_⟩
      have y1 := Int.emod_nonneg dk (b := 5) (by decide)
      have y2 := Int.emod_lt_of_pos dk (b := 5) (by decide)
      refine ⟨hs ++ [(q, ((1 + dk % 5 : Int) : Rat))], by rw [List.map_append]; rfl, by rw [List.length_append, hsl]; rfl, fun h hh => ?_⟩
      rcases List.mem_append.mp hh with hh | hh
      · exact hsw h hh
      · rw [List.mem_singleton.mp hh]
        refine ⟨q0, q1, sq, ?_, ?_⟩
        · have : ((0 : Int) : Rat) < ((1 + dk % 5 : Int) : Rat) := ilt (by omega)
          exact this
        · refine Sz.int ?_ (by decide)
          have : (2 : Nat) ^ 4 = 16 := by decide
          omega
  rintro acc ⟨hs, rfl, hsl, hsw⟩
  rw [e9] at hsl
  have ok := bare_ok (L := L) (hs := hs) L2 (by omega) hsw
  walk_at "pf"
  refine w_make (dd := [.non]) (fs := plF (bareW L hs)) (fun B => .one .non) ?_
  walk_at "pf"
  refine w_lst ?_
  walk_at "pf"
  refine ⟨by simp, ?_⟩
  walk_at "pf"
  refine ⟨fun x => ⟨bareW L hs, x, _, _, rfl, ok, rfl, rfl, rfl⟩, ?_⟩
  walk_at "pf"
  refine ⟨bareW L hs, rfl, ok, hz, fun fin hf => ?_⟩
  rw [bare_fin hf]
  walk_at "pf"
  refine o_notN ?_
  refine exbl ?_
  refine ifnB rfl ?_
  walk_at "pf"
  refine ⟨bareW L hs, rfl, ok, hz, fun fin hf => ?_⟩
  rw [bare_fin hf]
  walk_at "pf"
  refine w_lst ?_
  walk_at "pf"
  refine ⟨by simp, ?_⟩
  refine o_neqD (n := 3) (m := 3) (top_pl _ _ _) (.lst fun d hd => nomatch hd) (by decide) (by decide) fun b hb => ?_
  have hbt := hb.mpr rfl
  subst hbt
  refine exbl ?_
  refine ifnB rfl ?_
  walk_at "pf"
  refine g_ret ?_ Cov.refl
  walk_at "pf"
  refine w_callX ?_
  walk_at "pf"
  refine w_tup ?_
  walk_at "pf"
  refine o_ixLi a8 ?_
  walk_at "pf"
  refine o_mod (by decide) ?_
  walk_at "pf"
  refine ⟨by simp, ?_⟩
  walk_at "pf"
  refine ⟨bareW L hs, ((1 + d8 % 9 : Int) : Rat), rfl, ok, Sz.int ?_ (by decide), ?_, fun fin p hf => ⟨p, _, rfl, rfl, ?_⟩⟩
  · have h2 : (2 : Nat) ^ 10 ≤ 2 ^ 700 := Nat.pow_le_pow_right (by decide) (by decide)
    have h3 : (2 : Nat) ^ 10 = 1024 := by decide
    exact Nat.lt_of_lt_of_le (by omega : (1 + d8 % 9 : Int).natAbs < 2 ^ 10) h2
  · have : ((0 : Int) : Rat) < ((1 + d8 % 9 : Int) : Rat) := ilt (by omega)
    exact this
  rw [bare_fin hf]
  rw [bare_safe L2]
  walk_at "pf"
  refine w_lst ?_
  walk_at "pf"
  refine w_tup ?_
  walk_at "pf"
  refine w_tup ?_
  walk_at "pf"
  refine ⟨by simp, ?_⟩
  walk_at "pf"
  refine w_tup ?_
  walk_at "pf"
  refine ⟨by simp, ?_⟩
  walk_at "pf"
  refine ⟨by simp, ?_⟩
  walk_at "pf"
  refine ⟨by simp, ?_⟩
  have pl : Pl 3 (.lst [D.tup [.int (-1), .int 0, .tup [.int 0, .int 1], .tup [.int L, .int 1]]]) := by
    rw [← bare_safe (L := L) (hs := hs) (m := 1) L2]
    exact st_pl _ _ _ _
  refine o_equD pl pl (by decide) (by decide) fun b hb => ?_
  rw [hb.mpr rfl]
  exact hR
end PF
end
section
set_option Elab.async false
set_option linter.all false
set_option maxRecDepth 100000
set_option maxHeartbeats 2000000
namespace PF
open PySem PySem.Spec L2 RZ
local macro_rules | `(tactic| walk_at "pf1") => `(tactic| first
  | ((with_reducible refine' w_var ?pfh ?_); (case pfh => rfl))
  | with_reducible refine w_int ?_
  | with_reducible refine w_ty ?_
  | with_reducible refine w_op ?_
  | with_reducible refine w_listVals ?_ ?_
  | with_reducible refine w_cb ?_
  | with_reducible refine w_call ?_
  | with_reducible refine a_cons ?_
  | with_reducible refine a_nil ?_
  | with_reducible refine o_sub ?_
  | with_reducible refine o_plusI ?_
  | ((with_reducible refine' o_ixTu ?pfh ?_); (case pfh => rfl))
  | ((with_reducible refine' o_ixLi ?pfh ?_); (case pfh => rfl))
  | ((with_reducible refine' o_ixKe ?pfh ?_); (case pfh => rfl))
  | with_reducible refine w_bl ?_
  | with_reducible refine w_non ?_
  | with_reducible refine w_str ?_
  | with_reducible refine w_un ?_
  | with_reducible refine w_fld ?_
  | with_reducible refine w_meth ?_
  | with_reducible refine t_test ?_
  | with_reducible refine t_B ?_
  | with_reducible refine t_and ?_
  | with_reducible refine t_or ?_
  | with_reducible refine t_not ?_
  | with_reducible refine w_andV ?_
  | with_reducible refine w_orV ?_
  | with_reducible refine w_notV ?_
  | with_reducible refine w_if ?_
  | with_reducible refine w_chain ?_
  | with_reducible refine o_lt ?_
  | with_reducible refine o_gt ?_
  | with_reducible refine o_le ?_
  | with_reducible refine o_ge ?_
  | with_reducible refine o_equI ?_
  | with_reducible refine o_neqI ?_
  | with_reducible refine o_neg ?_
  | with_reducible refine c_abs ?_
  | with_reducible refine c_int ?_
  | with_reducible refine g_asgX ?_
  | with_reducible refine g_asg ?_
  | with_reducible refine g_drop ?_
  | with_reducible refine g_if ?_
  | with_reducible refine g_next ?_
  | with_reducible refine g_assoc ?_
  | with_reducible refine g_retS ?_
  | with_reducible refine exbl ?_
  | with_reducible refine tT ?_
  | with_reducible refine tF ?_
  | with_reducible refine tNT ?_
  | with_reducible refine tNF ?_
  | ((with_reducible refine' ifpB ?pfh ?_); (case pfh => rfl))
  | ((with_reducible refine' ifnB ?pfh ?_); (case pfh => rfl)))
local macro_rules | `(tactic| walk_at "fl") => `(tactic| first
  | refine ⟨_, _, _, rfl, Tp.cl_Plank ‹_›, Tp.n_long ‹_›, rfl, ?_⟩
  | refine ⟨_, _, _, rfl, Tp.cl_Plank ‹_›, Tp.n_stakes ‹_›, rfl, ?_⟩
  | refine ⟨_, _, _, rfl, Tp.cl_Plank ‹_›, Tp.n_limit ‹_›, rfl, ?_⟩
  | refine ⟨_, _, _, rfl, Tp.cl_Loads ‹_›, Tp.n_plank ‹_›, rfl, ?_⟩
  | refine ⟨_, _, _, rfl, Tp.cl_Loads ‹_›, Tp.n_weights ‹_›, rfl, ?_⟩
  | refine ⟨_, _, _, rfl, Tp.cl_Loads ‹_›, Tp.n_known ‹_›, rfl, ?_⟩
  | refine ⟨_, _, _, rfl, Tp.cl_Loads ‹_›, Tp.n_over ‹_›, rfl, ?_⟩)
local macro_rules | `(tactic| walk_at "pf") => `(tactic| repeat (walk_at "pf1"))

def dueD (kv : List (Int × Rat)) (m : Rat) : List D := (kv.filter fun x => decide (x.2 = m)).map fun x => .tup [.int x.1, fr m]
theorem ris_min {q0 : Rat} {qs rs : List Rat} (h : Ris (q0 :: qs) rs) : ∃ rs', rs = minQ q0 (q0 :: qs) :: rs' := by
  cases rs with
  | nil => exact absurd ((h.2 q0).mpr List.mem_cons_self) (fun z => nomatch z)
  | cons r rs =>
    have h1 : r ∈ q0 :: qs := (h.2 r).mp List.mem_cons_self
    have h2 := (minQ_le (q0 :: qs) q0).2 r h1
    have h3 : minQ q0 (q0 :: qs) ∈ r :: rs := (h.2 _).mpr minQ_in
    rcases List.mem_cons.mp h3 with e | e
    · exact ⟨rs, by rw [e]⟩
    · have h4 := (List.pairwise_cons.mp h.1).1 _ e
      exact absurd h2 (Rat.not_le.mpr h4)
theorem due_hd {kv : List (Int × Rat)} {rs : List Rat} (h : Ris (kv.map (·.2)) rs) (hk : 0 < kv.length) : atI (rs.map fr) 0 = some (fr (rs.headD 0)) := by
  cases kv with
  | nil => cases hk
  | cons x kv =>
    obtain ⟨rs', e⟩ := ris_min h
    subst e
    exact atI_nat (j := 0) rfl
theorem due_all {kv : List (Int × Rat)} {rs : List Rat} (h : Ris (kv.map (·.2)) rs) : atI (dueD kv (rs.headD 0) ++ [D.non]) 0 = some (wkD kv) := by
  cases kv with
  | nil => exact atI_nat (j := 0) rfl
  | cons x kv =>
    obtain ⟨rs', e⟩ := ris_min h
    subst e
    have e2 : (minQ x.2 (x.2 :: kv.map (·.2)) :: rs').headD 0 = minQ x.2 ((x :: kv).map (·.2)) := rfl
    show atI (dueD (x :: kv) ((minQ x.2 (x.2 :: kv.map (·.2)) :: rs').headD 0) ++ [D.non]) 0 = _
    rw [e2]
    unfold dueD
    have e3 : wkD (x :: kv) = match (x :: kv).filter fun y => decide (y.2 = minQ x.2 ((x :: kv).map (·.2))) with
      | [] => .non
      | y :: _ => .tup [.int y.1, fr (minQ x.2 ((x :: kv).map (·.2)))] := rfl
    rw [e3]
    cases ((x :: kv).filter fun y => decide (y.2 = minQ x.2 ((x :: kv).map (·.2)))) with
    | nil => exact atI_nat (j := 0) rfl
    | cons y r => exact atI_nat (j := 0) rfl
theorem due_step {kv : List (Int × Rat)} {k : Nat} {x : Int} {q m : Rat} (h : kv[k]? = some (x, q)) : dueD (kv.take (k + 1)) m = if q = m then dueD (kv.take k) m ++ [.tup [.int x, fr m]] else dueD (kv.take k) m := by
  rw [take_succ h]
  unfold dueD
  rw [List.filter_append, List.map_append]
  by_cases e : q = m
  · rw [if_pos e, List.filter_cons_of_pos (by exact decide_eq_true e)]
    rfl
  · rw [if_neg e, List.filter_cons_of_neg (by simp [e])]
    exact List.append_nil _
theorem due_len (kv : List (Int × Rat)) (m : Rat) : (dueD kv m).length ≤ kv.length := by
  unfold dueD
  rw [List.length_map]
  exact List.length_filter_le _ _
theorem wk_pl (kv : List (Int × Rat)) : Pl 2 (wkD kv) := by
  cases kv with
  | nil => exact .non
  | cons x kv =>
    have e3 : wkD (x :: kv) = match (x :: kv).filter fun y => decide (y.2 = minQ x.2 ((x :: kv).map (·.2))) with
      | [] => .non
      | y :: _ => .tup [.int y.1, fr (minQ x.2 ((x :: kv).map (·.2)))] := rfl
    rw [e3]
    cases ((x :: kv).filter fun y => decide (y.2 = minQ x.2 ((x :: kv).map (·.2)))) with
    | nil => exact .non
    | cons y r =>
      refine .tup fun d hd => ?_
      simp only [List.mem_cons, List.not_mem_nil, or_false] at hd
      rcases hd with rfl | rfl
      · exact .int _
      · exact fr_pl _
theorem top_get {w : Wd} {lot : List Int} {d : D} (h : d ∈ topsTo w lot (lot.length - 1)) : ∃ i, i + 1 < lot.length ∧ d = topD w lot i := by
  obtain ⟨i, hi, rfl⟩ := List.mem_map.mp h
  have := List.mem_range.mp hi
  exact ⟨i, by omega, rfl⟩
theorem top_sz {w : Wd} {lot : List Int} (ok : w.Ok) (hl : Lot w lot) {i : Nat} (hi : i + 1 < lot.length) (hb : 0 < botQ w lot i) : Sz 2200 (topQ w lot i) := by
  have s1 := ok.sp_sz hl (i := i + 1) hi
  have l1 := ok.lo_sz hl (i := i + 1) (by omega)
  have l2 := ok.lo_sz hl (i := i + 2) (by omega)
  have e0 : ¬ botQ w lot i = 0 := fun z => by rw [z] at hb; exact Rat.lt_irrefl hb
  unfold topQ
  rw [if_neg e0]
  exact (l1.add ((s1.mul (l2.sub l1)).div (bot_sz ok hl hi) hb)).mono (by decide)
def pLaw : PT_ := fun Γ ds R => ∃ ns : List Int, ds = [.slst ns] ∧ Γ.z = [] ∧ R (.bl true)
abbrev N_law : List Str := ["_law_script", "_law_place", "_law_digits_here", "_law_world_here", "_law_plank", "_law_spares_here", "_law_nothing", "_law_key", "_law_stood", "_law_sides_here", "_law_some", "_law_due", "_law_prop", "_law_laid", "_law_tops_here", "_law_heavier", "_law_one", "_law_row", "_law_much", "_law_left_here", "_law_right_here", "_law_both", "_law_spot"]
theorem sc_law : FnScope N_law ["_law_script"] (defScope s_law) := ⟨rfl, rfl, rfl, by decide +kernel, rfl, by decide +kernel, by decide +kernel⟩
theorem ok_law {P : Program} {w : World} {K : PySem.W.Frag} {mg : Str → Option Value} {base : Heap} {aN aO CP CL : Addr} (T : Tp K mg aN aO CP CL)  (F_law_bare_right : Fk P w K mg base "_law_bare_right" ["_law_digits_here"] 12 (SpG K (pBareRight))) (F_law_by : Fk P w K mg base "_law_by" ["_law_one", "_law_other"] 2 (SpG K (pTimes))) (F_law_cell : Fk P w K mg base "_law_cell" ["_law_script", "_law_k"] 1 (SpG K (pCell))) (F_law_cut : Fk P w K mg base "_law_cut" ["_law_top", "_law_bottom"] 1 (SpG K (pCut))) (F_law_digits : Fk P w K mg base "_law_digits" ["_law_cell_here", "_law_wanted"] 1 (SpG K (pDigits))) (F_law_left : Fk P w K mg base "_law_left" ["_law_many", "_law_spares_here", "_law_shares", "_law_much"] 3 (SpG K (pLeft))) (F_law_made : Fk P w K mg base "_law_made" ["_law_world_here"] 9 (SpG K (pMade CP))) (F_law_plus : Fk P w K mg base "_law_plus" ["_law_one", "_law_other"] 2 (SpG K (pPlus))) (F_law_right : Fk P w K mg base "_law_right" ["_law_digits_here", "_law_world_here", "_law_plank", "_law_spares_here", "_law_stood", "_law_much"] 12 (SpG K (pRight CP))) (F_law_rising : Fk P w K mg base "_law_rising" ["_law_some"] 2 (SpG K (pRising))) (F_law_sides : Fk P w K mg base "_law_sides" ["_law_world_here", "_law_stood"] 4 (SpG K (pSides))) (F_law_spares : Fk P w K mg base "_law_spares" ["_law_world_here", "_law_heavy_here"] 4 (SpG K (pLSpares))) (F_law_stays : Fk P w K mg base "_law_stays" ["_law_world_here", "_law_spares_here", "_law_stood", "_law_much", "_law_spot"] 4 (SpG K (pStays))) (F_law_tops : Fk P w K mg base "_law_tops" ["_law_world_here", "_law_stood", "_law_sides_here"] 3 (SpG K (pTops))) (F_law_world : Fk P w K mg base "_law_world" ["_law_digits_here", "_law_most"] 4 (SpG K (pWorld))) (F_most_borne : Fk P w K mg base "most_borne" ["plank", "weights"] 11 (SpG K (pMost CP))) (F_weakest : Fk P w K mg base "weakest" ["plank", "weights"] 11 (SpG K (pWeakest CP))) {f : Addr} {fd : FuncData} (F : FunD K "law" "law" (defArgs s_law) (defBody s_law) (defScope s_law) [] [] f fd) : FnOk P w K mg base CX0 13 f fd ["_law_script"] (SpG K (pLaw)) := by
  refine okG F sc_law (by intro Γ ds R h; repeat' (first | (obtain ⟨e, _⟩ := h; subst e; rfl) | (obtain ⟨_, h⟩ := h))) (fun cdv A outer s H E hr => ?_)
  refine ⟨_, (pss_cons (ps_for PassesOwn.never rfl (pi_range1 rfl T.b_range (pa_cons (pe_callB (call_max2 rfl) (by rfl) T.b_max bt_max (pa_cons pe_int (pa_cons (pe_callB (call_min2 rfl) (by rfl) T.b_min bt_min (pa_cons pe_int (pa_cons (pe_callB (call_len_seqK (K := K) rfl) (by rfl) T.b_len bt_len (pa_cons (pv 0) pa_nil)) pa_nil))) pa_nil))) pa_nil)) (pg_name (i := 1) sc_law.nd rfl (by first | exact Or.inl rfl | exact Or.inr rfl)) 
          (pss_cons (ps_set (i := 2) sc_law.nd rfl (by first | exact Or.inl rfl | exact Or.inr rfl) (pe_F F_law_digits (hr.mono (by decide)) rfl (pa_cons (pe_F F_law_cell (hr.mono (by decide)) rfl (pa_cons (pv 0) (pa_cons (pv 1) pa_nil))) (pa_cons pe_int pa_nil))))
          (pss_cons (ps_set (i := 3) sc_law.nd rfl (by first | exact Or.inl rfl | exact Or.inr rfl) (pe_F F_law_world (hr.mono (by decide)) rfl (pa_cons (pv 2) (pa_cons pe_int pa_nil))))
          (pss_cons (ps_set (i := 4) sc_law.nd rfl (by first | exact Or.inl rfl | exact Or.inr rfl) (pe_F F_law_made (hr.mono (by decide)) rfl (pa_cons (pv 3) pa_nil)))
          (pss_cons (ps_set (i := 5) sc_law.nd rfl (by first | exact Or.inl rfl | exact Or.inr rfl) (pe_F F_law_spares (hr.mono (by decide)) rfl (pa_cons (pv 3) (pa_cons (pe_dget (hu_of hr) (pv 3) pe_str (fun _ _ => rfl)) pa_nil))))
          (pss_cons (ps_set (i := 6) sc_law.nd rfl (by first | exact Or.inl rfl | exact Or.inr rfl) (pe_callTy (call_dictTK (K := K) rfl rfl hr.units) (by rfl) T.b_dict bt_dict (pa_cons (pe_lock (pe_lc (own := [("_law_key", 7)]) rfl sc_law.nd (pi_keys (pv 5)) (blkOk_by (own := [("_law_key", 7)]) (N := N_law) (sc := defScope s_law) (by decide +kernel)) (fun _ _ _ _ _ => (pg_name (i := 7) sc_law.nd rfl (by first | exact Or.inl rfl | exact Or.inr rfl))) (fun _ _ _ _ _ => pts_nil) (fun _ _ _ _ _ => (pe_tup (pa_cons (pv 7) (pa_cons (pe_tup (pa_cons pe_int (pa_cons pe_int pa_nil))) pa_nil)))))) pa_nil)))
          (pss_cons (ps_set (i := 8) sc_law.nd rfl (by first | exact Or.inl rfl | exact Or.inr rfl) (pe_F F_law_left (hr.mono (by decide)) rfl (pa_cons (pe_callB (call_len_seqK (K := K) rfl) (by rfl) T.b_len bt_len (pa_cons (pe_dget (hu_of hr) (pv 3) pe_str (fun _ _ => rfl)) pa_nil)) (pa_cons (pv 5) (pa_cons (pv 6) (pa_cons (pe_tup (pa_cons pe_int (pa_cons pe_int pa_nil))) pa_nil))))))
          (pss_cons (ps_set (i := 9) sc_law.nd rfl (by first | exact Or.inl rfl | exact Or.inr rfl) (pe_F F_law_sides (hr.mono (by decide)) rfl (pa_cons (pv 3) (pa_cons (pv 8) pa_nil))))
          (pss_cons (ps_set (i := 10) sc_law.nd rfl (by first | exact Or.inl rfl | exact Or.inr rfl) (pe_F F_law_rising (hr.mono (by decide)) rfl (pa_cons (pe_callTy (call_listV rfl) (by rfl) T.b_list bt_list (pa_cons (pe_bm0 PySem.F.plainAttrs_dict PySem.F.slot_dict_values PySem.F.type_dict_values mt_values (pv 9)) pa_nil)) pa_nil)))
          (pss_cons (ps_setLc (i := 11) (own := [("_law_prop", 12)]) rfl sc_law.nd rfl rfl (sw_true rfl rfl rfl (by decide +kernel)) (pi_tupK (K := K) rfl (pv 8)) (blkOk_by (own := [("_law_prop", 12)]) (N := N_law) (sc := defScope s_law) (by decide +kernel)) (fun _ _ _ _ _ => (pg_name (i := 12) sc_law.nd rfl (by first | exact Or.inl rfl | exact Or.inr rfl))) (fun _ _ _ _ _ => (pts_one (pt_cmpR (op_equK (K := K) rfl hr.units) (pe_dget (hu_of hr) (pv 9) (pv 12) (fun _ _ => rfl)) (pe_ix (ix_seqK (K := K) rfl) (pv 10) pe_int (fun _ _ => rfl)) (nomark _)))) (fun _ _ _ _ _ => (pe_tup (pa_cons (pv 12) (pa_cons (pe_ix (ix_seqK (K := K) rfl) (pv 10) pe_int (fun _ _ => rfl)) pa_nil)))))
          (pss_cons (ps_set (i := 13) sc_law.nd rfl (by first | exact Or.inl rfl | exact Or.inr rfl) (pe_callTy (call_list_ofK (K := K) rfl) (by rfl) T.b_list bt_list (pa_cons (pe_dget (hu_of hr) (pv 3) pe_str (fun _ _ => rfl)) pa_nil)))
          (pss_cons (ps_if (PW.pt (pw_or (pt_cmpR (op_neqK (K := K) rfl hr.units) (pe_F F_weakest (hr.mono (by decide)) rfl (pa_cons (pv 4) (pa_cons (pv 13) pa_nil))) (pe_ix (ix_seqK (K := K) rfl) (pe_op (op_plusK (K := K) rfl) (pv 11) (pe_lst (pa_cons pe_non pa_nil))) pe_int (fun _ _ => rfl)) (nomark _)) (pw_or1 (pt_cmpR (op_neqK (K := K) rfl hr.units) (pv 13) (pe_callTy (call_list_ofK (K := K) rfl) (by rfl) T.b_list bt_list (pa_cons (pe_dget (hu_of hr) (pv 3) pe_str (fun _ _ => rfl)) pa_nil)) (nomark _))))) 
              (pss_one (ps_ret pe_bl)) pss_nil)
          (pss_cons (ps_set (i := 14) sc_law.nd rfl (by first | exact Or.inl rfl | exact Or.inr rfl) (pe_F F_law_tops (hr.mono (by decide)) rfl (pa_cons (pv 3) (pa_cons (pv 8) (pa_cons (pv 9) pa_nil)))))
          (pss_cons (ps_if (PW.pt (pw_or (pt_cmpR (op_neqK (K := K) rfl hr.units) (pe_F F_most_borne (hr.mono (by decide)) rfl (pa_cons (pv 4) (pa_cons (pv 13) pa_nil))) (pv 14) (nomark _)) (pw_or1 (pt_cmpR (op_neqK (K := K) rfl hr.units) (pv 13) (pe_callTy (call_list_ofK (K := K) rfl) (by rfl) T.b_list bt_list (pa_cons (pe_dget (hu_of hr) (pv 3) pe_str (fun _ _ => rfl)) pa_nil)) (nomark _))))) 
              (pss_one (ps_ret pe_bl)) pss_nil)
          (pss_cons (ps_set (i := 15) sc_law.nd rfl (by first | exact Or.inl rfl | exact Or.inr rfl) (pe_op (op_plusK (K := K) rfl) (pe_lst (pa_cons (pe_F F_law_cut (hr.mono (by decide)) rfl (pa_cons (pe_op (op_plusK (K := K) rfl) pe_int (pe_op op_mod (pe_callTy call_int1 (by rfl) T.b_int bt_int (pa_cons (pe_ix (ix_seqK (K := K) rfl) (pv 2) pe_int (fun _ _ => rfl)) pa_nil)) pe_int)) (pa_cons (pe_op (op_plusK (K := K) rfl) pe_int (pe_op op_mod (pe_callTy call_int1 (by rfl) T.b_int bt_int (pa_cons (pe_ix (ix_seqK (K := K) rfl) (pv 2) pe_int (fun _ _ => rfl)) pa_nil)) pe_int)) pa_nil))) pa_nil)) (pe_slice (sl_seqK (K := K) rfl) (pv 10) po_none (po_some pe_int))))
          (pss_cons (ps_set (i := 15) sc_law.nd rfl (by first | exact Or.inl rfl | exact Or.inr rfl) (pe_op (op_plusK (K := K) rfl) (pe_op (op_plusK (K := K) rfl) (pv 15) (pe_lc (own := [("_law_one", 16)]) rfl sc_law.nd (pi_listK (K := K) rfl (pe_slice (sl_seqK (K := K) rfl) (pv 10) po_none (po_some pe_int))) (blkOk_by (own := [("_law_one", 16)]) (N := N_law) (sc := defScope s_law) (by decide +kernel)) (fun _ _ _ _ _ => (pg_name (i := 16) sc_law.nd rfl (by first | exact Or.inl rfl | exact Or.inr rfl))) (fun _ _ _ _ _ => pts_nil) (fun _ _ _ _ _ => (pe_F F_law_by (hr.mono (by decide)) rfl (pa_cons (pv 16) (pa_cons (pe_tup (pa_cons pe_int (pa_cons pe_int pa_nil))) pa_nil)))))) (pe_lc (own := [("_law_row", 17)]) rfl sc_law.nd (pi_listK (K := K) rfl (pe_slice (sl_seqK (K := K) rfl) (pv 14) po_none (po_some pe_int))) (blkOk_by (own := [("_law_row", 17)]) (N := N_law) (sc := defScope s_law) (by decide +kernel)) (fun _ _ _ _ _ => (pg_name (i := 17) sc_law.nd rfl (by first | exact Or.inl rfl | exact Or.inr rfl))) (fun _ _ _ _ _ => pts_nil) (fun _ _ _ _ _ => (pe_ix (ix_seqK (K := K) rfl) (pv 17) pe_int (fun _ _ => rfl))))))
          (pss_cons (ps_for PassesOwn.never rfl (pi_listK (K := K) rfl (pe_lc (own := [("_law_one", 16)]) rfl sc_law.nd (pi_listK (K := K) rfl (pv 15)) (blkOk_by (own := [("_law_one", 16)]) (N := N_law) (sc := defScope s_law) (by decide +kernel)) (fun _ _ _ _ _ => (pg_name (i := 16) sc_law.nd rfl (by first | exact Or.inl rfl | exact Or.inr rfl))) (fun _ _ _ _ _ => (pts_one (pt_cmpR op_gt (pe_ix (ix_seqK (K := K) rfl) (pv 16) pe_int (fun _ _ => rfl)) pe_int (nomark _)))) (fun _ _ _ _ _ => (pv 16)))) (pg_name (i := 18) sc_law.nd rfl (by first | exact Or.inl rfl | exact Or.inr rfl)) 
              (pss_one (ps_if (pt_not (pt_val (pe_F F_law_right (hr.mono (by decide)) rfl (pa_cons (pe_slice (sl_seqK (K := K) rfl) (pv 2) (po_some pe_int) po_none) (pa_cons (pv 3) (pa_cons (pv 4) (pa_cons (pv 5) (pa_cons (pv 8) (pa_cons (pv 18) pa_nil))))))) (by intro _; rfl))) 
                  (pss_one (ps_ret pe_bl)) pss_nil)))
          (pss_cons (ps_for PassesOwn.never rfl (pi_listK (K := K) rfl (pe_lc (own := [("_law_one", 16)]) rfl sc_law.nd (pi_listK (K := K) rfl (pv 14)) (blkOk_by (own := [("_law_one", 16)]) (N := N_law) (sc := defScope s_law) (by decide +kernel)) (fun _ _ _ _ _ => (pg_name (i := 16) sc_law.nd rfl (by first | exact Or.inl rfl | exact Or.inr rfl))) (fun _ _ _ _ _ => (pts_one (pt_cmpR op_gt (pe_ix (ix_seqK (K := K) rfl) (pe_ix (ix_seqK (K := K) rfl) (pv 16) pe_int (fun _ _ => rfl)) pe_int (fun _ _ => rfl)) pe_int (nomark _)))) (fun _ _ _ _ _ => (pv 16)))) (pg_tupK (K := K) (n := 4) rfl rfl (pgs_cons (pg_name (i := 19) sc_law.nd rfl (by first | exact Or.inl rfl | exact Or.inr rfl)) (pgs_cons (pg_name (i := 20) sc_law.nd rfl (by first | exact Or.inl rfl | exact Or.inr rfl)) (pgs_cons (pg_name (i := 21) sc_law.nd rfl (by first | exact Or.inl rfl | exact Or.inr rfl)) (pgs_cons (pg_name (i := 22) sc_law.nd rfl (by first | exact Or.inl rfl | exact Or.inr rfl)) pgs_nil))))) 
              (pss_cons (ps_if (pt_not (pt_val (pe_F F_law_stays (hr.mono (by decide)) rfl (pa_cons (pv 3) (pa_cons (pv 5) (pa_cons (pv 8) (pa_cons (pv 21) (pa_cons (pv 22) pa_nil)))))) (by intro _; rfl))) 
                  (pss_one (ps_ret pe_bl)) pss_nil)
              (pss_one (ps_if (pt_val (pe_F F_law_stays (hr.mono (by decide)) rfl (pa_cons (pv 3) (pa_cons (pv 5) (pa_cons (pv 8) (pa_cons (pe_F F_law_plus (hr.mono (by decide)) rfl (pa_cons (pv 21) (pa_cons (pe_tup (pa_cons pe_int (pa_cons pe_int pa_nil))) pa_nil))) (pa_cons (pv 22) pa_nil)))))) (by intro _; rfl)) 
                  (pss_one (ps_ret pe_bl)) pss_nil))))
          (pss_one (ps_if (pt_not (pt_val (pe_F F_law_bare_right (hr.mono (by decide)) rfl (pa_cons (pe_slice (sl_seqK (K := K) rfl) (pv 2) (po_some pe_int) po_none) pa_nil)) (by intro _; rfl))) 
              (pss_one (ps_ret pe_bl)) pss_nil))))))))))))))))))))
      (pss_one (ps_ret pe_bl))), ?_⟩
  try dsimp only [cxOf, Cx.nox, Cx.wish]
  rintro S ds ⟨ns, rfl, hz, hR⟩
  show Goes S [] (nEnd S) _ [some (.slst ns), none, none, none, none, none, none, none, none, none, none, none, none, none, none, none, none, none, none, none, none, none, none] S.C0
  refine g_for (i_rng1 ?_)
  walk_at "pf"
  refine c_lenS ?_
  walk_at "pf"
  refine c_min ?_
  walk_at "pf"
  refine c_max ?_
  walk_at "pf"
  obtain ⟨N, hN, hN3⟩ : ∃ N : Int, (if (if (ns.length : Int) < 3 then (ns.length : Int) else 3) > 1 then (if (ns.length : Int) < 3 then (ns.length : Int) else 3) else 1) = N ∧ 0 ≤ N ∧ N ≤ 3 := ⟨_, rfl, by omega, by omega⟩
  rw [hN]
  refine ⟨_, rfl, by omega, hN3.1, fun i ρ Γ => ∃ y1 y2 y3 y4 y5 y6 y7 y8 y9 y10 y11 y12 y13 y14 y15 y16 y17 y18 y19 y20 y21 y22 : Option D, ρ = [some (.slst ns), y1, y2, y3, y4, y5, y6, y7, y8, y9, y10, y11, y12, y13, y14, y15, y16, y17, y18, y19, y20, y21, y22] ∧ Γ = S.C0, ⟨_, _, _, _, _, _, _, _, _, _, _, _, _, _, _, _, _, _, _, _, _, _, rfl, rfl⟩, ?_, ?_⟩
  · rintro i d ρ Γ B1 hd ⟨y1, y2, y3, y4, y5, y6, y7, y8, y9, y10, y11, y12, y13, y14, y15, y16, y17, y18, y19, y20, y21, y22, rfl, rfl⟩
    obtain ⟨hi, rfl⟩ := rangeD_get hd
    refine gw_name trivial ?_
    rw [Int.zero_add]
    walk_at "pf"
    refine ⟨ns, i, rfl, by omega, fun c => ?_⟩
    walk_at "pf"
    refine ⟨c, rfl, fun l hll hdg => ?_⟩
    walk_at "pf"
    refine ⟨l, rfl, hll, hdg, fun w ok hn1 => ?_⟩
    have hn := ok.hn
    walk_at "pf"
    refine ⟨w, rfl, ok, ?_⟩
    walk_at "pf"
    refine w_dgetS ?_
    walk_at "pf"
    refine ⟨_, _, _, .inl rfl, rfl, rfl, ?_⟩
    walk_at "pf"
    refine ⟨w, rfl, ok, ?_⟩
    refine g_asg (w_dictT (a_cons ?_))
    refine w_lcKeysT (i := 5) rfl (kD_keys _ _) hz (by have := keysL_len hn hn; omega) (fun j acc => acc = ((keysL w.n w.n).take j).map fun k => .tup [.key k, fr 0]) rfl ?_ ?_
    · rintro a j k acc hk rfl
      refine gw_name (by simp) (t_yes (tT ?_))
      refine w_tup ?_
      walk_at "pf"
      refine w_tup ?_
      walk_at "pf"
      refine ⟨by simp, ?_⟩
      walk_at "pf"
      refine ⟨by simp, ?_⟩
      exact map_snoc (f := fun k => D.tup [.key k, fr 0]) hk
    rintro acc rfl
    rw [List.take_length]
    walk_at "pf"
    refine ⟨(keysL w.n w.n).map fun k => (k, fr 0), by rw [List.map_map]; rfl, ?_, ?_⟩
    · have : ((keysL w.n w.n).map fun k => (k, fr 0)).map (·.1) = keysL w.n w.n := by rw [List.map_map]; exact List.map_id _
      rw [this]
      exact keysL_nodup hn
    have e1 : (((keysL w.n w.n).map fun k => (k, fr 0)).map fun kv => (ik kv.1, kv.2)) = kD w.n fun k => fr 0 := by rw [List.map_map]; rfl
    rw [e1]
    walk_at "pf"
    refine w_dgetS ?_
    walk_at "pf"
    refine ⟨_, _, _, .inl rfl, rfl, rfl, ?_⟩
    walk_at "pf"
    refine c_len (.inl rfl) ?_
    walk_at "pf"
    rw [n_len]
    refine w_tup ?_
    walk_at "pf"
    refine ⟨by simp, ?_⟩
    walk_at "pf"
    have s0 : Sm 0 := Sz.zero.sm (by decide)
    refine ⟨w, spk w, fun _ => 0, 0, rfl, hn, hz, s0, fun k hk => ⟨(spk_sz ok hk).sm (by decide), s0, by rw [Rat.zero_mul]; exact s0⟩, fun fin hu => ?_⟩
    have eF : (fun k => decide (spk w k < 0 * 0)) = FF w 0 0 := by funext k; unfold FF; rw [Rat.zero_mul, Rat.zero_mul]
    rw [eF] at hu
    have hf := ok.fin_of hu
    have hl := hf.isLot
    have hlen := hf.len
    rw [allL_len] at hlen
    walk_at "pf"
    refine ⟨w, fin, rfl, ok, hl, by omega, ?_⟩
    walk_at "pf"
    · exact hz
    walk_at "pf"
    have esp : (spK w fin).length = fin.length := by unfold spK spTo; rw [List.length_map, List.length_range]
    have evs : ((spD (spK w fin)).map (·.2)) = ((spK w fin).map (·.2)).map fr := by unfold spD; rw [List.map_map, List.map_map]; rfl
    refine ⟨_, rfl, ?_⟩
    rw [evs]
    have ssp : ∀ q ∈ (spK w fin).map (·.2), Sz 342 q := fun q hq => by
      obtain ⟨x, hx, rfl⟩ := List.mem_map.mp hq
      obtain ⟨k, hk⟩ := List.mem_iff_getElem?.mp hx
      have hkl := (List.getElem?_eq_some_iff.mp hk).1
      rw [esp] at hkl
      rw [spK_get hkl] at hk
      cases hk
      exact ok.sp_sz hl hkl
    walk_at "pf"
    refine ⟨(spK w fin).map (·.2), rfl, by rw [List.length_map, esp]; omega, fun q hq => (ssp q hq).sm (by decide), fun rs hrs => ?_⟩
    have hrl := ris_len hrs
    rw [List.length_map, esp] at hrl
    have srs : ∀ q ∈ rs, Sz 342 q := fun q hq => ssp q ((hrs.2 q).mp hq)
    walk_at "pf"
    refine w_lc (i_tup ?_)
    walk_at "pf"
    refine ⟨_, rfl, by rw [List.length_map]; omega, fun k acc => acc = dueD ((spK w fin).take k) (rs.headD 0), rfl, ?_, ?_⟩
    · rintro k d acc hd rfl
      obtain ⟨x, hx, rfl⟩ := map_get hd
      have hk := (List.getElem?_eq_some_iff.mp hx).1
      have ex := RR_mid (n := w.n) hx
      have sk := spK_get (w := w) hk
      refine gw_name (by simp) ?_
      rw [← ex]
      walk_at "pf"
      refine w_dgetI ?_
      walk_at "pf"
      refine ⟨_, _, _, .inl rfl, rfl, sp_look hl hk, ?_⟩
      walk_at "pf"
      refine o_ixLi (due_hd hrs (by omega)) ?_
      refine o_equD (fr_pl _) (fr_pl _) (by decide) (by decide) fun b hb => ?_
      refine ⟨_, rfl, ?_⟩
      have ds := due_step (m := rs.headD 0) sk
      have hb' : b = true ↔ spAt w fin k = rs.headD 0 := hb.trans ⟨fr_inj, fun e => by rw [e]⟩
      cases b with
      | true =>
        rw [if_pos (hb'.mp rfl)] at ds
        refine tT ?_
        refine w_tup ?_
        walk_at "pf"
        refine o_ixLi (due_hd hrs (by omega)) ?_
        walk_at "pf"
        refine ⟨by simp, ?_⟩
        exact ds.symm
      | false =>
        rw [if_neg (fun e => nomatch hb'.mpr e)] at ds
        refine tF ?_
        exact ds.symm
    rintro acc rfl
    rw [List.length_map, ← esp, List.take_length]
    have dl := due_len (spK w fin) (rs.headD 0)
    rw [esp] at dl
    walk_at "pf"
    refine w_dgetS ?_
    walk_at "pf"
    refine ⟨_, _, _, .inl rfl, rfl, rfl, ?_⟩
    walk_at "pf"
    refine c_list (.inl rfl) ?_
    walk_at "pf"
    refine ⟨w, rfl, ok, hz, fun fin' hf' => ?_⟩
    rw [fin_uniq hf' hf]
    walk_at "pf"
    refine w_lst ?_
    walk_at "pf"
    refine ⟨by simp, ?_⟩
    walk_at "pf"
    refine o_plusL (by show _ + 1 ≤ 1000; omega) ?_
    walk_at "pf"
    refine o_ixLi (due_all hrs) ?_
    refine o_neqD (wk_pl _) (wk_pl _) (by decide) (by decide) fun b hb => ?_
    have hbt := hb.mpr rfl
    subst hbt
    refine exbl ?_
    refine ifnB rfl ?_
    walk_at "pf"
    refine w_dgetS ?_
    walk_at "pf"
    refine ⟨_, _, _, .inl rfl, rfl, rfl, ?_⟩
    walk_at "pf"
    refine c_list (.inl rfl) ?_
    refine o_neqD (hs_pl _) (hs_pl _) (by decide) (by decide) fun b hb => ?_
    have hbt := hb.mpr rfl
    subst hbt
    refine exbl ?_
    refine ifnB rfl ?_
    walk_at "pf"
    refine ⟨w, fin, rfl, ok, hl, by omega, hf.st, ?_⟩
    walk_at "pf"
    refine ⟨w, rfl, ok, hz, fun fin' hf' => ?_⟩
    rw [fin_uniq hf' hf]
    walk_at "pf"
    refine o_neqD (top_pl _ _ _) (top_pl _ _ _) (by decide) (by decide) fun b hb => ?_
    have hbt := hb.mpr rfl
    subst hbt
    refine exbl ?_
    refine ifnB rfl ?_
    walk_at "pf"
    refine w_dgetS ?_
    walk_at "pf"
    refine ⟨_, _, _, .inl rfl, rfl, rfl, ?_⟩
    walk_at "pf"
    refine c_list (.inl rfl) ?_
    refine o_neqD (hs_pl _) (hs_pl _) (by decide) (by decide) fun b hb => ?_
    have hbt := hb.mpr rfl
    subst hbt
    refine exbl ?_
    refine ifnB rfl ?_
    walk_at "pf"
    obtain ⟨d80, hd80, a80⟩ := dgA (l := l) (k := 80) (by omega)
    obtain ⟨d81, hd81, a81⟩ := dgA (l := l) (k := 81) (by omega)
    have u0 := Int.emod_nonneg d80 (b := 30) (by decide)
    have u1 := Int.emod_lt_of_pos d80 (b := 30) (by decide)
    have v0 := Int.emod_nonneg d81 (b := 4) (by decide)
    have v1 := Int.emod_lt_of_pos d81 (b := 4) (by decide)
    obtain ⟨bt, hbt⟩ : ∃ bt : Nat, 1 + d81 % 4 = (bt : Int) := ⟨(1 + d81 % 4).toNat, by omega⟩
    have e5 : (2 : Nat) ^ 5 = 32 := by decide
    have un : (1 + d80 % 30).natAbs < 2 ^ 5 := by omega
    have bn : bt < 2 ^ 5 := by omega
    refine w_lst ?_
    walk_at "pf"
    refine o_ixLi a80 ?_
    walk_at "pf"
    refine o_mod (by decide) ?_
    walk_at "pf"
    refine o_ixLi a81 ?_
    walk_at "pf"
    refine o_mod (by decide) ?_
    walk_at "pf"
    rw [hbt]
    refine ⟨1 + d80 % 30, bt, rfl, by omega, Nat.lt_of_lt_of_le un (Nat.pow_le_pow_right (by decide) (by decide)), Nat.lt_of_lt_of_le bn (Nat.pow_le_pow_right (by decide) (by decide)), ?_⟩
    have sc : Sz 5 (mkRat (1 + d80 % 30) bt) := Sz.mk (by omega) un bn (by decide) (by decide)
    generalize mkRat (1 + d80 % 30) bt = c1 at sc ⊢
    walk_at "pf"
    refine ⟨by simp, ?_⟩
    refine w_sliceTo ?_
    walk_at "pf"
    refine ⟨1, _, rfl, rfl, ?_⟩
    rw [← List.map_take]
    have rt : ∀ q ∈ rs.take 1, Sz 342 q := fun q hq => srs q (List.mem_of_mem_take hq)
    have rl : (rs.take 1).length ≤ 1 := by rw [List.length_take]; exact Nat.min_le_left _ _
    refine o_plusL (by rw [List.length_map]; show 1 + _ ≤ 1000; omega) ?_
    have eh : [fr c1] ++ (rs.take 1).map fr = (c1 :: rs.take 1).map fr := rfl
    rw [eh]
    walk_at "pf"
    refine w_lc (i_list ?_)
    walk_at "pf"
    refine w_sliceTo ?_
    walk_at "pf"
    refine ⟨1, _, rfl, rfl, ?_⟩
    rw [← List.map_take]
    refine ⟨_, rfl, by rw [List.length_map]; omega, fun k acc => ∃ qs : List Rat, acc = qs.map fr ∧ qs.length = k ∧ ∀ q ∈ qs, Sz 700 q, ⟨[], rfl, rfl, fun _ h => nomatch h⟩, ?_, ?_⟩
    · rintro k d acc hd ⟨qs, rfl, hql, hqs⟩
      obtain ⟨q, hq, rfl⟩ := map_get hd
      have sq := rt q (List.mem_of_getElem? hq)
      have s2 : Sz 2 ((2 : Int) : Rat) := Sz.int (by decide) (by decide)
      refine gw_name (by simp) (t_yes (tT ?_))
      walk_at "pf"
      refine w_tup ?_
      walk_at "pf"
      refine ⟨by simp, ?_⟩
      walk_at "pf"
      refine ⟨q, ((2 : Int) : Rat), rfl, sq.sm (by decide), s2.sm (by decide), ?_⟩
      refine ⟨qs ++ [q * ((2 : Int) : Rat)], by rw [List.map_append]; rfl, by rw [List.length_append, hql]; rfl, fun x hx => ?_⟩
      rcases List.mem_append.mp hx with hx | hx
      · exact hqs x hx
      · rw [List.mem_singleton.mp hx]
        exact (sq.mul s2).mono (by decide)
    rintro acc ⟨h1, rfl, hl1, hs1⟩
    rw [List.length_map] at hl1
    refine o_plusL (by rw [List.length_map, List.length_map]; show (_ + 1) + _ ≤ 1000; omega) ?_
    rw [← List.map_append]
    walk_at "pf"
    refine w_lc (i_list ?_)
    walk_at "pf"
    refine w_sliceTo ?_
    walk_at "pf"
    refine ⟨1, _, rfl, rfl, ?_⟩
    have tl : ((topsTo w fin (fin.length - 1)).take 1).length ≤ 1 := by rw [List.length_take]; exact Nat.min_le_left _ _
    refine ⟨_, rfl, by omega, fun k acc => ∃ qs : List Rat, acc = qs.map fr ∧ qs.length = k ∧ ∀ q ∈ qs, Sz 700 q, ⟨[], rfl, rfl, fun _ h => nomatch h⟩, ?_, ?_⟩
    · rintro k d acc hd ⟨qs, rfl, hql, hqs⟩
      obtain ⟨j, hj, rfl⟩ := top_get (List.mem_of_mem_take (List.mem_of_getElem? hd))
      refine gw_name (by simp) (t_yes (tT ?_))
      walk_at "pf"
      refine o_ixTu rfl ?_
      refine ⟨qs ++ [botQ w fin j], by rw [List.map_append]; rfl, by rw [List.length_append, hql]; rfl, fun x hx => ?_⟩
      rcases List.mem_append.mp hx with hx | hx
      · exact hqs x hx
      · rw [List.mem_singleton.mp hx]
        exact (bot_sz ok hl hj).mono (by decide)
    rintro acc ⟨h2, rfl, hl2, hs2⟩
    refine o_plusL (by rw [List.length_map, List.length_map, List.length_append]; show (_ + 1 + _) + _ ≤ 1000; omega) ?_
    rw [← List.map_append]
    have hsz : ∀ q ∈ c1 :: rs.take 1 ++ h1 ++ h2, Sz 700 q := fun q hq => by
      rcases List.mem_append.mp hq with hq | hq
      · rcases List.mem_append.mp hq with hq | hq
        · rcases List.mem_cons.mp hq with rfl | hq
          · exact sc.mono (by decide)
          · exact (rt q hq).mono (by decide)
        · exact hs1 q hq
      · exact hs2 q hq
    have hhl : (c1 :: rs.take 1 ++ h1 ++ h2).length ≤ 10 := by
      rw [List.length_append, List.length_append]
      show (_ + 1 + _) + _ ≤ 10
      omega
    generalize c1 :: rs.take 1 ++ h1 ++ h2 = hv at hsz hhl ⊢
    walk_at "pf"
    refine g_for (i_list ?_)
    refine w_lc (i_list ?_)
    walk_at "pf"
    refine ⟨_, rfl, by rw [List.length_map]; omega, fun k acc => ∃ qs : List Rat, acc = qs.map fr ∧ ∀ q ∈ qs, Sz 700 q ∧ 0 < q, ⟨[], rfl, fun _ h => nomatch h⟩, ?_, ?_⟩
    · rintro k d acc hd ⟨qs, rfl, hqs⟩
      obtain ⟨q, hq, rfl⟩ := map_get hd
      refine gw_name (by simp) ?_
      walk_at "pf"
      refine o_ixTu (ds := [.int q.num, .int (q.den : Int)]) (d := .int q.num) rfl ?_
      walk_at "pf"
      by_cases hpos : 0 < q
      · refine ifpB (decide_eq_true (pos_num.mpr hpos)) ?_
        walk_at "pf"
        refine ⟨qs ++ [q], by rw [List.map_append]; rfl, fun x hx => ?_⟩
        rcases List.mem_append.mp hx with hx | hx
        · exact hqs x hx
        · rw [List.mem_singleton.mp hx]
          exact ⟨hsz q (List.mem_of_getElem? hq), hpos⟩
      · refine ifnB (decide_eq_false fun z => hpos (pos_num.mp z)) ?_
        exact ⟨qs, rfl, hqs⟩
    rintro acc ⟨qs, rfl, hqs⟩
    refine ⟨_, rfl, fun j ρ Γ => ∃ y7 y12 y16 y17 y18 y19 y20 y21 y22 : Option D, ρ = [some (.slst ns), some (.int (i : Int)), some (.lst (l.map .int)), some (.dK (wdF w)), some (plD CP w), some (.dT (kD w.n fun k => fr (spk w k))), some (.dT (kD w.n fun k => fr 0)), y7, some (.tup (fin.map .int)), some (.dK (spD (spK w fin))), some (.lst (rs.map fr)), some (.lst (dueD (spK w fin) (rs.headD 0))), y12, some (.lst (w.hs.map wtD)), some (.lst (topsTo w fin (fin.length - 1))), some (.lst (hv.map fr)), y16, y17, y18, y19, y20, y21, y22] ∧ Γ = S.C0, ⟨_, _, _, _, _, _, _, _, _, rfl, rfl⟩, ?_, ?_⟩
    · rintro j d ρ Γ B2 hd ⟨y7, y12, y16, y17, y18, y19, y20, y21, y22, rfl, rfl⟩
      obtain ⟨m, hm, rfl⟩ := map_get hd
      obtain ⟨sm, m0⟩ := hqs m (List.mem_of_getElem? hm)
      refine gw_name trivial (g_one ?_)
      walk_at "pf"
      refine w_sliceFrom ?_
      walk_at "pf"
      refine ⟨82, _, rfl, .inl ⟨rfl, ?_⟩⟩
      rw [← List.map_drop]
      walk_at "pf"
      refine ⟨w, fin, m, l.drop 82, rfl, ok, hz, sm, m0, by rw [List.length_drop]; omega, hf, ?_⟩
      walk_at "pf"
      exact g_done ⟨_, _, _, _, _, _, _, _, _, rfl, rfl⟩
    rintro ρ Γ ⟨y7, y12, y16, y17, y18, y19, y20, y21, y22, rfl, rfl⟩
    refine g_for (i_list ?_)
    refine w_lc (i_list ?_)
    walk_at "pf"
    refine ⟨_, rfl, by unfold topsTo; rw [List.length_map, List.length_range]; omega, fun k acc => ∀ d ∈ acc, ∃ i, i + 1 < fin.length ∧ 0 < botQ w fin i ∧ d = topD w fin i, (fun _ h => nomatch h), ?_, ?_⟩
    · rintro k d acc hd hacc
      obtain ⟨j, hj, rfl⟩ := top_get (List.mem_of_getElem? hd)
      refine gw_name (by simp) ?_
      walk_at "pf"
      refine o_ixTu (d := fr (botQ w fin j)) rfl ?_
      walk_at "pf"
      refine o_ixTu (ds := [.int (botQ w fin j).num, .int ((botQ w fin j).den : Int)]) (d := .int (botQ w fin j).num) rfl ?_
      walk_at "pf"
      by_cases hpos : 0 < botQ w fin j
      · refine ifpB (decide_eq_true (pos_num.mpr hpos)) ?_
        walk_at "pf"
        intro x hx
        rcases List.mem_append.mp hx with hx | hx
        · exact hacc x hx
        · rw [List.mem_singleton.mp hx]
          exact ⟨j, hj, hpos, rfl⟩
      · refine ifnB (decide_eq_false fun z => hpos (pos_num.mp z)) ?_
        exact hacc
    intro acc hacc
    refine ⟨_, rfl, fun j ρ Γ => ∃ y7 y12 y16 y17 y18 y19 y20 y21 y22 : Option D, ρ = [some (.slst ns), some (.int (i : Int)), some (.lst (l.map .int)), some (.dK (wdF w)), some (plD CP w), some (.dT (kD w.n fun k => fr (spk w k))), some (.dT (kD w.n fun k => fr 0)), y7, some (.tup (fin.map .int)), some (.dK (spD (spK w fin))), some (.lst (rs.map fr)), some (.lst (dueD (spK w fin) (rs.headD 0))), y12, some (.lst (w.hs.map wtD)), some (.lst (topsTo w fin (fin.length - 1))), some (.lst (hv.map fr)), y16, y17, y18, y19, y20, y21, y22] ∧ Γ = S.C0, ⟨_, _, _, _, _, _, _, _, _, rfl, rfl⟩, ?_, ?_⟩
    · rintro j d ρ Γ B2 hd ⟨y7, y12, y16, y17, y18, y19, y20, y21, y22, rfl, rfl⟩
      obtain ⟨k, hk, hpos, rfl⟩ := hacc d (List.mem_of_getElem? hd)
      obtain ⟨t0, t1, t2, t3⟩ := top_in ok hl hf.st hk hpos
      have st := top_sz ok hl hk hpos
      have sb := bot_sz ok hl hk
      have e2 : topD w fin k = .tup [.int (RR w.n fin (k + 1)), .int (RR w.n fin (k + 2)), fr (botQ w fin k), fr (topQ w fin k)] := rfl
      rw [e2]
      refine gw_tup rfl (gws_cons (gw_name trivial (gws_cons (gw_name trivial (gws_cons (gw_name trivial (gws_cons (gw_name trivial (gws_nil ?_)))))))))
      refine g_one ?_
      walk_at "pf"
      refine ⟨w, fin, botQ w fin k, topQ w fin k, rfl, ok, hz, sb.mono (by decide), Rat.le_of_lt hpos, st, hf, fun b hb => ?_⟩
      have hbt := hb.mpr t2
      subst hbt
      walk_at "pf"
      refine w_tup ?_
      walk_at "pf"
      refine ⟨by simp, ?_⟩
      walk_at "pf"
      have e50 : D.tup [.int 1, .int 50] = fr (mkRat 1 50) := by unfold fr; rw [show (mkRat 1 50).num = 1 by decide +kernel, show (mkRat 1 50).den = 50 by decide +kernel]; rfl
      have s50 : Sz 6 (mkRat 1 50) := Sz.mk (a := 1) (b := 6) (by decide) (by decide) (by decide) (by decide) (by decide)
      have p50 : (0 : Rat) < mkRat 1 50 := mk_gt (by decide) (by decide)
      rw [e50]
      refine ⟨botQ w fin k, mkRat 1 50, rfl, sb.sm (by decide), s50.sm (by decide), ?_⟩
      walk_at "pf"
      have hgt : botQ w fin k < botQ w fin k + mkRat 1 50 := by grind
      refine ⟨w, fin, botQ w fin k + mkRat 1 50, topQ w fin k, rfl, ok, hz, (sb.add s50).mono (by decide), Rat.le_of_lt (by grind), st, hf, fun b2 hb2 => ?_⟩
      have hb2f : b2 = false := by
        cases b2 with
        | false => rfl
        | true => exact absurd (hb2.mp rfl) (t3 _ hgt)
      subst hb2f
      walk_at "pf"
      exact g_done ⟨_, _, _, _, _, _, _, _, _, rfl, rfl⟩
    rintro ρ Γ ⟨y7, y12, y16, y17, y18, y19, y20, y21, y22, rfl, rfl⟩
    refine g_one ?_
    walk_at "pf"
    refine w_sliceFrom ?_
    walk_at "pf"
    refine ⟨60, _, rfl, .inl ⟨rfl, ?_⟩⟩
    rw [← List.map_drop]
    walk_at "pf"
    refine ⟨l.drop 60, rfl, by rw [List.length_drop]; omega, fun x hx => hdg x (List.mem_of_mem_drop hx), hz, ?_⟩
    walk_at "pf"
    exact g_done ⟨_, _, _, _, _, _, _, _, _, _, _, _, _, _, _, _, _, _, _, _, _, _, rfl, rfl⟩
  · rintro ρ Γ ⟨y1, y2, y3, y4, y5, y6, y7, y8, y9, y10, y11, y12, y13, y14, y15, y16, y17, y18, y19, y20, y21, y22, rfl, rfl⟩
    exact g_ret (w_bl hR) Cov.refl
end PF
end
section
set_option Elab.async false
set_option linter.all false
set_option maxRecDepth 100000
set_option maxHeartbeats 2000000
namespace PF
open PySem PySem.Spec L2 RZ
local macro_rules | `(tactic| walk_at "pf1") => `(tactic| first
  | ((with_reducible refine' w_var ?pfh ?_); (case pfh => rfl))
  | with_reducible refine w_int ?_
  | with_reducible refine w_ty ?_
  | with_reducible refine w_op ?_
  | with_reducible refine w_listVals ?_ ?_
  | with_reducible refine w_cb ?_
  | with_reducible refine w_call ?_
  | with_reducible refine a_cons ?_
  | with_reducible refine a_nil ?_
  | with_reducible refine o_sub ?_
  | with_reducible refine o_plusI ?_
  | ((with_reducible refine' o_ixTu ?pfh ?_); (case pfh => rfl))
  | ((with_reducible refine' o_ixLi ?pfh ?_); (case pfh => rfl))
  | ((with_reducible refine' o_ixKe ?pfh ?_); (case pfh => rfl))
  | with_reducible refine w_bl ?_
  | with_reducible refine w_non ?_
  | with_reducible refine w_str ?_
  | with_reducible refine w_un ?_
  | with_reducible refine w_fld ?_
  | with_reducible refine w_meth ?_
  | with_reducible refine t_test ?_
  | with_reducible refine t_B ?_
  | with_reducible refine t_and ?_
  | with_reducible refine t_or ?_
  | with_reducible refine t_not ?_
  | with_reducible refine w_andV ?_
  | with_reducible refine w_orV ?_
  | with_reducible refine w_notV ?_
  | with_reducible refine w_if ?_
  | with_reducible refine w_chain ?_
  | with_reducible refine o_lt ?_
  | with_reducible refine o_gt ?_
  | with_reducible refine o_le ?_
  | with_reducible refine o_ge ?_
  | with_reducible refine o_equI ?_
  | with_reducible refine o_neqI ?_
  | with_reducible refine o_neg ?_
  | with_reducible refine c_abs ?_
  | with_reducible refine c_int ?_
  | with_reducible refine g_asgX ?_
  | with_reducible refine g_asg ?_
  | with_reducible refine g_drop ?_
  | with_reducible refine g_if ?_
  | with_reducible refine g_next ?_
  | with_reducible refine g_assoc ?_
  | with_reducible refine g_retS ?_
  | with_reducible refine exbl ?_
  | with_reducible refine tT ?_
  | with_reducible refine tF ?_
  | with_reducible refine tNT ?_
  | with_reducible refine tNF ?_
  | ((with_reducible refine' ifpB ?pfh ?_); (case pfh => rfl))
  | ((with_reducible refine' ifnB ?pfh ?_); (case pfh => rfl)))
local macro_rules | `(tactic| walk_at "fl") => `(tactic| first
  | refine ⟨_, _, _, rfl, Tp.cl_Plank ‹_›, Tp.n_long ‹_›, rfl, ?_⟩
  | refine ⟨_, _, _, rfl, Tp.cl_Plank ‹_›, Tp.n_stakes ‹_›, rfl, ?_⟩
  | refine ⟨_, _, _, rfl, Tp.cl_Plank ‹_›, Tp.n_limit ‹_›, rfl, ?_⟩
  | refine ⟨_, _, _, rfl, Tp.cl_Loads ‹_›, Tp.n_plank ‹_›, rfl, ?_⟩
  | refine ⟨_, _, _, rfl, Tp.cl_Loads ‹_›, Tp.n_weights ‹_›, rfl, ?_⟩
  | refine ⟨_, _, _, rfl, Tp.cl_Loads ‹_›, Tp.n_known ‹_›, rfl, ?_⟩
  | refine ⟨_, _, _, rfl, Tp.cl_Loads ‹_›, Tp.n_over ‹_›, rfl, ?_⟩)
local macro_rules | `(tactic| walk_at "pf") => `(tactic| repeat (walk_at "pf1"))

theorem tp {K : PySem.W.Frag} {h : Heap} {mg : Str → Option Value} (X : K.In h) (G : h.Ns mainGlobals mg) (c : He.SaysD fa fn K) (cx : ex K = true) : Tp K mg (He.ga K "NOUGHT") (He.ga K "ONE") (He.ga K "Plank") (He.ga K "Loads") where
  b_isinstance := He.free_ok X G (c.fact 61 (f := .free "isinstance") rfl)
  b_int := He.free_ok X G (c.fact 62 (f := .free "int") rfl)
  b_bool := He.free_ok X G (c.fact 63 (f := .free "bool") rfl)
  b_tuple := He.free_ok X G (c.fact 64 (f := .free "tuple") rfl)
  b_list := He.free_ok X G (c.fact 65 (f := .free "list") rfl)
  b_abs := He.free_ok X G (c.fact 66 (f := .free "abs") rfl)
  b_len := He.free_ok X G (c.fact 67 (f := .free "len") rfl)
  b_all := He.free_ok X G (c.fact 68 (f := .free "all") rfl)
  b_any := He.free_ok X G (c.fact 69 (f := .free "any") rfl)
  b_range := He.free_ok X G (c.fact 70 (f := .free "range") rfl)
  b_zip := He.free_ok X G (c.fact 71 (f := .free "zip") rfl)
  b_set := He.free_ok X G (c.fact 72 (f := .free "set") rfl)
  b_sorted := He.free_ok X G (c.fact 73 (f := .free "sorted") rfl)
  b_dict := He.free_ok X G (c.fact 74 (f := .free "dict") rfl)
  b_sum := He.free_ok X G (c.fact 75 (f := .free "sum") rfl)
  b_max := He.free_ok X G (c.fact 76 (f := .free "max") rfl)
  b_min := He.free_ok X G (c.fact 77 (f := .free "min") rfl)
  b_enumerate := He.free_ok X G (c.fact 78 (f := .free "enumerate") rfl)
  g_NOUGHT := He.glo_ok X G (c.fact 82 (f := .glo "NOUGHT") rfl)
  t_NOUGHT := fun H => He.tupB_ok (Bool.and_eq_true_iff.mp (show (_ && _) = true from cx)).1 H
  g_ONE := He.glo_ok X G (c.fact 83 (f := .glo "ONE") rfl)
  t_ONE := fun H => He.tupB_ok (Bool.and_eq_true_iff.mp (show (_ && _) = true from cx)).2 H
  g_MOST_LENGTH := He.int_ok X G (c.fact 79 (f := .int "MOST_LENGTH" 1000) rfl)
  g_MOST_PROPS := He.int_ok X G (c.fact 80 (f := .int "MOST_PROPS" 12) rfl)
  g_LEFT_WALL := He.int_ok X G (c.fact 81 (f := .int "LEFT_WALL" (-1)) rfl)
  g_Plank := He.glo_ok X G (c.fact 84 (f := .glo "Plank") rfl)
  g_Loads := He.glo_ok X G (c.fact 90 (f := .glo "Loads") rfl)
  cl_Plank := He.cls_ok (c.fact 85 (f := .cls "Plank") rfl)
  cl_Loads := He.cls_ok (c.fact 91 (f := .cls "Loads") rfl)
  n_long := He.noat_ok (c.fact 87 (f := .noat "Plank" "long") rfl)
  n_stakes := He.noat_ok (c.fact 88 (f := .noat "Plank" "stakes") rfl)
  n_limit := He.noat_ok (c.fact 89 (f := .noat "Plank" "limit") rfl)
  n_plank := He.noat_ok (c.fact 93 (f := .noat "Loads" "plank") rfl)
  n_weights := He.noat_ok (c.fact 94 (f := .noat "Loads" "weights") rfl)
  n_known := He.noat_ok (c.fact 95 (f := .noat "Loads" "known") rfl)
  n_over := He.noat_ok (c.fact 96 (f := .noat "Loads" "over") rfl)
theorem facts {P : Program} {w : World} {K : PySem.W.Frag} {h : Heap} {mg : Str → Option Value} {f : Addr} (X : K.In h) (G : h.Ns mainGlobals mg) (hfa : mg ("law" : Str) = some (.ref f)) (c : He.SaysD fa fn K) (cx : ex K = true) :
    ∃ fd : FuncData, (∀ (s : Shared) (v : Value), BindsTo s fd ⟨[v], []⟩ [("_law_script", v)]) ∧ ∀ base : Heap, K.In base → base.Ns mainGlobals mg → FnOk P w K mg base CX0 13 f fd ["_law_script"] (SpG K pLaw) := by
  have T := tp X G c cx
  obtain ⟨fd_0, D_0⟩ := c.def_ 0 (d := d_is_whole) rfl
  obtain ⟨fd_1, D_1⟩ := c.def_ 1 (d := d_divisor) rfl
  obtain ⟨fd_2, D_2⟩ := c.def_ 2 (d := d_cut) rfl
  obtain ⟨fd_3, D_3⟩ := c.def_ 3 (d := d_is_fraction) rfl
  obtain ⟨fd_4, D_4⟩ := c.def_ 4 (d := d_whole) rfl
  obtain ⟨fd_5, D_5⟩ := c.def_ 5 (d := d_plus) rfl
  obtain ⟨fd_6, D_6⟩ := c.def_ 6 (d := d_less) rfl
  obtain ⟨fd_7, D_7⟩ := c.def_ 7 (d := d_times) rfl
  obtain ⟨fd_8, D_8⟩ := c.def_ 8 (d := d_over) rfl
  obtain ⟨fd_9, D_9⟩ := c.def_ 9 (d := d_is_below) rfl
  obtain ⟨fd_10, D_10⟩ := c.def_ 10 (d := d_sum_of) rfl
  obtain ⟨fd_11, D_11⟩ := c.def_ 11 (d := d_greatest) rfl
  obtain ⟨fd_12, D_12⟩ := c.def_ 12 (d := d_least) rfl
  obtain ⟨fd_13, D_13⟩ := c.def_ 13 (d := d_is_measure) rfl
  obtain ⟨fd_14, D_14⟩ := c.def_ 14 (d := d_is_prop) rfl
  obtain ⟨fd_15, D_15⟩ := c.def_ 15 (d := d_are_props) rfl
  obtain ⟨fd_16, D_16⟩ := c.def_ 16 (d := d_Plank_init) rfl
  obtain ⟨fd_17, D_17⟩ := c.def_ 17 (d := d_Plank_length) rfl
  obtain ⟨fd_18, D_18⟩ := c.def_ 18 (d := d_Plank_props) rfl
  obtain ⟨fd_19, D_19⟩ := c.def_ 19 (d := d_Plank_count) rfl
  obtain ⟨fd_20, D_20⟩ := c.def_ 20 (d := d_Plank_place_of) rfl
  obtain ⟨fd_21, D_21⟩ := c.def_ 21 (d := d_lot_of) rfl
  obtain ⟨fd_22, D_22⟩ := c.def_ 22 (d := d_rests_of) rfl
  obtain ⟨fd_23, D_23⟩ := c.def_ 23 (d := d_is_spot) rfl
  obtain ⟨fd_24, D_24⟩ := c.def_ 24 (d := d_is_weight) rfl
  obtain ⟨fd_25, D_25⟩ := c.def_ 25 (d := d_check_weights) rfl
  obtain ⟨fd_26, D_26⟩ := c.def_ 26 (d := d_slope) rfl
  obtain ⟨fd_27, D_27⟩ := c.def_ 27 (d := d_Loads_init) rfl
  obtain ⟨fd_28, D_28⟩ := c.def_ 28 (d := d_Loads_share) rfl
  obtain ⟨fd_29, D_29⟩ := c.def_ 29 (d := d_Loads_lies_on) rfl
  obtain ⟨fd_30, D_30⟩ := c.def_ 30 (d := d_Loads_is_overlaid) rfl
  obtain ⟨fd_31, D_31⟩ := c.def_ 31 (d := d_loads_of) rfl
  obtain ⟨fd_32, D_32⟩ := c.def_ 32 (d := d_overlaid_between) rfl
  obtain ⟨fd_33, D_33⟩ := c.def_ 33 (d := d_without) rfl
  obtain ⟨fd_34, D_34⟩ := c.def_ 34 (d := d_settled_between) rfl
  obtain ⟨fd_35, D_35⟩ := c.def_ 35 (d := d_settled) rfl
  obtain ⟨fd_36, D_36⟩ := c.def_ 36 (d := d_with_sides) rfl
  obtain ⟨fd_37, D_37⟩ := c.def_ 37 (d := d_spare_at) rfl
  obtain ⟨fd_38, D_38⟩ := c.def_ 38 (d := d_spares_of) rfl
  obtain ⟨fd_39, D_39⟩ := c.def_ 39 (d := d_check_weight) rfl
  obtain ⟨fd_40, D_40⟩ := c.def_ 40 (d := d_weakest) rfl
  obtain ⟨fd_41, D_41⟩ := c.def_ 41 (d := d_safe) rfl
  obtain ⟨fd_42, D_42⟩ := c.def_ 42 (d := d_most_borne) rfl
  obtain ⟨fd_43, D_43⟩ := c.def_ 43 (d := d_law_cell) rfl
  obtain ⟨fd_44, D_44⟩ := c.def_ 44 (d := d_law_digits) rfl
  obtain ⟨fd_45, D_45⟩ := c.def_ 45 (d := d_law_cut) rfl
  obtain ⟨fd_46, D_46⟩ := c.def_ 46 (d := d_law_plus) rfl
  obtain ⟨fd_47, D_47⟩ := c.def_ 47 (d := d_law_minus) rfl
  obtain ⟨fd_48, D_48⟩ := c.def_ 48 (d := d_law_by) rfl
  obtain ⟨fd_49, D_49⟩ := c.def_ 49 (d := d_law_part_of) rfl
  obtain ⟨fd_50, D_50⟩ := c.def_ 50 (d := d_law_is_below) rfl
  obtain ⟨fd_51, D_51⟩ := c.def_ 51 (d := d_law_share) rfl
  obtain ⟨fd_52, D_52⟩ := c.def_ 52 (d := d_law_load) rfl
  obtain ⟨fd_53, D_53⟩ := c.def_ 53 (d := d_law_keys) rfl
  obtain ⟨fd_54, D_54⟩ := c.def_ 54 (d := d_law_heavy) rfl
  obtain ⟨fd_55, D_55⟩ := c.def_ 55 (d := d_law_world) rfl
  obtain ⟨fd_56, D_56⟩ := c.def_ 56 (d := d_law_made) rfl
  obtain ⟨fd_57, D_57⟩ := c.def_ 57 (d := d_law_spares) rfl
  obtain ⟨fd_58, D_58⟩ := c.def_ 58 (d := d_law_greatest) rfl
  obtain ⟨fd_59, D_59⟩ := c.def_ 59 (d := d_law_left) rfl
  obtain ⟨fd_60, D_60⟩ := c.def_ 60 (d := d_law_rising) rfl
  obtain ⟨fd_61, D_61⟩ := c.def_ 61 (d := d_law_amid) rfl
  obtain ⟨fd_62, D_62⟩ := c.def_ 62 (d := d_law_sides) rfl
  obtain ⟨fd_63, D_63⟩ := c.def_ 63 (d := d_law_stretches) rfl
  obtain ⟨fd_64, D_64⟩ := c.def_ 64 (d := d_law_tops) rfl
  obtain ⟨fd_65, D_65⟩ := c.def_ 65 (d := d_law_stays) rfl
  obtain ⟨fd_66, D_66⟩ := c.def_ 66 (d := d_law_places) rfl
  obtain ⟨fd_67, D_67⟩ := c.def_ 67 (d := d_law_right) rfl
  obtain ⟨fd_68, D_68⟩ := c.def_ 68 (d := d_law_bare_right) rfl
  obtain ⟨fd_69, D_69⟩ := c.def_ 69 (d := d_law) rfl
  have e := hfa.symm.trans (He.glo_ok X G (c.fact 60 (f := .glo "law") rfl))
  cases e
  have b := FunD.bindsA (ps := ["_law_script"]) D_69 fun _ _ _ _ _ _ us hl => match us, hl with | [_], _ => rfl
  refine ⟨fd_69, fun s v => b s [v] rfl, fun base _ _ => ?_⟩
  have F_divisor : Fk P w K mg base "divisor" ["one", "other"] 1 (SpG K (pDivisor)) := ⟨⟨_, _, (He.glo_ok X G (c.fact 1 (f := .glo "divisor") rfl)), D_1.kp, (FunD.bindsN (ps := ["one", "other"]) D_1 fun _ _ _ _ _ _ us hl => match us, hl with | [_, _], _ => rfl), (ok_divisor T  D_1)⟩⟩
  have F_cut : Fk P w K mg base "cut" ["top", "bottom"] 2 (SpG K (pCut)) := ⟨⟨_, _, (He.glo_ok X G (c.fact 2 (f := .glo "cut") rfl)), D_2.kp, (FunD.bindsN (ps := ["top", "bottom"]) D_2 fun _ _ _ _ _ _ us hl => match us, hl with | [_, _], _ => rfl), (ok_cut T F_divisor D_2)⟩⟩
  have F_is_whole : Fk P w K mg base "is_whole" ["thing"] 1 (SpG K (pIsWhole)) := ⟨⟨_, _, (He.glo_ok X G (c.fact 0 (f := .glo "is_whole") rfl)), D_0.kp, (FunD.bindsN (ps := ["thing"]) D_0 fun _ _ _ _ _ _ us hl => match us, hl with | [_], _ => rfl), (ok_is_whole T  D_0)⟩⟩
  have F_plus : Fk P w K mg base "plus" ["one", "other"] 3 (SpG K (pPlus)) := ⟨⟨_, _, (He.glo_ok X G (c.fact 5 (f := .glo "plus") rfl)), D_5.kp, (FunD.bindsN (ps := ["one", "other"]) D_5 fun _ _ _ _ _ _ us hl => match us, hl with | [_, _], _ => rfl), (ok_plus T F_cut D_5)⟩⟩
  have F_less : Fk P w K mg base "less" ["one", "other"] 3 (SpG K (pLess)) := ⟨⟨_, _, (He.glo_ok X G (c.fact 6 (f := .glo "less") rfl)), D_6.kp, (FunD.bindsN (ps := ["one", "other"]) D_6 fun _ _ _ _ _ _ us hl => match us, hl with | [_, _], _ => rfl), (ok_less T F_cut D_6)⟩⟩
  have F_times : Fk P w K mg base "times" ["one", "other"] 3 (SpG K (pTimes)) := ⟨⟨_, _, (He.glo_ok X G (c.fact 7 (f := .glo "times") rfl)), D_7.kp, (FunD.bindsN (ps := ["one", "other"]) D_7 fun _ _ _ _ _ _ us hl => match us, hl with | [_, _], _ => rfl), (ok_times T F_cut D_7)⟩⟩
  have F_over : Fk P w K mg base "over" ["one", "other"] 3 (SpG K (pOver)) := ⟨⟨_, _, (He.glo_ok X G (c.fact 8 (f := .glo "over") rfl)), D_8.kp, (FunD.bindsN (ps := ["one", "other"]) D_8 fun _ _ _ _ _ _ us hl => match us, hl with | [_, _], _ => rfl), (ok_over T F_cut D_8)⟩⟩
  have F_is_below : Fk P w K mg base "is_below" ["one", "other"] 1 (SpG K (pBelow)) := ⟨⟨_, _, (He.glo_ok X G (c.fact 9 (f := .glo "is_below") rfl)), D_9.kp, (FunD.bindsN (ps := ["one", "other"]) D_9 fun _ _ _ _ _ _ us hl => match us, hl with | [_, _], _ => rfl), (ok_is_below T  D_9)⟩⟩
  have F_whole : Fk P w K mg base "whole" ["number"] 1 (SpG K (pWhole)) := ⟨⟨_, _, (He.glo_ok X G (c.fact 4 (f := .glo "whole") rfl)), D_4.kp, (FunD.bindsN (ps := ["number"]) D_4 fun _ _ _ _ _ _ us hl => match us, hl with | [_], _ => rfl), (ok_whole T  D_4)⟩⟩
  have F_sum_of : Fk P w K mg base "sum_of" ["some"] 4 (SpG K (pSum)) := ⟨⟨_, _, (He.glo_ok X G (c.fact 10 (f := .glo "sum_of") rfl)), D_10.kp, (FunD.bindsN (ps := ["some"]) D_10 fun _ _ _ _ _ _ us hl => match us, hl with | [_], _ => rfl), (ok_sum_of T F_plus D_10)⟩⟩
  have F_greatest : Fk P w K mg base "greatest" ["some"] 2 (SpG K (pGreatest)) := ⟨⟨_, _, (He.glo_ok X G (c.fact 11 (f := .glo "greatest") rfl)), D_11.kp, (FunD.bindsN (ps := ["some"]) D_11 fun _ _ _ _ _ _ us hl => match us, hl with | [_], _ => rfl), (ok_greatest T F_is_below D_11)⟩⟩
  have F_least : Fk P w K mg base "least" ["some"] 2 (SpG K (pLeast)) := ⟨⟨_, _, (He.glo_ok X G (c.fact 12 (f := .glo "least") rfl)), D_12.kp, (FunD.bindsN (ps := ["some"]) D_12 fun _ _ _ _ _ _ us hl => match us, hl with | [_], _ => rfl), (ok_least T F_is_below D_12)⟩⟩
  have F_is_fraction : Fk P w K mg base "is_fraction" ["thing"] 2 (SpG K (pIsFraction)) := ⟨⟨_, _, (He.glo_ok X G (c.fact 3 (f := .glo "is_fraction") rfl)), D_3.kp, (FunD.bindsN (ps := ["thing"]) D_3 fun _ _ _ _ _ _ us hl => match us, hl with | [_], _ => rfl), (ok_is_fraction T F_divisor F_is_whole D_3)⟩⟩
  have F_is_measure : Fk P w K mg base "is_measure" ["thing"] 3 (SpG K (pIsMeasure)) := ⟨⟨_, _, (He.glo_ok X G (c.fact 13 (f := .glo "is_measure") rfl)), D_13.kp, (FunD.bindsN (ps := ["thing"]) D_13 fun _ _ _ _ _ _ us hl => match us, hl with | [_], _ => rfl), (ok_is_measure T F_is_below F_is_fraction D_13)⟩⟩
  have F_is_prop : Fk P w K mg base "is_prop" ["thing", "length"] 4 (SpG K (pIsProp)) := ⟨⟨_, _, (He.glo_ok X G (c.fact 14 (f := .glo "is_prop") rfl)), D_14.kp, (FunD.bindsN (ps := ["thing", "length"]) D_14 fun _ _ _ _ _ _ us hl => match us, hl with | [_, _], _ => rfl), (ok_is_prop T F_is_measure F_is_whole D_14)⟩⟩
  have F_are_props : Fk P w K mg base "are_props" ["thing", "length"] 5 (SpG K (pAreProps)) := ⟨⟨_, _, (He.glo_ok X G (c.fact 15 (f := .glo "are_props") rfl)), D_15.kp, (FunD.bindsN (ps := ["thing", "length"]) D_15 fun _ _ _ _ _ _ us hl => match us, hl with | [_, _], _ => rfl), (ok_are_props T F_is_prop D_15)⟩⟩
  have F_law_cut : Fk P w K mg base "_law_cut" ["_law_top", "_law_bottom"] 1 (SpG K (pCut)) := ⟨⟨_, _, (He.glo_ok X G (c.fact 36 (f := .glo "_law_cut") rfl)), D_45.kp, (FunD.bindsN (ps := ["_law_top", "_law_bottom"]) D_45 fun _ _ _ _ _ _ us hl => match us, hl with | [_, _], _ => rfl), (ok_law_cut T  D_45)⟩⟩
  have F_law_plus : Fk P w K mg base "_law_plus" ["_law_one", "_law_other"] 2 (SpG K (pPlus)) := ⟨⟨_, _, (He.glo_ok X G (c.fact 37 (f := .glo "_law_plus") rfl)), D_46.kp, (FunD.bindsN (ps := ["_law_one", "_law_other"]) D_46 fun _ _ _ _ _ _ us hl => match us, hl with | [_, _], _ => rfl), (ok_law_plus T F_law_cut D_46)⟩⟩
  have F_law_minus : Fk P w K mg base "_law_minus" ["_law_one", "_law_other"] 2 (SpG K (pLess)) := ⟨⟨_, _, (He.glo_ok X G (c.fact 38 (f := .glo "_law_minus") rfl)), D_47.kp, (FunD.bindsN (ps := ["_law_one", "_law_other"]) D_47 fun _ _ _ _ _ _ us hl => match us, hl with | [_, _], _ => rfl), (ok_law_minus T F_law_cut D_47)⟩⟩
  have F_law_by : Fk P w K mg base "_law_by" ["_law_one", "_law_other"] 2 (SpG K (pTimes)) := ⟨⟨_, _, (He.glo_ok X G (c.fact 39 (f := .glo "_law_by") rfl)), D_48.kp, (FunD.bindsN (ps := ["_law_one", "_law_other"]) D_48 fun _ _ _ _ _ _ us hl => match us, hl with | [_, _], _ => rfl), (ok_law_by T F_law_cut D_48)⟩⟩
  have F_law_is_below : Fk P w K mg base "_law_is_below" ["_law_one", "_law_other"] 1 (SpG K (pBelow)) := ⟨⟨_, _, (He.glo_ok X G (c.fact 41 (f := .glo "_law_is_below") rfl)), D_50.kp, (FunD.bindsN (ps := ["_law_one", "_law_other"]) D_50 fun _ _ _ _ _ _ us hl => match us, hl with | [_, _], _ => rfl), (ok_law_is_below T  D_50)⟩⟩
  have F_law_part_of : Fk P w K mg base "_law_part_of" ["_law_one", "_law_other"] 2 (SpG K (pOver)) := ⟨⟨_, _, (He.glo_ok X G (c.fact 40 (f := .glo "_law_part_of") rfl)), D_49.kp, (FunD.bindsN (ps := ["_law_one", "_law_other"]) D_49 fun _ _ _ _ _ _ us hl => match us, hl with | [_, _], _ => rfl), (ok_law_part_of T F_law_cut D_49)⟩⟩
  obtain ⟨ds_P, hv_P, hb_P⟩ := FunD.binds0 (ps := ["self", "length", "props", "bend"]) D_16 3 (fun z => nomatch z) rfl fun D doc pm an cdv ct us ks hl hk => match us, hl, ks, hk with | [_, _, _], _, [_], _ => ⟨_, _, _, _, _, _, rfl, rfl, rfl⟩
  have C_Plank : Fc P w K mg base "Plank" (He.ga K "Plank") ["self", "length", "props", "bend"] 7 (SpX K (pPlank (He.ga K "Plank"))) [.non] := ⟨⟨_, _, ds_P, (He.glo_ok X G (c.fact 84 (f := .glo "Plank") rfl)), He.mkr_ok (c.fact 86 (f := .mkr "Plank") rfl), (ok_Plank_init T F_are_props F_is_measure F_is_whole D_16), hb_P, hv_P⟩⟩
  have M_Plank_length : Fm P w K mg base (He.ga K "Plank") "length" ["self"] 1 (SpG K (pLen (He.ga K "Plank"))) := ⟨⟨_, _, He.meth_ok (c.fact 97 (f := .meth "Plank" "length") rfl), (FunD.bindsN (ps := ["self"]) D_17 fun _ _ _ _ _ _ us hl => match us, hl with | [_], _ => rfl), (ok_Plank_length T  D_17)⟩⟩
  have M_Plank_props : Fm P w K mg base (He.ga K "Plank") "props" ["self"] 1 (SpG K (pProps (He.ga K "Plank"))) := ⟨⟨_, _, He.meth_ok (c.fact 98 (f := .meth "Plank" "props") rfl), (FunD.bindsN (ps := ["self"]) D_18 fun _ _ _ _ _ _ us hl => match us, hl with | [_], _ => rfl), (ok_Plank_props T  D_18)⟩⟩
  have M_Plank_count : Fm P w K mg base (He.ga K "Plank") "count" ["self"] 1 (SpG K (pCount (He.ga K "Plank"))) := ⟨⟨_, _, He.meth_ok (c.fact 99 (f := .meth "Plank" "count") rfl), (FunD.bindsN (ps := ["self"]) D_19 fun _ _ _ _ _ _ us hl => match us, hl with | [_], _ => rfl), (ok_Plank_count T  D_19)⟩⟩
  have M_Plank_place_of : Fm P w K mg base (He.ga K "Plank") "place_of" ["self", "rest"] 2 (SpG K (pPlaceOf (He.ga K "Plank"))) := ⟨⟨_, _, He.meth_ok (c.fact 100 (f := .meth "Plank" "place_of") rfl), (FunD.bindsN (ps := ["self", "rest"]) D_20 fun _ _ _ _ _ _ us hl => match us, hl with | [_, _], _ => rfl), (ok_Plank_place_of T F_is_whole M_Plank_count D_20)⟩⟩
  have F_lot_of : Fk P w K mg base "lot_of" ["plank", "lot"] 3 (SpG K (pLotOf (He.ga K "Plank"))) := ⟨⟨_, _, (He.glo_ok X G (c.fact 16 (f := .glo "lot_of") rfl)), D_21.kp, (FunD.bindsN (ps := ["plank", "lot"]) D_21 fun _ _ _ _ _ _ us hl => match us, hl with | [_, _], _ => rfl), (ok_lot_of T M_Plank_count D_21)⟩⟩
  have F_rests_of : Fk P w K mg base "rests_of" ["plank", "lot"] 2 (SpG K (pRestsOf (He.ga K "Plank"))) := ⟨⟨_, _, (He.glo_ok X G (c.fact 17 (f := .glo "rests_of") rfl)), D_22.kp, (FunD.bindsN (ps := ["plank", "lot"]) D_22 fun _ _ _ _ _ _ us hl => match us, hl with | [_, _], _ => rfl), (ok_rests_of T M_Plank_count D_22)⟩⟩
  have F_is_spot : Fk P w K mg base "is_spot" ["plank", "thing"] 4 (SpG K (pIsSpot (He.ga K "Plank"))) := ⟨⟨_, _, (He.glo_ok X G (c.fact 18 (f := .glo "is_spot") rfl)), D_23.kp, (FunD.bindsN (ps := ["plank", "thing"]) D_23 fun _ _ _ _ _ _ us hl => match us, hl with | [_, _], _ => rfl), (ok_is_spot T F_is_below F_is_measure F_whole M_Plank_length D_23)⟩⟩
  have F_is_weight : Fk P w K mg base "is_weight" ["plank", "thing"] 5 (SpG K (pIsWeight (He.ga K "Plank"))) := ⟨⟨_, _, (He.glo_ok X G (c.fact 19 (f := .glo "is_weight") rfl)), D_24.kp, (FunD.bindsN (ps := ["plank", "thing"]) D_24 fun _ _ _ _ _ _ us hl => match us, hl with | [_, _], _ => rfl), (ok_is_weight T F_is_below F_is_fraction F_is_spot D_24)⟩⟩
  have F_check_weights : Fk P w K mg base "check_weights" ["plank", "thing"] 6 (SpG K (pCheckWeights (He.ga K "Plank"))) := ⟨⟨_, _, (He.glo_ok X G (c.fact 20 (f := .glo "check_weights") rfl)), D_25.kp, (FunD.bindsN (ps := ["plank", "thing"]) D_25 fun _ _ _ _ _ _ us hl => match us, hl with | [_, _], _ => rfl), (ok_check_weights T F_is_weight D_25)⟩⟩
  have F_slope : Fk P w K mg base "slope" ["low", "high", "spot"] 4 (SpG K (pSlope)) := ⟨⟨_, _, (He.glo_ok X G (c.fact 21 (f := .glo "slope") rfl)), D_26.kp, (FunD.bindsN (ps := ["low", "high", "spot"]) D_26 fun _ _ _ _ _ _ us hl => match us, hl with | [_, _, _], _ => rfl), (ok_slope T F_less F_over F_whole D_26)⟩⟩
  have C_Loads : Fc P w K mg base "Loads" (He.ga K "Loads") ["self", "plank", "weights"] 1 (SpX K (pLoads (He.ga K "Plank") (He.ga K "Loads"))) [] := ⟨⟨_, _, [], (He.glo_ok X G (c.fact 90 (f := .glo "Loads") rfl)), He.mkr_ok (c.fact 92 (f := .mkr "Loads") rfl), (ok_Loads_init T  D_27), (FunD.bindsN (ps := ["self", "plank", "weights"]) D_27 fun _ _ _ _ _ _ us hl => match us, hl with | [_, _, _], _ => rfl), .nil⟩⟩
  have F_loads_of : Fk P w K mg base "loads_of" ["plank", "weights"] 8 (SpX K (pLoadsOf (He.ga K "Plank") (He.ga K "Loads"))) := ⟨⟨_, _, (He.glo_ok X G (c.fact 22 (f := .glo "loads_of") rfl)), D_31.kp, (FunD.bindsN (ps := ["plank", "weights"]) D_31 fun _ _ _ _ _ _ us hl => match us, hl with | [_, _], _ => rfl), (ok_loads_of T C_Loads F_check_weights D_31)⟩⟩
  have M_Loads_share : Fm P w K mg base (He.ga K "Loads") "share" ["self", "left", "rest", "right", "spot"] 5 (SpG K (pShare (He.ga K "Plank") (He.ga K "Loads"))) := ⟨⟨_, _, He.meth_ok (c.fact 101 (f := .meth "Loads" "share") rfl), (FunD.bindsN (ps := ["self", "left", "rest", "right", "spot"]) D_28 fun _ _ _ _ _ _ us hl => match us, hl with | [_, _, _, _, _], _ => rfl), (ok_Loads_share T F_is_below F_less F_slope F_whole M_Plank_count M_Plank_place_of D_28)⟩⟩
  have M_Loads_lies_on : Fm P w K mg base (He.ga K "Loads") "lies_on" ["self", "left", "rest", "right"] 6 (SpG K (pLies (He.ga K "Plank") (He.ga K "Loads"))) := ⟨⟨_, _, He.meth_ok (c.fact 102 (f := .meth "Loads" "lies_on") rfl), (FunD.bindsN (ps := ["self", "left", "rest", "right"]) D_29 fun _ _ _ _ _ _ us hl => match us, hl with | [_, _, _, _], _ => rfl), (ok_Loads_lies_on T F_sum_of F_times M_Loads_share D_29)⟩⟩
  have M_Loads_is_overlaid : Fm P w K mg base (He.ga K "Loads") "is_overlaid" ["self", "left", "prop", "right"] 7 (SpG K (pOver_ (He.ga K "Plank") (He.ga K "Loads"))) := ⟨⟨_, _, He.meth_ok (c.fact 103 (f := .meth "Loads" "is_overlaid") rfl), (FunD.bindsN (ps := ["self", "left", "prop", "right"]) D_30 fun _ _ _ _ _ _ us hl => match us, hl with | [_, _, _, _], _ => rfl), (ok_Loads_is_overlaid T F_is_below M_Loads_lies_on D_30)⟩⟩
  have F_overlaid_between : Fk P w K mg base "overlaid_between" ["loads", "left", "lot", "right"] 8 (SpG K (pBetween (He.ga K "Plank") (He.ga K "Loads"))) := ⟨⟨_, _, (He.glo_ok X G (c.fact 23 (f := .glo "overlaid_between") rfl)), D_32.kp, (FunD.bindsN (ps := ["loads", "left", "lot", "right"]) D_32 fun _ _ _ _ _ _ us hl => match us, hl with | [_, _, _, _], _ => rfl), (ok_overlaid_between T M_Loads_is_overlaid D_32)⟩⟩
  have F_without : Fk P w K mg base "without" ["lot", "prop"] 1 (SpG K (pWithout)) := ⟨⟨_, _, (He.glo_ok X G (c.fact 24 (f := .glo "without") rfl)), D_33.kp, (FunD.bindsN (ps := ["lot", "prop"]) D_33 fun _ _ _ _ _ _ us hl => match us, hl with | [_, _], _ => rfl), (ok_without T  D_33)⟩⟩
  have F_settled_between : Fk P w K mg base "settled_between" ["loads", "left", "lot", "right"] 9 (SpG K (pSettledB (He.ga K "Plank") (He.ga K "Loads"))) := ⟨⟨_, _, (He.glo_ok X G (c.fact 25 (f := .glo "settled_between") rfl)), D_34.kp, (FunD.bindsN (ps := ["loads", "left", "lot", "right"]) D_34 fun _ _ _ _ _ _ us hl => match us, hl with | [_, _, _, _], _ => rfl), (ok_settled_between T F_overlaid_between F_without D_34)⟩⟩
  have F_settled : Fk P w K mg base "settled" ["loads", "lot"] 10 (SpG K (pSettled (He.ga K "Plank") (He.ga K "Loads"))) := ⟨⟨_, _, (He.glo_ok X G (c.fact 26 (f := .glo "settled") rfl)), D_35.kp, (FunD.bindsN (ps := ["loads", "lot"]) D_35 fun _ _ _ _ _ _ us hl => match us, hl with | [_, _], _ => rfl), (ok_settled T F_settled_between M_Plank_count D_35)⟩⟩
  have F_with_sides : Fk P w K mg base "with_sides" ["plank", "lot"] 3 (SpG K (pWithSides (He.ga K "Plank"))) := ⟨⟨_, _, (He.glo_ok X G (c.fact 27 (f := .glo "with_sides") rfl)), D_36.kp, (FunD.bindsN (ps := ["plank", "lot"]) D_36 fun _ _ _ _ _ _ us hl => match us, hl with | [_, _], _ => rfl), (ok_with_sides T F_rests_of D_36)⟩⟩
  have F_spare_at : Fk P w K mg base "spare_at" ["loads", "left", "prop", "right"] 7 (SpG K (pSpareAt (He.ga K "Plank") (He.ga K "Loads"))) := ⟨⟨_, _, (He.glo_ok X G (c.fact 28 (f := .glo "spare_at") rfl)), D_37.kp, (FunD.bindsN (ps := ["loads", "left", "prop", "right"]) D_37 fun _ _ _ _ _ _ us hl => match us, hl with | [_, _, _, _], _ => rfl), (ok_spare_at T F_less M_Loads_lies_on M_Plank_props D_37)⟩⟩
  have F_spares_of : Fk P w K mg base "spares_of" ["loads", "lot"] 8 (SpG K (pSparesOf (He.ga K "Plank") (He.ga K "Loads"))) := ⟨⟨_, _, (He.glo_ok X G (c.fact 29 (f := .glo "spares_of") rfl)), D_38.kp, (FunD.bindsN (ps := ["loads", "lot"]) D_38 fun _ _ _ _ _ _ us hl => match us, hl with | [_, _], _ => rfl), (ok_spares_of T F_spare_at F_with_sides D_38)⟩⟩
  have F_check_weight : Fk P w K mg base "check_weight" ["thing"] 3 (SpG K (pCheckWeight)) := ⟨⟨_, _, (He.glo_ok X G (c.fact 30 (f := .glo "check_weight") rfl)), D_39.kp, (FunD.bindsN (ps := ["thing"]) D_39 fun _ _ _ _ _ _ us hl => match us, hl with | [_], _ => rfl), (ok_check_weight T F_is_below F_is_fraction D_39)⟩⟩
  have F_weakest : Fk P w K mg base "weakest" ["plank", "weights"] 11 (SpG K (pWeakest (He.ga K "Plank"))) := ⟨⟨_, _, (He.glo_ok X G (c.fact 31 (f := .glo "weakest") rfl)), D_40.kp, (FunD.bindsN (ps := ["plank", "weights"]) D_40 fun _ _ _ _ _ _ us hl => match us, hl with | [_, _], _ => rfl), (ok_weakest T F_least F_loads_of F_lot_of F_settled F_spares_of D_40)⟩⟩
  have F_most_borne : Fk P w K mg base "most_borne" ["plank", "weights"] 11 (SpG K (pMost (He.ga K "Plank"))) := ⟨⟨_, _, (He.glo_ok X G (c.fact 33 (f := .glo "most_borne") rfl)), D_42.kp, (FunD.bindsN (ps := ["plank", "weights"]) D_42 fun _ _ _ _ _ _ us hl => match us, hl with | [_, _], _ => rfl), (ok_most_borne T F_less F_loads_of F_lot_of F_over F_plus F_settled F_spares_of F_times F_whole M_Plank_place_of D_42)⟩⟩
  have F_safe : Fk P w K mg base "safe" ["plank", "weights", "weight"] 11 (SpX K (pSafe (He.ga K "Plank"))) := ⟨⟨_, _, (He.glo_ok X G (c.fact 32 (f := .glo "safe") rfl)), D_41.kp, (FunD.bindsN (ps := ["plank", "weights", "weight"]) D_41 fun _ _ _ _ _ _ us hl => match us, hl with | [_, _, _], _ => rfl), (ok_safe T F_check_weight F_greatest F_is_below F_least F_less F_loads_of F_lot_of F_over F_plus F_rests_of F_settled F_spares_of F_times F_whole M_Plank_place_of D_41)⟩⟩
  have F_law_cell : Fk P w K mg base "_law_cell" ["_law_script", "_law_k"] 1 (SpG K (pCell)) := ⟨⟨_, _, (He.glo_ok X G (c.fact 34 (f := .glo "_law_cell") rfl)), D_43.kp, (FunD.bindsN (ps := ["_law_script", "_law_k"]) D_43 fun _ _ _ _ _ _ us hl => match us, hl with | [_, _], _ => rfl), (ok_law_cell T  D_43)⟩⟩
  have F_law_digits : Fk P w K mg base "_law_digits" ["_law_cell_here", "_law_wanted"] 1 (SpG K (pDigits)) := ⟨⟨_, _, (He.glo_ok X G (c.fact 35 (f := .glo "_law_digits") rfl)), D_44.kp, (FunD.bindsN (ps := ["_law_cell_here", "_law_wanted"]) D_44 fun _ _ _ _ _ _ us hl => match us, hl with | [_, _], _ => rfl), (ok_law_digits T  D_44)⟩⟩
  have F_law_share : Fk P w K mg base "_law_share" ["_law_world_here", "_law_key", "_law_spot"] 2 (SpG K (pLShare)) := ⟨⟨_, _, (He.glo_ok X G (c.fact 42 (f := .glo "_law_share") rfl)), D_51.kp, (FunD.bindsN (ps := ["_law_world_here", "_law_key", "_law_spot"]) D_51 fun _ _ _ _ _ _ us hl => match us, hl with | [_, _, _], _ => rfl), (ok_law_share T F_law_cut F_law_is_below D_51)⟩⟩
  have F_law_load : Fk P w K mg base "_law_load" ["_law_world_here", "_law_heavy_here", "_law_key"] 3 (SpG K (pLLoad)) := ⟨⟨_, _, (He.glo_ok X G (c.fact 43 (f := .glo "_law_load") rfl)), D_52.kp, (FunD.bindsN (ps := ["_law_world_here", "_law_heavy_here", "_law_key"]) D_52 fun _ _ _ _ _ _ us hl => match us, hl with | [_, _, _], _ => rfl), (ok_law_load T F_law_by F_law_plus F_law_share D_52)⟩⟩
  have F_law_keys : Fk P w K mg base "_law_keys" ["_law_many"] 1 (SpG K (pLKeys)) := ⟨⟨_, _, (He.glo_ok X G (c.fact 44 (f := .glo "_law_keys") rfl)), D_53.kp, (FunD.bindsN (ps := ["_law_many"]) D_53 fun _ _ _ _ _ _ us hl => match us, hl with | [_], _ => rfl), (ok_law_keys T  D_53)⟩⟩
  have F_law_spares : Fk P w K mg base "_law_spares" ["_law_world_here", "_law_heavy_here"] 4 (SpG K (pLSpares)) := ⟨⟨_, _, (He.glo_ok X G (c.fact 48 (f := .glo "_law_spares") rfl)), D_57.kp, (FunD.bindsN (ps := ["_law_world_here", "_law_heavy_here"]) D_57 fun _ _ _ _ _ _ us hl => match us, hl with | [_, _], _ => rfl), (ok_law_spares T F_law_keys F_law_load F_law_minus D_57)⟩⟩
  have F_law_greatest : Fk P w K mg base "_law_greatest" ["_law_many", "_law_fails"] 1 (SpG K (pGreat)) := ⟨⟨_, _, (He.glo_ok X G (c.fact 49 (f := .glo "_law_greatest") rfl)), D_58.kp, (FunD.bindsN (ps := ["_law_many", "_law_fails"]) D_58 fun _ _ _ _ _ _ us hl => match us, hl with | [_, _], _ => rfl), (ok_law_greatest T  D_58)⟩⟩
  have F_law_left : Fk P w K mg base "_law_left" ["_law_many", "_law_spares_here", "_law_shares", "_law_much"] 3 (SpG K (pLeft)) := ⟨⟨_, _, (He.glo_ok X G (c.fact 50 (f := .glo "_law_left") rfl)), D_59.kp, (FunD.bindsN (ps := ["_law_many", "_law_spares_here", "_law_shares", "_law_much"]) D_59 fun _ _ _ _ _ _ us hl => match us, hl with | [_, _, _, _], _ => rfl), (ok_law_left T F_law_by F_law_greatest F_law_is_below D_59)⟩⟩
  have F_law_rising : Fk P w K mg base "_law_rising" ["_law_some"] 2 (SpG K (pRising)) := ⟨⟨_, _, (He.glo_ok X G (c.fact 51 (f := .glo "_law_rising") rfl)), D_60.kp, (FunD.bindsN (ps := ["_law_some"]) D_60 fun _ _ _ _ _ _ us hl => match us, hl with | [_], _ => rfl), (ok_law_rising T F_law_is_below D_60)⟩⟩
  have F_law_amid : Fk P w K mg base "_law_amid" ["_law_one", "_law_other"] 3 (SpG K (pAmid)) := ⟨⟨_, _, (He.glo_ok X G (c.fact 52 (f := .glo "_law_amid") rfl)), D_61.kp, (FunD.bindsN (ps := ["_law_one", "_law_other"]) D_61 fun _ _ _ _ _ _ us hl => match us, hl with | [_, _], _ => rfl), (ok_law_amid T F_law_part_of F_law_plus D_61)⟩⟩
  have F_law_sides : Fk P w K mg base "_law_sides" ["_law_world_here", "_law_stood"] 4 (SpG K (pSides)) := ⟨⟨_, _, (He.glo_ok X G (c.fact 53 (f := .glo "_law_sides") rfl)), D_62.kp, (FunD.bindsN (ps := ["_law_world_here", "_law_stood"]) D_62 fun _ _ _ _ _ _ us hl => match us, hl with | [_, _], _ => rfl), (ok_law_sides T F_law_load F_law_minus D_62)⟩⟩
  have F_law_tops : Fk P w K mg base "_law_tops" ["_law_world_here", "_law_stood", "_law_sides_here"] 3 (SpG K (pTops)) := ⟨⟨_, _, (He.glo_ok X G (c.fact 55 (f := .glo "_law_tops") rfl)), D_64.kp, (FunD.bindsN (ps := ["_law_world_here", "_law_stood", "_law_sides_here"]) D_64 fun _ _ _ _ _ _ us hl => match us, hl with | [_, _, _], _ => rfl), (ok_law_tops T F_law_by F_law_part_of F_law_plus D_64)⟩⟩
  have F_law_stretches : Fk P w K mg base "_law_stretches" ["_law_world_here", "_law_stood", "_law_sides_here", "_law_much"] 3 (SpG K (pStretch)) := ⟨⟨_, _, (He.glo_ok X G (c.fact 54 (f := .glo "_law_stretches") rfl)), D_63.kp, (FunD.bindsN (ps := ["_law_world_here", "_law_stood", "_law_sides_here", "_law_much"]) D_63 fun _ _ _ _ _ _ us hl => match us, hl with | [_, _, _, _], _ => rfl), (ok_law_stretches T F_law_by F_law_is_below F_law_minus F_law_part_of F_law_plus D_63)⟩⟩
  have F_law_stays : Fk P w K mg base "_law_stays" ["_law_world_here", "_law_spares_here", "_law_stood", "_law_much", "_law_spot"] 4 (SpG K (pStays)) := ⟨⟨_, _, (He.glo_ok X G (c.fact 56 (f := .glo "_law_stays") rfl)), D_65.kp, (FunD.bindsN (ps := ["_law_world_here", "_law_spares_here", "_law_stood", "_law_much", "_law_spot"]) D_65 fun _ _ _ _ _ _ us hl => match us, hl with | [_, _, _, _, _], _ => rfl), (ok_law_stays T F_law_left F_law_share D_65)⟩⟩
  have F_law_places : Fk P w K mg base "_law_places" ["_law_digits_here", "_law_world_here", "_law_told"] 4 (SpG K (pPlaces)) := ⟨⟨_, _, (He.glo_ok X G (c.fact 57 (f := .glo "_law_places") rfl)), D_66.kp, (FunD.bindsN (ps := ["_law_digits_here", "_law_world_here", "_law_told"]) D_66 fun _ _ _ _ _ _ us hl => match us, hl with | [_, _, _], _ => rfl), (ok_law_places T F_law_amid F_law_cut F_law_is_below F_law_minus F_law_plus D_66)⟩⟩
  have F_law_right : Fk P w K mg base "_law_right" ["_law_digits_here", "_law_world_here", "_law_plank", "_law_spares_here", "_law_stood", "_law_much"] 12 (SpG K (pRight (He.ga K "Plank"))) := ⟨⟨_, _, (He.glo_ok X G (c.fact 58 (f := .glo "_law_right") rfl)), D_67.kp, (FunD.bindsN (ps := ["_law_digits_here", "_law_world_here", "_law_plank", "_law_spares_here", "_law_stood", "_law_much"]) D_67 fun _ _ _ _ _ _ us hl => match us, hl with | [_, _, _, _, _, _], _ => rfl), (ok_law_right T F_law_is_below F_law_places F_law_sides F_law_stays F_law_stretches F_safe D_67)⟩⟩
  have F_law_made : Fk P w K mg base "_law_made" ["_law_world_here"] 9 (SpG K (pMade (He.ga K "Plank"))) := ⟨⟨_, _, (He.glo_ok X G (c.fact 47 (f := .glo "_law_made") rfl)), D_56.kp, (FunD.bindsN (ps := ["_law_world_here"]) D_56 fun _ _ _ _ _ _ us hl => match us, hl with | [_], _ => rfl), (ok_law_made T C_Plank D_56)⟩⟩
  have F_law_heavy : Fk P w K mg base "_law_heavy" ["_law_digits_here", "_law_world_here"] 2 (SpG K (pHeavy)) := ⟨⟨_, _, (He.glo_ok X G (c.fact 45 (f := .glo "_law_heavy") rfl)), D_54.kp, (FunD.bindsN (ps := ["_law_digits_here", "_law_world_here"]) D_54 fun _ _ _ _ _ _ us hl => match us, hl with | [_, _], _ => rfl), (ok_law_heavy T F_law_cut D_54)⟩⟩
  have F_law_world : Fk P w K mg base "_law_world" ["_law_digits_here", "_law_most"] 4 (SpG K (pWorld)) := ⟨⟨_, _, (He.glo_ok X G (c.fact 46 (f := .glo "_law_world") rfl)), D_55.kp, (FunD.bindsN (ps := ["_law_digits_here", "_law_most"]) D_55 fun _ _ _ _ _ _ us hl => match us, hl with | [_, _], _ => rfl), (ok_law_world T F_law_heavy F_law_load F_law_plus D_55)⟩⟩
  have F_law_bare_right : Fk P w K mg base "_law_bare_right" ["_law_digits_here"] 12 (SpG K (pBareRight)) := ⟨⟨_, _, (He.glo_ok X G (c.fact 59 (f := .glo "_law_bare_right") rfl)), D_68.kp, (FunD.bindsN (ps := ["_law_digits_here"]) D_68 fun _ _ _ _ _ _ us hl => match us, hl with | [_], _ => rfl), (ok_law_bare_right T C_Plank F_law_cut F_most_borne F_safe F_weakest D_68)⟩⟩
  exact (ok_law T F_law_bare_right F_law_by F_law_cell F_law_cut F_law_digits F_law_left F_law_made F_law_plus F_law_right F_law_rising F_law_sides F_law_spares F_law_stays F_law_tops F_law_world F_most_borne F_weakest D_69)
end PF
end
set_option Elab.async false
set_option linter.all false
set_option maxRecDepth 100000
set_option maxHeartbeats 2000000
open PySem PySem.W PySem.Calls PyProof.Rows
theorem PySem.Challenge.cw_propfall_k43_whole_where_nothing_goes_holds : PySem.Challenge.rw_propfall_k43_whole_where_nothing_goes.Holds := by
  w_on; o_law
  refine HandSHeadRun.head_any (r := OpenLaw.row PySem.Challenge.rw_propfall_k43_whole_where_nothing_goes) (q := view (OpenLaw.row PySem.Challenge.rw_propfall_k43_whole_where_nothing_goes).prog [82]) (H := PF.hk) (ob := PF.ob) (M := 6000) (loose := PF.names) (d := HandSHeadRun.topDef (OpenLaw.row PySem.Challenge.rw_propfall_k43_whole_where_nothing_goes).prog 82) (kwd := []) PF.ob_eq
    (by kernel_rfl) (fun s => by kernel_rfl) PF.run (by kernel_rfl) (by kernel_rfl) (by kernel_rfl) (by rfl) (by first | assumption | decide +kernel) (by decide +kernel) ⟨rfl, rfl, rfl, rfl, rfl, by decide +kernel⟩ ?hw ?hc
  case hw => w_witness2
  case hc =>
    refine L2.walk_ofE (l := PySem.Challenge.rw_propfall_k43_whole_where_nothing_goes) (n := 63) (k := 13) (x := "_law_script") (CX := L2.CX0) rfl (by decide) (by kernel_rfl) ⟨rfl, by decide, by decide⟩ ?F (fun _ _ _ _ z => z)
    intro w mg fa h Y G hmg0
    obtain ⟨K, KX, c⟩ := Y
    have hmg : mg ("law" : PySem.Str) = some (.ref fa) := by
      have e : (HandSHeadRun.topDef (OpenLaw.row PySem.Challenge.rw_propfall_k43_whole_where_nothing_goes).prog 82).name = ("law" : PySem.Str) := by kernel_rfl
      rw [← e]
      exact hmg0
    obtain ⟨fd, hb, hF⟩ := PF.facts (P := (PySem.Challenge.rw_propfall_k43_whole_where_nothing_goes).prog) (w := w) KX G hmg c.t.d c.more
    refine ⟨K, fd, PF.SpG K PF.pLaw, KX, hb, fun H a ns hl hO hS => ?_, hF⟩
    refine ⟨H, [.slst ns], ⟨[], []⟩, fun d => d = .bl true, ⟨L2.Same.refl _, .nil, (fun _ h => nomatch h), fun b o u hb => ?_⟩, .cons (.slst hS) .nil, ⟨ns, rfl, rfl, rfl⟩, fun v B' H' d k f rp q => ?_⟩
    · rcases hO b with e | ⟨o2, xs, e⟩
      · rw [e] at hb; cases hb
      · rw [e] at hb; cases hb; exact .inr ⟨xs, rfl⟩
    · subst q
      cases rp
      rfl


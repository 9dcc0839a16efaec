import PyProof.Rows.All
import Wide.All
import OpenK.AllK
import Wide.FinOn
import HandS.ForMost
import PySem.Challenge.RW_meetlots_k02_whole_pulled_closures_and_p
import KE.KStateDown
import Lean
import HandS.WordsExc
import HandS.Defaults
import HandS.Head0
import HandS.Head1
import HandS.Head2
import HandS.HeadEnd
import HandS.HeadHook1
import HandS.HeadHook2
import HandS.Evl
import HandS.WideBits
import HandS.Conv
import HandS.IsInst
import HandS.TupMul
import KE.SortKeyHeap
import HandS.SortKw
import KE.GoesEnum
import HandS.SetFor
import HandS.Strs
import HandS.Style
import PyProof.ReprRoads
import PyProof.ReprLen
import HandS.TryOnly
import HandS.Ends
set_option Elab.async false
set_option linter.all false
set_option maxRecDepth 100000
namespace ML
open PySem L2
def top (i : Nat) : Stmt := PySem.Challenge.pw_meetlots_k02_whole_pulled_closures_and_p.main.body.getD i (.Pass ⟨0, 0, 0, 0⟩)
abbrev s_bits_of : Stmt := top 7
abbrev s_lot_of : Stmt := top 8
abbrev s_lot_key : Stmt := top 9
abbrev s_bits_key : Stmt := top 10
abbrev s_ordered : Stmt := top 11
abbrev s_rule_bits : Stmt := top 13
abbrev s_is_kept : Stmt := top 14
abbrev s_bits_round : Stmt := top 15
abbrev s_bits_closure : Stmt := top 16
abbrev s_closed_bits : Stmt := top 17
abbrev s_closure_in : Stmt := top 18
abbrev s_closure : Stmt := top 19
abbrev s_is_closed : Stmt := top 20
abbrev s_closed_lots : Stmt := top 21
abbrev s_follows : Stmt := top 22
abbrev s_breaking : Stmt := top 23
abbrev s_is_within : Stmt := top 25
abbrev s_bits_rule : Stmt := top 26
abbrev s_nearly_pairs : Stmt := top 27
abbrev s_stem_of : Stmt := top 28
abbrev s_stem : Stmt := top 29
abbrev s_book_of_family : Stmt := top 31
abbrev s_is_map : Stmt := top 33
abbrev s_need_map : Stmt := top 34
abbrev s_led_bits : Stmt := top 35
abbrev s_source_bits : Stmt := top 36
abbrev s_led : Stmt := top 37
abbrev s_source : Stmt := top 38
abbrev s_after : Stmt := top 39
abbrev s_pulled : Stmt := top 40
abbrev s_pushed : Stmt := top 41
abbrev s_things_in : Stmt := top 43
abbrev s_lots_within : Stmt := top 44
abbrev s_closures_of : Stmt := top 45
abbrev s_spare_by : Stmt := top 46
abbrev s_makers_by : Stmt := top 47
abbrev s_makers_with : Stmt := top 48
abbrev s_all_things : Stmt := top 49
abbrev s_makers : Stmt := top 50
abbrev s_keys : Stmt := top 51
abbrev s_law_urn : Stmt := top 53
abbrev s_law_draw : Stmt := top 54
abbrev s_law_pick : Stmt := top 55
abbrev s_law_shuffled : Stmt := top 56
abbrev s_law_lot : Stmt := top 57
abbrev s_law_mask : Stmt := top 58
abbrev s_law_rank : Stmt := top 59
abbrev s_law_in_order : Stmt := top 60
abbrev s_law_family : Stmt := top 61
abbrev s_law_shut : Stmt := top 62
abbrev s_law_stem : Stmt := top 63
abbrev s_law_meets : Stmt := top 64
abbrev s_law_some : Stmt := top 65
abbrev s_law_rules : Stmt := top 66
abbrev s_law_spelt : Stmt := top 67
abbrev s_law_tails : Stmt := top 68
abbrev s_law_singles : Stmt := top 69
abbrev s_law_bag : Stmt := top 70
abbrev s_law_map : Stmt := top 71
abbrev s_law_on : Stmt := top 72
abbrev s_law_back : Stmt := top 73
abbrev s_law_keys : Stmt := top 74
abbrev s_law_is_ruled : Stmt := top 75
abbrev s_law_is_pulled : Stmt := top 76
abbrev s_law_is_pushed : Stmt := top 77
abbrev s_law_along : Stmt := top 78
abbrev s_law_by_pulls : Stmt := top 79
abbrev s_law_by_pushes : Stmt := top 80
abbrev s_law : Stmt := top 81
end ML
set_option Elab.async false
set_option linter.all false
set_option maxRecDepth 100000
set_option maxHeartbeats 0
namespace ML
open PySem PySem.Spec PyProof.Rows L2
def d_bits_of : He.DefD := ⟨("bits_of", none), "bits_of", "bits_of", defArgs s_bits_of, defBody s_bits_of, defScope s_bits_of, [], []⟩
def d_lot_of : He.DefD := ⟨("lot_of", none), "lot_of", "lot_of", defArgs s_lot_of, defBody s_lot_of, defScope s_lot_of, [], []⟩
def d_lot_key : He.DefD := ⟨("lot_key", none), "lot_key", "lot_key", defArgs s_lot_key, defBody s_lot_key, defScope s_lot_key, [], []⟩
def d_bits_key : He.DefD := ⟨("bits_key", none), "bits_key", "bits_key", defArgs s_bits_key, defBody s_bits_key, defScope s_bits_key, [], []⟩
def d_ordered : He.DefD := ⟨("ordered", none), "ordered", "ordered", defArgs s_ordered, defBody s_ordered, defScope s_ordered, [], []⟩
def d_rule_bits : He.DefD := ⟨("rule_bits", none), "rule_bits", "rule_bits", defArgs s_rule_bits, defBody s_rule_bits, defScope s_rule_bits, [], []⟩
def d_is_kept : He.DefD := ⟨("is_kept", none), "is_kept", "is_kept", defArgs s_is_kept, defBody s_is_kept, defScope s_is_kept, [], []⟩
def d_bits_round : He.DefD := ⟨("bits_round", none), "bits_round", "bits_round", defArgs s_bits_round, defBody s_bits_round, defScope s_bits_round, [], []⟩
def d_bits_closure : He.DefD := ⟨("bits_closure", none), "bits_closure", "bits_closure", defArgs s_bits_closure, defBody s_bits_closure, defScope s_bits_closure, [], []⟩
def d_closed_bits : He.DefD := ⟨("closed_bits", none), "closed_bits", "closed_bits", defArgs s_closed_bits, defBody s_closed_bits, defScope s_closed_bits, [], []⟩
def d_closure_in : He.DefD := ⟨("closure_in", none), "closure_in", "closure_in", defArgs s_closure_in, defBody s_closure_in, defScope s_closure_in, [], []⟩
def d_closure : He.DefD := ⟨("closure", none), "closure", "closure", defArgs s_closure, defBody s_closure, defScope s_closure, [], []⟩
def d_is_closed : He.DefD := ⟨("is_closed", none), "is_closed", "is_closed", defArgs s_is_closed, defBody s_is_closed, defScope s_is_closed, [], []⟩
def d_closed_lots : He.DefD := ⟨("closed_lots", none), "closed_lots", "closed_lots", defArgs s_closed_lots, defBody s_closed_lots, defScope s_closed_lots, [], []⟩
def d_follows : He.DefD := ⟨("follows", none), "follows", "follows", defArgs s_follows, defBody s_follows, defScope s_follows, [], []⟩
def d_breaking : He.DefD := ⟨("breaking", none), "breaking", "breaking", defArgs s_breaking, defBody s_breaking, defScope s_breaking, [], []⟩
def d_is_within : He.DefD := ⟨("is_within", none), "is_within", "is_within", defArgs s_is_within, defBody s_is_within, defScope s_is_within, [], []⟩
def d_bits_rule : He.DefD := ⟨("bits_rule", none), "bits_rule", "bits_rule", defArgs s_bits_rule, defBody s_bits_rule, defScope s_bits_rule, [], []⟩
def d_nearly_pairs : He.DefD := ⟨("nearly_pairs", none), "nearly_pairs", "nearly_pairs", defArgs s_nearly_pairs, defBody s_nearly_pairs, defScope s_nearly_pairs, [], []⟩
def d_stem_of : He.DefD := ⟨("stem_of", none), "stem_of", "stem_of", defArgs s_stem_of, defBody s_stem_of, defScope s_stem_of, [], []⟩
def d_stem : He.DefD := ⟨("stem", none), "stem", "stem", defArgs s_stem, defBody s_stem, defScope s_stem, [], []⟩
def d_book_of_family : He.DefD := ⟨("book_of_family", none), "book_of_family", "book_of_family", defArgs s_book_of_family, defBody s_book_of_family, defScope s_book_of_family, [], []⟩
def d_is_map : He.DefD := ⟨("is_map", none), "is_map", "is_map", defArgs s_is_map, defBody s_is_map, defScope s_is_map, [], []⟩
def d_need_map : He.DefD := ⟨("need_map", none), "need_map", "need_map", defArgs s_need_map, defBody s_need_map, defScope s_need_map, [], []⟩
def d_led_bits : He.DefD := ⟨("led_bits", none), "led_bits", "led_bits", defArgs s_led_bits, defBody s_led_bits, defScope s_led_bits, [], []⟩
def d_source_bits : He.DefD := ⟨("source_bits", none), "source_bits", "source_bits", defArgs s_source_bits, defBody s_source_bits, defScope s_source_bits, [], []⟩
def d_led : He.DefD := ⟨("led", none), "led", "led", defArgs s_led, defBody s_led, defScope s_led, [], []⟩
def d_source : He.DefD := ⟨("source", none), "source", "source", defArgs s_source, defBody s_source, defScope s_source, [], []⟩
def d_after : He.DefD := ⟨("after", none), "after", "after", defArgs s_after, defBody s_after, defScope s_after, [], []⟩
def d_pulled : He.DefD := ⟨("pulled", none), "pulled", "pulled", defArgs s_pulled, defBody s_pulled, defScope s_pulled, [], []⟩
def d_pushed : He.DefD := ⟨("pushed", none), "pushed", "pushed", defArgs s_pushed, defBody s_pushed, defScope s_pushed, [], []⟩
def d_things_in : He.DefD := ⟨("things_in", none), "things_in", "things_in", defArgs s_things_in, defBody s_things_in, defScope s_things_in, [], []⟩
def d_lots_within : He.DefD := ⟨("lots_within", none), "lots_within", "lots_within", defArgs s_lots_within, defBody s_lots_within, defScope s_lots_within, [], []⟩
def d_closures_of : He.DefD := ⟨("closures_of", none), "closures_of", "closures_of", defArgs s_closures_of, defBody s_closures_of, defScope s_closures_of, [], []⟩
def d_spare_by : He.DefD := ⟨("spare_by", none), "spare_by", "spare_by", defArgs s_spare_by, defBody s_spare_by, defScope s_spare_by, [], []⟩
def d_makers_by : He.DefD := ⟨("makers_by", none), "makers_by", "makers_by", defArgs s_makers_by, defBody s_makers_by, defScope s_makers_by, [], []⟩
def d_makers_with : He.DefD := ⟨("makers_with", none), "makers_with", "makers_with", defArgs s_makers_with, defBody s_makers_with, defScope s_makers_with, [], []⟩
def d_all_things : He.DefD := ⟨("all_things", none), "all_things", "all_things", defArgs s_all_things, defBody s_all_things, defScope s_all_things, [], []⟩
def d_makers : He.DefD := ⟨("makers", none), "makers", "makers", defArgs s_makers, defBody s_makers, defScope s_makers, [], []⟩
def d_keys : He.DefD := ⟨("keys", none), "keys", "keys", defArgs s_keys, defBody s_keys, defScope s_keys, [], []⟩
def d_law_urn : He.DefD := ⟨("_law_urn", none), "_law_urn", "_law_urn", defArgs s_law_urn, defBody s_law_urn, defScope s_law_urn, [], []⟩
def d_law_draw : He.DefD := ⟨("_law_draw", none), "_law_draw", "_law_draw", defArgs s_law_draw, defBody s_law_draw, defScope s_law_draw, [], []⟩
def d_law_pick : He.DefD := ⟨("_law_pick", none), "_law_pick", "_law_pick", defArgs s_law_pick, defBody s_law_pick, defScope s_law_pick, [], []⟩
def d_law_shuffled : He.DefD := ⟨("_law_shuffled", none), "_law_shuffled", "_law_shuffled", defArgs s_law_shuffled, defBody s_law_shuffled, defScope s_law_shuffled, [], []⟩
def d_law_lot : He.DefD := ⟨("_law_lot", none), "_law_lot", "_law_lot", defArgs s_law_lot, defBody s_law_lot, defScope s_law_lot, [], []⟩
def d_law_mask : He.DefD := ⟨("_law_mask", none), "_law_mask", "_law_mask", defArgs s_law_mask, defBody s_law_mask, defScope s_law_mask, [], []⟩
def d_law_rank : He.DefD := ⟨("_law_rank", none), "_law_rank", "_law_rank", defArgs s_law_rank, defBody s_law_rank, defScope s_law_rank, [], []⟩
def d_law_in_order : He.DefD := ⟨("_law_in_order", none), "_law_in_order", "_law_in_order", defArgs s_law_in_order, defBody s_law_in_order, defScope s_law_in_order, [], []⟩
def d_law_family : He.DefD := ⟨("_law_family", none), "_law_family", "_law_family", defArgs s_law_family, defBody s_law_family, defScope s_law_family, [], []⟩
def d_law_shut : He.DefD := ⟨("_law_shut", none), "_law_shut", "_law_shut", defArgs s_law_shut, defBody s_law_shut, defScope s_law_shut, [], []⟩
def d_law_stem : He.DefD := ⟨("_law_stem", none), "_law_stem", "_law_stem", defArgs s_law_stem, defBody s_law_stem, defScope s_law_stem, [], []⟩
def d_law_meets : He.DefD := ⟨("_law_meets", none), "_law_meets", "_law_meets", defArgs s_law_meets, defBody s_law_meets, defScope s_law_meets, [], []⟩
def d_law_some : He.DefD := ⟨("_law_some", none), "_law_some", "_law_some", defArgs s_law_some, defBody s_law_some, defScope s_law_some, [], []⟩
def d_law_rules : He.DefD := ⟨("_law_rules", none), "_law_rules", "_law_rules", defArgs s_law_rules, defBody s_law_rules, defScope s_law_rules, [], []⟩
def d_law_spelt : He.DefD := ⟨("_law_spelt", none), "_law_spelt", "_law_spelt", defArgs s_law_spelt, defBody s_law_spelt, defScope s_law_spelt, [], []⟩
def d_law_tails : He.DefD := ⟨("_law_tails", none), "_law_tails", "_law_tails", defArgs s_law_tails, defBody s_law_tails, defScope s_law_tails, [], []⟩
def d_law_singles : He.DefD := ⟨("_law_singles", none), "_law_singles", "_law_singles", defArgs s_law_singles, defBody s_law_singles, defScope s_law_singles, [], []⟩
def d_law_bag : He.DefD := ⟨("_law_bag", none), "_law_bag", "_law_bag", defArgs s_law_bag, defBody s_law_bag, defScope s_law_bag, [], []⟩
def d_law_map : He.DefD := ⟨("_law_map", none), "_law_map", "_law_map", defArgs s_law_map, defBody s_law_map, defScope s_law_map, [], []⟩
def d_law_on : He.DefD := ⟨("_law_on", none), "_law_on", "_law_on", defArgs s_law_on, defBody s_law_on, defScope s_law_on, [], []⟩
def d_law_back : He.DefD := ⟨("_law_back", none), "_law_back", "_law_back", defArgs s_law_back, defBody s_law_back, defScope s_law_back, [], []⟩
def d_law_keys : He.DefD := ⟨("_law_keys", none), "_law_keys", "_law_keys", defArgs s_law_keys, defBody s_law_keys, defScope s_law_keys, [], []⟩
def d_law_is_ruled : He.DefD := ⟨("_law_is_ruled", none), "_law_is_ruled", "_law_is_ruled", defArgs s_law_is_ruled, defBody s_law_is_ruled, defScope s_law_is_ruled, [], []⟩
def d_law_is_pulled : He.DefD := ⟨("_law_is_pulled", none), "_law_is_pulled", "_law_is_pulled", defArgs s_law_is_pulled, defBody s_law_is_pulled, defScope s_law_is_pulled, [], []⟩
def d_law_is_pushed : He.DefD := ⟨("_law_is_pushed", none), "_law_is_pushed", "_law_is_pushed", defArgs s_law_is_pushed, defBody s_law_is_pushed, defScope s_law_is_pushed, [], []⟩
def d_law_along : He.DefD := ⟨("_law_along", none), "_law_along", "_law_along", defArgs s_law_along, defBody s_law_along, defScope s_law_along, [], []⟩
def d_law_by_pulls : He.DefD := ⟨("_law_by_pulls", none), "_law_by_pulls", "_law_by_pulls", defArgs s_law_by_pulls, defBody s_law_by_pulls, defScope s_law_by_pulls, [], []⟩
def d_law_by_pushes : He.DefD := ⟨("_law_by_pushes", none), "_law_by_pushes", "_law_by_pushes", defArgs s_law_by_pushes, defBody s_law_by_pushes, defScope s_law_by_pushes, [], []⟩
def d_law : He.DefD := ⟨("law", none), "law", "law", defArgs s_law, defBody s_law, defScope s_law, [], []⟩
def fn0 : List He.DefD := [d_bits_of, d_lot_of, d_lot_key, d_bits_key, d_ordered, d_rule_bits, d_is_kept, d_bits_round, d_bits_closure, d_closed_bits, d_closure_in, d_closure, d_is_closed, d_closed_lots, d_follows, d_breaking, d_is_within, d_bits_rule, d_nearly_pairs, d_stem_of, d_stem, d_book_of_family, d_is_map, d_need_map, d_led_bits, d_source_bits, d_led, d_source, d_after, d_pulled]
def fn1 : List He.DefD := [d_pushed, d_things_in, d_lots_within, d_closures_of, d_spare_by, d_makers_by, d_makers_with, d_all_things, d_makers, d_keys, d_law_urn, d_law_draw, d_law_pick, d_law_shuffled, d_law_lot, d_law_mask, d_law_rank, d_law_in_order, d_law_family, d_law_shut, d_law_stem, d_law_meets, d_law_some, d_law_rules, d_law_spelt, d_law_tails, d_law_singles, d_law_bag, d_law_map, d_law_on]
def fn2 : List He.DefD := [d_law_back, d_law_keys, d_law_is_ruled, d_law_is_pulled, d_law_is_pushed, d_law_along, d_law_by_pulls, d_law_by_pushes, d_law]
def fn : List He.DefD := fn0 ++ fn1 ++ fn2
def fa0 : List He.Fa := [.glo "bits_of", .glo "lot_of", .glo "lot_key", .glo "bits_key", .glo "ordered", .glo "rule_bits", .glo "is_kept", .glo "bits_round", .glo "bits_closure", .glo "closed_bits", .glo "closure_in", .glo "closure", .glo "is_closed", .glo "closed_lots", .glo "follows", .glo "breaking", .glo "is_within", .glo "bits_rule", .glo "nearly_pairs", .glo "stem_of", .glo "stem", .glo "book_of_family", .glo "is_map", .glo "need_map", .glo "led_bits", .glo "source_bits", .glo "led", .glo "source", .glo "after", .glo "pulled"]
def fa1 : List He.Fa := [.glo "pushed", .glo "things_in", .glo "lots_within", .glo "closures_of", .glo "spare_by", .glo "makers_by", .glo "makers_with", .glo "all_things", .glo "makers", .glo "keys", .glo "_law_urn", .glo "_law_draw", .glo "_law_pick", .glo "_law_shuffled", .glo "_law_lot", .glo "_law_mask", .glo "_law_rank", .glo "_law_in_order", .glo "_law_family", .glo "_law_shut", .glo "_law_stem", .glo "_law_meets", .glo "_law_some", .glo "_law_rules", .glo "_law_spelt", .glo "_law_tails", .glo "_law_singles", .glo "_law_bag", .glo "_law_map", .glo "_law_on"]
def fa2 : List He.Fa := [.glo "_law_back", .glo "_law_keys", .glo "_law_is_ruled", .glo "_law_is_pulled", .glo "_law_is_pushed", .glo "_law_along", .glo "_law_by_pulls", .glo "_law_by_pushes", .glo "law", .int "MAX_THINGS" 10, .int "MAX_RULES" 60, .free "len", .free "tuple", .free "list", .free "range", .free "sorted", .free "set", .free "dict", .free "sum", .free "all", .free "any", .free "int", .free "abs", .free "min", .free "isinstance", .free "repr", .free "enumerate", .free "bool"]
def fa : List He.Fa := fa0 ++ fa1 ++ fa2
def lo0 : List PySem.Str := [("MeetError" : PySem.Str), ("Unfit" : PySem.Str), ("TooMany" : PySem.Str), ("MAX_THINGS" : PySem.Str), ("MAX_RULES" : PySem.Str), ("bits_of" : PySem.Str), ("lot_of" : PySem.Str), ("lot_key" : PySem.Str), ("bits_key" : PySem.Str), ("ordered" : PySem.Str), ("rule_bits" : PySem.Str), ("is_kept" : PySem.Str), ("bits_round" : PySem.Str), ("bits_closure" : PySem.Str), ("closed_bits" : PySem.Str), ("closure_in" : PySem.Str), ("closure" : PySem.Str), ("is_closed" : PySem.Str), ("closed_lots" : PySem.Str), ("follows" : PySem.Str), ("breaking" : PySem.Str), ("is_within" : PySem.Str), ("bits_rule" : PySem.Str), ("nearly_pairs" : PySem.Str), ("stem_of" : PySem.Str), ("stem" : PySem.Str), ("book_of_family" : PySem.Str), ("is_map" : PySem.Str), ("need_map" : PySem.Str), ("led_bits" : PySem.Str)]
def lo1 : List PySem.Str := [("source_bits" : PySem.Str), ("led" : PySem.Str), ("source" : PySem.Str), ("after" : PySem.Str), ("pulled" : PySem.Str), ("pushed" : PySem.Str), ("things_in" : PySem.Str), ("lots_within" : PySem.Str), ("closures_of" : PySem.Str), ("spare_by" : PySem.Str), ("makers_by" : PySem.Str), ("makers_with" : PySem.Str), ("all_things" : PySem.Str), ("makers" : PySem.Str), ("keys" : PySem.Str), ("_law_urn" : PySem.Str), ("_law_draw" : PySem.Str), ("_law_pick" : PySem.Str), ("_law_shuffled" : PySem.Str), ("_law_lot" : PySem.Str), ("_law_mask" : PySem.Str), ("_law_rank" : PySem.Str), ("_law_in_order" : PySem.Str), ("_law_family" : PySem.Str), ("_law_shut" : PySem.Str), ("_law_stem" : PySem.Str), ("_law_meets" : PySem.Str), ("_law_some" : PySem.Str), ("_law_rules" : PySem.Str), ("_law_spelt" : PySem.Str)]
def lo2 : List PySem.Str := [("_law_tails" : PySem.Str), ("_law_singles" : PySem.Str), ("_law_bag" : PySem.Str), ("_law_map" : PySem.Str), ("_law_on" : PySem.Str), ("_law_back" : PySem.Str), ("_law_keys" : PySem.Str), ("_law_is_ruled" : PySem.Str), ("_law_is_pulled" : PySem.Str), ("_law_is_pushed" : PySem.Str), ("_law_along" : PySem.Str), ("_law_by_pulls" : PySem.Str), ("_law_by_pushes" : PySem.Str)]
def lo : List PySem.Str := lo0 ++ lo1 ++ lo2
abbrev RR : PySem.W.OpenRow := PySem.W.OpenLaw.row PySem.Challenge.rw_meetlots_k02_whole_pulled_closures_and_p
abbrev hk : PySem.W.Hook := He.hookD 3 fa fn
def ob (s : PySem.W.SharedT) : He.AlD := He.obsDG 3 fa fn (HandSHeadRun.getT s)
theorem ob_eq (s : PySem.W.SharedT) : ob s = hk.obs s.abs := He.obsDG_eq (HandSHeadRun.getT_eq s)
theorem run (w : World) : HandSHeadRun.RunEq RR (PySem.W.view RR.prog [81]) hk ob 3000 lo w := by
  intro os
  kernel_rfl
end ML
set_option Elab.async false
set_option linter.all false
set_option maxRecDepth 100000
set_option maxHeartbeats 2000000
/-! A layer over HandS: what a pure reading gives on data (PyData), over a part F of the heap that never changes. -/
namespace ML
open PySem L2
open Evl (Ex fresh_back ex_l ex_t)

/-! ### data that stands in F -/
mutual
inductive DV (F : Hp) : V → PyData → Prop
  | non : DV F .non .none
  | bl (b : Bool) : DV F (.bl b) (.bool b)
  | int (i : Int) : DV F (.int i) (.int i)
  | str (x : Str) : DV F (.str x) (.str x)
  | lst {a : Addr} {xs : List V} {ds : List PyData} : F a = some (.lst xs) → DVs F xs ds → DV F (.ref a) (.list ds)
  | tup {a : Addr} {xs : List V} {ds : List PyData} : Rd F a (.tup xs) → DVs F xs ds → DV F (.ref a) (.tuple ds)
inductive DVs (F : Hp) : List V → List PyData → Prop
  | nil : DVs F [] []
  | cons {v : V} {vs : List V} {d : PyData} {ds : List PyData} : DV F v d → DVs F vs ds → DVs F (v :: vs) (d :: ds)
end
section
variable {F F' H : Hp}
mutual
theorem DV.mono (e : Ex F F') : ∀ (d : PyData) (v : V), DV F v d → DV F' v d
  | .none, _, h => by cases h; exact .non
  | .bool b, _, h => by cases h; exact .bl b
  | .int i, _, h => by cases h; exact .int i
  | .str x, _, h => by cases h; exact .str x
  | .list ds, _, h => by
    cases h with
    | lst h1 h2 => exact .lst (e _ _ h1) (DVs.mono e ds _ h2)
  | .tuple ds, _, h => by
    cases h with
    | tup h1 h2 => exact .tup (Evl.ex_rd e h1) (DVs.mono e ds _ h2)
  | .dict _, _, h => by cases h
theorem DVs.mono (e : Ex F F') : ∀ (ds : List PyData) (vs : List V), DVs F vs ds → DVs F' vs ds
  | [], _, h => by cases h; exact .nil
  | d :: ds, _, h => by
    cases h with
    | cons h1 h2 => exact .cons (DV.mono e d _ h1) (DVs.mono e ds _ h2)
end
theorem DV.up {v : V} {d : PyData} (h : DV F v d) (e : Ex F F') : DV F' v d := DV.mono e d v h
theorem DVs.up {vs : List V} {ds : List PyData} (h : DVs F vs ds) (e : Ex F F') : DVs F' vs ds := DVs.mono e ds vs h
mutual
theorem DV.dp {K : PySem.W.Frag} (e : Ex F H) : ∀ (d : PyData) (v : V), DV F v d → Dp K H v d
  | .none, _, h => by cases h; exact .non
  | .bool b, _, h => by cases h; exact .bl b
  | .int i, _, h => by cases h; exact .int i
  | .str x, _, h => by cases h; exact .str x
  | .list ds, _, h => by
    cases h with
    | lst h1 h2 => exact .lst (SqL.of (e _ _ h1)) (DVs.dp e ds _ h2)
  | .tuple ds, _, h => by
    cases h with
    | tup h1 h2 => exact .tup (.inl (Evl.ex_rd e h1)) (DVs.dp e ds _ h2)
  | .dict _, _, h => by cases h
theorem DVs.dp {K : PySem.W.Frag} (e : Ex F H) : ∀ (ds : List PyData) (vs : List V), DVs F vs ds → DpAll K H vs ds
  | [], _, h => by cases h; exact .nil
  | d :: ds, _, h => by
    cases h with
    | cons h1 h2 => exact .cons (DV.dp e d _ h1) (DVs.dp e ds _ h2)
end
theorem DVs.len : ∀ {vs : List V} {ds : List PyData}, DVs F vs ds → vs.length = ds.length
  | _, [], h => by cases h; rfl
  | _, _ :: _, h => by
    cases h with
    | cons _ h2 => rw [List.length_cons, List.length_cons, DVs.len h2]
theorem DVs.at : ∀ {vs : List V} {ds : List PyData} {i : Nat} {d : PyData}, DVs F vs ds → ds[i]? = some d → ∃ v, vs[i]? = some v ∧ DV F v d
  | _, [], i, d, h, e => by simp at e
  | _, _ :: _, 0, d, h, e => by
    cases h with
    | cons h1 _ =>
      simp only [List.getElem?_cons_zero, Option.some.injEq] at e
      subst e
      exact ⟨_, by simp, h1⟩
  | _, _ :: _, i + 1, d, h, e => by
    cases h with
    | cons _ h2 =>
      obtain ⟨v, h3, h4⟩ := DVs.at (i := i) (d := d) h2 (by simpa using e)
      exact ⟨v, by simpa using h3, h4⟩
theorem DVs.app : ∀ {vs ws : List V} {ds es : List PyData}, DVs F vs ds → DVs F ws es → DVs F (vs ++ ws) (ds ++ es)
  | _, _, [], _, h, h' => by cases h; exact h'
  | _, _, _ :: _, _, h, h' => by
    cases h with
    | cons h1 h2 => exact .cons h1 (DVs.app h2 h')
theorem DVs.take : ∀ {vs : List V} {ds : List PyData} (n : Nat), DVs F vs ds → DVs F (vs.take n) (ds.take n)
  | _, _, 0, _ => by simp only [List.take_zero]; exact .nil
  | _, [], n + 1, h => by cases h; simp only [List.take_nil]; exact .nil
  | _, _ :: _, n + 1, h => by
    cases h with
    | cons h1 h2 => simp only [List.take_succ_cons]; exact .cons h1 (DVs.take n h2)
theorem DVs.drop : ∀ {vs : List V} {ds : List PyData} (n : Nat), DVs F vs ds → DVs F (vs.drop n) (ds.drop n)
  | _, _, 0, h => by simpa using h
  | _, [], n + 1, h => by cases h; simp only [List.drop_nil]; exact .nil
  | _, _ :: _, n + 1, h => by
    cases h with
    | cons h1 h2 => simp only [List.drop_succ_cons]; exact DVs.drop n h2
theorem DVs.ints : ∀ {ns : List Int} {vs : List V}, DVs F vs (ns.map PyData.int) → vs = ns.map V.int
  | [], _, h => by cases h; rfl
  | n :: ns, _, h => by
    cases h with
    | cons h1 h2 =>
      cases h1
      rw [DVs.ints h2]
      rfl
theorem DVs.ofInts : ∀ (ns : List Int), DVs F (ns.map V.int) (ns.map PyData.int)
  | [] => .nil
  | n :: ns => .cons (.int n) (DVs.ofInts ns)
theorem DVs.bools : ∀ {ns : List Bool} {vs : List V}, DVs F vs (ns.map PyData.bool) → vs = ns.map V.bl
  | [], _, h => by cases h; rfl
  | n :: ns, _, h => by
    cases h with
    | cons h1 h2 =>
      cases h1
      rw [DVs.bools h2]
      rfl
end

/-! ### steps: the heap H grows, its unchanging part F grows by new objects alone; objects of M may change -/
structure Stp (M : Addr → Prop) (F H F' H' : Hp) : Prop where
  hh : ∀ a o, H a = some o → ¬ M a → H' a = some o
  ff : Ex F F'
  fh : Ex F' H'
  nw : ∀ a, F a = none → H a ≠ none → F' a = none
abbrev NoM : Addr → Prop := fun _ => False
abbrev Stq (F H F' H' : Hp) : Prop := Stp NoM F H F' H'
section
variable {M : Addr → Prop} {F H F1 H1 F2 H2 : Hp}
theorem Stp.refl (e : Ex F H) : Stp M F H F H := ⟨fun _ _ h _ => h, Ex.refl F, e, fun _ h _ => h⟩
theorem Stq.ex (s : Stq F H F1 H1) : Ex H H1 := fun a o h => s.hh a o h (fun z => z)
theorem Stp.sets (s : Stp M F H F1 H1) {a : Addr} (h : H a ≠ none) (n : ¬ M a) : H1 a ≠ none := by
  cases q : H a with
  | none => exact absurd q h
  | some o => rw [s.hh a o q n]; simp
/-- a pure step behind -/
theorem Stp.then (s : Stp M F H F1 H1) (t : Stq F1 H1 F2 H2) (hm : ∀ a, M a → H1 a ≠ none) : Stp M F H F2 H2 :=
  ⟨fun a o h n => t.ex a o (s.hh a o h n), s.ff.trans t.ff, t.fh, fun a h n => t.nw a (s.nw a h n) (by
    by_cases m : M a
    · exact hm a m
    · exact s.sets n m)⟩
theorem Stq.trans (s : Stq F H F1 H1) (t : Stq F1 H1 F2 H2) : Stq F H F2 H2 := Stp.then s t fun _ z => z.elim
/-- a new object, known from now on -/
theorem Stq.new (e : Ex F H) {p : Addr} {o : HO} (h : H p = none) : Stq F H (upd F p o) (upd H p o) := by
  have hf : F p = none := fresh_back e h
  refine ⟨fun a u q _ => by rw [upd_ne (ne_of_none q h)]; exact q, Ex.new hf, fun a u q => ?_, fun a q n => ?_⟩
  · by_cases ha : a = p
    · subst ha; rw [upd_same] at q ⊢; exact q
    · rw [upd_ne ha] at q ⊢; exact e a u q
  · rw [upd_ne (fun z => n (by rw [z]; exact h))]
    exact q
theorem Ex.upd {p : Addr} {o : HO} (e : Ex F H) : Ex (upd F p o) (upd H p o) := fun a u q => by
  by_cases ha : a = p
  · subst ha; rw [upd_same] at q ⊢; exact q
  · rw [upd_ne ha] at q ⊢; exact e a u q
end

/-! ### what stands in the slots: nothing known; data; a ref; a list of the body's own that may still change; a dict with these masks as keys -/
inductive Sl where
  | un
  | da (d : PyData)
  | at_ (p : Addr)
  | ow (ds : List PyData)
  | dk (ks : List Nat)
def DkOk (kvs : List (Key × V)) (ks : List Nat) : Prop := kvs.length ≤ ks.length ∧ ∀ k : Nat, (valV kvs (.inl ((k : Nat) : Int))).isSome = ks.contains k
def SlOk (Z : Addr → Prop) (F H : Hp) (o : Option (Option V)) : Sl → Prop
  | .un => True
  | .da d => ∃ v, o = some (some v) ∧ DV F v d
  | .at_ p => o = some (some (.ref p))
  | .ow ds => ∃ p vs, o = some (some (.ref p)) ∧ Z p ∧ F p = none ∧ H p = some (.lst vs) ∧ DVs F vs ds
  | .dk ks => ∃ p kvs, o = some (some (.ref p)) ∧ Z p ∧ F p = none ∧ H p = some (.dK kvs) ∧ DkOk kvs ks
def EnvOk (Z : Addr → Prop) (F H : Hp) (σ : L2.St) (ρ : List Sl) : Prop := σ.length = ρ.length ∧ ∀ (i : Nat) (s : Sl), ρ[i]? = some s → SlOk Z F H σ[i]? s
abbrev EnvR := EnvOk fun _ => True
theorem SlOk.up {Z : Addr → Prop} {F F' H H' : Hp} {o : Option (Option V)} (e : Stq F H F' H') : ∀ {s : Sl}, SlOk Z F H o s → SlOk Z F' H' o s
  | .un, _ => trivial
  | .da _, ⟨v, h1, h2⟩ => ⟨v, h1, h2.up e.ff⟩
  | .at_ _, h => h
  | .ow _, ⟨p, vs, h1, z, h2, h3, h4⟩ => ⟨p, vs, h1, z, e.nw p h2 (by rw [h3]; simp), e.ex p _ h3, h4.up e.ff⟩
  | .dk _, ⟨p, kvs, h1, z, h2, h3, h4⟩ => ⟨p, kvs, h1, z, e.nw p h2 (by rw [h3]; simp), e.ex p _ h3, h4⟩
theorem EnvOk.up {Z : Addr → Prop} {F F' H H' : Hp} {σ : L2.St} {ρ : List Sl} (o : EnvOk Z F H σ ρ) (e : Stq F H F' H') : EnvOk Z F' H' σ ρ := ⟨o.1, fun i s h => (o.2 i s h).up e⟩
theorem SlOk.z {Z Z' : Addr → Prop} {F H : Hp} {o : Option (Option V)} (e : ∀ p, H p ≠ none → F p = none → Z p → Z' p) : ∀ {s : Sl}, SlOk Z F H o s → SlOk Z' F H o s
  | .un, _ => trivial
  | .da _, h => h
  | .at_ _, h => h
  | .ow _, ⟨p, vs, h1, z, h2, h3, h4⟩ => ⟨p, vs, h1, e p (by rw [h3]; simp) h2 z, h2, h3, h4⟩
  | .dk _, ⟨p, kvs, h1, z, h2, h3, h4⟩ => ⟨p, kvs, h1, e p (by rw [h3]; simp) h2 z, h2, h3, h4⟩
theorem EnvOk.z {Z Z' : Addr → Prop} {F H : Hp} {σ : L2.St} {ρ : List Sl} (o : EnvOk Z F H σ ρ) (e : ∀ p, H p ≠ none → F p = none → Z p → Z' p) : EnvOk Z' F H σ ρ := ⟨o.1, fun i s h => (o.2 i s h).z e⟩
theorem EnvOk.r {Z : Addr → Prop} {F H : Hp} {σ : L2.St} {ρ : List Sl} (o : EnvOk Z F H σ ρ) : EnvR F H σ ρ := o.z fun _ _ _ _ => trivial
theorem EnvOk.put {Z : Addr → Prop} {F H : Hp} {σ : L2.St} {ρ : List Sl} {i : Nat} {v : V} {s : Sl} (o : EnvOk Z F H σ ρ) (h : SlOk Z F H (some (some v)) s) : EnvOk Z F H (σ.set i (some v)) (ρ.set i s) := by
  refine ⟨by rw [List.length_set, List.length_set, o.1], fun j t hj => ?_⟩
  by_cases e : i = j
  · subst e
    by_cases hl : i < ρ.length
    · rw [List.getElem?_set_self hl] at hj
      rw [List.getElem?_set_self (by rw [o.1]; exact hl)]
      rw [← Option.some.inj hj]
      exact h
    · rw [List.getElem?_eq_none (by simpa using hl)] at hj
      cases hj
  · rw [List.getElem?_set_ne e] at hj ⊢
    exact o.2 j t hj
theorem EnvOk.da {Z : Addr → Prop} {F H : Hp} {σ : L2.St} {ρ : List Sl} {i : Nat} {v : V} {d : PyData} (o : EnvOk Z F H σ ρ) (h : DV F v d) : EnvOk Z F H (σ.set i (some v)) (ρ.set i (.da d)) := o.put ⟨v, rfl, h⟩
/-- less is known -/
def Lss : List Sl → List Sl → Prop := fun ρ ρ' => ρ.length = ρ'.length ∧ ∀ (i : Nat) (s : Sl), ρ'[i]? = some s → s = .un ∨ ρ[i]? = some s
theorem EnvOk.less {Z : Addr → Prop} {F H : Hp} {σ : L2.St} {ρ ρ' : List Sl} (o : EnvOk Z F H σ ρ) (l : Lss ρ ρ') : EnvOk Z F H σ ρ' := by
  refine ⟨o.1.trans l.1, fun i s h => ?_⟩
  rcases l.2 i s h with rfl | q
  · trivial
  · exact o.2 i s q
theorem Lss.refl (ρ : List Sl) : Lss ρ ρ := ⟨rfl, fun _ _ h => .inr h⟩
theorem Lss.cons {s : Sl} {ρ ρ' : List Sl} (l : Lss ρ ρ') : Lss (s :: ρ) (s :: ρ') := ⟨by rw [List.length_cons, List.length_cons, l.1], fun i t h => by
  cases i with
  | zero => exact .inr h
  | succ i => simpa using l.2 i t (by simpa using h)⟩
theorem Lss.un {s : Sl} {ρ ρ' : List Sl} (l : Lss ρ ρ') : Lss (s :: ρ) (.un :: ρ') := ⟨by rw [List.length_cons, List.length_cons, l.1], fun i t h => by
  cases i with
  | zero => exact .inl (by simpa using h.symm)
  | succ i => simpa using l.2 i t (by simpa using h)⟩
theorem Lss.nil : Lss [] [] := Lss.refl []

/-! ### what a reading gives -/
def E (te : TE) (ρ : List Sl) (d : PyData) : Prop := ∀ (σ : L2.St) (F H : Hp), Ex F H → EnvR F H σ ρ → ∀ Q : VK, (∀ v F' H', Stq F H F' H' → DV F' v d → Q v H') → te σ H Q
def ET (tt : TT) (ρ : List Sl) (b : Bool) : Prop := ∀ (σ : L2.St) (F H : Hp), Ex F H → EnvR F H σ ρ → ∀ Q : Bool → Hp → Prop, (∀ F' H', Stq F H F' H' → Q b H') → tt σ H Q
def EA (ta : TA) (ρ : List Sl) (ds : List PyData) : Prop := ∀ (σ : L2.St) (F H : Hp), Ex F H → EnvR F H σ ρ → ∀ Q : List V → Hp → Prop, (∀ vs F' H', Stq F H F' H' → DVs F' vs ds → Q vs H') → ta σ H Q
def EO (to : TO) (ρ : List Sl) (o : Option Int) : Prop := ∀ (σ : L2.St) (F H : Hp), Ex F H → EnvR F H σ ρ → ∀ Q : Option Int → Hp → Prop, (∀ F' H', Stq F H F' H' → Q o H') → to σ H Q
def RD (r : R2) (a b c : PyData) : Prop := ∀ (x y : V) (F H : Hp), Ex F H → DV F x a → DV F y b → ∀ Q : VK, (∀ v F' H', Stq F H F' H' → DV F' v c → Q v H') → r x y H Q
def RU (r : V → Hp → VK → Prop) (a c : PyData) : Prop := ∀ (x : V) (F H : Hp), Ex F H → DV F x a → ∀ Q : VK, (∀ v F' H', Stq F H F' H' → DV F' v c → Q v H') → r x H Q
def RC (r : List V → Hp → VK → Prop) (ds : List PyData) (c : PyData) : Prop := ∀ (vs : List V) (F H : Hp), Ex F H → DVs F vs ds → ∀ Q : VK, (∀ v F' H', Stq F H F' H' → DV F' v c → Q v H') → r vs H Q
section
variable {K : PySem.W.Frag} {ρ : List Sl} {ta tb te tc : TE} {t u : TT} {a b c d d' : PyData} {ds es : List PyData} {r r' : R2}
theorem E.to (h : E te ρ d) (e : d = d') : E te ρ d' := e ▸ h
theorem ET.to {x y : Bool} (h : ET t ρ x) (e : x = y) : ET t ρ y := e ▸ h
theorem RD.to (h : RD r a b c) (e : c = d) : RD r a b d := e ▸ h
theorem E_var {i : Nat} (h : ρ[i]? = some (.da d)) : E (tVar i) ρ d := fun σ F H e o Q q => by
  obtain ⟨v, hv, hd⟩ := o.2 i _ h
  exact ⟨v, hv, q v F H (Stp.refl e) hd⟩
theorem E_int {i : Int} : E (tC (.int i)) ρ (.int i) := fun σ F H e o Q q => q _ F H (Stp.refl e) (.int i)
theorem E_nat (n : Nat) {i : Int} (h : i = ((n : Nat) : Int) := by rfl) : E (tC (.int i)) ρ (.int ((n : Nat) : Int)) := fun σ F H e o Q q => q _ F H (Stp.refl e) (by rw [h]; exact .int _)
theorem E_bl {x : Bool} : E (tC (.bl x)) ρ (.bool x) := fun σ F H e o Q q => q _ F H (Stp.refl e) (.bl x)
theorem E_non : E (tC .non) ρ .none := fun σ F H e o Q q => q _ F H (Stp.refl e) .non
theorem E_str {x : Str} : E (tC (.str x)) ρ (.str x) := fun σ F H e o Q q => q _ F H (Stp.refl e) (.str x)
theorem E_op (ha : E ta ρ a) (hb : E tb ρ b) (hr : RD r a b c) : E (tOp r ta tb) ρ c := fun σ F H e o Q q =>
  ha σ F H e o _ fun x F1 H1 s1 dx => hb σ F1 H1 s1.fh (o.up s1) _ fun y F2 H2 s2 dy => hr x y F2 H2 s2.fh (dx.up s2.ff) dy Q fun v F3 H3 s3 dv => q v F3 H3 (Stq.trans s1 (Stq.trans s2 s3)) dv
theorem E_un {r : V → Hp → VK → Prop} (ha : E ta ρ a) (hr : RU r a c) : E (tUn r ta) ρ c := fun σ F H e o Q q =>
  ha σ F H e o _ fun x F1 H1 s1 dx => hr x F1 H1 s1.fh dx Q fun v F3 H3 s3 dv => q v F3 H3 (Stq.trans s1 s3) dv
theorem E_if {x : Bool} (ht : ET t ρ x) (h1 : x = true → E ta ρ d) (h2 : x = false → E tb ρ d) : E (tIf t ta tb) ρ d := fun σ F H e o Q q =>
  ht σ F H e o _ fun F1 H1 s1 => by
    cases x with
    | true =>
      show ta σ H1 Q
      exact h1 rfl σ F1 H1 s1.fh (o.up s1) Q fun v F2 H2 s2 => q v F2 H2 (Stq.trans s1 s2)
    | false =>
      show tb σ H1 Q
      exact h2 rfl σ F1 H1 s1.fh (o.up s1) Q fun v F2 H2 s2 => q v F2 H2 (Stq.trans s1 s2)
theorem EA_nil : EA tNil ρ [] := fun σ F H e o Q q => q _ F H (Stp.refl e) .nil
theorem EA_cons {tr : TA} (h : E te ρ d) (hr : EA tr ρ ds) : EA (tCons te tr) ρ (d :: ds) := fun σ F H e o Q q =>
  h σ F H e o _ fun v F1 H1 s1 dv => hr σ F1 H1 s1.fh (o.up s1) _ fun vs F2 H2 s2 dvs => q _ F2 H2 (Stq.trans s1 s2) (.cons (dv.up s2.ff) dvs)
theorem EA_1 (h : E te ρ d) : EA (tCons te tNil) ρ [d] := EA_cons h EA_nil
theorem EA_2 (h : E ta ρ a) (h' : E tb ρ b) : EA (tCons ta (tCons tb tNil)) ρ [a, b] := EA_cons h (EA_cons h' EA_nil)
theorem EA_3 (h : E ta ρ a) (h' : E tb ρ b) (h'' : E tc ρ c) : EA (tCons ta (tCons tb (tCons tc tNil))) ρ [a, b, c] := EA_cons h (EA_cons h' (EA_cons h'' EA_nil))
theorem E_tup {ta : TA} (h : EA ta ρ ds) (hl : ds.length ≤ 100000 := by exact Nat.le_of_ble_eq_true rfl) : E (tTup ta) ρ (.tuple ds) := fun σ F H e o Q q =>
  h σ F H e o _ fun vs F1 H1 s1 dvs => ⟨by rw [dvs.len]; exact Evl.sz_of hl, fun p hp => q _ (upd F1 p (.tup vs)) _ (Stq.trans s1 (Stq.new s1.fh hp)) (.tup (.inl upd_same) (dvs.up (Ex.new (fresh_back s1.fh hp))))⟩
theorem E_lst {ta : TA} (h : EA ta ρ ds) (hl : ds.length ≤ 100000 := by exact Nat.le_of_ble_eq_true rfl) : E (tLst ta) ρ (.list ds) := fun σ F H e o Q q =>
  h σ F H e o _ fun vs F1 H1 s1 dvs => ⟨by rw [dvs.len]; exact Evl.sz_of hl, fun p hp => q _ (upd F1 p (.lst vs)) _ (Stq.trans s1 (Stq.new s1.fh hp)) (.lst upd_same (dvs.up (Ex.new (fresh_back s1.fh hp))))⟩
theorem E_cb {r : List V → Hp → VK → Prop} {ta : TA} (h : EA ta ρ ds) (hr : RC r ds c) : E (tCB r ta) ρ c := fun σ F H e o Q q =>
  h σ F H e o _ fun vs F1 H1 s1 dvs => hr vs F1 H1 s1.fh dvs Q fun v F2 H2 s2 dv => q v F2 H2 (Stq.trans s1 s2) dv
/-! a pure def's promise -/
def spD (R : List PyData → PyData → Prop) : Sp := fun vs H Q _ => ∃ (F : Hp) (ds : List PyData), Ex F H ∧ DVs F vs ds ∧ ∃ d, R ds d ∧ ∀ v F' H', Stq F H F' H' → DV F' v d → Q v H'
theorem E_call {R : List PyData → PyData → Prop} {X : XK} {ta : TA} (h : EA ta ρ ds) (hr : R ds d) : E (tCall (spD R) [] X ta) ρ d := fun σ F H e o Q q =>
  h σ F H e o _ fun vs F1 H1 s1 dvs => ⟨F1, ds, s1.fh, by rw [List.append_nil]; exact dvs, d, hr, fun v F2 H2 s2 dv => q v F2 H2 (Stq.trans s1 s2) dv⟩
/-! tests -/
theorem ET_test {x : Bool} (h : E te ρ (.bool x)) : ET (tTest te) ρ x := fun σ F H e o Q q => h σ F H e o _ fun v F1 H1 s1 dv => by
  cases dv
  exact ⟨x, rfl, q F1 H1 s1⟩
theorem ET_B {x : Bool} (h : E te ρ (.bool x)) : ET (tB te) ρ x := fun σ F H e o Q q => h σ F H e o _ fun v F1 H1 s1 dv => by
  cases dv
  exact ⟨x, rfl, q F1 H1 s1⟩
theorem ET_and {x y : Bool} (h1 : ET t ρ x) (h2 : x = true → ET u ρ y) : ET (tAnd t u) ρ (x && y) := fun σ F H e o Q q => h1 σ F H e o _ fun F1 H1 s1 => by
  cases x with
  | true =>
    show u σ H1 Q
    exact h2 rfl σ F1 H1 s1.fh (o.up s1) Q fun F2 H2 s2 => q F2 H2 (Stq.trans s1 s2)
  | false =>
    show Q false H1
    exact q F1 H1 s1
theorem ET_or {x y : Bool} (h1 : ET t ρ x) (h2 : x = false → ET u ρ y) : ET (tOr t u) ρ (x || y) := fun σ F H e o Q q => h1 σ F H e o _ fun F1 H1 s1 => by
  cases x with
  | true =>
    show Q true H1
    exact q F1 H1 s1
  | false =>
    show u σ H1 Q
    exact h2 rfl σ F1 H1 s1.fh (o.up s1) Q fun F2 H2 s2 => q F2 H2 (Stq.trans s1 s2)
theorem ET_not {x : Bool} (h1 : ET t ρ x) : ET (tNot t) ρ (!x) := fun σ F H e o Q q => h1 σ F H e o _ fun F1 H1 s1 => q F1 H1 s1
theorem ET_yes : ET tYes ρ true := fun σ F H e o Q q => q F H (Stp.refl e)
/-- an int as a test -/
theorem ET_int {i : Int} (h : E te ρ (.int i)) : ET (fun σ H Q => te σ H fun x H' => ∃ k, TruV K x H' k ∧ Q k H') ρ (i != 0) := fun σ F H e o Q q => h σ F H e o _ fun v F1 H1 s1 dv => by
  cases dv
  exact ⟨_, rfl, q F1 H1 s1⟩
theorem E_andV {x y : Bool} (h1 : E ta ρ (.bool x)) (h2 : x = true → E tb ρ (.bool y)) : E (tAndV ta tb) ρ (.bool (x && y)) := fun σ F H e o Q q => h1 σ F H e o _ fun v F1 H1 s1 dv => by
  cases dv
  refine ⟨x, rfl, ?_⟩
  cases x with
  | true =>
    show tb σ H1 Q
    exact h2 rfl σ F1 H1 s1.fh (o.up s1) Q fun v F2 H2 s2 dv => q v F2 H2 (Stq.trans s1 s2) dv
  | false =>
    show Q (.bl false) H1
    exact q _ F1 H1 s1 (.bl false)
theorem E_orV {x y : Bool} (h1 : E ta ρ (.bool x)) (h2 : x = false → E tb ρ (.bool y)) : E (tOrV ta tb) ρ (.bool (x || y)) := fun σ F H e o Q q => h1 σ F H e o _ fun v F1 H1 s1 dv => by
  cases dv
  refine ⟨x, rfl, ?_⟩
  cases x with
  | true =>
    show Q (.bl true) H1
    exact q _ F1 H1 s1 (.bl true)
  | false =>
    show tb σ H1 Q
    exact h2 rfl σ F1 H1 s1.fh (o.up s1) Q fun v F2 H2 s2 dv => q v F2 H2 (Stq.trans s1 s2) dv
theorem E_notV {x : Bool} (h1 : E ta ρ (.bool x)) : E (tNotV ta) ρ (.bool (!x)) := fun σ F H e o Q q => h1 σ F H e o _ fun v F1 H1 s1 dv => by
  cases dv
  exact ⟨x, rfl, q _ F1 H1 s1 (.bl _)⟩
/-- a op b op' c -/
theorem E_chain {x y : Bool} (ha : E ta ρ a) (hb : E tb ρ b) (hc : E tc ρ c) (hr : RD r a b (.bool x)) (hr' : RD r' b c (.bool y)) : E (tChain r r' ta tb tc) ρ (.bool (x && y)) := fun σ F H e o Q q =>
  ha σ F H e o _ fun va F1 H1 s1 da => hb σ F1 H1 s1.fh (o.up s1) _ fun vb F2 H2 s2 db => hr va vb F2 H2 s2.fh (da.up s2.ff) db _ fun z F3 H3 s3 dz => by
    cases dz
    refine ⟨x, rfl, ?_⟩
    cases x with
    | true =>
      show tc σ H3 fun w' H4 => r' vb w' H4 Q
      have s := Stq.trans (Stq.trans s1 s2) s3
      refine hc σ F3 H3 s3.fh (o.up s) _ fun vc F4 H4 s4 dc => ?_
      exact hr' vb vc F4 H4 s4.fh (db.up (s3.ff.trans s4.ff)) dc Q fun v F5 H5 s5 dv => q v F5 H5 (Stq.trans s (Stq.trans s4 s5)) dv
    | false =>
      show Q (.bl false) H3
      exact q _ F3 H3 (Stq.trans (Stq.trans s1 s2) s3) (.bl false)
/-! slices -/
theorem EO_none : EO tNoPart ρ none := fun σ F H e o Q q => q F H (Stp.refl e)
theorem EO_some {i : Int} (h : E te ρ (.int i)) : EO (tPart te) ρ (some i) := fun σ F H e o Q q => h σ F H e o _ fun v F1 H1 s1 dv => by
  cases dv
  exact ⟨i, rfl, q F1 H1 s1⟩
theorem E_slL {tl th : TO} {lo hi : Option Int} (h : E te ρ (.list ds)) (hl : EO tl ρ lo) (hh : EO th ρ hi) :
    E (tSl (rSlL K) te tl th) ρ (.list ((ds.drop (HT.sIx ds.length 0 lo)).take (HT.sIx ds.length ds.length hi - HT.sIx ds.length 0 lo))) := fun σ F H e o Q q =>
  h σ F H e o _ fun v F1 H1 s1 dv => hl σ F1 H1 s1.fh (o.up s1) _ fun F2 H2 s2 => hh σ F2 H2 s2.fh (o.up (Stq.trans s1 s2)) _ fun F3 H3 s3 => by
    cases dv with
    | lst h1 h2 =>
      rename_i a xs
      have e3 := s2.ff.trans s3.ff
      refine ⟨a, xs, rfl, SqL.of (s3.fh _ _ (e3 _ _ h1)), fun p hp => ?_⟩
      have hn := fresh_back s3.fh hp
      refine q _ (upd F3 p (.lst (cutV xs lo hi))) _ (Stq.trans (Stq.trans s1 (Stq.trans s2 s3)) (Stq.new s3.fh hp)) (.lst upd_same ?_)
      refine DVs.up ?_ (e3.trans (Ex.new hn))
      unfold cutV
      rw [h2.len]
      exact (h2.drop _).take _
end
end ML
set_option Elab.async false
set_option linter.all false
set_option maxRecDepth 100000
set_option maxHeartbeats 2000000
/-! operators and built-ins on data -/
namespace ML
open PySem L2
open Evl (Ex fresh_back)

/-! ### masks -/
def diff (m n : Nat) : Nat := m - (m &&& n)
theorem diff_xor (m n : Nat) : diff m n = m ^^^ (m &&& n) := by
  have key : ∀ (k m n : Nat), m ≤ k → (m &&& n) + (m ^^^ (m &&& n)) = m := by
    intro k
    induction k with
    | zero =>
      intro m n h
      obtain rfl : m = 0 := by omega
      simp
    | succ k ih =>
      intro m n h
      by_cases h0 : m = 0
      · subst h0; simp
      · have e1 : (m &&& n) / 2 = m / 2 &&& n / 2 := Nat.and_div_two
        have e2 : (m ^^^ (m &&& n)) / 2 = m / 2 ^^^ (m / 2 &&& n / 2) := by rw [Nat.xor_div_two, Nat.and_div_two]
        have e3 := ih (m / 2) (n / 2) (by omega)
        have hb : ∀ x : Nat, x % 2 = (x.testBit 0).toNat := fun x => by
          rw [Nat.testBit_zero]
          rcases Nat.mod_two_eq_zero_or_one x with p | p <;> simp [p]
        have b1 : (m &&& n) % 2 = (m.testBit 0 && n.testBit 0).toNat := by rw [hb, Nat.testBit_and]
        have b2 : (m ^^^ (m &&& n)) % 2 = (m.testBit 0 ^^ (m.testBit 0 && n.testBit 0)).toNat := by rw [hb, Nat.testBit_xor, Nat.testBit_and]
        have b0 := hb m
        have hm := Nat.div_add_mod m 2
        have ha := Nat.div_add_mod (m &&& n) 2
        have hx := Nat.div_add_mod (m ^^^ (m &&& n)) 2
        rw [e1] at ha
        rw [e2] at hx
        cases p : m.testBit 0 <;> cases q : n.testBit 0 <;> rw [p] at b0 <;> rw [p, q] at b1 b2 <;> simp only [Bool.and_self, Bool.and_false, Bool.and_true, Bool.false_and, Bool.true_and, Bool.toNat_true, Bool.toNat_false, Bool.xor_false, Bool.xor_true, Bool.not_true, Bool.not_false, Bool.false_xor, Bool.true_xor, Bool.xor_self] at b0 b1 b2 <;> omega
  unfold diff
  have := key m m n (Nat.le_refl _)
  omega
theorem diff_bit (m n i : Nat) : (diff m n).testBit i = (m.testBit i && !n.testBit i) := by
  rw [diff_xor, Nat.testBit_xor, Nat.testBit_and]
  cases m.testBit i <;> cases n.testBit i <;> rfl
/-- m is in n -/
def sub (m n : Nat) : Bool := (m &&& n) == m
theorem sub_iff {m n : Nat} : sub m n = true ↔ ∀ i, m.testBit i = true → n.testBit i = true := by
  unfold sub
  rw [beq_iff_eq]
  constructor
  · intro h i hi
    have e := congrArg (fun x => x.testBit i) h
    simp only [Nat.testBit_and] at e
    rw [hi] at e
    simpa using e
  · intro h
    apply Nat.eq_of_testBit_eq
    intro i
    rw [Nat.testBit_and]
    cases e : m.testBit i with
    | false => rfl
    | true => rw [h i e]; rfl

theorem and_cast (m n : Nat) : Builtin.bitAnd (m : Int) (n : Int) = ((m &&& n : Nat) : Int) := by
  rw [PyProof.Rows.bitAnd_pp (Int.natCast_nonneg m) (Int.natCast_nonneg n)]
  simp
theorem or_cast (m n : Nat) : Builtin.bitOr (m : Int) (n : Int) = ((m ||| n : Nat) : Int) := by
  rw [Bits.bitOr_pp (Int.natCast_nonneg m) (Int.natCast_nonneg n)]
  simp
theorem andnot_cast (m n : Nat) : Builtin.bitAnd (m : Int) (Builtin.bitNot (n : Int)) = ((diff m n : Nat) : Int) := by
  rw [PyProof.Rows.bitAnd_not, and_cast]
  unfold diff
  have : m &&& n ≤ m := Nat.and_le_left
  omega
theorem shl_cast (m n : Nat) : (m : Int) * 2 ^ ((n : Int)).toNat = ((m <<< n : Nat) : Int) := by
  rw [Int.toNat_natCast, Nat.shiftLeft_eq]
  simp
theorem shr_cast (m n : Nat) : (m : Int) / 2 ^ ((n : Int)).toNat = ((m >>> n : Nat) : Int) := by
  rw [Int.toNat_natCast, Nat.shiftRight_eq_div_pow]
  simp
/-- bits >> thing & 1 == 1 -/
theorem bit_dec (m i : Nat) : decide (((m >>> i &&& 1 : Nat) : Int) = ((1 : Nat) : Int)) = m.testBit i := by
  unfold Nat.testBit
  rw [Nat.and_comm 1 (m >>> i), Nat.and_one_is_mod]
  rcases Nat.mod_two_eq_zero_or_one (m >>> i) with h | h <;> simp [h]
theorem bit_ne (m i : Nat) : (((m >>> i &&& 1 : Nat) : Int) != 0) = m.testBit i := by
  unfold Nat.testBit
  rw [Nat.and_comm 1 (m >>> i), Nat.and_one_is_mod]
  rcases Nat.mod_two_eq_zero_or_one (m >>> i) with h | h <;> simp [h]

section
variable {K : PySem.W.Frag} {ρ : List Sl} {a b c d : PyData} {ds es : List PyData} {r : R2} {i j : Int} {m n : Nat}
theorem rd_I0 {g : Int → Int → V} (h : ∀ F, DV F (g i j) c) : RD (rI0 g) (.int i) (.int j) c := fun x y F H e hx hy Q q => by
  cases hx; cases hy
  exact ⟨i, j, rfl, rfl, q _ F H (Stp.refl e) (h F)⟩
theorem rd_I {C : Int → Int → Prop} {g : Int → Int → V} (hc : C i j) (h : ∀ F, DV F (g i j) c) : RD (rI C g) (.int i) (.int j) c := fun x y F H e hx hy Q q => by
  cases hx; cases hy
  exact ⟨i, j, rfl, rfl, hc, q _ F H (Stp.refl e) (h F)⟩
theorem rd_add : RD (rI0 fun i j => .int (i + j)) (.int i) (.int j) (.int (i + j)) := rd_I0 fun F => .int _
theorem rd_addN : RD (rI0 fun i j => .int (i + j)) (.int (m : Int)) (.int (n : Int)) (.int ((m + n : Nat) : Int)) := rd_I0 fun F => by
  have e : ((m : Int) + (n : Int)) = ((m + n : Nat) : Int) := by omega
  rw [e]; exact .int _
theorem rd_sub : RD (rI0 fun i j => .int (i - j)) (.int i) (.int j) (.int (i - j)) := rd_I0 fun F => .int _
theorem rd_subN (h : n ≤ m) : RD (rI0 fun i j => .int (i - j)) (.int (m : Int)) (.int (n : Int)) (.int ((m - n : Nat) : Int)) := rd_I0 fun F => by
  have e : ((m : Int) - (n : Int)) = ((m - n : Nat) : Int) := by omega
  rw [e]; exact .int _
theorem rd_and : RD (rI0 fun i j => .int (Builtin.bitAnd i j)) (.int (m : Int)) (.int (n : Int)) (.int ((m &&& n : Nat) : Int)) := rd_I0 fun F => by rw [and_cast]; exact .int _
theorem rd_or : RD (rI0 fun i j => .int (Builtin.bitOr i j)) (.int (m : Int)) (.int (n : Int)) (.int ((m ||| n : Nat) : Int)) := rd_I0 fun F => by rw [or_cast]; exact .int _
theorem rd_diff : RD (rI0 fun i j => .int (Builtin.bitAnd i j)) (.int (m : Int)) (.int (Builtin.bitNot (n : Int))) (.int ((diff m n : Nat) : Int)) := rd_I0 fun F => by rw [andnot_cast]; exact .int _
theorem ru_inv : RU (L2.rU fun i => .int (Builtin.bitNot i)) (.int i) (.int (Builtin.bitNot i)) := fun x F H e hx Q q => by
  cases hx
  exact ⟨i, rfl, q _ F H (Stp.refl e) (.int _)⟩
theorem rd_shl (hm : m < 2 ^ 64 := by omega) (hn : n ≤ 1000000 := by omega) : RD (rI CPow fun i j => .int (i * 2 ^ j.toNat)) (.int (m : Int)) (.int (n : Int)) (.int ((m <<< n : Nat) : Int)) :=
  rd_I ⟨by omega, by omega, by omega⟩ fun F => by rw [shl_cast]; exact .int _
theorem rd_shr : RD (rI (fun _ j => 0 ≤ j) fun i j => .int (i / 2 ^ j.toNat)) (.int (m : Int)) (.int (n : Int)) (.int ((m >>> n : Nat) : Int)) :=
  rd_I (Int.natCast_nonneg n) fun F => by rw [shr_cast]; exact .int _
theorem rd_eq : RD rEq (.int i) (.int j) (.bool (decide (i = j))) := fun x y F H e hx hy Q q => by
  cases hx; cases hy
  refine ⟨rfl, q _ F H (Stp.refl e) ?_⟩
  rw [show decide (V.int i = V.int j) = decide (i = j) from by simp only [V.int.injEq]]
  exact .bl _
theorem rd_ne : RD rNe (.int i) (.int j) (.bool (!decide (i = j))) := fun x y F H e hx hy Q q => by
  cases hx; cases hy
  refine ⟨rfl, q _ F H (Stp.refl e) ?_⟩
  rw [show decide (V.int i = V.int j) = decide (i = j) from by simp only [V.int.injEq]]
  exact .bl _
theorem dec_cast : decide ((m : Int) = (n : Int)) = decide (m = n) := by simp only [Int.natCast_inj]
theorem rd_eqN : RD rEq (.int (m : Int)) (.int (n : Int)) (.bool (decide (m = n))) := rd_eq.to (by rw [dec_cast])
theorem rd_neN : RD rNe (.int (m : Int)) (.int (n : Int)) (.bool (!decide (m = n))) := rd_ne.to (by rw [dec_cast])
/-- a & b == a -/
theorem rd_subE : RD rEq (.int ((m &&& n : Nat) : Int)) (.int (m : Int)) (.bool (sub m n)) := rd_eqN.to rfl
theorem rd_subE' : RD rEq (.int ((n &&& m : Nat) : Int)) (.int (m : Int)) (.bool (sub m n)) := rd_eqN.to (by rw [Nat.and_comm]; rfl)
theorem rd_subNe' : RD rNe (.int ((n &&& m : Nat) : Int)) (.int (m : Int)) (.bool (!sub m n)) := rd_neN.to (by rw [Nat.and_comm]; rfl)
theorem rd_subNe : RD rNe (.int ((m &&& n : Nat) : Int)) (.int (m : Int)) (.bool (!sub m n)) := rd_neN.to rfl
theorem rd_bit : RD rEq (.int ((m >>> n &&& 1 : Nat) : Int)) (.int ((1 : Nat) : Int)) (.bool (m.testBit n)) := rd_eq.to (by rw [bit_dec])
theorem rd_eqStr {x y : Str} : RD rEq (.str x) (.str y) (.bool (decide (x = y))) := fun v w F H e hx hy Q q => by
  cases hx; cases hy
  refine ⟨rfl, q _ F H (Stp.refl e) ?_⟩
  rw [show decide (V.str x = V.str y) = decide (x = y) from by simp only [V.str.injEq]]
  exact .bl _
theorem rd_neStr {x y : Str} : RD rNe (.str x) (.str y) (.bool (!decide (x = y))) := fun v w F H e hx hy Q q => by
  cases hx; cases hy
  refine ⟨rfl, q _ F H (Stp.refl e) ?_⟩
  rw [show decide (V.str x = V.str y) = decide (x = y) from by simp only [V.str.injEq]]
  exact .bl _
theorem rd_lt : RD (rI0 fun i j => .bl (decide (i < j))) (.int i) (.int j) (.bool (decide (i < j))) := rd_I0 fun F => .bl _
theorem rd_le : RD (rI0 fun i j => .bl (decide (i ≤ j))) (.int i) (.int j) (.bool (decide (i ≤ j))) := rd_I0 fun F => .bl _
theorem rd_gt : RD (rI0 fun i j => .bl (decide (j < i))) (.int i) (.int j) (.bool (decide (j < i))) := rd_I0 fun F => .bl _
theorem rd_ge : RD (rI0 fun i j => .bl (decide (j ≤ i))) (.int i) (.int j) (.bool (decide (j ≤ i))) := rd_I0 fun F => .bl _
def isNn : PyData → Bool
  | .none => true
  | _ => false
theorem rd_isN : RD (fun x y H Q => y = .non ∧ Q (.bl (decide (x = .non))) H) a .none (.bool (isNn a)) := fun x y F H e hx hy Q q => by
  cases hy
  refine ⟨rfl, q _ F H (Stp.refl e) ?_⟩
  have e2 : decide (x = V.non) = isNn a := by cases hx <;> rfl
  rw [e2]
  exact .bl _
theorem rd_notN : RD (fun x y H Q => y = .non ∧ Q (.bl (!decide (x = .non))) H) a .none (.bool (!isNn a)) := fun x y F H e hx hy Q q => by
  cases hy
  refine ⟨rfl, q _ F H (Stp.refl e) ?_⟩
  have e2 : decide (x = V.non) = isNn a := by cases hx <;> rfl
  rw [e2]
  exact .bl _
theorem rd_eqD (ha : SeqAt.shaped a = true) (hb : SeqAt.shaped b = true) : RD (rEqD K) a b (.bool (PyData.eqv a b)) := fun x y F H e hx hy Q q =>
  ⟨a, b, hx.dp e, hy.dp e, ha, hb, q _ F H (Stp.refl e) (.bl _)⟩
theorem rd_neD (ha : SeqAt.shaped a = true) (hb : SeqAt.shaped b = true) : RD (rNeD K) a b (.bool (!PyData.eqv a b)) := fun x y F H e hx hy Q q =>
  ⟨a, b, hx.dp e, hy.dp e, ha, hb, q _ F H (Stp.refl e) (.bl _)⟩
theorem any_eqV (i : Int) : ∀ ns : List Int, (ns.map V.int).any (fun y => eqV y (.int i)) = ns.contains i
  | [] => rfl
  | n :: ns => by
    rw [List.map_cons, List.any_cons, any_eqV i ns, List.contains_cons]
    show (n == i || _) = (i == n || _)
    rw [Bool.beq_comm]
theorem flat_ints (ns : List Int) : (ns.map V.int).all flatV = true := by
  rw [List.all_map]
  exact List.all_eq_true.mpr fun _ _ => rfl
/-- i in a list of ints -/
theorem rd_in {ns : List Int} : RD (rIn K false) (.int i) (.list (ns.map PyData.int)) (.bool (ns.contains i)) := fun x y F H e hx hy Q q => by
  cases hx
  cases hy with
  | lst h1 h2 =>
    rename_i p xs
    rw [h2.ints] at h1
    refine ⟨p, _, rfl, .inl (SqL.of (e _ _ h1)), rfl, flat_ints ns, q _ F H (Stp.refl e) ?_⟩
    rw [if_neg Bool.false_ne_true]
    unfold inV
    rw [any_eqV]
    exact .bl _
theorem rd_notIn {ns : List Int} : RD (rIn K true) (.int i) (.list (ns.map PyData.int)) (.bool (!ns.contains i)) := fun x y F H e hx hy Q q => by
  cases hx
  cases hy with
  | lst h1 h2 =>
    rename_i p xs
    rw [h2.ints] at h1
    refine ⟨p, _, rfl, .inl (SqL.of (e _ _ h1)), rfl, flat_ints ns, q _ F H (Stp.refl e) ?_⟩
    rw [if_pos rfl]
    unfold inV
    rw [any_eqV]
    exact .bl _
theorem rd_ixL (h : ds[m]? = some d) : RD (rIxL K) (.list ds) (.int (m : Int)) d := fun x y F H e hx hy Q q => by
  cases hy
  cases hx with
  | lst h1 h2 =>
    obtain ⟨v, h3, h4⟩ := h2.at h
    exact ⟨_, _, (m : Int), v, rfl, rfl, SqL.of (e _ _ h1), atI_nat h3, q _ F H (Stp.refl e) h4⟩
theorem rd_ixT (h : ds[m]? = some d) : RD (rIxT K) (.tuple ds) (.int (m : Int)) d := fun x y F H e hx hy Q q => by
  cases hy
  cases hx with
  | tup h1 h2 =>
    obtain ⟨v, h3, h4⟩ := h2.at h
    exact ⟨_, _, (m : Int), v, rfl, rfl, .inl (Evl.ex_rd e h1), atI_nat h3, q _ F H (Stp.refl e) h4⟩
theorem rd_ixLast : RD (rIxL K) (.list (ds ++ [d])) (.int (-1)) d := fun x y F H e hx hy Q q => by
  cases hy
  cases hx with
  | lst h1 h2 =>
    rename_i xs
    obtain ⟨v, h3, h4⟩ := h2.at (i := ds.length) (d := d) (by simp)
    have hl : xs.length = ds.length + 1 := by rw [h2.len]; simp
    have e1 : xs = xs.take ds.length ++ [v] := by
      have h5 : xs.drop ds.length = [v] := by
        apply List.ext_getElem?
        intro k
        rw [List.getElem?_drop]
        cases k with
        | zero => simpa using h3
        | succ k => simp; omega
      rw [← h5, List.take_append_drop]
    refine ⟨_, xs, (-1 : Int), v, rfl, rfl, SqL.of (e _ _ h1), ?_, q _ F H (Stp.refl e) h4⟩
    rw [e1]
    exact atI_last _ _
theorem rd_cat (hz : ds.length + es.length ≤ 100000) : RD rCat (.list ds) (.list es) (.list (ds ++ es)) := fun x y F H e hx hy Q q => by
  cases hx with
  | lst h1 h2 =>
    cases hy with
    | lst h3 h4 =>
      refine ⟨_, _, _, _, rfl, rfl, e _ _ h1, e _ _ h3, by rw [h2.len, h4.len]; exact Evl.sz_of hz, fun p hp => ?_⟩
      exact q _ _ _ (Stq.new e hp) (.lst upd_same ((h2.app h4).up (Ex.new (fresh_back e hp))))

/-! ### built-ins -/
theorem rc_lenL : RC (fun xs H Q => ∃ x n, xs = [x] ∧ LenV K x H n ∧ Q (.int n) H) [.list ds] (.int (ds.length : Nat)) := fun vs F H e hv Q q => by
  cases hv with
  | cons h1 h2 =>
    cases h2
    cases h1 with
    | lst h3 h4 =>
      refine ⟨_, _, rfl, .inl ⟨_, SqL.of (e _ _ h3), rfl⟩, q _ F H (Stp.refl e) ?_⟩
      rw [h4.len]
      exact .int _
theorem rc_lenT : RC (fun xs H Q => ∃ x n, xs = [x] ∧ LenV K x H n ∧ Q (.int n) H) [.tuple ds] (.int (ds.length : Nat)) := fun vs F H e hv Q q => by
  cases hv with
  | cons h1 h2 =>
    cases h2
    cases h1 with
    | tup h3 h4 =>
      refine ⟨_, _, rfl, .inr ⟨_, .inl (Evl.ex_rd e h3), rfl⟩, q _ F H (Stp.refl e) ?_⟩
      rw [h4.len]
      exact .int _
/-- tuple(a list) -/
theorem rc_tuple : RC (fun xs H Q => ∃ p ys, xs = [.ref p] ∧ ((SqL K H p ys ∧ ∀ l, H l = none → Q (.ref l) (upd H l (.tup ys))) ∨ (SqT K H p ys ∧ Q (.ref p) H))) [.list ds] (.tuple ds) := fun vs F H e hv Q q => by
  cases hv with
  | cons h1 h2 =>
    cases h2
    cases h1 with
    | lst h3 h4 => exact ⟨_, _, rfl, .inl ⟨SqL.of (e _ _ h3), fun l hl => q _ _ _ (Stq.new e hl) (.tup (.inl upd_same) (h4.up (Ex.new (fresh_back e hl))))⟩⟩
theorem rc_sum {ns : List Int} : RC (rSum K) [.list (ns.map PyData.int)] (.int ns.sum) := fun vs F H e hv Q q => by
  cases hv with
  | cons h1 h2 =>
    cases h2
    cases h1 with
    | lst h3 h4 =>
      rw [h4.ints] at h3
      exact ⟨_, ns, rfl, SqL.of (e _ _ h3), q _ F H (Stp.refl e) (.int _)⟩
theorem rc_all {bs : List Bool} : RC (rAll K) [.list (bs.map PyData.bool)] (.bool (bs.all id)) := fun vs F H e hv Q q => by
  cases hv with
  | cons h1 h2 =>
    cases h2
    cases h1 with
    | lst h3 h4 =>
      rw [h4.bools] at h3
      exact ⟨_, bs, rfl, SqL.of (e _ _ h3), q _ F H (Stp.refl e) (.bl _)⟩
theorem rc_any {bs : List Bool} : RC (rAny K) [.list (bs.map PyData.bool)] (.bool (bs.any id)) := fun vs F H e hv Q q => by
  cases hv with
  | cons h1 h2 =>
    cases h2
    cases h1 with
    | lst h3 h4 =>
      rw [h4.bools] at h3
      exact ⟨_, bs, rfl, SqL.of (e _ _ h3), q _ F H (Stp.refl e) (.bl _)⟩
theorem rc_int : RC (fun xs H Q => (∃ i, xs = [.int i] ∧ Q (.int i) H) ∨ ∃ k, xs = [.bl k] ∧ Q (.int (if k then 1 else 0)) H) [.int i] (.int i) := fun vs F H e hv Q q => by
  cases hv with
  | cons h1 h2 =>
    cases h2
    cases h1
    exact .inl ⟨i, rfl, q _ F H (Stp.refl e) (.int _)⟩
theorem rc_intB {k : Bool} : RC (fun xs H Q => (∃ i, xs = [.int i] ∧ Q (.int i) H) ∨ ∃ k, xs = [.bl k] ∧ Q (.int (if k then 1 else 0)) H) [.bool k] (.int (if k then 1 else 0)) := fun vs F H e hv Q q => by
  cases hv with
  | cons h1 h2 =>
    cases h2
    cases h1
    exact .inr ⟨k, rfl, q _ F H (Stp.refl e) (.int _)⟩
theorem rc_abs : RC (fun xs H Q => ∃ i, xs = [.int i] ∧ Q (.int (if i < 0 then -i else i)) H) [.int i] (.int (i.natAbs : Nat)) := fun vs F H e hv Q q => by
  cases hv with
  | cons h1 h2 =>
    cases h2
    cases h1
    refine ⟨i, rfl, q _ F H (Stp.refl e) ?_⟩
    have e2 : (if i < 0 then -i else i) = (i.natAbs : Int) := by split <;> omega
    rw [e2]
    exact .int _
theorem rc_min : RC (fun xs H Q => ∃ i j, xs = [.int i, .int j] ∧ Q (.int (if j < i then j else i)) H) [.int (m : Int), .int (n : Int)] (.int ((min m n : Nat) : Int)) := fun vs F H e hv Q q => by
  cases hv with
  | cons h1 h2 =>
    cases h2 with
    | cons h3 h4 =>
      cases h4
      cases h1
      cases h3
      refine ⟨_, _, rfl, q _ F H (Stp.refl e) ?_⟩
      have e2 : (if (n : Int) < (m : Int) then (n : Int) else (m : Int)) = ((min m n : Nat) : Int) := by split <;> omega
      rw [e2]
      exact .int _
end
end ML
set_option Elab.async false
set_option linter.all false
set_option maxRecDepth 100000
set_option maxHeartbeats 2000000
/-! what is walked, comprehensions, statements, a pure def -/
namespace ML
open PySem L2
open Evl (Ex fresh_back)

/-! ### what is walked -/
structure WalkOk (J : It) (ds : List PyData) (F1 : Hp) : Prop where
  go : ∀ (i : Nat) (H : Hp), i < ds.length → Ex F1 H → J.go i H
  yld : ∀ (i : Nat) (H : Hp) (x : V) (H' : Hp) (d : PyData) (F : Hp), ds[i]? = some d → Ex F1 F → Ex F H → J.yld i H x H' → ∃ F', Stq F H F' H' ∧ DV F' x d
  stop : ∀ (i : Nat) (H : Hp), ds.length = i → Ex F1 H → J.stop i H
def WI (wi : TI) (ρ : List Sl) (ds : List PyData) : Prop := ∀ (σ : L2.St) (F H : Hp), Ex F H → EnvR F H σ ρ → ∀ R : It → Hp → Prop, (∀ J F1 H1, Stq F H F1 H1 → WalkOk J ds F1 → R J H1) → wi σ H R
section
variable {K : PySem.W.Frag} {ρ : List Sl} {tl : TE} {ds : List PyData}
theorem walk_list {F1 : Hp} {a : Addr} {xs : List V} (h1 : F1 a = some (.lst xs)) (h2 : DVs F1 xs ds) : WalkOk (Itl K a) ds F1 := by
  refine ⟨fun i H hi e => ?_, fun i H x H' d F hd e eh y => ?_, fun i H hi e => ?_⟩
  · have hx : i < xs.length := by rw [h2.len]; exact hi
    exact ⟨xs, xs[i], SqL.of (e _ _ h1), by simp [hx]⟩
  · obtain ⟨rfl, q⟩ := y
    have q2 := q xs (SqL.of (eh _ _ (e _ _ h1)))
    obtain ⟨v, h3, h4⟩ := h2.at hd
    rw [h3] at q2
    cases q2
    exact ⟨F, Stp.refl eh, h4.up e⟩
  · exact ⟨xs, SqL.of (e _ _ h1), by rw [h2.len]; exact Nat.le_of_eq hi⟩
theorem walk_tup {F1 : Hp} {a : Addr} {xs : List V} (h1 : Rd F1 a (.tup xs)) (h2 : DVs F1 xs ds) : WalkOk (Itt K a) ds F1 := by
  refine ⟨fun i H hi e => ?_, fun i H x H' d F hd e eh y => ?_, fun i H hi e => ?_⟩
  · have hx : i < xs.length := by rw [h2.len]; exact hi
    exact ⟨xs, xs[i], .inl (Evl.ex_rd e h1), by simp [hx]⟩
  · obtain ⟨rfl, q⟩ := y
    have q2 := q xs (.inl (Evl.ex_rd eh (Evl.ex_rd e h1)))
    obtain ⟨v, h3, h4⟩ := h2.at hd
    rw [h3] at q2
    cases q2
    exact ⟨F, Stp.refl eh, h4.up e⟩
  · exact ⟨xs, .inl (Evl.ex_rd e h1), by rw [h2.len]; exact Nat.le_of_eq hi⟩
theorem WI_list (h : E tl ρ (.list ds)) : WI (iList K tl) ρ ds := fun σ F H e o R q => h σ F H e o _ fun v F1 H1 s1 dv => by
  cases dv with
  | lst h1 h2 => exact ⟨_, rfl, ⟨_, SqL.of (s1.fh _ _ h1)⟩, q _ F1 H1 s1 (walk_list h1 h2)⟩
theorem WI_tup (h : E tl ρ (.tuple ds)) : WI (iTup K tl) ρ ds := fun σ F H e o R q => h σ F H e o _ fun v F1 H1 s1 dv => by
  cases dv with
  | tup h1 h2 => exact ⟨_, rfl, ⟨_, .inl (Evl.ex_rd s1.fh h1)⟩, q _ F1 H1 s1 (walk_tup h1 h2)⟩
def nats (l : List Nat) : List PyData := l.map fun i => .int ((i : Nat) : Int)
theorem WI_rng {ta : TA} {n : Nat} (h : EA ta ρ [.int (n : Int)]) (hn : n ≤ 100000) : WI (iRng1 ta) ρ ((List.range n).map fun i => .int ((i : Nat) : Int)) := fun σ F H e o R q => h σ F H e o _ fun vs F1 H1 s1 dv => by
  cases dv with
  | cons h1 h2 =>
    cases h2
    cases h1
    refine ⟨(n : Int), rfl, by omega, by omega, q _ F1 H1 s1 ⟨fun i H hi e => ?_, fun i H x H' d F hd e eh y => ?_, fun i H hi e => ?_⟩⟩
    · show i < ((n : Nat) : Int).toNat
      simpa using hi
    · obtain ⟨rfl, rfl⟩ := y
      rw [List.getElem?_map] at hd
      by_cases hi : i < n
      · rw [List.getElem?_range hi] at hd
        simp only [Option.map_some, Option.some.injEq] at hd
        subst hd
        rw [Int.zero_add]
        exact ⟨F, Stp.refl eh, .int _⟩
      · rw [List.getElem?_eq_none (by simpa using hi)] at hd
        cases hd
    · show ((n : Nat) : Int).toNat ≤ i
      rw [List.length_map, List.length_range] at hi
      omega
end

/-! ### targets -/
def GB (g : TG) (vs : List Nat) (ρ : List Sl) (d : PyData) (ρ' : List Sl) : Prop := ∀ (σ : L2.St) (F H : Hp) (v : V), Ex F H → EnvR F H σ ρ → DV F v d → ∀ Q : L2.St → Hp → Prop, (∀ σ', EnvR F H σ' ρ' → wipe σ' vs = wipe σ vs → Q σ' H) → g v σ H Q
theorem wipe_get (σ : L2.St) : ∀ (vs : List Nat) (i : Nat), (wipe σ vs)[i]? = if i ∈ vs ∧ i < σ.length then some none else σ[i]?
  | [], i => by simp [wipe]
  | v :: vs, i => by
    unfold wipe
    by_cases e : v = i
    · subst e
      by_cases hl : v < σ.length
      · rw [List.getElem?_set_self (by rw [wipe_length]; exact hl), if_pos ⟨by simp, hl⟩]
      · rw [List.getElem?_eq_none (by rw [List.length_set, wipe_length]; omega), if_neg (fun z => hl z.2), List.getElem?_eq_none (by omega)]
    · rw [List.getElem?_set_ne e, wipe_get σ vs i]
      have : (i ∈ v :: vs) ↔ i ∈ vs := by
        rw [List.mem_cons]
        exact ⟨fun z => z.elim (fun q => absurd q.symm e) id, .inr⟩
      simp only [this]
theorem wipe_set (σ : L2.St) (vs : List Nat) {j : Nat} (x : Option V) (h : j ∈ vs) : wipe (σ.set j x) vs = wipe σ vs := by
  apply List.ext_getElem?
  intro i
  rw [wipe_get, wipe_get, List.length_set]
  by_cases e : j = i
  · subst e
    by_cases hl : j < σ.length
    · rw [if_pos ⟨h, hl⟩, if_pos ⟨h, hl⟩]
    · rw [if_neg (fun z => hl z.2), if_neg (fun z => hl z.2), List.getElem?_eq_none (by rw [List.length_set]; omega), List.getElem?_eq_none (by omega)]
  · rw [List.getElem?_set_ne e]
theorem wipe_wipe (σ : L2.St) (vs : List Nat) : wipe (wipe σ vs) vs = wipe σ vs := by
  apply List.ext_getElem?
  intro i
  rw [wipe_get, wipe_length, wipe_get]
  by_cases h : i ∈ vs ∧ i < σ.length
  · rw [if_pos h]; simp [h]
  · rw [if_neg h, if_neg h]
def wipeR (ρ : List Sl) : List Nat → List Sl
  | [] => ρ
  | v :: vs => (wipeR ρ vs).set v .un
theorem EnvOk.unset {Z : Addr → Prop} {F H : Hp} {σ : L2.St} {ρ : List Sl} {i : Nat} (o : EnvOk Z F H σ ρ) : EnvOk Z F H (σ.set i none) (ρ.set i .un) := by
  refine ⟨by rw [List.length_set, List.length_set, o.1], fun j t hj => ?_⟩
  by_cases e : i = j
  · subst e
    by_cases hl : i < ρ.length
    · rw [List.getElem?_set_self hl] at hj
      rw [← Option.some.inj hj]
      trivial
    · rw [List.getElem?_eq_none (by simpa using hl)] at hj
      cases hj
  · rw [List.getElem?_set_ne e] at hj ⊢
    exact o.2 j t hj
theorem EnvOk.wipe {Z : Addr → Prop} {F H : Hp} {σ : L2.St} {ρ : List Sl} (o : EnvOk Z F H σ ρ) : ∀ vs : List Nat, EnvOk Z F H (L2.wipe σ vs) (wipeR ρ vs)
  | [] => o
  | v :: vs => (EnvOk.wipe o vs).unset
section
variable {K : PySem.W.Frag} {ρ : List Sl} {d d1 d2 d3 : PyData} {vs : List Nat} {i j k : Nat}
theorem GB_name (h : j ∈ vs) : GB (gName j) vs ρ d (ρ.set j (.da d)) := fun σ F H v e o dv Q q => q _ (o.da dv) (wipe_set _ _ _ h)
theorem GB_pair (hi : i ∈ vs) (hj : j ∈ vs) : GB (gTup K 2 (gCons (gName i) (gCons (gName j) gNil))) vs ρ (.tuple [d1, d2]) ((ρ.set i (.da d1)).set j (.da d2)) := fun σ F H v e o dv Q q => by
  cases dv with
  | tup h1 h2 =>
    cases h2 with
    | cons a1 a2 =>
      cases a2 with
      | cons a3 a4 =>
        cases a4
        exact ⟨_, _, rfl, .inl (Evl.ex_rd e h1), rfl, _, _, rfl, _, _, rfl, rfl, q _ ((o.da a1).da a3) (by rw [wipe_set _ _ _ hj, wipe_set _ _ _ hi])⟩
theorem GB_name0 : GB (gName j) [] ρ d (ρ.set j (.da d)) → True := fun _ => trivial
end
/-- a target of a for: nothing is asked of the other slots -/
def GF (g : TG) (ρ : List Sl) (d : PyData) (ρ' : List Sl) : Prop := ∀ (Z : Addr → Prop) (σ : L2.St) (F H : Hp) (v : V), Ex F H → EnvOk Z F H σ ρ → DV F v d → ∀ Q : L2.St → Hp → Prop, (∀ σ', EnvOk Z F H σ' ρ' → Q σ' H) → g v σ H Q
section
variable {K : PySem.W.Frag} {ρ : List Sl} {d d1 d2 d3 : PyData} {i j k : Nat}
theorem GF_name : GF (gName j) ρ d (ρ.set j (.da d)) := fun Z σ F H v e o dv Q q => q _ (o.da dv)
theorem GF_pair : GF (gTup K 2 (gCons (gName i) (gCons (gName j) gNil))) ρ (.tuple [d1, d2]) ((ρ.set i (.da d1)).set j (.da d2)) := fun Z σ F H v e o dv Q q => by
  cases dv with
  | tup h1 h2 =>
    cases h2 with
    | cons a1 a2 =>
      cases a2 with
      | cons a3 a4 =>
        cases a4
        exact ⟨_, _, rfl, .inl (Evl.ex_rd e h1), rfl, _, _, rfl, _, _, rfl, rfl, q _ ((o.da a1).da a3)⟩
end

/-! ### comprehensions -/
theorem filt_map_succ {α : Type} {ys : List α} {p : α → Bool} {f : α → PyData} {i : Nat} {y : α} (h : ys[i]? = some y) :
    ((ys.take (i + 1)).filter p).map f = if p y = true then ((ys.take i).filter p).map f ++ [f y] else ((ys.take i).filter p).map f := by
  rw [List.take_add_one, h]
  simp only [Option.toList_some, List.filter_append, List.map_append, List.filter_cons, List.filter_nil]
  split <;> simp
/-- what a comprehension asks behind its iterable's reading -/
def Lk (J : It) (g : TG) (tt : TT) (te : TE) (vs : List Nat) (σ : L2.St) (H1 : Hp) (Q : VK) : Prop := tLc (fun _ H R => R J H) g tt te vs σ H1 Q
/-- its list is new and not yet taken for data -/
theorem lc_at {α : Type} {J : It} {F1 H1 : Hp} {g : TG} {tt : TT} {te : TE} {vs : List Nat} {σ : L2.St} {ρ : List Sl} {ys : List α} {enc f : α → PyData} {p : α → Bool} {ρ' : α → List Sl} (x1 : Ex F1 H1) (o : EnvR F1 H1 σ ρ) (W : WalkOk J (ys.map enc) F1) (hl : ys.length ≤ 100000) (hg : ∀ y ∈ ys, GB g vs (wipeR ρ vs) (enc y) (ρ' y))
    (ht : ∀ y ∈ ys, ET tt (ρ' y) (p y)) (he : ∀ y ∈ ys, p y = true → E te (ρ' y) (f y)) {Q : VK} (q : ∀ D acc F2 H2, Stq F1 H1 F2 H2 → H1 D = none → F2 D = none → H2 D = some (.lst acc) → DVs F2 acc ((ys.filter p).map f) → Q (.ref D) H2) : Lk J g tt te vs σ H1 Q := by
  intro D hD
  have o1 : EnvR F1 H1 (wipe σ vs) (wipeR ρ vs) := o.wipe vs
  refine ⟨fun i m H2 => m = ys.length - i ∧ i ≤ ys.length ∧ ∃ F2 acc, Ex F1 F2 ∧ Ex F2 H2 ∧ Ex H1 H2 ∧ (∀ a, F1 a = none → H1 a ≠ none → F2 a = none) ∧ F2 D = none ∧ H2 D = some (.lst acc) ∧ DVs F2 acc (((ys.take i).filter p).map f),
    ⟨ys.length, by simp, Nat.zero_le _, F1, [], Ex.refl F1, fun a u h => ?_, Ex.new hD, fun a h _ => h, fresh_back x1 hD, upd_same, by simpa using DVs.nil⟩, ?_⟩
  · rw [upd_ne (ne_of_none (x1 _ _ h) hD)]; exact x1 _ _ h
  · rintro i m H2 ⟨rfl, hi, F2, acc, e12, e2, eh, nw, fD, hacc, dacc⟩
    have hlen : acc.length ≤ 100000 := by
      rw [dacc.len, List.length_map]
      exact Nat.le_trans (List.length_filter_le _ _) (Nat.le_trans (List.length_take_le _ _) (Nat.le_trans hi hl))
    by_cases hlt : i < ys.length
    · refine .inr ⟨W.go i H2 (by rw [List.length_map]; exact hlt) (e12.trans e2), ?_⟩
      have hy : ys[i]? = some ys[i] := List.getElem?_eq_getElem hlt
      have hm : ys[i] ∈ ys := List.getElem_mem hlt
      refine ⟨fun H3 => ∃ F3 acc, Ex F1 F3 ∧ Ex F3 H3 ∧ Ex H1 H3 ∧ (∀ a, F1 a = none → H1 a ≠ none → F3 a = none) ∧ F3 D = none ∧ H3 D = some (.lst acc) ∧ DVs F3 acc (((ys.take (i + 1)).filter p).map f), fun H3 h3 => ⟨ys.length - (i + 1), by omega, rfl, hlt, h3⟩, fun x H3 y => ?_⟩
      obtain ⟨F3, s3, dx⟩ := W.yld i H2 x H3 (enc ys[i]) F2 (by rw [List.getElem?_map, hy]; rfl) e12 e2 y
      refine hg _ hm (wipe σ vs) F3 H3 x s3.fh (o1.up (Stq.trans (show Stq F1 H1 F2 H2 from ⟨fun a u h _ => eh a u h, e12, e2, nw⟩) s3)) dx _ fun σ2 o2 hw => ⟨by rw [hw, wipe_wipe], ?_⟩
      refine ht _ hm σ2 F3 H3 s3.fh o2 _ fun F4 H4 s4 => ?_
      have s24 := Stq.trans s3 s4
      have nw4 : ∀ a, F1 a = none → H1 a ≠ none → F4 a = none := fun a ha hn => s24.nw a (nw a ha hn) (by
        cases q : H1 a with
        | none => exact absurd q hn
        | some u => rw [eh a u q]; simp)
      have f4D : F4 D = none := s24.nw D fD (by rw [hacc]; simp)
      cases hp : p ys[i] with
      | true =>
        rw [if_pos rfl]
        refine he _ hm hp σ2 F4 H4 s4.fh (o2.up s4) _ fun v F5 H5 s5 dv => ?_
        have s25 := Stq.trans s24 s5
        have f5D : F5 D = none := s5.nw D f4D (by rw [Stq.ex s24 _ _ hacc]; simp)
        refine ⟨acc, Stq.ex s25 _ _ hacc, Evl.sz_lt (by
          rw [dacc.len, List.length_map]
          have h1 := List.length_filter_le p (ys.take i)
          have h2 := List.length_take_le i ys
          omega), F5, acc ++ [v], e12.trans s25.ff, fun a u h => ?_, fun a u h => ?_, fun a ha hn => ?_, f5D, upd_same, ?_⟩
        · rw [upd_ne (ne_of_none h f5D)]; exact s5.fh _ _ h
        · rw [upd_ne (ne_of_none h hD)]; exact Stq.ex s25 _ _ (eh _ _ h)
        · refine s5.nw a (nw4 a ha hn) ?_
          cases q : H1 a with
          | none => exact absurd q hn
          | some u => rw [Stq.ex s24 _ _ (eh a u q)]; simp
        · rw [filt_map_succ hy, if_pos hp]
          exact (dacc.up s25.ff).app (.cons dv .nil)
      | false =>
        rw [if_neg Bool.false_ne_true]
        refine ⟨F4, acc, e12.trans s24.ff, s4.fh, fun a u h => Stq.ex s24 _ _ (eh _ _ h), nw4, f4D, Stq.ex s24 _ _ hacc, ?_⟩
        rw [filt_map_succ hy, if_neg (by rw [hp]; simp)]
        exact dacc.up s24.ff
    · refine .inl ⟨W.stop i H2 (by rw [List.length_map]; omega) (e12.trans e2), ?_⟩
      have hi' : ys.take i = ys := List.take_of_length_le (by omega)
      rw [hi'] at dacc
      exact q D acc F2 H2 ⟨fun a u h _ => eh a u h, e12, e2, nw⟩ hD fD hacc dacc
theorem E_lc {α : Type} {wi : TI} {g : TG} {tt : TT} {te : TE} {vs : List Nat} {ρ : List Sl} {ys : List α} {enc f : α → PyData} {p : α → Bool} {ρ' : α → List Sl} (hW : WI wi ρ (ys.map enc)) (hl : ys.length ≤ 100000) (hg : ∀ y ∈ ys, GB g vs (wipeR ρ vs) (enc y) (ρ' y))
    (ht : ∀ y ∈ ys, ET tt (ρ' y) (p y)) (he : ∀ y ∈ ys, p y = true → E te (ρ' y) (f y)) : E (tLc wi g tt te vs) ρ (.list ((ys.filter p).map f)) := fun σ F H e o Q q => by
  refine hW σ F H e o _ fun J F1 H1 s1 W => lc_at s1.fh (o.up s1) W hl hg ht he fun D acc F2 H2 s2 hD fD hacc dacc => ?_
  refine q _ (upd F2 D (.lst acc)) H2 (Stq.trans s1 ⟨s2.hh, s2.ff.trans (Ex.new fD), fun a u h => ?_, fun a ha hn => ?_⟩) (.lst upd_same (dacc.up (Ex.new fD)))
  · by_cases hd : a = D
    · subst hd; rw [upd_same] at h; rw [← Option.some.inj h]; exact hacc
    · rw [upd_ne hd] at h; exact s2.fh _ _ h
  · rw [upd_ne (fun z => hn (by rw [z]; exact hD))]
    exact s2.nw a ha hn
/-- without a test -/
theorem E_lc1 {α : Type} {wi : TI} {g : TG} {te : TE} {vs : List Nat} {ρ : List Sl} {ys : List α} {enc f : α → PyData} {ρ' : α → List Sl} (hW : WI wi ρ (ys.map enc)) (hl : ys.length ≤ 100000) (hg : ∀ y ∈ ys, GB g vs (wipeR ρ vs) (enc y) (ρ' y))
    (he : ∀ y ∈ ys, E te (ρ' y) (f y)) : E (tLc wi g tYes te vs) ρ (.list (ys.map f)) := by
  have h := E_lc (p := fun _ => true) (tt := tYes) hW hl hg (fun _ _ => ET_yes) (fun y hy _ => he y hy)
  rwa [List.filter_eq_self.mpr (fun _ _ => rfl)] at h

/-! ### the state along a body: M may be changed, I holds, N must not be owned -/
structure Bs where
  M : Addr → Prop
  I : Hp → Hp → Prop
  N : Hp → Addr → Prop
  F0 : Hp
  H0 : Hp
class Stb (I : Hp → Hp → Prop) (N : Hp → Addr → Prop) : Prop where
  st : ∀ {F H F' H'}, Stq F H F' H' → I F H → I F' H'
  sn : ∀ {F H F' H' a}, Stq F H F' H' → I F H → N H' a → N H a
  nn : ∀ {F H a}, I F H → N H a → H a ≠ none
  ow : ∀ {F H p o}, I F H → ¬ N H p → F p = none → H p ≠ none → I F (upd H p o)
  on : ∀ {F H p o a}, I F H → ¬ N H p → H p ≠ none → N (upd H p o) a → N H a
  fz : ∀ {F H p o}, I F H → ¬ N H p → F p = none → H p ≠ none → I (upd F p o) H
def NoI : Hp → Hp → Prop := fun _ _ => True
def NoN : Hp → Addr → Prop := fun _ _ => False
instance : Stb NoI NoN := ⟨fun _ _ => trivial, fun _ _ z => z, fun _ z => z.elim, fun _ _ _ _ => trivial, fun _ _ _ z => z, fun _ _ _ _ => trivial⟩
/-- what the body may own -/
def Bs.Z (b : Bs) (H : Hp) (p : Addr) : Prop := ¬ b.N H p ∧ b.H0 p = none
/-- from b's start, G known: in the slots stands ρ -/
def ConF (b : Bs) (G F : Hp) (ρ : List Sl) (σ : L2.St) (H : Hp) : Prop := Stp b.M b.F0 b.H0 F H ∧ Ex G F ∧ b.I F H ∧ (∀ a, b.M a → H a ≠ none) ∧ EnvOk (b.Z H) F H σ ρ
def Con (b : Bs) (G : Hp) (ρ : List Sl) (σ : L2.St) (H : Hp) : Prop := ∃ F, ConF b G F ρ σ H
/-- a value told at the end -/
abbrev Ret (b : Bs) (G : Hp) (d : PyData) (v : V) (H : Hp) : Prop := Con b G [.da d] [some v] H
section
variable {b : Bs} {G G' F F' : Hp} {ρ ρ' : List Sl} {σ : L2.St} {H H' : Hp} {D : Ends} {tz tu tw : TS} {te : TE} {tt : TT} {d : PyData} {i : Nat} {x : Bool} {v : V}
theorem Con.less (c : Con b G ρ σ H) (e : Ex G' G) : Con b G' ρ σ H := by
  obtain ⟨F, s, g, j, m, o⟩ := c
  exact ⟨F, s, e.trans g, j, m, o⟩
theorem Ret.less (r : Ret b G d v H) (e : Ex G' G) : Ret b G' d v H := Con.less r e
theorem ConF.lss (c : ConF b G F ρ σ H) (l : Lss ρ ρ') : ConF b G F ρ' σ H := by
  obtain ⟨s, g, j, m, o⟩ := c
  exact ⟨s, g, j, m, o.less l⟩
theorem Con.lss (c : Con b G ρ σ H) (l : Lss ρ ρ') : Con b G ρ' σ H := ⟨c.choose, c.choose_spec.lss l⟩
variable [Stb b.I b.N]
theorem ConF.pure (c : ConF b G F ρ σ H) (s' : Stq F H F' H') : ConF b G F' ρ σ H' := by
  obtain ⟨s, g, j, m, o⟩ := c
  exact ⟨Stp.then s s' m, g.trans s'.ff, Stb.st b.N s' j, fun a ha => Stp.sets s' (m a ha) (fun z => z), (o.up s').z fun p _ _ z => ⟨fun q => z.1 (Stb.sn s' j q), z.2⟩⟩
omit [Stb b.I b.N] in
theorem ConF.env (c : ConF b G F ρ σ H) : EnvR F H σ ρ := c.2.2.2.2.r
omit [Stb b.I b.N] in
theorem ConF.fh (c : ConF b G F ρ σ H) : Ex F H := c.1.fh
omit [Stb b.I b.N] in
theorem ConF.da (c : ConF b G F ρ σ H) (dv : DV F v d) : ConF b G F (ρ.set i (.da d)) (σ.set i (some v)) H := by
  obtain ⟨s, g, j, m, o⟩ := c
  exact ⟨s, g, j, m, o.da dv⟩
omit [Stb b.I b.N] in
theorem ConF.ret (c : ConF b G F ρ σ H) (dv : DV F v d) : Ret b G d v H := by
  obtain ⟨s, g, j, m, o⟩ := c
  refine ⟨F, s, g, j, m, rfl, fun i t hi => ?_⟩
  cases i with
  | zero =>
    have e : t = .da d := (Option.some.inj hi).symm
    subst e
    exact ⟨v, rfl, dv⟩
  | succ i => cases hi
theorem s_asg (c : Con b G ρ σ H) (h : E te ρ d) (k : ∀ σ' H', Con b G (ρ.set i (.da d)) σ' H' → D.nx σ' H') : tAsg te (gName i) D σ H := by
  obtain ⟨F, c⟩ := c
  exact h σ F H c.fh c.env _ fun v F' H' s' dv => k _ _ ⟨F', (c.pure s').da dv⟩
theorem q_asg (c : Con b G ρ σ H) (h : E te ρ d) (k : ∀ σ' H', Con b G (ρ.set i (.da d)) σ' H' → tz D σ' H') : tSeq (tAsg te (gName i)) tz D σ H := s_asg (D := { D with nx := tz D }) c h k
theorem s_ret (c : Con b G ρ σ H) (h : E te ρ d) (k : ∀ v H', Ret b G d v H' → D.rt v H') : tRet te D σ H := by
  obtain ⟨F, c⟩ := c
  exact h σ F H c.fh c.env _ fun v F' H' s' dv => k _ _ ((c.pure s').ret dv)
theorem s_drop (c : Con b G ρ σ H) (h : E te ρ d) (k : ∀ H', Con b G ρ σ H' → D.nx σ H') : tDrop te D σ H := by
  obtain ⟨F, c⟩ := c
  exact h σ F H c.fh c.env _ fun v F' H' s' dv => k _ ⟨F', c.pure s'⟩
theorem q_drop (c : Con b G ρ σ H) (h : E te ρ d) (k : ∀ H', Con b G ρ σ H' → tz D σ H') : tSeq (tDrop te) tz D σ H := s_drop (D := { D with nx := tz D }) c h k
theorem s_if (c : Con b G ρ σ H) (h : ET tt ρ x) (h1 : x = true → ∀ H', Con b G ρ σ H' → tu D σ H') (h2 : x = false → ∀ H', Con b G ρ σ H' → tw D σ H') : tIfS tt tu tw D σ H := by
  obtain ⟨F, c⟩ := c
  refine h σ F H c.fh c.env _ fun F' H' s' => ?_
  have c' : Con b G ρ σ H' := ⟨F', c.pure s'⟩
  cases x with
  | true => exact h1 rfl H' c'
  | false => exact h2 rfl H' c'
theorem q_if (c : Con b G ρ σ H) (h : ET tt ρ x) (h1 : x = true → ∀ H', Con b G ρ σ H' → tu { D with nx := tz D } σ H') (h2 : x = false → ∀ H', Con b G ρ σ H' → tw { D with nx := tz D } σ H') : tSeq (tIfS tt tu tw) tz D σ H := s_if (D := { D with nx := tz D }) c h h1 h2
/-- an if without else -/
theorem q_when (c : Con b G ρ σ H) (h : ET tt ρ x) (h1 : x = true → ∀ H', Con b G ρ σ H' → tu { D with nx := tz D } σ H') (h2 : x = false → ∀ H', Con b G ρ σ H' → tz D σ H') : tSeq (tIfS tt tu tNext) tz D σ H := s_if (D := { D with nx := tz D }) c h h1 h2
theorem s_when (c : Con b G ρ σ H) (h : ET tt ρ x) (h1 : x = true → ∀ H', Con b G ρ σ H' → tu D σ H') (h2 : x = false → ∀ H', Con b G ρ σ H' → D.nx σ H') : tIfS tt tu tNext D σ H := s_if c h h1 h2
omit [Stb b.I b.N] in
theorem ConF.tgt {g : TG} (c : ConF b G F ρ σ H) (hg : GF g ρ d ρ') (dv : DV F v d) {Q : L2.St → Hp → Prop} (k : ∀ σ', ConF b G F ρ' σ' H → Q σ' H) : g v σ H Q :=
  hg (b.Z H) σ F H v c.fh c.2.2.2.2 dv Q fun σ' o' => k σ' ⟨c.1, c.2.1, c.2.2.1, c.2.2.2.1, o'⟩
/-- what a for asks of its turns -/
def Wk (J : It) (g : TG) (tu : TS) (D : Ends) (σ : L2.St) (H1 : Hp) : Prop := tFor (fun _ H R => R J H) g tu D σ H1
theorem for_core {α : Type} {J : It} {g : TG} {ys : List α} {enc : α → PyData} {ρb : Nat → α → List Sl} {F1 H1 : Hp} (ρs : Nat → List Sl) (Pf : Nat → Prop) (c1 : ConF b G F1 ρ σ H1) (W : WalkOk J (ys.map enc) F1) (h0 : Lss ρ (ρs 0)) (p0 : Pf 0) (hg : ∀ i y, ys[i]? = some y → GF g (ρs i) (enc y) (ρb i y))
    (hs : ∀ G1, Ex G G1 → ∀ i y σ' H', ys[i]? = some y → Pf i → Con b G1 (ρb i y) σ' H' → tu { D with nx := fun σ2 H2 => Pf (i + 1) ∧ Con b G1 (ρs (i + 1)) σ2 H2, ct := fun σ2 H2 => Pf (i + 1) ∧ Con b G1 (ρs (i + 1)) σ2 H2, bk := D.nx } σ' H')
    (hd : ∀ σ' H', Pf ys.length → Con b G (ρs ys.length) σ' H' → D.nx σ' H') : Wk J g tu D σ H1 := by
  have e1 : Ex G F1 := c1.2.1
  refine ⟨fun i m' σ' H' => m' = ys.length - i ∧ i ≤ ys.length ∧ Pf i ∧ Con b F1 (ρs i) σ' H', ⟨ys.length, by simp, Nat.zero_le _, p0, F1, c1.1, Ex.refl F1, c1.2.2.1, c1.2.2.2.1, c1.2.2.2.2.less h0⟩, ?_⟩
  rintro i m' σ' H' ⟨rfl, hi, pf, c'⟩
  obtain ⟨F2, c2⟩ := id c'
  have g2 := c2.2.1
  by_cases hlt : i < ys.length
  · refine .inr ⟨W.go i H' (by rw [List.length_map]; exact hlt) (g2.trans c2.fh), fun σ2 H2 => Pf (i + 1) ∧ Con b F1 (ρs (i + 1)) σ2 H2, fun σ3 H3 h3 => ⟨ys.length - (i + 1), by omega, rfl, hlt, h3⟩, fun x H3 y => ?_⟩
    have hy : ys[i]? = some ys[i] := List.getElem?_eq_getElem hlt
    obtain ⟨F3, s3, dx⟩ := W.yld i H' x H3 (enc ys[i]) F2 (by rw [List.getElem?_map, hy]; rfl) g2 c2.fh y
    exact (c2.pure s3).tgt (hg i _ hy) dx fun σ3 c3 => hs F1 e1 i _ σ3 H3 hy pf ⟨F3, c3⟩
  · refine .inl ⟨W.stop i H' (by rw [List.length_map]; omega) (g2.trans c2.fh), ?_⟩
    have : i = ys.length := by omega
    subst this
    exact hd σ' H' pf (c'.less e1)
/-- a for over what does not change, with a fact of one's own that each turn brings on; ρs i: what stands ahead of turn i, ρb i y: with the item -/
theorem s_forP {α : Type} {wi : TI} {g : TG} {ys : List α} {enc : α → PyData} {ρb : Nat → α → List Sl} (ρs : Nat → List Sl) (Pf : Nat → Prop) (c : Con b G ρ σ H) (hW : WI wi ρ (ys.map enc)) (h0 : Lss ρ (ρs 0)) (p0 : Pf 0) (hg : ∀ i y, ys[i]? = some y → GF g (ρs i) (enc y) (ρb i y))
    (hs : ∀ G1, Ex G G1 → ∀ i y σ' H', ys[i]? = some y → Pf i → Con b G1 (ρb i y) σ' H' → tu { D with nx := fun σ2 H2 => Pf (i + 1) ∧ Con b G1 (ρs (i + 1)) σ2 H2, ct := fun σ2 H2 => Pf (i + 1) ∧ Con b G1 (ρs (i + 1)) σ2 H2, bk := D.nx } σ' H')
    (hd : ∀ σ' H', Pf ys.length → Con b G (ρs ys.length) σ' H' → D.nx σ' H') : tFor wi g tu D σ H := by
  obtain ⟨F, c⟩ := c
  exact hW σ F H c.fh c.env _ fun J F1 H1 s1 W => for_core ρs Pf (c.pure s1) W h0 p0 hg hs hd
theorem q_forP {α : Type} {wi : TI} {g : TG} {ys : List α} {enc : α → PyData} {ρb : Nat → α → List Sl} (ρs : Nat → List Sl) (Pf : Nat → Prop) (c : Con b G ρ σ H) (hW : WI wi ρ (ys.map enc)) (h0 : Lss ρ (ρs 0)) (p0 : Pf 0) (hg : ∀ i y, ys[i]? = some y → GF g (ρs i) (enc y) (ρb i y))
    (hs : ∀ G1, Ex G G1 → ∀ i y σ' H', ys[i]? = some y → Pf i → Con b G1 (ρb i y) σ' H' → tu { D with nx := fun σ2 H2 => Pf (i + 1) ∧ Con b G1 (ρs (i + 1)) σ2 H2, ct := fun σ2 H2 => Pf (i + 1) ∧ Con b G1 (ρs (i + 1)) σ2 H2, bk := tz D } σ' H')
    (hd : ∀ σ' H', Pf ys.length → Con b G (ρs ys.length) σ' H' → tz D σ' H') : tSeq (tFor wi g tu) tz D σ H := s_forP (D := { D with nx := tz D }) ρs Pf c hW h0 p0 hg hs hd
end
/-- an end that is reached by more -/
theorem and_true_fun {b : Bs} {G : Hp} {ρ : List Sl} : (fun σ2 H2 => True ∧ Con b G ρ σ2 H2) = Con b G ρ := by
  funext σ2 H2
  exact propext ⟨fun h => h.2, fun h => ⟨trivial, h⟩⟩
section
variable {b : Bs} [Stb b.I b.N] {G G' F F' : Hp} {ρ ρ' : List Sl} {σ : L2.St} {H H' : Hp} {D : Ends} {tz tu tw : TS} {te : TE} {tt : TT} {d : PyData} {i : Nat} {x : Bool} {v : V}
theorem s_for {α : Type} {wi : TI} {g : TG} {ys : List α} {enc : α → PyData} {ρb : Nat → α → List Sl} (ρs : Nat → List Sl) (c : Con b G ρ σ H) (hW : WI wi ρ (ys.map enc)) (h0 : Lss ρ (ρs 0)) (hg : ∀ i y, ys[i]? = some y → GF g (ρs i) (enc y) (ρb i y))
    (hs : ∀ G1, Ex G G1 → ∀ i y σ' H', ys[i]? = some y → Con b G1 (ρb i y) σ' H' → tu { D with nx := Con b G1 (ρs (i + 1)), ct := Con b G1 (ρs (i + 1)), bk := D.nx } σ' H') (hd : ∀ σ' H', Con b G (ρs ys.length) σ' H' → D.nx σ' H') : tFor wi g tu D σ H :=
  s_forP ρs (fun _ => True) c hW h0 trivial hg (fun G1 e1 i y σ' H' hy _ c' => by rw [and_true_fun]; exact hs G1 e1 i y σ' H' hy c') fun σ' H' _ c' => hd σ' H' c'
theorem q_for {α : Type} {wi : TI} {g : TG} {ys : List α} {enc : α → PyData} {ρb : Nat → α → List Sl} (ρs : Nat → List Sl) (c : Con b G ρ σ H) (hW : WI wi ρ (ys.map enc)) (h0 : Lss ρ (ρs 0)) (hg : ∀ i y, ys[i]? = some y → GF g (ρs i) (enc y) (ρb i y))
    (hs : ∀ G1, Ex G G1 → ∀ i y σ' H', ys[i]? = some y → Con b G1 (ρb i y) σ' H' → tu { D with nx := Con b G1 (ρs (i + 1)), ct := Con b G1 (ρs (i + 1)), bk := tz D } σ' H') (hd : ∀ σ' H', Con b G (ρs ys.length) σ' H' → tz D σ' H') : tSeq (tFor wi g tu) tz D σ H :=
  s_for (D := { D with nx := tz D }) ρs c hW h0 hg hs hd
/-- a while; what stands is told by a state of one's own that a number measures -/
theorem q_while {β : Type} (ρs : β → List Sl) (μ : β → Nat) (t : β → Bool) {s0 : β} (c : Con b G (ρs s0) σ H) (ht : ∀ s, ET tt (ρs s) (t s))
    (hs : ∀ s σ' H', t s = true → Con b G (ρs s) σ' H' → tu { D with nx := fun σ2 H2 => ∃ s', μ s' < μ s ∧ Con b G (ρs s') σ2 H2, ct := fun σ2 H2 => ∃ s', μ s' < μ s ∧ Con b G (ρs s') σ2 H2, bk := tz D } σ' H')
    (hd : ∀ s σ' H', t s = false → Con b G (ρs s) σ' H' → tz D σ' H') : tSeq (tWhile tt tu) tz D σ H := by
  refine ⟨fun m σ' H' => ∃ s, m = μ s ∧ Con b G (ρs s) σ' H', ⟨μ s0, s0, rfl, c⟩, ?_⟩
  rintro m σ' H' ⟨s, rfl, F2, c2⟩
  refine ht s σ' F2 H' c2.fh c2.env _ fun F3 H3 s3 => ?_
  have c3 : Con b G (ρs s) σ' H3 := ⟨F3, c2.pure s3⟩
  cases e : t s with
  | true =>
    refine ⟨fun σ2 H2 => ∃ s', μ s' < μ s ∧ Con b G (ρs s') σ2 H2, fun σ2 H2 h => ?_, hs s σ' H3 e c3⟩
    obtain ⟨s', h1, h2⟩ := h
    exact ⟨μ s', h1, s', rfl, h2⟩
  | false => exact hd s σ' H3 e c3
end

/-! ### a pure def -/
theorem EnvOk_start {Z : Addr → Prop} {F H : Hp} {N : List Str} {vs : List V} {ds : List PyData} (h : DVs F vs ds) (hl : ds.length ≤ N.length) : EnvOk Z F H (L2.start N vs) (ds.map Sl.da ++ List.replicate (N.length - ds.length) Sl.un) := by
  refine ⟨by unfold L2.start; rw [List.length_append, List.length_append, List.length_map, List.length_map, List.length_replicate, List.length_replicate, h.len], fun i s hi => ?_⟩
  by_cases hlt : i < ds.length
  · rw [List.getElem?_append_left (by simpa using hlt), List.getElem?_map] at hi
    have hd : ds[i]? = some ds[i] := List.getElem?_eq_getElem hlt
    rw [hd] at hi
    simp only [Option.map_some, Option.some.injEq] at hi
    subst hi
    obtain ⟨v, hv, dv⟩ := h.at hd
    refine ⟨v, ?_, dv⟩
    unfold L2.start
    rw [List.getElem?_append_left (by rw [List.length_map, h.len]; exact hlt), List.getElem?_map, hv]
    rfl
  · rw [List.getElem?_append_right (by simpa using hlt), List.getElem?_replicate] at hi
    split at hi
    · simp only [Option.some.injEq] at hi
      subst hi
      trivial
    · cases hi
abbrev FnP (K : PySem.W.Frag) (x : Str) (st : Stmt) (f : Addr) (fd : FuncData) : Prop := FunD K x x (defArgs st) (defBody st) (defScope st) [] [] f fd
/-- b of a pure def -/
abbrev bs0 (F H : Hp) : Bs := ⟨NoM, NoI, NoN, F, H⟩
theorem pure_ok {P : Program} {w : World} {K : PySem.W.Frag} {mg : Str → Option Value} {base : Heap} {x : Str} {st : Stmt} {f : Addr} {fd : FuncData} {N ps : List Str} {k : Nat} {R : List PyData → PyData → Prop} (F : FnP K x st f fd) (S : FnScope N ps (defScope st))
    (hl : ∀ ds d, R ds d → ds.length = ps.length) (hN : ps.length ≤ N.length)
    (hb : ∀ (cdv : Value) (A : Around) (outer : List Env) (s : Shared) (H : Hp) (Q : VK) (X : XK), Room k (A.deeper (PyProof.Rows.envOfC x (defScope st) s.heap.objs.size f cdv)) →
      ∃ t, PSs (cxOf CX0 P w K mg base N x (defScope st) f cdv A outer s H X).nox (defBody st) t ∧ ∀ (F0 : Hp) (ds : List PyData) (d : PyData), R ds d → ∀ σ, Con (bs0 F0 H) F0 (ds.map Sl.da ++ List.replicate (N.length - ds.length) Sl.un) σ H →
        (∀ v H', Ret (bs0 F0 H) F0 d v H' → Q v H') → t { nx := fun _ H' => Q .non H', rt := Q } σ H) : FnOk P w K mg base CX0 (k + 1) f fd ps (spD R) := by
  refine F.ok S (fun vs H Q X h => ?_) (fun cdv A outer s H vs Q X hr h => ?_)
  · obtain ⟨F0, ds, _, dv, d, hR, _⟩ := h
    rw [dv.len]
    exact hl ds d hR
  · obtain ⟨F0, ds, e, dv, d, hR, q⟩ := h
    obtain ⟨t, ht, hq⟩ := hb cdv A outer s H Q X hr
    refine ⟨t, PSs.nox ht, hq F0 ds d hR _ ⟨F0, Stp.refl e, Ex.refl F0, trivial, fun _ z => z.elim, EnvOk_start dv (by rw [hl ds d hR]; exact hN)⟩ fun v H' r => ?_⟩
    obtain ⟨F', s', _, _, _, o'⟩ := r
    obtain ⟨v', e', dv'⟩ := o'.2 0 _ rfl
    obtain rfl := Option.some.inj (Option.some.inj e')
    exact q v F' H' s' dv'
end ML
set_option Elab.async false
set_option linter.all false
set_option maxRecDepth 100000
set_option maxHeartbeats 2000000
/-! defs of the text as they are called; the built-ins by name -/
namespace ML
open PySem L2
open Evl (Ex fresh_back)

structure Has (P : Program) (w : World) (K : PySem.W.Frag) (mg : Str → Option Value) (base : Heap) (k : Nat) (x : Str) (ps : List Str) (sp : Sp) : Prop where
  ex : ∃ (f : Addr) (fd : FuncData), FnOk P w K mg base CX0 k f fd ps sp ∧ mg x = some (.ref f) ∧ PySem.W.keepIn K (.ref f) = true ∧ Binds K fd ps []
theorem pe_fn {X : Cx} {k : Nat} {x : Str} {ps : List Str} {sp : Sp} {p pos : Pos} {e : Expr} {es : List Expr} {t : TA} (h : Has X.prog X.w X.K X.mg X.base k x ps sp) (hr : Room k X.A) (hg : Gl X x) (ha : PA X (e :: es) t) (hdb : (x == ("__debug__" : Str)) = false := by decide)
    (he : starEach (e :: es) X.env = (false, eval e X.env) :: starEach es X.env := by rfl) (hpl : (backTo pos (starEach es X.env)).any (·.1) = false := by rfl) :
    PE X (.Call (.Name x p) (e :: es) [] pos) (tCall sp [] E0 t) := by
  obtain ⟨f, fd, F, hm, hk, hb⟩ := h.ex
  exact pe_call F hr hg hm hk hb .nil pass0 ha hdb he hpl
/-- a call by keywords alone: perm brings their values into the parameters' order -/
def gKw {α : Type} (f : List α → List α) : List α → List α → List α
  | [], ws => f ws
  | _ :: _, _ => []
structure HasK (P : Program) (w : World) (K : PySem.W.Frag) (mg : Str → Option Value) (base : Heap) (k : Nat) (x : Str) (ps ks : List Str) (perm : List V → List V) (sp : Sp) : Prop where
  ex : ∃ (f : Addr) (fd : FuncData) (pm : List Value → List Value), FnOk P w K mg base CX0 k f fd ps sp ∧ mg x = some (.ref f) ∧ PySem.W.keepIn K (.ref f) = true ∧ KBinds K fd ps ks (gKw pm) (gKw perm)
theorem pe_fnK {X : Cx} {k : Nat} {x : Str} {ps ks : List Str} {perm : List V → List V} {sp : Sp} {p pos : Pos} {kws : List Keyword} {tk : TA} (h : HasK X.prog X.w X.K X.mg X.base k x ps ks perm sp) (hr : Room k X.A) (hks : (backToKw pos (keywordEach kws X.env)).filterMap (·.1) = ks) (hg : Gl X x) (hkw : PK X kws tk)
    (hall : (backToKw pos (keywordEach kws X.env)).all (·.1.isSome) = true := by rfl) (hdb : (x == ("__debug__" : Str)) = false := by decide)
    (hpl : ((backTo pos (starEach [] X.env)).any (·.1) || (backToKw pos (keywordEach kws X.env)).any (·.1.isNone)) = false := by rfl) :
    PE X (.Call (.Name x p) [] kws pos) (tCallK sp (fun _ zs => perm zs) E0 tNil tk) := by
  obtain ⟨f, fd, pm, F, hm, hk, hb⟩ := h.ex
  constructor
  intro pins s σ H Q I hq
  refine wpAny_Call_Name_kw (ld_glob I hg hm ?_ hdb)
  refine PySem.W.callWith_KW0 (h₀ := X.base) I.ok.mod.kin hk hall ?_ hpl
  refine thn (hkw.run pos pins s σ H _ I hq) ?_
  rintro ws s2 ⟨zs, H2, I2, rz, q2⟩
  refine ⟨I2.kIn, ?_⟩
  rw [hks]
  exact run_fnk (us := []) (vs := []) F hr hb pass0 I2 .nil rz q2
theorem pe_const {X : Cx} {x : Str} {i : Int} {pos : Pos} (hg : Gl X x) (h : ∃ t, X.mg x = some (.int i t)) (hd : (x == ("__debug__" : Str)) = false := by decide) : PE X (.Name x pos) (tC (.int i)) := by
  obtain ⟨t, e⟩ := h
  exact pe_glob hg e ⟨t, rfl⟩ hd
theorem pe_ty {X : Cx} {x : Str} {n : String} {pos : Pos} (hg : Gl X x) (hm : X.mg x = none) (hv : bootBuiltins x = some (.type n)) (hn : x ≠ "__name__" := by decide) (hd : (x == ("__debug__" : Str)) = false := by decide) : PE X (.Name x pos) (tC (.ty n)) :=
  pe_bltn hg hm hv rfl hn hd
/-- no built-in's name is taken -/
structure Bl (mg : Str → Option Value) : Prop where
  len_ : mg "len" = none
  tuple_ : mg "tuple" = none
  list_ : mg "list" = none
  range_ : mg "range" = none
  sorted_ : mg "sorted" = none
  set_ : mg "set" = none
  dict_ : mg "dict" = none
  sum_ : mg "sum" = none
  all_ : mg "all" = none
  any_ : mg "any" = none
  int_ : mg "int" = none
  abs_ : mg "abs" = none
  min_ : mg "min" = none
  isinstance_ : mg "isinstance" = none
  repr_ : mg "repr" = none
  enumerate_ : mg "enumerate" = none
  bool_ : mg "bool" = none
  mt : ∃ t, mg "MAX_THINGS" = some (.int 10 t)
  mr : ∃ t, mg "MAX_RULES" = some (.int 60 t)
theorem Lss.of {ρ ρ' : List Sl} (h : ρ = ρ') : Lss ρ ρ' := h ▸ Lss.refl ρ
theorem foldl_take {α β : Type} {f : β → α → β} {z : β} {ys : List α} {i : Nat} {y : α} (h : ys[i]? = some y) : (ys.take (i + 1)).foldl f z = f ((ys.take i).foldl f z) y := by
  rw [List.take_add_one, h]
  simp

/-! ### lots, rules, books as data; a lot is the mask of its things -/
abbrev nI (m : Nat) : PyData := .int ((m : Nat) : Int)
def lotM (m : Nat) : List Nat := (List.range 10).filter fun i => m.testBit i
def lotD (m : Nat) : PyData := .tuple ((lotM m).map nI)
def pairD (r : Nat × Nat) : PyData := .tuple [nI r.1, nI r.2]
def ruleD (r : Nat × Nat) : PyData := .tuple [lotD r.1, lotD r.2]
def bookD (n : Nat) (rs : List (Nat × Nat)) : PyData := .tuple [nI n, .tuple (rs.map ruleD)]
theorem mem_lotM {m i : Nat} : i ∈ lotM m ↔ i < 10 ∧ m.testBit i = true := by
  unfold lotM
  rw [List.mem_filter, List.mem_range]
theorem lotM_len (m : Nat) : (lotM m).length ≤ 10 := by
  unfold lotM
  exact Nat.le_trans (List.length_filter_le _ _) (by simp)
theorem fold_or_bit (i : Nat) : ∀ (l : List Nat) (z : Nat), (l.foldl (fun b t => b ||| 1 <<< t) z).testBit i = (z.testBit i || decide (i ∈ l))
  | [], z => by simp
  | t :: l, z => by
    rw [List.foldl_cons, fold_or_bit i l, Nat.testBit_or, Nat.one_shiftLeft, Nat.testBit_two_pow]
    by_cases e : i = t
    · subst e; simp
    · have e2 : ¬ t = i := fun q => e q.symm
      simp [e, e2]
/-- bits_of(lot_of(m)) = m -/
theorem bits_lot {m : Nat} (h : m < 1024) : (lotM m).foldl (fun b t => b ||| 1 <<< t) 0 = m := by
  apply Nat.eq_of_testBit_eq
  intro i
  rw [fold_or_bit, Nat.zero_testBit, Bool.false_or]
  by_cases hi : i < 10
  · cases e : m.testBit i with
    | true => exact decide_eq_true (mem_lotM.mpr ⟨hi, e⟩)
    | false => exact decide_eq_false fun q => by rw [(mem_lotM.mp q).2] at e; cases e
  · rw [Nat.testBit_lt_two_pow (Nat.lt_of_lt_of_le h (by
      have : 2 ^ 10 ≤ 2 ^ i := Nat.pow_le_pow_right (by decide) (by omega)
      exact this))]
    exact decide_eq_false fun q => hi (mem_lotM.mp q).1
end ML
set_option Elab.async false
set_option linter.all false
set_option maxRecDepth 100000
set_option maxHeartbeats 2000000
/-! rules with the written part named, for use inside a comprehension -/
namespace ML
open PySem L2
section
variable {X : Cx} {K : PySem.W.Frag} {tg e : Expr} {te : TE}
theorem ix_tupK (h : X.K = K) : IxR X (rIxT K) := h ▸ ix_tup
theorem ix_listK (h : X.K = K) : IxR X (rIxL K) := h ▸ ix_list
theorem sl_listK (h : X.K = K) : SlR X (rSlL K) := h ▸ sl_list
theorem pi_listK (h : X.K = K) (he : PE X e te) : PI X tg e (iList K te) := h ▸ pi_list he
theorem pi_tupK (h : X.K = K) (he : PE X e te) : PI X tg e (iTup K te) := h ▸ pi_tup he
theorem op_inK (h : X.K = K) : OpR X (compareOp .In) (rIn K false) := h ▸ op_in_seq
theorem op_notInK (h : X.K = K) : OpR X (compareOp .NotIn) (rIn K true) := h ▸ op_notIn_seq
theorem op_eqDK (h : X.K = K) (hu : X.A.units + 64 < cLine) : OpR X (compareOp .Eq) (rEqD K) := h ▸ op_eqD hu
theorem op_neDK (h : X.K = K) (hu : X.A.units + 64 < cLine) : OpR X (compareOp .NotEq) (rNeD K) := h ▸ op_neD hu
theorem call_lenK (h : X.K = K) : CallR X (.builtin "len") (fun xs H Q => ∃ x n, xs = [x] ∧ LenV K x H n ∧ Q (.int n) H) := h ▸ call_len
theorem call_tupK (h : X.K = K) : CallR X (.type "tuple") (fun xs H Q => ∃ p ys, xs = [.ref p] ∧ ((SqL K H p ys ∧ ∀ l, H l = none → Q (.ref l) (upd H l (.tup ys))) ∨ (SqT K H p ys ∧ Q (.ref p) H))) := h ▸ call_tuple_of
theorem cr_sumK (h : X.K = K) (hc : X.calm = true) : CallR X (.builtin "sum") (rSum K) := h ▸ cr_sum hc
theorem cr_allK (h : X.K = K) (hc : X.calm = true) : CallR X (.builtin "all") (rAll K) := h ▸ cr_all hc
theorem cr_anyK (h : X.K = K) (hc : X.calm = true) : CallR X (.builtin "any") (rAny K) := h ▸ cr_any hc
theorem call_isiK1 (h : X.K = K) : CallR X (.builtin "isinstance") (rIsi K) := h ▸ call_isi
theorem pt_truthK (h : X.K = K) (ha : PE X e te) (he : ∀ whole, isTrue e X.env whole = (do let v ← whole; standAt e.pos; holding [v] (truthy v))) :
    PT X e (fun σ H Q => te σ H fun x H' => ∃ k, TruV K x H' k ∧ Q k H') := h ▸ pt_truth ha he
end
end ML
set_option Elab.async false
set_option linter.all false
set_option maxRecDepth 100000
set_option maxHeartbeats 2000000
namespace ML
open PySem L2

/-! ### rules upon masks -/
/-- a lot keeps the rules -/
def kept (rs : List (Nat × Nat)) (m : Nat) : Bool := rs.all fun r => !sub r.1 m || sub r.2 m
def rnd (rs : List (Nat × Nat)) (m : Nat) : Nat := rs.foldl (fun x r => if sub r.1 m then x ||| r.2 else x) m
/-- c is the least lot with m that keeps the rules -/
structure IsClo (rs : List (Nat × Nat)) (m c : Nat) : Prop where
  has : sub m c = true
  keeps : kept rs c = true
  least : ∀ x, kept rs x = true → sub m x = true → sub c x = true
def Small (rs : List (Nat × Nat)) : Prop := ∀ r ∈ rs, r.1 < 1024 ∧ r.2 < 1024
theorem sub_refl (m : Nat) : sub m m = true := sub_iff.mpr fun _ h => h
theorem sub_trans {a b c : Nat} (h : sub a b = true) (h' : sub b c = true) : sub a c = true := sub_iff.mpr fun i hi => sub_iff.mp h' i (sub_iff.mp h i hi)
theorem sub_anti {a b : Nat} (h : sub a b = true) (h' : sub b a = true) : a = b := by
  apply Nat.eq_of_testBit_eq
  intro i
  cases e : a.testBit i with
  | true => exact (sub_iff.mp h i e).symm
  | false =>
    cases e2 : b.testBit i with
    | false => rfl
    | true => rw [sub_iff.mp h' i e2] at e; cases e
theorem sub_le {a b : Nat} (h : sub a b = true) : a ≤ b := by
  have e : a &&& b = a := beq_iff_eq.mp h
  rw [← e]
  exact Nat.and_le_right
theorem or_sub {a b c : Nat} (h : sub a c = true) (h' : sub b c = true) : sub (a ||| b) c = true := sub_iff.mpr fun i hi => by
  rw [Nat.testBit_or, Bool.or_eq_true] at hi
  exact hi.elim (sub_iff.mp h i) (sub_iff.mp h' i)
theorem sub_or_left (a b : Nat) : sub a (a ||| b) = true := sub_iff.mpr fun i hi => by rw [Nat.testBit_or, hi]; rfl
theorem sub_or_right (a b : Nat) : sub b (a ||| b) = true := sub_iff.mpr fun i hi => by rw [Nat.testBit_or, hi, Bool.or_true]
theorem sub_foldl (m : Nat) : ∀ (l : List (Nat × Nat)) (x : Nat), sub x (l.foldl (fun x r => if sub r.1 m then x ||| r.2 else x) x) = true
  | [], x => sub_refl x
  | r :: l, x => by
    rw [List.foldl_cons]
    refine sub_trans ?_ (sub_foldl m l _)
    split
    · exact sub_or_left _ _
    · exact sub_refl _
theorem sub_rnd (rs : List (Nat × Nat)) (m : Nat) : sub m (rnd rs m) = true := sub_foldl m rs m
theorem foldl_sub {m c : Nat} : ∀ (l : List (Nat × Nat)) (x : Nat), sub x c = true → (∀ r ∈ l, sub r.1 m = true → sub r.2 c = true) → sub (l.foldl (fun x r => if sub r.1 m then x ||| r.2 else x) x) c = true
  | [], x, h, _ => h
  | r :: l, x, h, h' => by
    rw [List.foldl_cons]
    refine foldl_sub l _ ?_ fun r hr => h' r (List.mem_cons_of_mem _ hr)
    split
    · rename_i hs
      exact or_sub h (h' r List.mem_cons_self hs)
    · exact h
theorem foldl_has {m : Nat} : ∀ (l : List (Nat × Nat)) (x : Nat) (r : Nat × Nat), r ∈ l → sub r.1 m = true → sub r.2 (l.foldl (fun x r => if sub r.1 m then x ||| r.2 else x) x) = true
  | r :: l, x, q, hq, hs => by
    rw [List.foldl_cons]
    rcases List.mem_cons.mp hq with rfl | hq
    · rw [if_pos hs]
      exact sub_trans (sub_or_right _ _) (sub_foldl m l _)
    · exact foldl_has l _ q hq hs
theorem kept_iff {rs : List (Nat × Nat)} {m : Nat} : kept rs m = true ↔ ∀ r ∈ rs, sub r.1 m = true → sub r.2 m = true := by
  unfold kept
  rw [List.all_eq_true]
  constructor
  · intro h r hr hs
    have := h r hr
    rw [hs] at this
    simpa using this
  · intro h r hr
    cases e : sub r.1 m with
    | false => rfl
    | true => rw [h r hr e]; rfl
/-- the round leaves what keeps the rules -/
theorem rnd_kept {rs : List (Nat × Nat)} {m : Nat} : rnd rs m = m ↔ kept rs m = true := by
  constructor
  · intro h
    refine kept_iff.mpr fun r hr hs => ?_
    have := foldl_has (m := m) rs m r hr hs
    rwa [show rs.foldl (fun x r => if sub r.1 m then x ||| r.2 else x) m = m from h] at this
  · intro h
    exact sub_anti (foldl_sub rs m (sub_refl m) fun r hr hs => kept_iff.mp h r hr hs) (sub_rnd rs m)
theorem rnd_le {rs : List (Nat × Nat)} {m x : Nat} (hk : kept rs x = true) (h : sub m x = true) : sub (rnd rs m) x = true :=
  foldl_sub rs m h fun r hr hs => kept_iff.mp hk r hr (sub_trans hs h)
theorem or_lt {a b : Nat} (h : a < 1024) (h' : b < 1024) : a ||| b < 1024 := Nat.or_lt_two_pow (n := 10) h h'
theorem rnd_lt {rs : List (Nat × Nat)} {m : Nat} (hs : Small rs) (h : m < 1024) : rnd rs m < 1024 := by
  unfold rnd
  have key : ∀ (l : List (Nat × Nat)) (x : Nat), (∀ r ∈ l, r.2 < 1024) → x < 1024 → l.foldl (fun x r => if sub r.1 m then x ||| r.2 else x) x < 1024 := by
    intro l
    induction l with
    | nil => intro x _ h; exact h
    | cons r l ih =>
      intro x hl hx
      rw [List.foldl_cons]
      refine ih _ (fun q hq => hl q (List.mem_cons_of_mem _ hq)) ?_
      split
      · exact or_lt hx (hl r List.mem_cons_self)
      · exact hx
  exact key rs m (fun r hr => (hs r hr).2) h

section
variable {P : Program} {w : World} {K : PySem.W.Frag} {mg : Str → Option Value} {base : Heap} {f : Addr} {fd : FuncData}

def R_bits_of (ds : List PyData) (d : PyData) : Prop := ∃ m : Nat, m < 1024 ∧ ds = [lotD m] ∧ d = nI m
theorem sc_bits_of : FnScope ["lot", "bits", "thing"] ["lot"] (defScope s_bits_of) := ⟨rfl, rfl, rfl, by decide +kernel, rfl, by decide +kernel, by decide +kernel⟩
theorem ok_bits_of (F : FnP K "bits_of" s_bits_of f fd) : FnOk P w K mg base CX0 1 f fd ["lot"] (spD R_bits_of) := by
  refine pure_ok F sc_bits_of (by rintro _ _ ⟨m, hm, rfl, rfl⟩; rfl) (by decide) fun cdv A outer s H Q X hr => ⟨_,
    (pss_cons (ps_set (i := 1) sc_bits_of.nd rfl (Or.inl rfl) pe_int)
      (pss_cons (ps_for PassesOwn.never rfl (pi_tupK (K := K) rfl (pv 0)) (pg_name (i := 2) sc_bits_of.nd rfl (Or.inl rfl)) (pss_one (ps_set (i := 1) sc_bits_of.nd rfl (Or.inl rfl) (pe_op op_or (pv 1) (pe_op op_shl pe_int (pv 2))))))
      (pss_one (ps_ret (pv 1))))), ?_⟩
  rintro F0 _ _ ⟨m, hm, rfl, rfl⟩ σ c kR
  refine q_asg c (E_nat 0) fun σ1 H1 c1 => ?_
  refine q_for (fun i => [.da (lotD m), .da (nI (((lotM m).take i).foldl (fun b t => b ||| 1 <<< t) 0)), .un]) c1 (WI_tup (E_var rfl)) (.of rfl) (fun i y hy => GF_name) (fun G1 e1 i y σ2 H2 hy c2 => ?_) fun σ2 H2 c2 => ?_
  · refine s_asg c2 (E_op (E_var rfl) (E_op (E_nat 1) (E_var rfl) (rd_shl (by decide) (by have := (mem_lotM.mp (List.mem_of_getElem? hy)).1; omega))) rd_or) fun σ3 H3 c3 => ?_
    show Con _ G1 [.da (lotD m), .da (nI (((lotM m).take (i + 1)).foldl (fun b t => b ||| 1 <<< t) 0)), .un] σ3 H3
    rw [foldl_take hy]
    exact c3.lss (.cons (.cons (.un .nil)))
  · refine s_ret c2 (E_var rfl) ?_
    rw [List.take_length, bits_lot hm]
    exact kR
def R_lot_of (ds : List PyData) (d : PyData) : Prop := ∃ m : Nat, ds = [nI m] ∧ d = lotD m
theorem sc_lot_of : FnScope ["bits", "thing"] ["bits"] (defScope s_lot_of) := ⟨rfl, rfl, rfl, by decide +kernel, rfl, by decide +kernel, by decide +kernel⟩
theorem ok_lot_of (B : Bl mg) (F : FnP K "lot_of" s_lot_of f fd) : FnOk P w K mg base CX0 1 f fd ["bits"] (spD R_lot_of) := by
  refine pure_ok F sc_lot_of (by rintro _ _ ⟨m, rfl, rfl⟩; rfl) (by decide) fun cdv A outer s H Q X hr => ⟨_,
    (pss_one (ps_ret (pe_callTy (call_tupK (K := K) rfl) rfl B.tuple_ (by decide +kernel) (pa_cons (pe_lc (own := [("thing", 1)]) rfl sc_lot_of.nd (pi_range1 rfl B.range_ (pa_cons (pe_const rfl B.mt) pa_nil)) (blkOk_by (by kernel_rfl)) (fun _ _ _ _ _ => (pg_name (i := 1) sc_lot_of.nd rfl (Or.inl rfl))) (fun _ _ _ _ _ => (pts_one (pt_cmpR op_eq (pe_op op_and (pe_op op_shr (pv 0) (pv 1)) pe_int) pe_int (nomark _)))) (fun _ _ _ _ _ => (pv 1))) pa_nil)))), ?_⟩
  rintro F0 _ _ ⟨m, rfl, rfl⟩ σ c kR
  exact s_ret c (E_cb (EA_1 (E_lc (ys := List.range 10) (WI_rng (EA_1 (E_nat 10)) (by decide)) (by decide) (fun y _ => GB_name (by decide)) (fun y _ => ET_test (E_op (E_op (E_op (E_var rfl) (E_var rfl) rd_shr) (E_nat 1) rd_and) (E_nat 1) rd_bit)) (fun y _ _ => E_var rfl))) rc_tuple) kR
def keyD (m : Nat) : PyData := .tuple [nI (lotM m).length, lotD m]
def R_lot_key (ds : List PyData) (d : PyData) : Prop := ∃ m : Nat, ds = [lotD m] ∧ d = keyD m
theorem sc_lot_key : FnScope ["lot"] ["lot"] (defScope s_lot_key) := ⟨rfl, rfl, rfl, by decide +kernel, rfl, by decide +kernel, by decide +kernel⟩
theorem ok_lot_key (B : Bl mg) (F : FnP K "lot_key" s_lot_key f fd) : FnOk P w K mg base CX0 1 f fd ["lot"] (spD R_lot_key) := by
  refine pure_ok F sc_lot_key (by rintro _ _ ⟨m, rfl, rfl⟩; rfl) (by decide) fun cdv A outer s H Q X hr => ⟨_,
    (pss_one (ps_ret (pe_tup (pa_cons (pe_callB (call_lenK (K := K) rfl) rfl B.len_ (by decide +kernel) (pa_cons (pv 0) pa_nil)) (pa_cons (pv 0) pa_nil))))), ?_⟩
  rintro F0 _ _ ⟨m, rfl, rfl⟩ σ c kR
  refine s_ret c (E_tup (EA_2 (E_cb (EA_1 (E_var rfl)) rc_lenT) (E_var rfl))) ?_
  rw [List.length_map]
  exact kR
def R_bits_key (ds : List PyData) (d : PyData) : Prop := ∃ m : Nat, ds = [nI m] ∧ d = keyD m
theorem sc_bits_key : FnScope ["bits"] ["bits"] (defScope s_bits_key) := ⟨rfl, rfl, rfl, by decide +kernel, rfl, by decide +kernel, by decide +kernel⟩
theorem ok_bits_key (h_lot_key : Has P w K mg base 1 "lot_key" ["lot"] (spD R_lot_key)) (h_lot_of : Has P w K mg base 1 "lot_of" ["bits"] (spD R_lot_of)) (F : FnP K "bits_key" s_bits_key f fd) : FnOk P w K mg base CX0 2 f fd ["bits"] (spD R_bits_key) := by
  refine pure_ok F sc_bits_key (by rintro _ _ ⟨m, rfl, rfl⟩; rfl) (by decide) fun cdv A outer s H Q X hr => ⟨_,
    (pss_one (ps_ret (pe_fn h_lot_key (hr.mono (by decide)) rfl (pa_cons (pe_fn h_lot_of (hr.mono (by decide)) rfl (pa_cons (pv 0) pa_nil)) pa_nil)))), ?_⟩
  rintro F0 _ _ ⟨m, rfl, rfl⟩ σ c kR
  exact s_ret c (E_call (EA_1 (E_call (EA_1 (E_var rfl)) ⟨m, rfl, rfl⟩)) ⟨m, rfl, rfl⟩) kR
def R_rule_bits (ds : List PyData) (d : PyData) : Prop := ∃ (n : Nat) (rs : List (Nat × Nat)), Small rs ∧ rs.length ≤ 1000 ∧ ds = [bookD n rs] ∧ d = .list (rs.map pairD)
theorem sc_rule_bits : FnScope ["book", "ahead", "behind"] ["book"] (defScope s_rule_bits) := ⟨rfl, rfl, rfl, by decide +kernel, rfl, by decide +kernel, by decide +kernel⟩
theorem ok_rule_bits (h_bits_of : Has P w K mg base 1 "bits_of" ["lot"] (spD R_bits_of)) (F : FnP K "rule_bits" s_rule_bits f fd) : FnOk P w K mg base CX0 2 f fd ["book"] (spD R_rule_bits) := by
  refine pure_ok F sc_rule_bits (by rintro _ _ ⟨n, rs, hs, hl, rfl, rfl⟩; rfl) (by decide) fun cdv A outer s H Q X hr => ⟨_,
    (pss_one (ps_ret (pe_lc (own := [("ahead", 1), ("behind", 2)]) (g := gTup K 2 (gCons (gName 1) (gCons (gName 2) gNil))) rfl sc_rule_bits.nd (pi_tupK (K := K) rfl (pe_ix (ix_tupK (K := K) rfl) (pv 0) pe_int (fun _ _ => rfl))) (blkOk_by (by kernel_rfl)) (fun _ _ _ _ _ => (pg_tup rfl (pgs_cons (pg_name (i := 1) sc_rule_bits.nd rfl (Or.inl rfl)) (pgs_cons (pg_name (i := 2) sc_rule_bits.nd rfl (Or.inl rfl)) pgs_nil)))) (fun _ _ _ _ _ => pts_nil) (fun _ _ _ _ _ => (pe_tup (pa_cons (pe_fn h_bits_of (hr.mono (by decide)) rfl (pa_cons (pv 1) pa_nil)) (pa_cons (pe_fn h_bits_of (hr.mono (by decide)) rfl (pa_cons (pv 2) pa_nil)) pa_nil))))))), ?_⟩
  rintro F0 _ _ ⟨n, rs, hs, hl, rfl, rfl⟩ σ c kR
  exact s_ret c (E_lc1 (ys := rs) (enc := ruleD) (WI_tup (E_op (E_var rfl) (E_nat 1) (rd_ixT rfl))) (by omega) (fun y _ => GB_pair (by decide) (by decide)) (fun y hy => E_tup (EA_2 (E_call (EA_1 (E_var rfl)) ⟨_, (hs y hy).1, rfl, rfl⟩) (E_call (EA_1 (E_var rfl)) ⟨_, (hs y hy).2, rfl, rfl⟩)))) kR
def R_is_kept (ds : List PyData) (d : PyData) : Prop := ∃ (rs : List (Nat × Nat)) (m : Nat), ds = [.list (rs.map pairD), nI m] ∧ d = .bool (kept rs m)
theorem sc_is_kept : FnScope ["rules", "bits", "ahead", "behind"] ["rules", "bits"] (defScope s_is_kept) := ⟨rfl, rfl, rfl, by decide +kernel, rfl, by decide +kernel, by decide +kernel⟩
theorem ok_is_kept (F : FnP K "is_kept" s_is_kept f fd) : FnOk P w K mg base CX0 1 f fd ["rules", "bits"] (spD R_is_kept) := by
  refine pure_ok F sc_is_kept (by rintro _ _ ⟨rs, m, rfl, rfl⟩; rfl) (by decide) fun cdv A outer s H Q X hr => ⟨_,
    (pss_cons (ps_for PassesOwn.never rfl (pi_listK (K := K) rfl (pv 0)) (pg_tup rfl (pgs_cons (pg_name (i := 2) sc_is_kept.nd rfl (Or.inl rfl)) (pgs_cons (pg_name (i := 3) sc_is_kept.nd rfl (Or.inl rfl)) pgs_nil))) (pss_one (ps_if (PW.pt (pw_and (pt_cmpR op_eq (pe_op op_and (pv 1) (pv 2)) (pv 2) (nomark _)) (pw_and1 (pt_cmpR op_ne (pe_op op_and (pv 1) (pv 3)) (pv 3) (nomark _))))) (pss_one (ps_ret pe_bl)) pss_nil)))
      (pss_one (ps_ret pe_bl))), ?_⟩
  rintro F0 _ _ ⟨rs, m, rfl, rfl⟩ σ c kR
  refine q_forP (fun i => [.da (.list (rs.map pairD)), .da (nI m), .un, .un]) (fun i => kept (rs.take i) m = true) c (WI_list (E_var rfl)) (.of rfl) rfl (fun i y hy => GF_pair) (fun G1 e1 i y σ2 H2 hy pf c2 => ?_) fun σ2 H2 pf c2 => ?_
  · refine s_when c2 (ET_and (ET_test (E_op (E_op (E_var rfl) (E_var rfl) rd_and) (E_var rfl) rd_subE')) fun _ => ET_test (E_op (E_op (E_var rfl) (E_var rfl) rd_and) (E_var rfl) rd_subNe')) (fun ht H3 c3 => ?_) fun ht H3 c3 => ?_
    · refine s_ret c3 E_bl fun v H4 r => kR v H4 ?_
      have e : kept rs m = false := by
        rw [Bool.and_eq_true] at ht
        cases q : kept rs m with
        | false => rfl
        | true =>
          have := kept_iff.mp q y (List.mem_of_getElem? hy) ht.1
          rw [this] at ht
          simp at ht
      rw [e]
      exact r.less e1
    · refine ⟨?_, c3.lss (.cons (.cons (.un (.un .nil))))⟩
      unfold kept at pf ⊢
      rw [List.take_add_one, hy, List.all_append, pf]
      simp only [Option.toList_some, List.all_cons, List.all_nil, Bool.and_true, Bool.true_and]
      cases e : sub y.1 m with
      | false => rfl
      | true =>
        rw [e] at ht
        simpa using ht
  · refine s_ret c2 E_bl ?_
    rw [List.take_length] at pf
    rw [pf] at kR
    exact kR
def R_bits_round (ds : List PyData) (d : PyData) : Prop := ∃ (rs : List (Nat × Nat)) (m : Nat), ds = [.list (rs.map pairD), nI m] ∧ d = nI (rnd rs m)
theorem sc_bits_round : FnScope ["rules", "bits", "found", "ahead", "behind"] ["rules", "bits"] (defScope s_bits_round) := ⟨rfl, rfl, rfl, by decide +kernel, rfl, by decide +kernel, by decide +kernel⟩
theorem ok_bits_round (F : FnP K "bits_round" s_bits_round f fd) : FnOk P w K mg base CX0 1 f fd ["rules", "bits"] (spD R_bits_round) := by
  refine pure_ok F sc_bits_round (by rintro _ _ ⟨rs, m, rfl, rfl⟩; rfl) (by decide) fun cdv A outer s H Q X hr => ⟨_,
    (pss_cons (ps_set (i := 2) sc_bits_round.nd rfl (Or.inl rfl) (pv 1))
      (pss_cons (ps_for PassesOwn.never rfl (pi_listK (K := K) rfl (pv 0)) (pg_tup rfl (pgs_cons (pg_name (i := 3) sc_bits_round.nd rfl (Or.inl rfl)) (pgs_cons (pg_name (i := 4) sc_bits_round.nd rfl (Or.inl rfl)) pgs_nil))) (pss_one (ps_if (pt_cmpR op_eq (pe_op op_and (pv 1) (pv 3)) (pv 3) (nomark _)) (pss_one (ps_set (i := 2) sc_bits_round.nd rfl (Or.inl rfl) (pe_op op_or (pv 2) (pv 4)))) pss_nil)))
      (pss_one (ps_ret (pv 2))))), ?_⟩
  rintro F0 _ _ ⟨rs, m, rfl, rfl⟩ σ c kR
  refine q_asg c (E_var rfl) fun σ1 H1 c1 => ?_
  refine q_for (fun i => [.da (.list (rs.map pairD)), .da (nI m), .da (nI ((rs.take i).foldl (fun x r => if sub r.1 m then x ||| r.2 else x) m)), .un, .un]) c1 (WI_list (E_var rfl)) (.of rfl) (fun i y hy => GF_pair) (fun G1 e1 i y σ2 H2 hy c2 => ?_) fun σ2 H2 c2 => ?_
  · refine s_when c2 (ET_test (E_op (E_op (E_var rfl) (E_var rfl) rd_and) (E_var rfl) rd_subE')) (fun ht H3 c3 => ?_) fun ht H3 c3 => ?_
    · refine s_asg c3 (E_op (E_var rfl) (E_var rfl) rd_or) fun σ4 H4 c4 => ?_
      show Con _ G1 [.da (.list (rs.map pairD)), .da (nI m), .da (nI ((rs.take (i + 1)).foldl (fun x r => if sub r.1 m then x ||| r.2 else x) m)), .un, .un] σ4 H4
      rw [foldl_take hy, if_pos ht]
      exact c4.lss (.cons (.cons (.cons (.un (.un .nil)))))
    · show Con _ G1 [.da (.list (rs.map pairD)), .da (nI m), .da (nI ((rs.take (i + 1)).foldl (fun x r => if sub r.1 m then x ||| r.2 else x) m)), .un, .un] _ H3
      rw [foldl_take hy, if_neg (by rw [ht]; simp)]
      exact c3.lss (.cons (.cons (.cons (.un (.un .nil)))))
  · refine s_ret c2 (E_var rfl) ?_
    rw [List.take_length]
    exact kR
def R_bits_closure (ds : List PyData) (d : PyData) : Prop := ∃ (rs : List (Nat × Nat)) (m c : Nat), Small rs ∧ m < 1024 ∧ IsClo rs m c ∧ ds = [.list (rs.map pairD), nI m] ∧ d = nI c
theorem sc_bits_closure : FnScope ["rules", "bits", "further"] ["rules", "bits"] (defScope s_bits_closure) := ⟨rfl, rfl, rfl, by decide +kernel, rfl, by decide +kernel, by decide +kernel⟩
theorem ok_bits_closure (h_bits_round : Has P w K mg base 1 "bits_round" ["rules", "bits"] (spD R_bits_round)) (F : FnP K "bits_closure" s_bits_closure f fd) : FnOk P w K mg base CX0 2 f fd ["rules", "bits"] (spD R_bits_closure) := by
  refine pure_ok F sc_bits_closure (by rintro _ _ ⟨rs, m, r, hs, hm, hr', rfl, rfl⟩; rfl) (by decide) fun cdv A outer s H Q X hr => ⟨_,
    (pss_cons (ps_set (i := 2) sc_bits_closure.nd rfl (Or.inl rfl) (pe_fn h_bits_round (hr.mono (by decide)) rfl (pa_cons (pv 0) (pa_cons (pv 1) pa_nil))))
      (pss_cons (ps_while PassesOwn.never (pt_cmpR op_ne (pv 2) (pv 1) (nomark _)) (pss_cons (ps_set (i := 1) sc_bits_closure.nd rfl (Or.inl rfl) (pv 2))
      (pss_one (ps_set (i := 2) sc_bits_closure.nd rfl (Or.inl rfl) (pe_fn h_bits_round (hr.mono (by decide)) rfl (pa_cons (pv 0) (pa_cons (pv 1) pa_nil)))))))
      (pss_one (ps_ret (pv 1))))), ?_⟩
  rintro F0 _ _ ⟨rs, m, r, hs, hm, hr', rfl, rfl⟩ σ c kR
  refine q_asg c (E_call (EA_2 (E_var rfl) (E_var rfl)) ⟨rs, m, rfl, rfl⟩) fun σ1 H1 c1 => ?_
  refine q_while (β := { x : Nat // x < 1024 ∧ sub m x = true ∧ sub x r = true }) (s0 := ⟨m, hm, sub_refl m, hr'.has⟩) (fun x => [.da (.list (rs.map pairD)), .da (nI x.1), .da (nI (rnd rs x.1))]) (fun x => 1024 - x.1) (fun x => !decide (rnd rs x.1 = x.1)) c1 (fun x => ET_test (E_op (E_var rfl) (E_var rfl) rd_neN)) (fun x σ2 H2 ht c2 => ?_) fun x σ2 H2 ht c2 => ?_
  · have hx := rnd_lt (m := x.1) hs x.2.1
    have hsub : sub m (rnd rs x.1) = true := sub_trans x.2.2.1 (sub_rnd rs x.1)
    have hsub2 : sub (rnd rs x.1) r = true := rnd_le hr'.keeps x.2.2.2
    have hne : rnd rs x.1 ≠ x.1 := by simpa using ht
    have hle := sub_le (sub_rnd rs x.1)
    refine q_asg c2 (E_var rfl) fun σ3 H3 c3 => ?_
    refine s_asg c3 (E_call (EA_2 (E_var rfl) (E_var rfl)) ⟨rs, _, rfl, rfl⟩) fun σ4 H4 c4 => ?_
    exact ⟨⟨rnd rs x.1, hx, hsub, hsub2⟩, by show 1024 - rnd rs x.1 < 1024 - x.1; omega, c4⟩
  · have he : rnd rs x.1 = x.1 := by simpa using ht
    have e2 : x.1 = r := sub_anti x.2.2.2 (hr'.least _ (rnd_kept.mp he) x.2.2.1)
    refine s_ret c2 (E_var rfl) ?_
    rw [e2]
    exact kR
def optN : Option Nat → PyData
  | some m => nI m
  | none => .none
def R_closure_in (ds : List PyData) (d : PyData) : Prop := ∃ (cl : List Nat) (m : Nat), ds = [.list (cl.map nI), nI m] ∧ d = optN (cl.find? fun o => sub m o)
theorem sc_closure_in : FnScope ["closed", "bits", "own"] ["closed", "bits"] (defScope s_closure_in) := ⟨rfl, rfl, rfl, by decide +kernel, rfl, by decide +kernel, by decide +kernel⟩
theorem ok_closure_in (F : FnP K "closure_in" s_closure_in f fd) : FnOk P w K mg base CX0 1 f fd ["closed", "bits"] (spD R_closure_in) := by
  refine pure_ok F sc_closure_in (by rintro _ _ ⟨cl, m, rfl, rfl⟩; rfl) (by decide) fun cdv A outer s H Q X hr => ⟨_,
    (pss_cons (ps_for PassesOwn.never rfl (pi_listK (K := K) rfl (pv 0)) (pg_name (i := 2) sc_closure_in.nd rfl (Or.inl rfl)) (pss_one (ps_if (pt_cmpR op_eq (pe_op op_and (pv 2) (pv 1)) (pv 1) (nomark _)) (pss_one (ps_ret (pv 2))) pss_nil)))
      (pss_one (ps_ret pe_non))), ?_⟩
  rintro F0 _ _ ⟨cl, m, rfl, rfl⟩ σ c kR
  refine q_forP (fun i => [.da (.list (cl.map nI)), .da (nI m), .un]) (fun i => (cl.take i).find? (fun o => sub m o) = none) c (WI_list (E_var rfl)) (.of rfl) rfl (fun i y hy => GF_name) (fun G1 e1 i y σ2 H2 hy pf c2 => ?_) fun σ2 H2 pf c2 => ?_
  · have es : cl.find? (fun o => sub m o) = if sub m y = true then some y else cl.find? (fun o => sub m o) := by
      split
      · rename_i hq
        have hl : i < cl.length := (List.getElem?_eq_some_iff.mp hy).1
        have e3 : cl = cl.take i ++ y :: cl.drop (i + 1) := by
          have h4 : y = cl[i] := (List.getElem?_eq_some_iff.mp hy).2.symm
          rw [h4, ← List.drop_eq_getElem_cons hl, List.take_append_drop]
        rw [e3, List.find?_append, pf, List.find?_cons, hq]
        rfl
      · rfl
    refine s_when c2 (ET_test (E_op (E_op (E_var rfl) (E_var rfl) rd_and) (E_var rfl) rd_subE')) (fun ht H3 c3 => ?_) fun ht H3 c3 => ?_
    · refine s_ret c3 (E_var rfl) fun v H4 q => kR v H4 ?_
      rw [es, if_pos ht]
      exact q.less e1
    · refine ⟨?_, c3.lss (.cons (.cons (.un .nil)))⟩
      rw [List.take_add_one, hy, List.find?_append, pf]
      simp [ht]
  · refine s_ret c2 E_non ?_
    rw [List.take_length] at pf
    rw [pf] at kR
    exact kR
def R_is_within (ds : List PyData) (d : PyData) : Prop := ∃ m n : Nat, ds = [nI m, nI n] ∧ d = .bool (sub m n)
theorem diff_zero (m n : Nat) : decide (diff m n = 0) = sub m n := by
  rw [Bool.eq_iff_iff, decide_eq_true_iff, sub_iff]
  constructor
  · intro h i hi
    have := diff_bit m n i
    rw [h, hi, Nat.zero_testBit] at this
    cases e : n.testBit i with
    | true => rfl
    | false => rw [e] at this; cases this
  · intro h
    apply Nat.eq_of_testBit_eq
    intro i
    rw [diff_bit, Nat.zero_testBit]
    cases e : m.testBit i with
    | false => rfl
    | true => rw [h i e]; rfl
theorem sc_is_within : FnScope ["one", "other"] ["one", "other"] (defScope s_is_within) := ⟨rfl, rfl, rfl, by decide +kernel, rfl, by decide +kernel, by decide +kernel⟩
theorem ok_is_within (F : FnP K "is_within" s_is_within f fd) : FnOk P w K mg base CX0 1 f fd ["one", "other"] (spD R_is_within) := by
  refine pure_ok F sc_is_within (by rintro _ _ ⟨m, n, rfl, rfl⟩; rfl) (by decide) fun cdv A outer s H Q X hr => ⟨_,
    (pss_one (ps_ret (pe_cmpR op_eq (pe_op op_and (pv 0) (pe_un un_inv (pv 1))) pe_int (nomark _)))), ?_⟩
  rintro F0 _ _ ⟨m, n, rfl, rfl⟩ σ c kR
  refine s_ret c (E_op (E_op (E_var rfl) (E_un (E_var rfl) ru_inv) rd_diff) (E_nat 0) rd_eqN) ?_
  rw [diff_zero]
  exact kR
def R_bits_rule (ds : List PyData) (d : PyData) : Prop := ∃ m n : Nat, ds = [nI m, nI n] ∧ d = ruleD (m, n)
theorem sc_bits_rule : FnScope ["ahead", "behind"] ["ahead", "behind"] (defScope s_bits_rule) := ⟨rfl, rfl, rfl, by decide +kernel, rfl, by decide +kernel, by decide +kernel⟩
theorem ok_bits_rule (h_lot_of : Has P w K mg base 1 "lot_of" ["bits"] (spD R_lot_of)) (F : FnP K "bits_rule" s_bits_rule f fd) : FnOk P w K mg base CX0 2 f fd ["ahead", "behind"] (spD R_bits_rule) := by
  refine pure_ok F sc_bits_rule (by rintro _ _ ⟨m, n, rfl, rfl⟩; rfl) (by decide) fun cdv A outer s H Q X hr => ⟨_,
    (pss_one (ps_ret (pe_tup (pa_cons (pe_fn h_lot_of (hr.mono (by decide)) rfl (pa_cons (pv 0) pa_nil)) (pa_cons (pe_fn h_lot_of (hr.mono (by decide)) rfl (pa_cons (pv 1) pa_nil)) pa_nil))))), ?_⟩
  rintro F0 _ _ ⟨m, n, rfl, rfl⟩ σ c kR
  exact s_ret c (E_tup (EA_2 (E_call (EA_1 (E_var rfl)) ⟨m, rfl, rfl⟩) (E_call (EA_1 (E_var rfl)) ⟨n, rfl, rfl⟩))) kR
end
end ML
set_option autoImplicit false
set_option Elab.async false
set_option linter.all false
set_option maxRecDepth 100000
set_option maxHeartbeats 4000000
/-! sorted(xs, key=f), f a def whose call may touch its callers' frames (their slots alone). The keys are gathered by an invariant of our own; what is done behind the keys is the library's keyH_end, told over the heap cut off below the keys' own list. -/
namespace ML.So
open PySem PySem.W PySem.Calls PyProof.Rows

/-- h's objects stand in g; those of fr may have other slots -/
def Sw (fr : List Addr) (h g : Heap) : Prop := ∀ x ob, h.get? x = some ob → ∃ sl, g.get? x = some { ob with slots := sl } ∧ (x ∉ fr → sl = ob.slots)
section
variable {fr : List Addr} {h g g' : Heap} {x c : Addr} {ob : Obj}
theorem Sw.trans (k : Sw fr h g) (l : Sw fr g g') : Sw fr h g' := fun x ob q =>
  let ⟨_, q1, q2⟩ := k x ob q
  let ⟨sl, q3, q4⟩ := l x _ q1
  ⟨sl, q3, fun n => (q4 n).trans (q2 n)⟩
theorem Sw.of (k : ∀ x ob, h.get? x = some ob → g.get? x = some ob) : Sw fr h g := fun x ob q => ⟨_, k x ob q, fun _ => rfl⟩
theorem Sw.get (k : Sw fr h g) (n : x ∉ fr) (q : h.get? x = some ob) : g.get? x = some ob := by
  obtain ⟨sl, q1, q2⟩ := k x ob q
  rw [q1, q2 n]
/-- beyond h's end all may change -/
theorem Sw.far (k : Sw fr h g) (l : ∀ x, x < h.objs.size → g'.get? x = g.get? x) : Sw fr h g' := fun x ob q =>
  let ⟨sl, q1, q2⟩ := k x ob q
  ⟨sl, (l x (Heap.lt_size q)).trans q1, q2⟩
end

/-- the heap's first n objects -/
def cut (n : Nat) (h : Heap) : Heap := ⟨h.objs.extract 0 n, h.life⟩
theorem ext_at {α : Type} (xs : Array α) (n x : Nat) : (xs.extract 0 n)[x]? = if x < n then xs[x]? else none := by
  rw [Array.getElem?_extract]
  by_cases hx : x < n
  · by_cases hy : x < xs.size
    · rw [if_pos (by omega), if_pos hx, Nat.zero_add]
    · rw [if_neg (by omega), if_pos hx, Array.getElem?_eq_none (by omega)]
  · rw [if_neg (by omega), if_neg hx]
theorem cut_get (n : Nat) (h : Heap) (x : Addr) : (cut n h).get? x = if x < n then h.get? x else none := by
  unfold cut Heap.get?
  show (match (h.objs.extract 0 n)[x]? with | some ⟨_, _, .freed, _⟩ => none | o => o) = _
  rw [ext_at]
  by_cases hx : x < n
  · rw [if_pos hx, if_pos hx]; rfl
  · rw [if_neg hx, if_neg hx]

/-- the tuples of h stand in g, up to their slots -/
def TupStay (h g : Heap) : Prop := ∀ x ob, h.get? x = some ob → ob.cls = .type "tuple" → ∃ sl, g.get? x = some { ob with slots := sl }
mutual
theorem reads_tups {h g : Heap} (k : TupStay h g) : ∀ (d : PyData) (v : Value) (as : List Addr), as = [] → Reads h v d as → Reads g v d []
  | .none, _, _, _, r => by cases r; exact .none
  | .bool _, _, _, _, r => by cases r; exact .bool _
  | .int _, _, _, _, r => by cases r; exact .int _ _
  | .str _, _, _, _, r => by cases r; exact .str _ _
  | .list _, _, _, n, r => by cases r; cases n
  | .dict _, _, _, n, r => by cases r; cases n
  | .tuple ds, _, _, n, r => by
    cases r with
    | tuple q1 q2 q3 q4 => exact let ⟨_, q⟩ := k _ _ q1 q2; .tuple q q2 q3 (readsAll_tups k ds _ _ n q4)
theorem readsAll_tups {h g : Heap} (k : TupStay h g) : ∀ (ds : List PyData) (vs : List Value) (as : List Addr), as = [] → ReadsAll h vs ds as → ReadsAll g vs ds []
  | [], _, _, _, r => by cases r; exact .nil
  | d :: ds, _, _, n, r => by
    cases r with
    | cons r1 r2 =>
      obtain ⟨n1, n2⟩ := List.append_eq_nil_iff.mp n
      exact .cons (as := []) (bs := []) (reads_tups k d _ _ n1 r1) (readsAll_tups k ds _ _ n2 r2)
end

/-- what a key's call leaves -/
def KeyGives (fr : List Addr) (k : PyData) (s₁ : Shared) (v : Value) (s₂ : Shared) : Prop := s₂.os = s₁.os ∧ AllBare s₂.gens ∧ Sw fr s₁.heap s₂.heap ∧ Reads s₂.heap v k []
/-- a state along the sort -/
def Along (s s' : Shared) : Prop := s'.os = s.os ∧ AllBare s'.gens

section
variable {prog : Program} {w : World} {A : Around} {E : Value → Shared → Prop} {s0 s : Shared} {fr : List Addr} {a b : Addr} {vs : List Value} {e1 i : Nat} {P : PySem.Fin → Shared → Prop} {kz : List PyData} {k : PyData} {v : Value}
/-- i keys have come: a is the list that is sorted, b holds the keys; both lie beyond what stood at the start -/
structure Mid (fr : List Addr) (s0 : Shared) (a b : Addr) (e1 : Nat) (kz : List PyData) (i : Nat) (s : Shared) : Prop where
  al : Along s0 s
  sw : Sw fr s0.heap s.heap
  own : s.heap.get? a = some (seqObj "list" #[] e1)
  keys : ∃ ks c, s.heap.get? b = some (seqObj "list" ks c) ∧ EachIs (fun v k => Reads s.heap v k []) ks.toList (kz.take i)
theorem Mid.push (m : Mid fr s0 a b e1 kz i s) (hb : s0.heap.objs.size ≤ b) (ab : b ≠ a) {s2 : Shared} (g : KeyGives fr k s v s2) (fa : a ∉ fr) (fb : b ∉ fr) (hk : kz[i]? = some k) :
    ∃ ks c, s2.heap.get? b = some (seqObj "list" ks c) ∧ ks.size = (kz.take i).length ∧ Mid fr s0 a b e1 kz (i + 1) { s2 with heap := s2.heap.update b (Obj.mapSeq (·.push v)) } := by
  obtain ⟨g1, g2, g3, g4⟩ := g
  obtain ⟨ks, c, q1, q2⟩ := m.keys
  have q3 := g3.get fb q1
  have u := Heap.SameBut.update s2.heap b (Obj.mapSeq (·.push v))
  have t2 : TupStay s2.heap (s2.heap.update b (Obj.mapSeq (·.push v))) := fun x ob q t => ⟨ob.slots, (u.2 x (fun z => by
    rw [z, q3] at q
    rw [← Option.some.inj q] at t
    injection (show Value.type "list" = Value.type "tuple" from t) with t1
    exact absurd t1 (by decide))).trans q⟩
  refine ⟨ks, c, q3, by rw [← q2.length, Array.length_toList], ⟨g1.trans m.al.1, g2⟩, (m.sw.trans g3).far fun x hx => u.2 x (Nat.ne_of_lt (Nat.lt_of_lt_of_le hx hb)), (u.2 a ab.symm).trans (g3.get fa m.own), _, _, get?_update_seq q3 (·.push v), ?_⟩
  rw [Array.toList_push, List.take_add_one, hk]
  refine each_snoc (R := fun u k => Reads (s2.heap.update b (Obj.mapSeq (·.push v))) u k []) (reads_tups t2 _ _ _ rfl g4) (q2.mono fun _ _ r => reads_tups t2 _ _ _ rfl (reads_tups (fun x ob q _ => let ⟨sl, q', _⟩ := g3 x ob q; ⟨sl, q'⟩) _ _ _ rfl r))

/-- all keys have come: the list is sorted -/
theorem Mid.sorts (m : Mid fr s0 a b e1 kz vs.length s) (ha : s0.heap.objs.size ≤ a) (hb : s0.heap.objs.size ≤ b) (ab : b ≠ a) (hl : kz.length = vs.length) (hz : vs.length ≤ sizeLine) (hal : AllAlike kz) (hsk : Sortable kz) (hu : ∀ d, d ∈ kz → A.units + d.depth < cLine)
    (fin : ∀ s' out c, Along s0 s' → Sw fr s0.heap s'.heap → s'.heap.get? a = some (seqObj "list" (List.toArray out) c) → KeyedOut false kz vs out → P (.done (.ret .none)) s') :
    wpAny (model prog w) A (Builtin.List.listItems (.ref b) >>= ksk_end a false vs.toArray e1 (.ref b)) P E s := by
  obtain ⟨ks, c, q1, q2⟩ := m.keys
  rw [List.take_of_length_le (Nat.le_of_eq hl)] at q2
  have q3 : EachIs (fun v k => ∃ as, Reads s.heap v k as) ks.toList kz := q2.mono fun _ _ r => ⟨_, r⟩
  have below : ∀ {g : Heap}, KeepsBut a (cut b s.heap) g → Sw fr s0.heap g := fun {g} kp x ob q => by
    obtain ⟨sl, q4, q5⟩ := m.sw x ob q
    have hx := Heap.lt_size q
    exact ⟨sl, kp x _ (Nat.ne_of_lt (Nat.lt_of_lt_of_le hx ha)) (by rw [cut_get, if_pos (Nat.lt_of_lt_of_le hx hb)]; exact q4), q5⟩
  have part : KeepsBut a (cut b s.heap) s.heap := fun x ob _ q => by
    rw [cut_get] at q
    split at q
    · exact q
    · cases q
  exact wpAny_bind (listItems_at q1 rfl (keyH_end (κ := dataKind s.heap kz) part (by rw [cut_get, if_neg (Nat.lt_irrefl b)]) q1 m.own ab (SortsAt.data q3 hal hsk hu) ((Array.length_toList ..).symm.trans (q2.length.trans hl)) hz
    fun g tk c2 kp ho => fin { s with heap := g, toks := tk } _ c2 m.al (below kp) ho ⟨_, _, hal, rfl, q3⟩))

/-- the keys are asked for, one by one -/
theorem Mid.asks {fn : Value} (m : Mid fr s0 a b e1 kz 0 s) (ha : s0.heap.objs.size ≤ a) (hb : s0.heap.objs.size ≤ b) (ab : b ≠ a) (fa : a ∉ fr) (fb : b ∉ fr) (hl : kz.length = vs.length) (hz : vs.length ≤ sizeLine) (hal : AllAlike kz) (hsk : Sortable kz) (hu : ∀ d, d ∈ kz → A.units + d.depth < cLine)
    (turn : ∀ (i : Nat) (v : Value) (k : PyData), vs[i]? = some v → kz[i]? = some k → ∀ s' : Shared, Along s0 s' → Sw fr s0.heap s'.heap → wpAny (model prog w) A (call fn [v]) (KeyGives fr k s') (fun _ _ => False) s')
    (fin : ∀ s' out c, Along s0 s' → Sw fr s0.heap s'.heap → s'.heap.get? a = some (seqObj "list" (List.toArray out) c) → KeyedOut false kz vs out → P (.done (.ret .none)) s') :
    wpAny (model prog w) A (ksk_rest a fn false vs.toArray e1 (.ref b)) P E s := by
  unfold ksk_rest
  rw [List.forIn_toArray]
  refine wpAny_bind (wpAny_rule (wpAny_bind (ksk_fold (Mid fr s0 a b e1 kz) vs 0 s m (fun i v s1 hv m1 => ?_) fun s1 m1 => ?_)))
  · rw [Nat.zero_add] at m1 ⊢
    have hi : i < kz.length := hl ▸ (List.getElem?_eq_some_iff.mp hv).1
    have hk : kz[i]? = some kz[i] := List.getElem?_eq_getElem hi
    refine wpAny_bind (wpAny_attempt (wpAny_mono (turn i v _ hv hk s1 m1.al m1.sw) (fun u s2 g => ?_) fun _ _ f => f.elim))
    obtain ⟨ks, c, q1, q2, m2⟩ := m1.push hb ab g fa fb hk
    have q3 : ks.size < vs.length := by rw [q2, List.length_take]; omega
    exact wpAny_bind (listUpdate_at q1 rfl (wpAny_pure ⟨rfl, m2⟩) (by omega) (by rw [Array.size_push]; omega))
  · rw [Nat.zero_add] at m1
    exact m1.sorts ha hb ab hl hz hal hsk hu fin

/-- the sort of a list of our own: ahead of the keys -/
theorem opened {fn : Value} {n : Nat} (ho : s.heap.get? a = some (seqObj "list" vs.toArray n)) (hz : vs.length ≤ sizeLine)
    (go : ∀ e1, (sortingHeap s.heap a vs).get? a = some (seqObj "list" #[] e1) → (sortingHeap s.heap a vs).get? (s.heap.objs.size + 1) = some (seqObj "list" #[] 0) → wpAny (model prog w) A (ksk_rest a fn false vs.toArray e1 (.ref (s.heap.objs.size + 1))) P E { s with heap := sortingHeap s.heap a vs }) :
    wpAny (model prog w) A (ksk_tree a fn false) P E s := by
  have o1 := get?_update_seq ho fun _ => #[]
  have z : ((s.heap.update a (Obj.mapSeq fun _ => #[])).push (seqObj "tuple" vs.toArray 0)).objs.size = s.heap.objs.size + 1 := by rw [size_push', Heap.size_update]
  have go' := go _ (Heap.get?_push_of_some _ (Heap.get?_push_of_some _ o1)) (by rw [← z]; exact Heap.get?_push_size _ rfl)
  rw [← z] at go'
  exact wpAny_bind (listItems_at ho rfl (wpAny_bind (listUpdate_at ho rfl (wpAny_bind (seqEpoch_at o1 rfl (wpAny_bind (wpAny_newTuple (wpAny_bind (wpAny_newList (wpAny_holding go') (Nat.zero_le _))) hz)))) (by rw [List.size_toArray]; exact hz) (Nat.zero_le _))))
end
section
variable {prog : Program} {w : World} {A : Around} {E : Value → Shared → Prop} {s : Shared} {fr : List Addr} {β : Type} {vs : List Value} {bs : List β} {R : Value → β → Prop}
/-- sorted(xs, key=f) -/
theorem sorted_keyS {l : Addr} {fn : Value} {kw : List (Str × Value)} {Q : Value → Shared → Prop} (k : β → PyData) (hl : s.heap.IsList l vs.toArray) (e : EachIs R vs bs) (hal : AllAlike (bs.map k)) (hk : Sortable (bs.map k)) (hL : bs.length ≤ sizeLine) (ff : ∀ x, s.heap.objs.size ≤ x → x ∉ fr) (hb : AllBare s.gens)
    (hu : ∀ x, x ∈ bs → A.units + 2 + (k x).depth < cLine) (ha1 : argsOk "sorted" ⟨[.ref l], kw⟩) (ha2 : ∀ x, argsOk "list.sort" ⟨[.ref x], kw⟩) (ht : ∀ x, Builtin.«list.sort» ⟨[.ref x], kw⟩ = ksk_tree x fn false)
    (turn : ∀ (v : Value) (x : β), R v x → x ∈ bs → ∀ s' : Shared, Along s s' → Sw fr s.heap s'.heap → wpAny (model prog w) A.in1.in1 (call fn [v]) (KeyGives fr (k x) s') (fun _ _ => False) s')
    (fin : ∀ out c s', Along s s' → Sw fr s.heap s'.heap → s'.heap.get? (s.heap.objs.size + 1) = some (seqObj "list" (List.toArray out) c) → out.length = bs.length → EachIs R out (bs.mergeSort (dataLe false k)) → Q (.ref (s.heap.objs.size + 1)) s') :
    wpAny (model prog w) A (call (.builtin "sorted") [.ref l] kw) Q E s := by
  have n := e.length
  have hz : vs.length ≤ sizeLine := n ▸ hL
  have nm : (bs.map k).length = vs.length := by rw [List.length_map, n]
  have z : (copyHeap s.heap vs).objs.size = s.heap.objs.size + 2 := by unfold copyHeap; rw [size_push', Heap.size_update, size_push']
  refine sorted_of_sort hl hz ha1 ha2 fun E' => (ht _).symm ▸ opened (s := { s with heap := copyHeap s.heap vs }) (copyHeap_at s.heap vs) hz fun e1 o1 o2 => ?_
  refine Mid.asks (s0 := s) (kz := bs.map k) ⟨⟨rfl, hb⟩, .of fun x ob q => sorting_copy_old q, o1, _, _, o2, .nil⟩ (Nat.le_succ _) (by show _ ≤ (copyHeap s.heap vs).objs.size + 1; omega) (by show (copyHeap s.heap vs).objs.size + 1 ≠ _; omega) (ff _ (Nat.le_succ _)) (ff _ (by show _ ≤ (copyHeap s.heap vs).objs.size + 1; omega))
    nm hz hal hk (bound_map (A := A.in1.in1) hu) (fun i v d hv hd s' al sw => ?_) fun s' out c al sw ho ko => ⟨rfl, fin out c s' al sw ho ((ko.length nm).trans n) (keyedOut_each k ko e)⟩
  rw [List.getElem?_map, Option.map_eq_some_iff] at hd
  obtain ⟨x, hx, rfl⟩ := hd
  exact turn v x (e.zip (v, x) (List.mem_of_getElem? (List.getElem?_zip_eq_some.mpr ⟨hv, hx⟩))) (List.mem_of_getElem? hx) s' al sw
end
end ML.So
set_option Elab.async false
set_option linter.all false
set_option maxRecDepth 100000
set_option maxHeartbeats 4000000
/-! sorted(xs, key=f) over the layer: f a pure def, the items and keys masks' data -/
namespace ML
open PySem L2
open Evl (Ex fresh_back)
open PySem.W (EachIs AllAlike Sortable dataLe)

mutual
def noL : PyData → Bool
  | .none => true
  | .bool _ => true
  | .int _ => true
  | .str _ => true
  | .list _ => false
  | .tuple ds => noLs ds
  | .dict _ => false
def noLs : List PyData → Bool
  | [] => true
  | d :: ds => noL d && noLs ds
end
theorem noLs_map {α : Type} (f : α → PyData) (h : ∀ a, noL (f a) = true) : ∀ l : List α, noLs (l.map f) = true
  | [] => rfl
  | a :: l => by rw [List.map_cons, noLs, h a, noLs_map f h l]; rfl
section
variable {P : Program} {w : World} {F H : Hp} {h : Heap}
mutual
theorem DV.reads (ok : HOk P w H h) (e : Ex F H) : ∀ (d : PyData) (v : V) (u : Value), noL d = true → DV F v d → RelV v u → Reads h u d []
  | .none, _, _, _, hd, r => by cases hd; cases r; exact .none
  | .bool b, _, _, _, hd, r => by cases hd; cases r; exact .bool b
  | .int i, _, _, _, hd, r => by cases hd; obtain ⟨t, rfl⟩ := r; exact .int i t
  | .str x, _, _, _, hd, r => by cases hd; obtain ⟨t, rfl⟩ := r; exact .str x t
  | .list _, _, _, hn, _, _ => by cases hn
  | .dict _, _, _, hn, _, _ => by cases hn
  | .tuple ds, _, _, hn, hd, r => by
    cases hd with
    | tup h1 h2 =>
      cases r
      obtain ⟨_, its, rv, ob, ho, hc, n, hdt⟩ := (Evl.ex_rd e h1).ok ok
      exact .tuple ho hc hdt (DVs.reads ok e ds _ _ hn h2 (by simpa using rv))
theorem DVs.reads (ok : HOk P w H h) (e : Ex F H) : ∀ (ds : List PyData) (vs : List V) (us : List Value), noLs ds = true → DVs F vs ds → Vals vs us → ReadsAll h us ds []
  | [], _, _, _, hd, r => by cases hd; cases r; exact .nil
  | d :: ds, _, _, hn, hd, r => by
    cases hd with
    | cons h1 h2 =>
      cases r with
      | cons r1 r2 =>
        rw [noLs, Bool.and_eq_true] at hn
        exact .cons (as := []) (bs := []) (DV.reads ok e d _ _ hn.1 h1 r1) (DVs.reads ok e ds _ _ hn.2 h2 r2)
end
/-- the tuples of F, known to the object -/
noncomputable def tups (F : Hp) (h : Heap) : Hp := fun a => match F a with
  | some (.tup xs) => (h.get? a).map fun o => .frz o (.tup xs)
  | some (.frz o (.tup xs)) => some (.frz o (.tup xs))
  | _ => none
theorem tups_rd (ok : HOk P w H h) (e : Ex F H) {a : Addr} {xs : List V} (r : Rd F a (.tup xs)) : Rd (tups F h) a (.tup xs) := by
  rcases r with r | ⟨o, r⟩
  · obtain ⟨_, _, _, ob, ho, _⟩ := ok a _ (e _ _ r)
    refine .inr ⟨ob, ?_⟩
    unfold tups
    rw [r]
    show (h.get? a).map _ = _
    rw [ho]
    rfl
  · refine .inr ⟨o, ?_⟩
    unfold tups
    rw [r]
theorem tups_some {a : Addr} {u : HO} (ok : HOk P w H h) (e : Ex F H) (q : tups F h a = some u) : ∃ o xs, u = .frz o (.tup xs) ∧ h.get? a = some o ∧ ObjOk P w H h a (.tup xs) ∧ H a ≠ none := by
  unfold tups at q
  cases r : F a with
  | none => rw [r] at q; cases q
  | some x =>
    have hx := e _ _ r
    rw [r] at q
    cases x with
    | tup xs =>
      have q' : (h.get? a).map (fun o => HO.frz o (.tup xs)) = some u := q
      have k := ok a _ hx
      obtain ⟨_, _, _, ob, ho, _⟩ := id k
      rw [ho] at q'
      exact ⟨ob, xs, (Option.some.inj q').symm, ho, k, by rw [hx]; simp⟩
    | frz o y =>
      cases y with
      | tup xs =>
        have q' : some (HO.frz o (.tup xs)) = some u := q
        obtain ⟨k1, k2⟩ := ok a _ hx
        exact ⟨o, xs, (Option.some.inj q').symm, k1, k2, by rw [hx]; simp⟩
      | _ => cases q
    | _ => cases q
mutual
theorem DV.tups (ok : HOk P w H h) (e : Ex F H) : ∀ (d : PyData) (v : V), noL d = true → DV F v d → DV (ML.tups F h) v d
  | .none, _, _, hd => by cases hd; exact .non
  | .bool b, _, _, hd => by cases hd; exact .bl b
  | .int i, _, _, hd => by cases hd; exact .int i
  | .str x, _, _, hd => by cases hd; exact .str x
  | .list _, _, hn, _ => by cases hn
  | .dict _, _, hn, _ => by cases hn
  | .tuple ds, _, hn, hd => by
    cases hd with
    | tup h1 h2 => exact .tup (tups_rd ok e h1) (DVs.tups ok e ds _ hn h2)
theorem DVs.tups (ok : HOk P w H h) (e : Ex F H) : ∀ (ds : List PyData) (vs : List V), noLs ds = true → DVs F vs ds → DVs (ML.tups F h) vs ds
  | [], _, _, hd => by cases hd; exact .nil
  | d :: ds, _, hn, hd => by
    cases hd with
    | cons h1 h2 =>
      rw [noLs, Bool.and_eq_true] at hn
      exact .cons (DV.tups ok e d _ hn.1 h1) (DVs.tups ok e ds _ hn.2 h2)
end
end

/-! ### the rule -/
def rSortK (K : PySem.W.Frag) (R : List PyData → PyData → Prop) : V → Hp → VK → Prop := fun v H Q => ∃ (F : Hp) (p : Addr) (ms : List Nat) (enc kf : Nat → PyData), v = .ref p ∧ Ex F H ∧ DV F (.ref p) (.list (ms.map enc)) ∧ ms.length ≤ 100000 ∧ (∀ m, noL (enc m) = true ∧ noL (kf m) = true ∧ (kf m).depth ≤ 50) ∧
  (∀ m ∈ ms, R [enc m] (kf m)) ∧ AllAlike (ms.map kf) ∧ Sortable (ms.map kf) ∧ ∀ v F' H', Stq F H F' H' → DV F' v (.list ((ms.mergeSort (dataLe false kf)).map enc)) → Q v H'
theorem each_of {F : Hp} {enc : Nat → PyData} : ∀ {ms : List Nat} {xs : List V} {its : List Value}, DVs F xs (ms.map enc) → Vals xs its → EachIs (fun v m => ∃ x, RelV x v ∧ DV F x (enc m)) its ms
  | [], _, _, h, r => by cases h; cases r; exact .nil
  | m :: ms, _, _, h, r => by
    cases h with
    | cons h1 h2 =>
      cases r with
      | cons r1 r2 => exact .cons ⟨_, r1, h1⟩ (each_of h2 r2)
theorem of_each {F : Hp} {enc : Nat → PyData} : ∀ {ms : List Nat} {its : List Value}, EachIs (fun v m => ∃ x, RelV x v ∧ DV F x (enc m)) its ms → ∃ xs, Vals xs its ∧ DVs F xs (ms.map enc)
  | [], _, h => by cases h; exact ⟨[], .nil, .nil⟩
  | m :: ms, _, h => by
    cases h with
    | cons h1 h2 =>
      obtain ⟨x, r, d⟩ := h1
      obtain ⟨xs, r2, d2⟩ := of_each h2
      exact ⟨x :: xs, .cons r r2, .cons d d2⟩
theorem run_sortK {X : Cx} {k : Nat} {R : List PyData → PyData → Prop} {f : Addr} {fd : FuncData} {x : Str} {pins : List (Addr × Obj)} {s : Shared} {σ : L2.St} {H : Hp} {v : V} {u : Value} {Q : VK} (G : FnOk X.prog X.w X.K X.mg X.base CX0 k f fd [x] (spD R)) (hb : Binds X.K fd [x] []) (hr : Room (k + 2) X.A)
    (I : Inv X pins σ H s) (rv : RelV v u) (h : rSortK X.K R v H Q) : wpAny (model X.prog X.w) X.A (call (.builtin "sorted") [u] [(Str.ofString "key", .ref f)]) (EP X pins σ Q) X.xe s := by
  obtain ⟨F, p, ms, enc, kf, rfl, e, dv, hl, hnl, hR, hal, hsk, q⟩ := h
  cases rv
  cases dv with
  | lst h1 h2 =>
    rename_i xs
    obtain ⟨its, rv, pl, hz⟩ := I.list (SqL.of (K := X.K) (e _ _ h1))
    have r1 : Room k X.A.in1.in1 := hr.in1.in1
    have nfr : ∀ {b : Addr} {o : Obj}, X.base.get? b = some o → b ∉ frs X.stack := fun {b o} q1 hb => by
      have q2 := (I.stack.mem hb).1
      rw [q1] at q2; cases q2
    have htr : ∀ {b : Addr}, H b ≠ none → b ∉ frs X.stack := fun {b} q1 hb => q1 (I.stkFree b hb)
    refine So.sorted_keyS (fr := frs X.stack) (β := Nat) (bs := ms) kf pl.isList (each_of h2 rv) hal hsk (Evl.sz_of hl) (fun y hy hm => ?_) I.bare (fun m hm => ?_) (PyProof.Rows.ksk_s1 _ _) (fun _ => PyProof.Rows.ksk_l1 _ _) (fun _ => PyProof.Rows.ksk_t1 _ _) ?_ ?_
    · obtain ⟨_, o, ho, _⟩ := I.stack.mem hm
      exact absurd (Nat.lt_of_lt_of_le (Heap.lt_size ho) hy) (Nat.lt_irrefl _)
    · have d1 := (hnl m).2.2
      have d2 := hr.units
      omega
    · rintro uv m ⟨y, ry, dy⟩ hm s' al st
      have ex1 : ∀ {b : Addr} {o : Obj}, b ∉ frs X.stack → s.heap.get? b = some o → s'.heap.get? b = some o := fun {b o} n q1 => by
        obtain ⟨sl, q2, q3⟩ := st b o q1
        rw [q2, q3 n]
      have hok' : HOk X.prog X.w (tups F s.heap) s'.heap := fun b u q1 => by
        obtain ⟨o, ys, rfl, ho, k1, k2⟩ := tups_some I.hok e q1
        refine ⟨ex1 (htr k2) ho, ?_⟩
        obtain ⟨z, it2, rv2, ob, ho2, k3⟩ := k1
        rw [ho] at ho2; cases ho2
        exact ⟨z, it2, rv2, o, ex1 (htr k2) ho, k3⟩
      have tf : ∀ b, b ∈ frs X.stack → tups F s.heap b = none := fun b hb => by
        cases q1 : tups F s.heap b with
        | none => rfl
        | some u =>
          obtain ⟨_, _, _, _, _, k2⟩ := tups_some I.hok e q1
          exact absurd hb (htr k2)
      have tb : ∀ b o, X.base.get? b = some o → tups F s.heap b = none := fun b o hb => by
        cases q1 : tups F s.heap b with
        | none => rfl
        | some u =>
          obtain ⟨_, _, _, _, _, k2⟩ := tups_some I.hok e q1
          exact absurd (I.bs b o hb).2 k2
      have hsz : X.base.objs.size ≤ s'.heap.objs.size := by
        obtain ⟨mm, ⟨o, es, ep, ho, _⟩, _⟩ := I.loc
        obtain ⟨sl, q2, _⟩ := st _ o ho
        exact Nat.le_trans (Nat.le_trans I.ok.bsz I.ok.above) (Nat.le_of_lt (Heap.lt_size q2))
      have e0 : Env0 X.prog X.w X.K X.mg X.base X.A.in1.in1 X.stack s' (tups F s.heap) :=
        ⟨I.ok.frames, I.ok.mod, fun b o hb => ⟨ex1 (nfr hb) (I.bs b o hb).1, tb b o hb⟩, hsz, I.stack.of_keeps fun b o q1 _ => (by
          obtain ⟨sl, q2, _⟩ := st b o q1
          exact ⟨_, q2, rfl⟩), tf, hok', al.2⟩
      have KI : X.K.In s'.heap := I.ok.mod.kin.keeps fun b o hb => ex1 (nfr hb) (I.bs b o hb).1
      refine wpAny_call (codeAny_mono (G.run X.A.in1.in1 X.stack s' (tups F s.heap) ⟨[uv], []⟩ ([uv] ++ []) ([y] ++ []) (fun v2 H2 => ∃ F2, Ex F2 H2 ∧ DV F2 v2 (kf m)) (fun _ _ _ => False) r1 e0 (hb s' [uv] KI rfl) (.cons ry .nil) ?_) fun r s2 hq => ?_)
      · exact ⟨tups F s.heap, [enc m], Ex.refl _, .cons (DV.tups I.hok e _ _ (hnl m).1 dy) .nil, kf m, hR m hm, fun v2 F2 H2 s2 d2 => ⟨F2, s2.fh, d2⟩⟩
      · cases r with
        | error ee => exact hq.elim
        | ok fl =>
          cases fl with
          | next => exact False.elim hq
          | brk => exact False.elim hq
          | cont => exact False.elim hq
          | ret uk =>
            obtain ⟨vk, H2, os, bare, un, hok2, rk, F2, e2, dk⟩ := hq
            refine ⟨os, bare, fun b ob hbo => ?_, DV.reads hok2 e2 _ _ _ (hnl m).2.1 dk rk⟩
            cases q1 : tups F s.heap b with
            | none =>
              by_cases hf : b ∈ frs X.stack
              · obtain ⟨sl, q2⟩ := un.slot b ob hbo q1 hf (by simp)
                exact ⟨sl, q2, fun n => absurd hf n⟩
              · exact ⟨ob.slots, un.keep b ob hbo q1 hf (by simp), fun _ => rfl⟩
            | some u2 =>
              obtain ⟨o, ys, rfl, ho, k1, k2⟩ := tups_some I.hok e q1
              have q3 := un.frzs b o _ q1
              obtain ⟨q4, _⟩ := hok2 b _ q3
              have q5 := ex1 (htr k2) ho
              rw [hbo] at q5
              have q6 : ob = o := Option.some.inj q5
              exact ⟨ob.slots, by rw [q6]; exact q4, fun _ => rfl⟩
    · intro out c s' al st hD hlen ho
      obtain ⟨ys, rvs, dvs⟩ := of_each ho
      have fresh : H (s.heap.objs.size + 1) = none := I.hok.fresh (Nat.le_succ _)
      have ex1 : ∀ {b : Addr} {o : Obj}, b ∉ frs X.stack → s.heap.get? b = some o → s'.heap.get? b = some o := fun {b o} n q1 => by
        obtain ⟨sl, q2, q3⟩ := st b o q1
        rw [q2, q3 n]
      have un : Un (frs X.stack) [] H (upd H (s.heap.objs.size + 1) (.lst ys)) s.heap s'.heap := by
        refine ⟨fun b o q1 _ hf _ => ex1 hf q1, fun b o q1 _ _ _ => ?_, fun b o q1 n _ => ?_, fun b o q1 _ => ?_, fun b xs q1 => ?_, fun b o u q1 => ?_, fun b ps q1 => ⟨#[], ?_⟩⟩
        · obtain ⟨sl, q2, _⟩ := st b o q1
          exact ⟨sl, q2⟩
        · rw [upd_ne (Nat.ne_of_lt (Nat.lt_succ_of_lt (Heap.lt_size q1)))]; exact n
        · obtain ⟨sl, q2, _⟩ := st b o q1
          exact ⟨_, q2⟩
        · rw [upd_ne (ne_of_none q1 fresh)]; exact q1
        · rw [upd_ne (ne_of_none q1 fresh)]; exact q1
        · rw [upd_ne (ne_of_none q1 fresh), q1]; simp
      have hok' : HOk X.prog X.w (upd H (s.heap.objs.size + 1) (.lst ys)) s'.heap := fun b u q1 => by
        by_cases hb : b = s.heap.objs.size + 1
        · subst hb
          rw [upd_same] at q1
          cases q1
          refine ⟨?_, out, c, rvs, hD⟩
          rw [rvs.length, hlen]
          exact Evl.sz_of hl
        · rw [upd_ne hb] at q1
          refine (I.hok b u q1).stay (fun b2 ob hb2 q2 => ex1 ?_ q2) (fun b2 q2 => by rw [upd_ne (ne_of_none q2 fresh)]; exact q2) fun b2 xs q2 => by rw [upd_ne (ne_of_none q2 fresh)]; exact q2
          rcases hb2 with rfl | hb2
          · exact htr (by rw [q1]; simp)
          · exact htr (by rw [hb2]; simp)
      have I' := I.call' (s' := s') al.1 un hok' al.2 fun b hb => absurd hb (by simp)
      refine ⟨.ref (s.heap.objs.size + 1), _, I', rfl, q _ (upd F (s.heap.objs.size + 1) (.lst ys)) _ (Stq.new e fresh) (.lst upd_same (dvs.up (Ex.new (fresh_back e fresh))))⟩
def tSortK (K : PySem.W.Frag) (R : List PyData → PyData → Prop) (te : TE) : TE := fun σ H Q => te σ H fun v H1 => rSortK K R v H1 Q
theorem pe_sortedKey {X : Cx} {k n : Nat} {R : List PyData → PyData → Prop} {x kn : Str} {p pk pos kpos : Pos} {e : Expr} {te : TE} (h : Has X.prog X.w X.K X.mg X.base k kn [x] (spD R)) (hr : Room n X.A) (hk : k + 2 ≤ n) (hg : Gl X kn) (hs : Gl X "sorted") (hm : X.mg "sorted" = none) (he : PE X e te)
    (hd : (kn == ("__debug__" : Str)) = false := by decide) (h1 : backTo pos (starEach [e] X.env) = (false, eval e X.env) :: backTo pos (starEach [] X.env) := by rfl) (h2 : (backTo pos (starEach [e] X.env)).any (·.1) = false := by rfl)
    (hs1 : starEach [e] X.env = (false, eval e X.env) :: starEach [] X.env := by rfl) :
    PE X (.Call (.Name "sorted" p) [e] [⟨some "key", .Name kn pk, kpos⟩] pos) (tSortK X.K R te) := by
  obtain ⟨f, fd, G, hmk, hkp, hb⟩ := h.ex
  have ha := pa_cons (X := X) he pa_nil hs1
  have hkw : PK X [⟨some "key", .Name kn pk, kpos⟩] (tCons (tC (.ref f)) tNil) := pk_cons (pe_glob hg hmk (v := V.ref f) (by exact (rfl : Value.ref f = Value.ref f)) hd) pk_nil
  constructor
  intro pins s σ H Q I q
  refine wpAny_Call_Name_kw (ld_blt I hs hm (by decide +kernel : bootBuiltins "sorted" = some (.builtin "sorted")) ?_)
  refine PyProof.Rows.callWith_kw (thn (ha.run pos pins s σ H (fun vs H1 => match vs with
    | [v] => rSortK X.K R v H1 Q
    | _ => False) I q) ?_) h1 h2 (by rfl) (by rfl)
  · rintro us s1 ⟨vs, H1, I1, r1, q1⟩
    obtain ⟨v, rfl⟩ : ∃ v, vs = [v] := by
      match vs, q1 with
      | [v], _ => exact ⟨v, rfl⟩
    refine thn (hkw.run pos pins s1 σ H1 (fun zs H2 => zs = [V.ref f] ∧ rSortK X.K R v H2 Q) I1 ⟨rfl, q1⟩) ?_
    rintro ws s2 ⟨zs, H2, I2, r2, rfl, q2⟩
    cases r1 with
    | cons a1 a2 =>
      cases a2
      cases r2 with
      | cons z1 z2 =>
        cases z2
        cases z1
        exact run_sortK G hb (hr.mono hk) I2 a1 q2
end ML
set_option Elab.async false
set_option linter.all false
set_option maxRecDepth 100000
set_option maxHeartbeats 2000000
/-! the order of lots -/
namespace ML
open PySem L2
open PySem.W (EachIs AllAlike Sortable dataLe dataLt alike alikeAll)
def kle : Nat → Nat → Bool := dataLe false keyD
def ord (ms : List Nat) : List Nat := ms.mergeSort kle
theorem mem_ord {ms : List Nat} {m : Nat} : m ∈ ord ms ↔ m ∈ ms := List.mem_mergeSort
theorem ord_len (ms : List Nat) : (ord ms).length = ms.length := List.length_mergeSort _
theorem nats_ints (l : List Nat) : l.map nI = (l.map fun m : Nat => (m : Int)).map PyData.int := by rw [List.map_map]; rfl
theorem alike_lots (m n : Nat) : alike (lotD m) (lotD n) = true := by
  unfold lotD
  rw [nats_ints, nats_ints, alike]
  exact PySem.W.alike_ints _ _
theorem alike_keys (m n : Nat) : alike (keyD m) (keyD n) = true := by
  unfold keyD
  rw [alike, alikeAll, alikeAll, alikeAll, alike_lots, alike]
  rfl
theorem keys_alike (ms : List Nat) : AllAlike (ms.map keyD) := PySem.W.AllAlike.of fun m n => alike_keys m n
theorem keys_sortable (ms : List Nat) : Sortable (ms.map keyD) := PySem.W.Sortable.tuples fun m => ⟨_, _, rfl⟩
theorem depth_lot (m : Nat) : (lotD m).depth = 1 := by
  unfold lotD
  rw [nats_ints, PyData.depth, PySem.W.depth_ints]
theorem depth_key (m : Nat) : (keyD m).depth ≤ 50 := by
  unfold keyD
  rw [PyData.depth, PyData.depthAll, PyData.depthAll, PyData.depthAll, depth_lot, PyData.depth]
  decide
theorem noL_nI (m : Nat) : noL (nI m) = true := rfl
theorem noL_lot (m : Nat) : noL (lotD m) = true := by
  unfold lotD
  rw [noL]
  exact noLs_map nI noL_nI _
theorem noL_key (m : Nat) : noL (keyD m) = true := by
  unfold keyD
  rw [noL, noLs, noLs, noLs, noL_lot, noL]
  rfl
theorem lt_int (x y : Int) : dataLt (.int x) (.int y) = decide (x < y) := by
  have h := congrFun (congrFun (PySem.W.dataLe_int (β := Int) fun b => b) y) x
  rw [PySem.W.dataLe_eq] at h
  have h2 : (!dataLt (.int x) (.int y)) = decide (y ≤ x) := h
  have h3 : dataLt (.int x) (.int y) = !decide (y ≤ x) := by rw [← h2, Bool.not_not]
  rw [h3]
  by_cases q : x < y
  · simp [q, Int.not_le.mpr q]
  · simp [q, Int.not_lt.mp q]
/-- fewer things first -/
theorem kle_len {m n : Nat} (h : kle m n = true) : (lotM m).length ≤ (lotM n).length := by
  unfold kle at h
  rw [PySem.W.dataLe_eq] at h
  have h2 : (!dataLt (keyD n) (keyD m)) = true := h
  unfold keyD at h2
  rw [PySem.W.dataLt_pair (by simp [alike]) (alike_lots n m), lt_int] at h2
  by_cases q : (lotM m).length ≤ (lotM n).length
  · exact q
  · have q2 : (((lotM n).length : Nat) : Int) < (((lotM m).length : Nat) : Int) := by omega
    have q3 : PyData.eqv (.int (((lotM n).length : Nat) : Int)) (.int (((lotM m).length : Nat) : Int)) = false := by
      rw [PyData.eqv]
      exact beq_eq_false_iff_ne.mpr (by omega)
    rw [q3] at h2
    simp [q2] at h2
theorem ord_pair (ms : List Nat) : (ord ms).Pairwise fun a b => kle a b = true := PySem.W.sort_pairwise (PySem.W.sortLe_total _ false _) ms
theorem ord_len_pair (ms : List Nat) : (ord ms).Pairwise fun a b => (lotM a).length ≤ (lotM b).length := (ord_pair ms).imp kle_len
theorem E_sortedKey {K : PySem.W.Frag} {ρ : List Sl} {te : TE} {R : List PyData → PyData → Prop} {ms : List Nat} {enc : Nat → PyData} (h : E te ρ (.list (ms.map enc))) (hl : ms.length ≤ 100000) (hn : ∀ m, noL (enc m) = true) (hR : ∀ m ∈ ms, R [enc m] (keyD m)) :
    E (tSortK K R te) ρ (.list ((ord ms).map enc)) := fun σ F H e o Q q =>
  h σ F H e o _ fun v F1 H1 s1 dv => by
    cases dv with
    | lst h1 h2 => exact ⟨F1, _, ms, enc, keyD, rfl, s1.fh, .lst h1 h2, hl, fun m => ⟨hn m, noL_key m, depth_key m⟩, hR, keys_alike ms, keys_sortable ms, fun v2 F2 H2 s2 d2 => q v2 F2 H2 (Stq.trans s1 s2) d2⟩
end ML
set_option Elab.async false
set_option linter.all false
set_option maxRecDepth 100000
set_option maxHeartbeats 2000000
/-! lists and dicts of a body's own -/
namespace ML
open PySem L2
open Evl (Ex fresh_back)

def Sl.isOw : Sl → Bool
  | .ow _ => true
  | _ => false
def Sl.isDk : Sl → Bool
  | .dk _ => true
  | _ => false
def oneOw (i : Nat) (ρ : List Sl) : Bool := (ρ.set i .un).all fun s => !s.isOw
def oneDk (i : Nat) (ρ : List Sl) : Bool := (ρ.set i .un).all fun s => !s.isDk
theorem oneOw_at {i j : Nat} {ρ : List Sl} {ds : List PyData} (h : oneOw i ρ = true) (e : ρ[j]? = some (.ow ds)) : j = i := by
  by_cases q : i = j
  · exact q.symm
  · exfalso
    have h2 : (ρ.set i .un)[j]? = some (.ow ds) := by rw [List.getElem?_set_ne q]; exact e
    have := List.all_eq_true.mp h _ (List.mem_of_getElem? h2)
    cases this
theorem oneDk_at {i j : Nat} {ρ : List Sl} {ks : List Nat} (h : oneDk i ρ = true) (e : ρ[j]? = some (.dk ks)) : j = i := by
  by_cases q : i = j
  · exact q.symm
  · exfalso
    have h2 : (ρ.set i .un)[j]? = some (.dk ks) := by rw [List.getElem?_set_ne q]; exact e
    have := List.all_eq_true.mp h _ (List.mem_of_getElem? h2)
    cases this
theorem ex_upd_new {F H : Hp} {p : Addr} {o : HO} (e : Ex F H) (h : F p = none) : Ex F (upd H p o) := fun a u q => by rw [upd_ne (ne_of_none q h)]; exact e a u q
theorem ex_frz {F H : Hp} {p : Addr} {o : HO} (e : Ex F H) (h : H p = some o) : Ex (upd F p o) H := fun a u q => by
  by_cases z : a = p
  · subst z; rw [upd_same] at q; rw [← Option.some.inj q]; exact h
  · rw [upd_ne z] at q; exact e a u q

section
variable {K : PySem.W.Frag} {ρ : List Sl} {i : Nat} {ds : List PyData} {te : TE} {tt : TT} {d : PyData} {n : Nat} {x : Bool}
/-- the slots with the list at slot i taken for data -/
theorem EnvOk.frz {Z : Addr → Prop} {F H : Hp} {σ : L2.St} (o : EnvOk Z F H σ ρ) (h : ρ[i]? = some (.ow ds)) (h1 : oneOw i ρ = true) : ∃ p vs, F p = none ∧ H p = some (.lst vs) ∧ Z p ∧ EnvOk Z (upd F p (.lst vs)) H σ (ρ.set i (.da (.list ds))) := by
  obtain ⟨p, vs, e1, z, e2, e3, e4⟩ := o.2 i _ h
  refine ⟨p, vs, e2, e3, z, by rw [List.length_set]; exact o.1, fun j s hj => ?_⟩
  have ex : Ex F (upd F p (.lst vs)) := Ex.new e2
  by_cases q : i = j
  · subst q
    have hl : i < ρ.length := (List.getElem?_eq_some_iff.mp h).1
    rw [List.getElem?_set_self hl] at hj
    rw [← Option.some.inj hj]
    exact ⟨.ref p, e1, .lst upd_same (e4.up ex)⟩
  · rw [List.getElem?_set_ne q] at hj
    have hs := o.2 j s hj
    cases s with
    | un => trivial
    | da d =>
      obtain ⟨v, a1, a2⟩ := hs
      exact ⟨v, a1, a2.up ex⟩
    | at_ p => exact hs
    | ow ds' => exact absurd (oneOw_at h1 hj) (fun z => q z.symm)
    | dk ks =>
      obtain ⟨p', kvs, a1, a2, a3, a4, a5⟩ := hs
      refine ⟨p', kvs, a1, a2, ?_, a4, a5⟩
      rw [upd_ne (fun z => by rw [z, e3] at a4; cases a4)]
      exact a3
/-- a test that reads a list of one's own -/
theorem ET_frz (i : Nat) {ds : List PyData} (h : ρ[i]? = some (.ow ds)) (ht : ET tt (ρ.set i (.da (.list ds))) x) (h1 : oneOw i ρ = true := by rfl) : ET tt ρ x := fun σ F H e o Q q => by
  obtain ⟨p, vs, e2, e3, _, o2⟩ := o.frz h h1
  refine ht σ _ H (ex_frz e e3) o2 Q fun F' H' s => q F H' ⟨s.hh, Ex.refl F, fun a u z => s.hh a u (e a u z) (fun z => z), fun a z _ => z⟩
/-- the same with an int told -/
theorem E_frzI (i : Nat) {ds : List PyData} {n : Int} (h : ρ[i]? = some (.ow ds)) (ht : E te (ρ.set i (.da (.list ds))) (.int n)) (h1 : oneOw i ρ = true := by rfl) : E te ρ (.int n) := fun σ F H e o Q q => by
  obtain ⟨p, vs, e2, e3, _, o2⟩ := o.frz h h1
  refine ht σ _ H (ex_frz e e3) o2 Q fun v F' H' s dv => q v F H' ⟨s.hh, Ex.refl F, fun a u z => s.hh a u (e a u z) (fun z => z), fun a z _ => z⟩ ?_
  cases dv
  exact .int _
/-- an item of a list of one's own -/
theorem E_ixOw (h : ρ[i]? = some (.ow ds)) (hd : E te ρ (.int (n : Int))) (hi : ds[n]? = some d) : E (tOp (rIxL K) (tVar i) te) ρ d := fun σ F H e o Q q => by
  obtain ⟨p, vs, e1, z, e2, e3, e4⟩ := o.2 i _ h
  refine ⟨.ref p, e1, hd σ F H e o _ fun v F1 H1 s1 dv => ?_⟩
  cases dv
  obtain ⟨w, h3, h4⟩ := e4.at hi
  exact ⟨p, vs, (n : Int), w, rfl, rfl, SqL.of (s1.ex p _ e3), atI_nat h3, q w F1 H1 s1 (h4.up s1.ff)⟩
/-- k in a dict of one's own -/
theorem E_din {ks : List Nat} {k : Nat} (h : ρ[i]? = some (.dk ks)) (hd : E te ρ (nI k)) : E (tDIn te (tVar i)) ρ (.bool (ks.contains k)) := fun σ F H e o Q q =>
  hd σ F H e o _ fun v F1 H1 s1 dv => by
    cases dv
    obtain ⟨p, kvs, e1, z, e2, e3, e4, e5⟩ := (o.up s1).2 i _ h
    refine ⟨.ref p, e1, p, _, rfl, DGet.k (k := .inl ((k : Nat) : Int)) e3, q _ F1 H1 s1 ?_⟩
    rw [e5 k]
    exact .bl _
theorem E_dnin {ks : List Nat} {k : Nat} (h : ρ[i]? = some (.dk ks)) (hd : E te ρ (nI k)) : E (tDNotIn te (tVar i)) ρ (.bool (!ks.contains k)) := fun σ F H e o Q q =>
  hd σ F H e o _ fun v F1 H1 s1 dv => by
    cases dv
    obtain ⟨p, kvs, e1, z, e2, e3, e4, e5⟩ := (o.up s1).2 i _ h
    refine ⟨.ref p, e1, p, _, rfl, DGet.k (k := .inl ((k : Nat) : Int)) e3, q _ F1 H1 s1 ?_⟩
    rw [e5 k]
    exact .bl _
end

/-! ### statements -/
section
variable {K : PySem.W.Frag} {b : Bs} [Stb b.I b.N] {G G' F F' : Hp} {ρ ρ' : List Sl} {σ : L2.St} {H H' : Hp} {D : Ends} {tz tu tw : TS} {te tk : TE} {ta : TA} {tt : TT} {d : PyData} {ds : List PyData} {i : Nat} {x : Bool} {v : V}
/-- from now on it does not change -/
theorem Con.frz (c : Con b G ρ σ H) (i : Nat) {ds : List PyData} (h : ρ[i]? = some (.ow ds)) (h1 : oneOw i ρ = true := by rfl) : Con b G (ρ.set i (.da (.list ds))) σ H := by
  obtain ⟨F, s, g, j, m, o⟩ := c
  obtain ⟨p, vs, e2, e3, z, o2⟩ := o.frz h h1
  refine ⟨_, ⟨s.hh, s.ff.trans (Ex.new e2), ex_frz s.fh e3, fun a q n => ?_⟩, g.trans (Ex.new e2), Stb.fz j z.1 e2 (by rw [e3]; simp), m, o2⟩
  rw [upd_ne (fun q => n (by rw [q]; exact z.2))]
  exact s.nw a q n
omit [Stb b.I b.N] in
theorem EnvOk.newS {s : Sl} {Z Z' : Addr → Prop} {F : Hp} (o : EnvOk Z F H σ ρ) {p : Addr} {u : HO} (hp : H p = none) (hz : ∀ a, H a ≠ none → F a = none → Z a → Z' a) (hs : SlOk Z' F (upd H p u) (some (some (.ref p))) s) (e : Ex F H) : EnvOk Z' F (upd H p u) (σ.set i (some (.ref p))) (ρ.set i s) := by
  have s1 : Stq F H F (upd H p u) := ⟨fun a w q _ => by rw [upd_ne (ne_of_none q hp)]; exact q, Ex.refl F, ex_upd_new e (fresh_back e hp), fun a q _ => q⟩
  have o2 : EnvOk Z' F H σ ρ := o.z hz
  exact (o2.up s1).put hs
theorem Con.own (c : ConF b G F ρ σ H) {p : Addr} {u : HO} {s : Sl} (hp : H p = none) (hs : b.Z (upd H p u) p → SlOk (b.Z (upd H p u)) F (upd H p u) (some (some (.ref p))) s) : Con b G (ρ.set i s) (σ.set i (some (.ref p))) (upd H p u) := by
  obtain ⟨st, g, j, m, o⟩ := c
  have fp := fresh_back st.fh hp
  have s1 : Stq F H F (upd H p u) := ⟨fun a w q _ => by rw [upd_ne (ne_of_none q hp)]; exact q, Ex.refl F, ex_upd_new st.fh fp, fun a q _ => q⟩
  have h0 : b.H0 p = none := by
    cases q : b.H0 p with
    | none => rfl
    | some w =>
      by_cases hm : b.M p
      · exact absurd hp (m p hm)
      · rw [st.hh p w q hm] at hp; cases hp
  have nn : ∀ a, b.N (upd H p u) a → b.N H a := fun a q => Stb.sn s1 j q
  have zp : b.Z (upd H p u) p := ⟨fun q => Stb.nn j (nn p q) hp, h0⟩
  refine ⟨F, Stp.then st s1 m, g, Stb.st b.N s1 j, fun a ha => Stp.sets s1 (m a ha) (fun z => z), o.newS hp (fun a _ _ z => ⟨fun q => z.1 (nn a q), z.2⟩) (hs zp) st.fh⟩
theorem s_own (c : Con b G ρ σ H) (h : EA ta ρ ds) (k : ∀ σ' H', Con b G (ρ.set i (.ow ds)) σ' H' → D.nx σ' H') (hl : ds.length ≤ 100000 := by exact Nat.le_of_ble_eq_true rfl) : tAsg (tLst ta) (gName i) D σ H := by
  obtain ⟨F, c⟩ := c
  refine h σ F H c.fh c.env _ fun vs F1 H1 s1 dvs => ⟨by rw [dvs.len]; exact Evl.sz_of hl, fun p hp => k _ _ ?_⟩
  exact Con.own (c.pure s1) hp fun z => ⟨p, vs, rfl, z, fresh_back s1.fh hp, upd_same, dvs⟩
theorem q_own (c : Con b G ρ σ H) (h : EA ta ρ ds) (k : ∀ σ' H', Con b G (ρ.set i (.ow ds)) σ' H' → tz D σ' H') (hl : ds.length ≤ 100000 := by exact Nat.le_of_ble_eq_true rfl) : tSeq (tAsg (tLst ta) (gName i)) tz D σ H := s_own (D := { D with nx := tz D }) c h k hl
theorem q_newD (c : Con b G ρ σ H) (k : ∀ σ' H', Con b G (ρ.set i (.dk [])) σ' H' → tz D σ' H') : tSeq (tAsg tDNewK (gName i)) tz D σ H := by
  obtain ⟨F, c⟩ := c
  intro p hp
  exact k _ _ (Con.own c hp fun z => ⟨p, [], rfl, z, fresh_back c.fh hp, upd_same, Nat.le_refl _, fun k => rfl⟩)
/-- the list at slot i changes -/
theorem ConF.chg (c : ConF b G F ρ σ H) {p : Addr} {o : HO} {s : Sl} (hp : H p ≠ none) (fp : F p = none) (zp : b.Z H p) (he : ∀ j t, ρ[j]? = some t → j ≠ i → (∀ q, H q = H p → q = p) ∨ True → SlOk (b.Z H) F H σ[j]? t → SlOk (b.Z H) F (upd H p o) σ[j]? t)
    (hi : SlOk (b.Z (upd H p o)) F (upd H p o) σ[i]? s) : ConF b G F (ρ.set i s) σ (upd H p o) := by
  obtain ⟨st, g, j, m, oe⟩ := c
  refine ⟨⟨fun a u q hm => ?_, st.ff, ex_upd_new st.fh fp, st.nw⟩, g, Stb.ow j zp.1 fp hp, fun a ha => ?_, by rw [List.length_set]; exact oe.1, fun k t hk => ?_⟩
  · rw [upd_ne (fun z => by rw [z, zp.2] at q; cases q)]
    exact st.hh a u q hm
  · by_cases z : a = p
    · rw [z, upd_same]; simp
    · rw [upd_ne z]; exact m a ha
  · by_cases q : i = k
    · subst q
      by_cases hl : i < ρ.length
      · rw [List.getElem?_set_self hl] at hk
        rw [← Option.some.inj hk]
        exact hi
      · rw [List.getElem?_eq_none (by simpa using hl)] at hk
        cases hk
    · rw [List.getElem?_set_ne q] at hk
      refine SlOk.z (fun a _ _ z => ⟨fun w => z.1 (Stb.on j zp.1 hp w), z.2⟩) (he k t hk (fun z => q z.symm) (.inr trivial) (oe.2 k t hk))
theorem ConF.lset (c : ConF b G F ρ σ H) (h : ρ[i]? = some (.ow ds)) (h1 : oneOw i ρ = true) {p : Addr} {vs ws : List V} {es : List PyData} (hσ : σ[i]? = some (some (.ref p))) (hp : H p = some (.lst vs)) (fp : F p = none) (zp : b.Z H p) (hw : DVs F ws es) : ConF b G F (ρ.set i (.ow es)) σ (upd H p (.lst ws)) := by
  refine c.chg (by rw [hp]; simp) fp zp (fun j t hj hne _ ht => ?_) ⟨p, ws, hσ, ⟨fun w => zp.1 (Stb.on c.2.2.1 zp.1 (by rw [hp]; simp) w), zp.2⟩, fp, upd_same, hw⟩
  cases t with
  | un => trivial
  | da d => exact ht
  | at_ p => exact ht
  | ow ds' => exact absurd (oneOw_at h1 hj) hne
  | dk ks =>
    obtain ⟨p', kvs, a1, a2, a3, a4, a5⟩ := ht
    exact ⟨p', kvs, a1, a2, a3, by rw [upd_ne (fun z => by rw [z, hp] at a4; cases a4)]; exact a4, a5⟩
/-- xs.append(..) -/
theorem s_app (c : Con b G ρ σ H) (h : ρ[i]? = some (.ow ds)) (he : E te ρ d) (hl : ds.length < 100000) (k : ∀ H', Con b G (ρ.set i (.ow (ds ++ [d]))) σ H' → D.nx σ H') (h1 : oneOw i ρ = true := by rfl) : tDrop (tBM K "list" rAppend (tVar i) (tCons te tNil)) D σ H := by
  obtain ⟨F, c⟩ := c
  obtain ⟨p, vs, e1, z, e2, e3, e4⟩ := c.2.2.2.2.2 i _ h
  refine ⟨.ref p, e1, .inl ⟨rfl, vs, SqL.of e3⟩, he σ F H c.fh c.env _ fun v F1 H1 s1 dv => ?_⟩
  have c1 := c.pure s1
  obtain ⟨p', vs', f1, z', f2, f3, f4⟩ := c1.2.2.2.2.2 i _ h
  have ep : p' = p := by rw [e1] at f1; injection f1 with f1; injection f1 with f1; injection f1 with f1; exact f1.symm
  subst ep
  exact ⟨p', vs', v, rfl, rfl, f3, by rw [f4.len]; exact Evl.sz_lt hl, k _ ⟨F1, c1.lset h h1 f1 f3 f2 z' (f4.app (.cons dv .nil))⟩⟩
theorem q_app (c : Con b G ρ σ H) (h : ρ[i]? = some (.ow ds)) (he : E te ρ d) (hl : ds.length < 100000) (k : ∀ H', Con b G (ρ.set i (.ow (ds ++ [d]))) σ H' → tz D σ H') (h1 : oneOw i ρ = true := by rfl) : tSeq (tDrop (tBM K "list" rAppend (tVar i) (tCons te tNil))) tz D σ H := s_app (D := { D with nx := tz D }) c h he hl k h1
/-- xs.extend(ints made of xs) -/
theorem s_ext {ns : List Nat} (c : Con b G ρ σ H) (h : ρ[i]? = some (.ow ds)) (he : E te (ρ.set i (.da (.list ds))) (.list (ns.map nI))) (hl : ds.length + ns.length ≤ 100000) (k : ∀ H', Con b G (ρ.set i (.ow (ds ++ ns.map nI))) σ H' → D.nx σ H') (h1 : oneOw i ρ = true := by rfl) : tDrop (tBM K "list" rExtend (tVar i) (tCons te tNil)) D σ H := by
  obtain ⟨F, c⟩ := c
  obtain ⟨p, vs, e1, z, e2, e3, e4⟩ := c.2.2.2.2.2 i _ h
  obtain ⟨p2, vs2, g2, g3, _, o2⟩ := c.env.frz h h1
  refine ⟨.ref p, e1, .inl ⟨rfl, vs, SqL.of e3⟩, he σ _ H (ex_frz c.fh g3) o2 _ fun v F1 H1 s1 dv => ?_⟩
  have s2 : Stq F H F H1 := ⟨s1.hh, Ex.refl F, fun a u z => s1.hh a u (c.fh a u z) (fun z => z), fun a z _ => z⟩
  have c1 := c.pure s2
  obtain ⟨p', vs', f1, z', f2, f3, f4⟩ := c1.2.2.2.2.2 i _ h
  have ep : p' = p := by rw [e1] at f1; injection f1 with f1; injection f1 with f1; injection f1 with f1; exact f1.symm
  subst ep
  cases dv with
  | lst h3 h4 =>
    rename_i a xs
    have en : ns.map nI = (ns.map fun m : Nat => (m : Int)).map PyData.int := nats_ints ns
    rw [en] at h4
    have h5 := h4.ints
    refine ⟨p', a, vs', xs, rfl, rfl, f3, s1.fh _ _ h3, by rw [f4.len, h4.len]; exact Evl.sz_of (by simpa using hl), k _ ⟨F, c1.lset h h1 f1 f3 f2 z' (f4.app ?_)⟩⟩
    rw [h5, en]
    exact DVs.ofInts _
/-- d[k] = True -/
theorem DkOk.put {kvs : List (Key × V)} {ks : List Nat} (h : DkOk kvs ks) (k : Nat) (v : V) : DkOk (putK kvs (.inl ((k : Nat) : Int)) v) (k :: ks) := by
  refine ⟨Nat.le_trans (length_putK _ _ _) (by have := h.1; simp; omega), fun j => ?_⟩
  rw [valV_put, List.contains_cons, ← h.2 j]
  by_cases e : j = k
  · subst e; simp
  · have e2 : ¬ ((Sum.inl ((j : Nat) : Int) : Key) = .inl ((k : Nat) : Int)) := fun z => e (by injection z with z; omega)
    rw [if_neg e2]
    have e3 : (j == k) = false := beq_eq_false_iff_ne.mpr e
    rw [e3, Bool.false_or]
theorem s_dput {ks : List Nat} {k : Nat} (c : Con b G ρ σ H) (h : ρ[i]? = some (.dk ks)) (hk : E tk ρ (nI k)) (hv : E te ρ d) (hl : ks.length < 100000) (kk : ∀ H', Con b G (ρ.set i (.dk (k :: ks))) σ H' → D.nx σ H') (h1 : oneDk i ρ = true := by rfl) : sDPut (tVar i) tk te D σ H := by
  obtain ⟨F, c⟩ := c
  refine hv σ F H c.fh c.env _ fun v F1 H1 s1 dv => ?_
  have c1 := c.pure s1
  obtain ⟨p, kvs, e1, z, e2, e3, e4⟩ := c1.2.2.2.2.2 i _ h
  refine ⟨.ref p, e1, hk σ F1 H1 c1.fh c1.env _ fun w F2 H2 s2 dw => ?_⟩
  have c2 := c1.pure s2
  obtain ⟨p', kvs', f1, z', f2, f3, f4⟩ := c2.2.2.2.2.2 i _ h
  have ep : p' = p := by rw [e1] at f1; injection f1 with f1; injection f1 with f1; injection f1 with f1; exact f1.symm
  subst ep
  cases dw
  refine ⟨p', _, rfl, DPut.k (k := .inl ((k : Nat) : Int)) f3 (Evl.sz_lt (by have := f4.1; omega)), kk _ ⟨F2, ?_⟩⟩
  refine c2.chg (by rw [f3]; simp) f2 z' (fun j t hj hne _ ht => ?_) ⟨p', _, f1, ⟨fun w => z'.1 (Stb.on c2.2.2.1 z'.1 (by rw [f3]; simp) w), z'.2⟩, f2, upd_same, f4.put k v⟩
  cases t with
  | un => trivial
  | da d => exact ht
  | at_ p => exact ht
  | ow ds' =>
    obtain ⟨q, vs, a1, a2, a3, a4, a5⟩ := ht
    exact ⟨q, vs, a1, a2, a3, by rw [upd_ne (fun z => by rw [z, f3] at a4; cases a4)]; exact a4, a5⟩
  | dk ks => exact absurd (oneDk_at h1 hj) hne
end

/-! ### dict(pairs), list(dict) -/
def ddp (ms : List Nat) : List Nat := ms.foldl (fun acc m => if acc.contains m then acc else acc ++ [m]) []
def kT (m : Nat) : Key × V := (.inl ((m : Nat) : Int), .bl true)
theorem putK_kT (acc : List Nat) (m : Nat) : putK (acc.map kT) (.inl ((m : Nat) : Int)) (.bl true) = (if acc.contains m then acc else acc ++ [m]).map kT := by
  have ha : ((acc.map kT).any fun kv => decide (kv.1 = .inl ((m : Nat) : Int))) = acc.contains m := by
    rw [List.any_map, Bool.eq_iff_iff, List.any_eq_true, List.contains_iff_mem]
    constructor
    · rintro ⟨x, hx, h⟩
      have h2 : (Sum.inl ((x : Nat) : Int) : Key) = .inl ((m : Nat) : Int) := by simpa [kT] using h
      injection h2 with h2
      have : x = m := by omega
      subst this; exact hx
    · intro h
      exact ⟨m, h, by simp [kT]⟩
  unfold putK
  rw [ha]
  split
  · rw [List.map_map]
    refine List.map_congr_left fun x _ => ?_
    show (if (kT x).1 = _ then ((kT x).1, V.bl true) else kT x) = kT x
    split <;> rfl
  · rw [List.map_append]; rfl
theorem merge_kT : ∀ (ms acc : List Nat), mergeK (acc.map kT) (ms.map kT) = (ms.foldl (fun acc m => if acc.contains m then acc else acc ++ [m]) acc).map kT
  | [], acc => rfl
  | m :: ms, acc => by
    show mergeK (putK (acc.map kT) (kT m).1 (kT m).2) (ms.map kT) = _
    rw [List.foldl_cons, ← merge_kT ms]
    congr 1
    exact putK_kT acc m
theorem mem_foldl_ddp {x : Nat} : ∀ (ms acc : List Nat), x ∈ ms.foldl (fun acc m => if acc.contains m then acc else acc ++ [m]) acc ↔ x ∈ acc ∨ x ∈ ms
  | [], acc => by simp
  | m :: ms, acc => by
    rw [List.foldl_cons, mem_foldl_ddp ms]
    by_cases h : acc.contains m = true
    · rw [if_pos h]
      have := List.contains_iff_mem.mp h
      constructor
      · exact fun a => a.elim .inl fun a => .inr (List.mem_cons_of_mem _ a)
      · rintro (a | a)
        · exact .inl a
        · rcases List.mem_cons.mp a with rfl | a
          · exact .inl this
          · exact .inr a
    · rw [if_neg h]
      simp only [List.mem_append, List.mem_cons, List.not_mem_nil, or_false]
      rw [or_assoc]
theorem mem_ddp {ms : List Nat} {x : Nat} : x ∈ ddp ms ↔ x ∈ ms := by
  unfold ddp
  rw [mem_foldl_ddp]; simp
theorem ddp_len (ms : List Nat) : (ddp ms).length ≤ ms.length := by
  have key : ∀ (l acc : List Nat), (l.foldl (fun acc m => if acc.contains m then acc else acc ++ [m]) acc).length ≤ acc.length + l.length := by
    intro l
    induction l with
    | nil => intro acc; simp
    | cons m l ih =>
      intro acc
      rw [List.foldl_cons]
      refine Nat.le_trans (ih _) ?_
      split <;> simp <;> omega
  simpa [ddp] using key ms []
abbrev rDictP (K : PySem.W.Frag) : List V → Hp → VK → Prop := fun xs H Q => ∃ (a : Addr) (ps : List Addr) (kvs : List (Key × V)), xs = [.ref a] ∧ SqL K H a (ps.map V.ref) ∧ Paired (fun p kv => SqT K H p [kV kv.1, kv.2]) ps kvs ∧
    ∀ p, H p = none → Q (.ref p) (upd H p (.dK (mergeK [] kvs)))
theorem dvs_pairs {K : PySem.W.Frag} {F H : Hp} (e : Ex F H) : ∀ {ms : List Nat} {vs : List V}, DVs F vs (ms.map fun m => .tuple [nI m, .bool true]) → ∃ ps : List Addr, vs = ps.map V.ref ∧ Paired (fun p kv => SqT K H p [kV kv.1, kv.2]) ps (ms.map kT)
  | [], _, h => by cases h; exact ⟨[], rfl, .nil⟩
  | m :: ms, _, h => by
    cases h with
    | cons h1 h2 =>
      obtain ⟨ps, e1, e2⟩ := dvs_pairs (K := K) e h2
      cases h1 with
      | tup h3 h4 =>
        cases h4 with
        | cons h5 h6 =>
          cases h5
          cases h6 with
          | cons h7 h8 =>
            cases h7
            cases h8
            subst e1
            exact ⟨_ :: ps, rfl, .cons (.inl (Evl.ex_rd e h3)) e2⟩
section
variable {K : PySem.W.Frag} {ρ : List Sl} {te : TE} {ms : List Nat}
theorem run_dictP (h : E te ρ (.list (ms.map fun m => .tuple [nI m, .bool true]))) {σ : L2.St} {F H : Hp} (e : Ex F H) (o : EnvR F H σ ρ) {Q : VK} (q : ∀ F1 H1, Stq F H F1 H1 → ∀ p, H1 p = none → Q (.ref p) (upd H1 p (.dK ((ddp ms).map kT)))) : tCB (rDictP K) (tCons te tNil) σ H Q :=
  h σ F H e o _ fun v F1 H1 s1 dv => by
    cases dv with
    | lst h1 h2 =>
      obtain ⟨ps, e1, e2⟩ := dvs_pairs (K := K) s1.fh h2
      subst e1
      refine ⟨_, ps, _, rfl, SqL.of (s1.fh _ _ h1), e2, fun p hp => ?_⟩
      have := q F1 H1 s1 p hp
      unfold ddp at this
      rw [← merge_kT] at this
      exact this
theorem dkOk_ddp (ms : List Nat) : DkOk ((ddp ms).map kT) ms := by
  refine ⟨by rw [List.length_map]; exact ddp_len ms, fun k => ?_⟩
  rw [← valV_any, List.any_map, Bool.eq_iff_iff, List.any_eq_true, List.contains_iff_mem]
  constructor
  · rintro ⟨x, hx, h⟩
    have h2 : (Sum.inl ((x : Nat) : Int) : Key) = .inl ((k : Nat) : Int) := by simpa [kT] using h
    injection h2 with h2
    have : x = k := by omega
    subst this; exact mem_ddp.mp hx
  · intro h
    exact ⟨k, mem_ddp.mpr h, by simp [kT]⟩
/-- list(dict(pairs)) -/
theorem E_ddp (h : E te ρ (.list (ms.map fun m => .tuple [nI m, .bool true]))) : E (tCB rListD (tCons (tCB (rDictP K) (tCons te tNil)) tNil)) ρ (.list ((ddp ms).map nI)) := fun σ F H e o Q q => by
  refine run_dictP h e o fun F1 H1 s1 p hp => ?_
  refine ⟨p, _, rfl, upd_same, fun q' hq => ?_⟩
  have hne : q' ≠ p := fun z => by rw [z, upd_same] at hq; cases hq
  rw [upd_ne hne] at hq
  have fp := fresh_back s1.fh hp
  have fq := fresh_back s1.fh hq
  have ev : ((ddp ms).map kT).map (fun kv => kV kv.1) = ((ddp ms).map fun m : Nat => (m : Int)).map V.int := by rw [List.map_map, List.map_map]; rfl
  rw [ev]
  refine q _ (upd F1 q' (.lst (((ddp ms).map fun m : Nat => (m : Int)).map V.int))) _ (Stq.trans s1 ⟨fun b u hb _ => ?_, Ex.new fq, fun b u hb => ?_, fun b hb hn => ?_⟩) ?_
  · rw [upd_ne (ne_of_none hb hq), upd_ne (ne_of_none hb hp)]; exact hb
  · by_cases z : b = q'
    · subst z; rw [upd_same] at hb ⊢; exact hb
    · rw [upd_ne z] at hb ⊢
      rw [upd_ne (ne_of_none hb fp)]
      exact s1.fh _ _ hb
  · rw [upd_ne (fun z => hn (by rw [z]; exact hq))]; exact hb
  · refine .lst upd_same ?_
    rw [nats_ints]
    exact DVs.ofInts _
end
/-- x = dict(pairs) -/
theorem q_dict {K : PySem.W.Frag} {b : Bs} [Stb b.I b.N] {G : Hp} {ρ : List Sl} {σ : L2.St} {H : Hp} {D : Ends} {tz : TS} {te : TE} {i : Nat} {ms : List Nat} (c : Con b G ρ σ H) (h : E te ρ (.list (ms.map fun m => .tuple [nI m, .bool true]))) (k : ∀ σ' H', Con b G (ρ.set i (.dk ms)) σ' H' → tz D σ' H') : tSeq (tAsg (tCB (rDictP K) (tCons te tNil)) (gName i)) tz D σ H := by
  obtain ⟨F, c⟩ := c
  refine run_dictP h c.fh c.env fun F1 H1 s1 p hp => k _ _ ?_
  exact Con.own (c.pure s1) hp fun z => ⟨p, _, rfl, z, fresh_back s1.fh hp, upd_same, dkOk_ddp ms⟩
/-! list(range(n)), tuple(range(n)) -/
theorem dvs_rg {F : Hp} : ∀ n : Nat, DVs F (rgV 0 (n : Int)) ((List.range n).map nI) := by
  intro n
  have e : rgV 0 (n : Int) = ((List.range n).map fun m : Nat => (m : Int)).map V.int := by
    unfold rgV
    rw [List.map_map]
    have : ((n : Int) - 0).toNat = n := by omega
    rw [this]
    refine List.map_congr_left fun x _ => ?_
    show V.int (0 + _) = V.int _
    rw [Int.zero_add]
  rw [e, nats_ints]
  exact DVs.ofInts _
section
variable {ρ : List Sl} {te : TE} {n : Nat}
theorem E_lstRg (h : E te ρ (nI n)) (hn : n ≤ 100000) : E (tLstRg (tRg1 te)) ρ (.list ((List.range n).map nI)) := fun σ F H e o Q q =>
  h σ F H e o _ fun v F1 H1 s1 dv => by
    cases dv
    refine ⟨(n : Int), rfl, ?_, fun p hp => q _ (upd F1 p (.lst _)) _ (Stq.trans s1 (Stq.new s1.fh hp)) (.lst upd_same (dvs_rg n))⟩
    have := Evl.sz_of hn
    unfold RgOk
    omega
theorem E_tupRg (h : E te ρ (nI n)) (hn : n ≤ 100000) : E (tTupRg (tRg1 te)) ρ (.tuple ((List.range n).map nI)) := fun σ F H e o Q q =>
  h σ F H e o _ fun v F1 H1 s1 dv => by
    cases dv
    refine ⟨(n : Int), rfl, ?_, fun p hp => q _ (upd F1 p (.tup _)) _ (Stq.trans s1 (Stq.new s1.fh hp)) (.tup (.inl upd_same) (dvs_rg n))⟩
    have := Evl.sz_of hn
    unfold RgOk
    omega
end
end ML
set_option Elab.async false
set_option linter.all false
set_option maxRecDepth 100000
set_option maxHeartbeats 4000000
/-! enumerate of a tuple: the library's walk of pairs (WalksT.enumerateD over Draws.tuple), told over the abstract heap -/
namespace ML.En
open PySem
/-- enumerate's own object, new: the iterator at it, no item drawn -/
abbrev fresh (it : Addr) : Obj := { cls := .type "enumerate", data := .fields #[.none, .bool false, .ref it, rawInt 0, .none, .none] }
theorem made {v : Value} {o : Obj} {H : Heap → Prop} (B : Begins v o H) :
    Meets (Builtin.«enumerate.__new__» ⟨[.type "enumerate", v], []⟩) fun _ R s => H s.heap ∧ R (.ok (.ret (.ref (s.heap.push o).objs.size))) { s with heap := (s.heap.push o).push (fresh s.heap.objs.size) } :=
  .of_wp fun prog w A R s ⟨b, r⟩ => by
    have kind := sub_enumerate
    have it : ∀ {A' : Around} {E Q : Value → Shared → Prop}, Q (.ref s.heap.objs.size) { s with heap := s.heap.push o } → wpAny (model prog w) A' (pyIter v) Q E s := B.iter prog w _ _ s _ b
    cases s with
    | mk hp gens drawn toks os =>
    wp_walk using it
    refine wpAny_stack_any fun _ => wpAny_pure ?_
    split
    · rename_i c _ _ _ _ _
      cases c == Value.type "enumerate" <;> (wp_walk using it; exact ⟨_, rfl, r⟩)
    · wp_walk using it
      exact ⟨_, rfl, r⟩
theorem called {prog : Program} {w : World} {A : Around} {E Q : Value → Shared → Prop} {s : Shared} {v : Value} {o : Obj} {H : Heap → Prop} (B : Begins v o H) (b : H s.heap)
    (q : Q (.ref (s.heap.objs.size + 1)) { s with heap := (s.heap.push o).push (fresh s.heap.objs.size) }) : wpAny (model prog w) A (call (.type "enumerate") [v]) Q E s := by
  have z : (s.heap.push o).objs.size = s.heap.objs.size + 1 := Heap.size_push ..
  refine callType_new F.called_enumerate (by decide) (F.typeCall_enumerate_1 v) (F.newCall_enumerate_1 v) (fun ob => F.args_object_init_2 ob v) F.entry_enumerate_new (made B) ⟨b, ⟨_, Heap.get?_push_size _ rfl, rfl⟩, ?_⟩
  exact z ▸ q
theorem apart {h : Heap} {x y : Addr} {o p : Obj} {m n : String} (ho : h.get? x = some o) (hp : h.get? y = some p) (hm : o.cls = .type m) (hn : p.cls = .type n) (d : m ≠ n) : x ≠ y := fun e => by
  rw [e, hp] at ho
  rw [← Option.some.inj ho, hn] at hm
  injection hm with z
  exact d z.symm
end ML.En
namespace ML
open PySem L2
open Evl (Ex fresh_back)
/-- the tuple at a, each item in a new pair -/
def IteT (K : PySem.W.Frag) (a : Addr) : It where
  go i H := ∃ (xs : List V) (x : V), SqT K H a xs ∧ xs[i]? = some x
  yld i H v H' := ∃ T x, v = .ref T ∧ H T = none ∧ H' = upd H T (.tup [.int (i : Nat), x]) ∧ ∀ xs, SqT K H a xs → xs[i]? = some x
  stop i H := ∃ xs : List V, SqT K H a xs ∧ xs.length = i
section
variable {P : Program} {w : World} {K : PySem.W.Frag} {elts : List Expr} {kk : Nat} {tpos : Pos}
theorem walk_enumT {X : Cx} {pins : List (Addr × Obj)} {σ : L2.St} {H : Hp} {s : Shared} (I : Inv X pins σ H s) (hc : X.calm = true) {a e it : Addr} {i : Nat} {its : Array Value} {old : Value} (he : IsEnum s.heap e it i old) (hi : s.heap.IsTupleIter it a i) (ht : s.heap.IsTuple a its) :
    WalksT X.prog X.w X.A e [e, it, a] [e, it] its.size (fun j vals => ∃ t x, its[j]? = some x ∧ vals = #[.int j t, x]) (fun j h => (∃ old, IsEnum h e it j old) ∧ h.IsTupleIter it a j ∧ h.IsTuple a its) (fun j T h => (∃ x, IsEnumOut h e it ((j : Int) + 1) x T) ∧ (h.IsTupleIter it a (j + 1) ∧ h.IsTuple a its) ∧ T ≠ e ∧ T ≠ it) := by
  obtain ⟨oi, qi, ci, _⟩ := hi
  obtain ⟨oa, qa, ca, _⟩ := ht
  have n1 : e ≠ it := En.apart he qi rfl ci (by decide)
  have n2 : e ≠ a := En.apart he qa rfl ca (by decide)
  exact .enumerateD (Draws.tuple (A := X.A.in1) (I.ok.hd hc) it a (En.apart qa qi ca ci (by decide)) its) e n1 (by simp [n1, n2]) (List.mem_cons_self ..)
theorem turn_enumT (a e it : Addr) : Turn P w K (.Tuple elts kk tpos) (IteT K a) [e, it] e fun i h => (∃ old, IsEnum h e it i old) ∧ h.IsTupleIter it a i where
  mem := List.mem_cons_self ..
  obj _ h st b hb := by
    obtain ⟨⟨_, he⟩, o, ho, _, hd⟩ := st
    rcases List.mem_cons.mp hb with q | q
    · rw [q]; exact ⟨_, he, fun v z => nomatch z⟩
    · exact ⟨o, List.mem_singleton.mp q ▸ ho, fun v z => by rw [hd] at z; cases z⟩
  keep _ _ _ st k := ⟨st.1.imp fun _ q => k e (List.mem_cons_self ..) _ q, st.2.at fun o q => k it (List.mem_cons_of_mem _ (List.mem_cons_self ..)) o q⟩
  item X hP hw hK hc i pins s σ H E I hf st hg := by
    subst hP hw hK
    obtain ⟨⟨_, he⟩, hi⟩ := st
    obtain ⟨xs, x, hq, hx⟩ := hg
    obtain ⟨its, rv, tup, hz⟩ := I.tuple hq
    obtain ⟨u, hu, ru⟩ := rv.get hx
    have W := walk_enumT I hc he hi tup
    refine W.item i s _ E (by rw [List.size_toArray, ← rv.length]; exact (List.getElem?_eq_some_iff.mp hx).1) ⟨⟨_, he⟩, hi, tup⟩ fun T vals h1 tk ⟨t, u', hu', hv⟩ hT isT mid k1 => ⟨_, rfl, W.go elts kk tpos i T _ _ E mid fun h2 st2 k2 => ?_⟩
    obtain rfl : u = u' := Option.some.inj (hu.symm.trans (by simpa using hu'))
    obtain ⟨o, ho, hcl, m, hd⟩ := isT
    have new : ObjOk X.prog X.w (upd H T (.tup [.int (i : Nat), x])) h2 T (.tup [.int (i : Nat), x]) := ⟨by show 2 ≤ sizeLine; decide, [.int i t, u], .cons ⟨t, rfl⟩ (.cons ru .nil), ⟨o, k2 T o (W.apart i T h1 mid) ho, hcl, m, by rw [hd, hv]⟩⟩
    have I2 := I.turnedNew (t' := tk) (ch := [e, it]) (fun b ob hb q => k2 b ob hb (k1 b ob hb q)) hf hT new
    exact ⟨.ref T, _, I2, rfl, ⟨T, x, rfl, I.hok.fresh hT, rfl, fun ys hy => I.tuple_inj hy hq ▸ hx⟩, ⟨st2.1, st2.2.1⟩, fun b hb => by
      have q : b < s.heap.objs.size := by
        rcases List.mem_cons.mp hb with q | q
        · exact q ▸ Heap.lt_size he
        · obtain ⟨_, qi, _⟩ := hi
          exact List.mem_singleton.mp q ▸ Heap.lt_size qi
      rw [upd_ne (Nat.ne_of_lt (Nat.lt_of_lt_of_le q hT))]
      exact (hf b hb).1⟩
  done X hP hw hK hc i pins s σ H E I hf st hg := by
    subst hP hw hK
    obtain ⟨⟨_, he⟩, hi⟩ := st
    obtain ⟨xs, hq, rfl⟩ := hg
    obtain ⟨its, rv, tup, hz⟩ := I.tuple hq
    have n : its.toArray.size = xs.length := by rw [List.size_toArray, rv.length]
    exact (walk_enumT I hc he hi tup).done s _ E (by rw [n]; exact ⟨⟨_, he⟩, hi, tup⟩) fun h' tk k => ⟨rfl, I.turnedL k hf⟩
  self A i s Q E st q := st.1.elim fun _ he => wpAny_pyIter_enum he q
end
def iEnumT (K : PySem.W.Frag) (ta : TA) : TI := fun σ H R => ta σ H fun vs H1 => ∃ a xs, vs = [.ref a] ∧ SqT K H1 a xs ∧ R (IteT K a) H1
theorem pi_enumT {X : Cx} {e : Expr} {ta : TA} {p pos tpos : Pos} {elts : List Expr} {kk : Nat} (hg : Gl X "enumerate") (hm : X.mg "enumerate" = none) (ha : PA X [e] ta) (hs : starEach [e] X.env = [(false, eval e X.env)] := by rfl) :
    PI X (.Tuple elts kk tpos) (.Call (.Name "enumerate" p) [e] [] pos) (iEnumT X.K ta) where
  run pins s σ H R I h := PyProof.Rows.Call_ (ld_blt I hg hm PyProof.Rows.boot_enumerate (PyProof.Rows.callWith_type1 (thn (ha.run pos pins s σ H _ I h) fun us s1 ⟨vs, H1, I1, r1, a, xs, hv, hq, q⟩ => by
    subst hv
    cases r1 with
    | cons r rr =>
      cases rr
      cases r
      obtain ⟨its, rv, tup, _⟩ := I1.tuple hq
      let it := s1.heap.objs.size
      let o : Obj := { cls := .type "tuple_iterator", data := .fields #[.ref a, .int 0 0] }
      have z : (s1.heap.push o).objs.size = it + 1 := Heap.size_push ..
      have h1 : ((s1.heap.push o).push (En.fresh it)).get? (it + 1) = some (En.fresh it) := z ▸ Heap.get?_push_size _ rfl
      have h0 : ((s1.heap.push o).push (En.fresh it)).get? it = some o := Heap.get?_push_of_some _ (Heap.get?_push_size _ rfl)
      have I2 := I1.kept (h' := (s1.heap.push o).push (En.fresh it)) (t' := s1.toks) fun b ob q => Heap.get?_push_of_some _ (Heap.get?_push_of_some _ q)
      refine En.called (begins_tuple a its.toArray) tup (wpAny_pyIter_enum h1 ⟨it + 1, [it + 1, it], _, _, H1, rfl, I2, turn_enumT a (it + 1) it, ⟨⟨.none, h1⟩, o, h0, rfl, rfl⟩, fun b hb => ?_, q⟩)
      have far : it ≤ b := (List.mem_cons.mp hb).elim (fun q => q ▸ Nat.le_succ it) fun q => Nat.le_of_eq (List.mem_singleton.mp q).symm
      exact I1.fpOk far (I1.hok.fresh far)) hs rfl))
/-- the pairs that enumerate gives -/
def enumD : Nat → List PyData → List PyData
  | _, [] => []
  | i, d :: ds => .tuple [.int ((i : Nat) : Int), d] :: enumD (i + 1) ds
theorem enumD_at : ∀ {ds : List PyData} {k i : Nat}, (enumD k ds)[i]? = (ds[i]?).map fun d => .tuple [.int ((k + i : Nat) : Int), d]
  | [], _, _ => by simp [enumD]
  | d :: ds, k, 0 => by simp [enumD]
  | d :: ds, k, i + 1 => by
    rw [enumD, List.getElem?_cons_succ, List.getElem?_cons_succ, enumD_at]
    have : k + 1 + i = k + (i + 1) := by omega
    rw [this]
theorem enumD_len : ∀ (ds : List PyData) (k : Nat), (enumD k ds).length = ds.length
  | [], _ => rfl
  | d :: ds, k => by rw [enumD, List.length_cons, List.length_cons, enumD_len]
theorem WI_enumT {K : PySem.W.Frag} {ρ : List Sl} {ta : TA} {ds : List PyData} (h : EA ta ρ [.tuple ds]) : WI (iEnumT K ta) ρ (enumD 0 ds) := fun σ F H e o R q => h σ F H e o _ fun vs F1 H1 s1 dv => by
  cases dv with
  | cons h1 h2 =>
    cases h2
    cases h1 with
    | tup h3 h4 =>
      rename_i a xs
      refine ⟨a, xs, rfl, .inl (Evl.ex_rd s1.fh h3), q _ F1 H1 s1 ⟨fun i H hi e => ?_, fun i H x H' d F hd e eh y => ?_, fun i H hi e => ?_⟩⟩
      · have hx : i < xs.length := by rw [h4.len]; rwa [enumD_len] at hi
        exact ⟨xs, xs[i], .inl (Evl.ex_rd e h3), by simp [hx]⟩
      · obtain ⟨T, x', rfl, hT, rfl, hy⟩ := y
        rw [enumD_at] at hd
        cases q2 : ds[i]? with
        | none => rw [q2] at hd; cases hd
        | some d' =>
          rw [q2] at hd
          have hd' : some (PyData.tuple [.int ((0 + i : Nat) : Int), d']) = some d := hd
          obtain rfl := Option.some.inj hd'
          obtain ⟨v, h5, h6⟩ := h4.at q2
          have h7 := hy xs (.inl (Evl.ex_rd eh (Evl.ex_rd e h3)))
          rw [h5] at h7
          cases h7
          have hfn := fresh_back eh hT
          rw [Nat.zero_add]
          exact ⟨_, Stq.new eh hT, .tup (.inl upd_same) (.cons (.int _) (.cons (h6.up (e.trans (Ex.new hfn))) .nil))⟩
      · rw [enumD_len] at hi
        exact ⟨xs, .inl (Evl.ex_rd e h3), by rw [h4.len]; exact hi⟩
end ML
set_option Elab.async false
set_option linter.all false
set_option maxRecDepth 100000
set_option maxHeartbeats 6400000
/-! set(a list of ints), and sorted of it -/
namespace ML.Se
open PySem L2 PyProof.Rows
abbrev newSet (w : World) : Obj := { cls := .type "set", dict := none, data := .set #[] 0 (.fresh 0 0 (!w.params.followText "set-order")) }
abbrev itObj (a : Addr) : Obj := { cls := .type "list_iterator", data := .fields #[.ref a, .int 0 0] }
section
variable {P : Program} {w : World} {B : Around} {Er : Value → Shared → Prop} {z : Shared}
/-- what gives a value or raises -/
theorem by_wants {M : Model} {c : Code} {R : Value → Shared → Prop} {T : Result → Shared → Prop} (h : codeAny M B c (wants R Er) z) (t : ∀ v z', R v z' → T (.ok (.ret v)) z') (f : ∀ v z', Er v z' → T (.error v) z') : codeAny M B c T z :=
  codeAny_mono h fun r z' q => match r, q with
    | .error v, q => f v z' q
    | .ok (.ret v), q => t v z' q
    | .ok .next, q => q.elim
    | .ok .brk, q => q.elim
    | .ok .cont, q => q.elim
/-- set(v), by what fills the new set -/
theorem set_made {v : Value} {Q : Value → Shared → Prop} (fill : codeAny (model P w) B.in1 (.call (.builtin "set.__init__") ⟨[.ref z.heap.objs.size, v], []⟩) (wants (fun r z' => r = .none ∧ Q (.ref z.heap.objs.size) z') Er) { z with heap := z.heap.push (newSet w) }) :
    wpAny (model P w) B (call (.type "set") [v]) Q Er z := by
  refine wpAny_call (codeAny_of_tree (show wpAny _ _ (callAny (.type "set") _) _ _ _ from wpAny_pure ⟨Code.quiet_builtin _ (by decide +kernel), codeAny_builtin F.entry_type_call ?_⟩))
  have at0 := F.typeCall_set_1 v
  have ⟨c, tl, at1⟩ := F.called_set.mro
  have at2 := F.called_set.made
  have at3 := F.called_set.sub
  have at4 := F.called_set.notType
  have at5 := F.called_set.canCreate
  rw [Around.under_plain (weight_type_call_type "set" [v] []) rfl]
  repeat any_goals (first | assumption | wp_step)
  refine by_wants (code_set_led1 v (Q₁ := fun ob z' => ob = .ref z.heap.objs.size ∧ z' = { z with heap := z.heap.push (newSet w) }) ⟨rfl, rfl⟩) ?_ fun _ _ q => q
  rintro _ _ ⟨rfl, rfl⟩
  have at6 := F.called_set.init.lookup
  have at7 := F.called_set.init.bind (.ref z.heap.objs.size)
  have at8 : Shared.TypeIs { z with heap := z.heap.push (newSet w) } (.ref z.heap.objs.size) "set" := ⟨_, Heap.get?_push_size _ rfl, rfl⟩
  repeat any_goals (first | assumption | wp_step)
  refine by_wants fill ?_ fun _ _ q => q
  rintro _ z' ⟨rfl, q⟩
  repeat any_goals (first | assumption | wp_step)
/-- the new set, filled from a list of ints -/
theorem set_filled {a : Addr} {items : Array Value} (ns : List Int) (hh : B.handled = none) (hl : z.heap.IsList a items) (hit : IntsAre items.toList ns) (hb : ns.length + 1 < scanBound) :
    codeAny (model P w) B (.call (.builtin "set.__init__") ⟨[.ref z.heap.objs.size, .ref a], []⟩) (wants (fun r z' => r = .none ∧ ∃ g tk c, z' = { z with heap := g, toks := tk } ∧ SetR w g z.heap.objs.size (fun j => decide (j ∈ ns)) c ∧ c ≤ ns.length ∧ ∀ b o, z.heap.get? b = some o → g.get? b = some o) Er) { z with heap := z.heap.push (newSet w) } := by
  let S := z.heap.objs.size
  let h1 := z.heap.push (newSet w)
  have e1 : h1.objs.size = S + 1 := Heap.size_push ..
  have n : items.size = ns.length := (Array.length_toList ..).symm.trans (IntsAre.length hit)
  have old := hl
  obtain ⟨o, ho, hcl, m, hd⟩ := hl
  have la : a < S := Heap.lt_size ho
  have hS : h1.get? S = some (newSet w) := Heap.get?_push_size _ rfl
  have there : h1.IsList a items := old.push _
  have nums : ∀ (i : Nat) (v : Value), items[i]? = some v → ∃ k t, ns[i]? = some k ∧ v = .int k t := fun i v q => by
    obtain ⟨t, e⟩ := hit.int_at i v ((Array.getElem?_toList ..).trans q)
    have hi : i < ns.length := n ▸ (Array.getElem?_eq_some_iff.mp q).1
    rw [List.getD_eq_getElem?_getD, List.getElem?_eq_getElem hi] at e
    exact ⟨_, t, List.getElem?_eq_getElem hi, e⟩
  have far : ∀ x, x < S + 1 → x ≠ a → x ∉ [h1.objs.size, a] := fun x hx ne q => (List.mem_cons.mp q).elim (fun q => Nat.lt_irrefl _ (by rw [q, e1] at hx; exact hx)) fun q => ne (List.mem_singleton.mp q)
  have W := (Walks.list (prog := P) (w := w) (A := B.in1.in1) (by simp [hh]) h1.objs.size a (by rw [e1]; exact Nat.ne_of_lt (Nat.lt_succ_of_lt la)) items).toS
  refine codeAny_call_builtin F.called_set.init.plain F.entry_set_init (check_set_init_1 ⟨_, hS, rfl⟩ ?_)
  have loop := fun R => set_update_ints (R := R) W S (far S (Nat.lt_succ_self S) (Nat.ne_of_gt la)) ns n hb nums (items.size - 0) 0
  obtain ⟨cl, dd, dt, sl⟩ := o
  dsimp only at hcl hd
  subst hcl hd
  have ho1 : h1.get? a = some { cls := .type "list", dict := dd, data := .seq items m, slots := sl } := Heap.get?_push_of_some _ ho
  have is1 := F.sub_list_set
  have is2 := F.sub_list_frozenset
  have is3 : (Value.type "list" == Value.type "dict") = false := by decide
  unfold Builtin.«set.__init__»
  unfold noKeywords Builtin.Frozenset.updateFrom
  generalize it : pyIter = I
  wp_walk
  subst it
  refine wpAny_pyIter_list there (wpAny_bind (wpAny_runValue (loop _ _ (Nat.sub_zero _ ▸ rfl) (Nat.zero_le _) ⟨⟨_, Heap.get?_push_size _ rfl, rfl, rfl⟩, there.push _⟩ ⟨0, Nat.le_refl 0, setR_new_at (Heap.get?_push_of_some _ hS)⟩ ?_)))
  rintro ⟨g, gens, drawn, tk, os⟩ c moved hc hset
  obtain rfl : gens = z.gens := moved.gens
  obtain rfl : drawn = z.drawn := moved.drawn
  obtain rfl : os = z.os := moved.os
  refine (show wpAny _ _ _ _ _ _ from wpAny_pure (show wpAny _ _ (ret Value.none) _ _ _ from wpAny_pure ⟨rfl, g, tk, c, rfl, hset, n ▸ hc, fun b o q => ?_⟩))
  have hb : b < S := Heap.lt_size q
  exact moved.heap b o (fun q => (List.mem_cons.mp q).elim (Nat.ne_of_lt hb) fun q => absurd (List.mem_singleton.mp q) (by rw [e1]; exact Nat.ne_of_lt (Nat.lt_succ_of_lt hb))) (Heap.get?_push_of_some _ (Heap.get?_push_of_some _ q))
theorem set_of_list {a : Addr} {items : Array Value} (ns : List Int) {Q : Value → Shared → Prop} (hh : B.handled = none) (hl : z.heap.IsList a items) (hit : IntsAre items.toList ns) (hb : ns.length + 1 < scanBound)
    (fin : ∀ (g : Heap) (tk c : Nat), SetR w g z.heap.objs.size (fun j => decide (j ∈ ns)) c → c ≤ ns.length → (∀ b o, z.heap.get? b = some o → g.get? b = some o) → Q (.ref z.heap.objs.size) { z with heap := g, toks := tk }) :
    wpAny (model P w) B (call (.type "set") [.ref a]) Q Er z :=
  set_made (by_wants (set_filled ns (by simp [hh]) hl hit hb) (fun _ _ ⟨e, g, tk, c, e2, q1, q2, q3⟩ => ⟨e, e2 ▸ fin g tk c q1 q2 q3⟩) fun _ _ q => q)
end
end ML.Se
set_option Elab.async false
set_option linter.all false
set_option maxRecDepth 100000
set_option maxHeartbeats 2000000
/-! sorted(set(a list)) over the layer -/
namespace ML
open PySem L2
open Evl (Ex fresh_back)
def rSetI (K : PySem.W.Frag) (w : World) : List V → Hp → VK → Prop := fun xs H Q => ∃ (a : Addr) (ns : List Int), xs = [.ref a] ∧ SqL K H a (ns.map V.int) ∧ ns.length < 4000 ∧ ∀ (p : Addr) (c : Nat), H p = none → (∀ bs : List Int, (∀ j ∈ ns, j ∈ bs) → c ≤ bs.length) → Q (.ref p) (upd H p (SetO w p (fun j => decide (j ∈ ns)) c))
theorem nodup_len : ∀ {l bs : List Int}, l.Nodup → (∀ x ∈ l, x ∈ bs) → l.length ≤ bs.length
  | [], _, _, _ => Nat.zero_le _
  | x :: l, bs, h, hs => by
    rw [List.nodup_cons] at h
    have hx := hs x List.mem_cons_self
    have h1 := nodup_len (bs := bs.erase x) h.2 fun y hy => (List.mem_erase_of_ne (fun e => h.1 (by rw [← e]; exact hy))).mpr (hs y (List.mem_cons_of_mem _ hy))
    rw [List.length_erase_of_mem hx] at h1
    have := List.length_pos_of_mem hx
    rw [List.length_cons]
    omega
theorem setR_le {w : World} {g : Heap} {p : Addr} {ns : List Int} {c : Nat} (h : SetR w g p (fun j => decide (j ∈ ns)) c) (bs : List Int) (hb : ∀ j ∈ ns, j ∈ bs) : c ≤ bs.length := by
  obtain ⟨o, es, ep, t, _, _, _, _, hn, hm, _, _, hs, _⟩ := h
  have := nodup_len hn fun x hx => hb x (by have := (hm x).mpr hx; simpa using this)
  rw [List.length_map, Array.length_toList, hs] at this
  exact this
theorem cr_setI {X : Cx} (hc : X.calm = true) : CallR X (.type "set") (rSetI X.K X.w) := by
  rintro pins s σ H xs us Q I r ⟨a, ns, rfl, hq, h64, q⟩
  rw [Vals.ref1 r]
  obtain ⟨its, rv, pl, hz⟩ := I.list hq
  refine Se.set_of_list ns (I.ok.hd hc) pl.isList (by simpa using intsAre_of rv) (by unfold scanBound; omega) fun g tk c hS hc2 hk => ?_
  have hn : H s.heap.objs.size = none := I.hok.fresh (Nat.le_refl _)
  exact ⟨.ref _, _, I.laid (t' := tk) hk (Nat.le_refl _) (setO_new hS), rfl, q _ c hn (setR_le hS)⟩
/-- the masks of ms, ascending, each once -/
def asc (ms : List Nat) : List Nat := (List.range 1024).filter fun x => ms.contains x
theorem mem_asc {ms : List Nat} (h : ∀ m ∈ ms, m < 1024) {x : Nat} : x ∈ asc ms ↔ x ∈ ms := by
  unfold asc
  rw [List.mem_filter, List.mem_range, List.contains_iff_mem]
  exact ⟨fun q => q.2, fun q => ⟨h x q, q⟩⟩
theorem pw_range (n : Nat) : (List.range n).Pairwise (· < ·) := List.pairwise_lt_range
theorem asc_lt (ms : List Nat) : (asc ms).Pairwise (· < ·) := (pw_range 1024).filter _
theorem lt_unique : ∀ {l l' : List Int}, l.Pairwise (· < ·) → l'.Pairwise (· < ·) → (∀ x, x ∈ l ↔ x ∈ l') → l = l'
  | [], [], _, _, _ => rfl
  | [], y :: l', _, _, h => absurd ((h y).mpr List.mem_cons_self) (by simp)
  | x :: l, [], _, _, h => absurd ((h x).mp List.mem_cons_self) (by simp)
  | x :: l, y :: l', h1, h2, h => by
    rw [List.pairwise_cons] at h1 h2
    have exy : x = y := by
      rcases List.mem_cons.mp ((h x).mp List.mem_cons_self) with e | e
      · exact e
      · rcases List.mem_cons.mp ((h y).mpr List.mem_cons_self) with e2 | e2
        · exact e2.symm
        · have := h2.1 x e
          have := h1.1 y e2
          omega
    subst exy
    congr 1
    refine lt_unique h1.2 h2.2 fun z => ⟨fun hz => ?_, fun hz => ?_⟩
    · rcases List.mem_cons.mp ((h z).mp (List.mem_cons_of_mem _ hz)) with e | e
      · have := h1.1 z hz; omega
      · exact e
    · rcases List.mem_cons.mp ((h z).mpr (List.mem_cons_of_mem _ hz)) with e | e
      · have := h2.1 z hz; omega
      · exact e
theorem nats_unique {l l' : List Nat} (h1 : l.Pairwise (· < ·)) (h2 : l'.Pairwise (· < ·)) (h : ∀ x, x ∈ l ↔ x ∈ l') : l = l' := by
  have e : l.map (fun m : Nat => (m : Int)) = l'.map (fun m : Nat => (m : Int)) := by
    refine lt_unique ?_ ?_ fun x => ?_
    · rw [List.pairwise_map]; exact h1.imp fun q => by omega
    · rw [List.pairwise_map]; exact h2.imp fun q => by omega
    · simp only [List.mem_map, h]
  exact List.map_inj_right (fun a b q => by omega) |>.mp e
theorem asc_len_le (ms : List Nat) : (asc ms).length ≤ 1024 := by
  unfold asc
  exact Nat.le_trans (List.length_filter_le _ _) (by simp)
theorem E_sortedSet {K : PySem.W.Frag} {w : World} {ρ : List Sl} {te : TE} {ms : List Nat} (h : E te ρ (.list (ms.map nI))) (hb : ∀ m ∈ ms, m < 32) (hl : ms.length < 4000) : E (tCB (rSortedSet w) (tCons (tCB (rSetI K w) (tCons te tNil)) tNil)) ρ (.list ((asc ms).map nI)) := fun σ F H e o Q q =>
  h σ F H e o _ fun v F1 H1 s1 dv => by
    cases dv with
    | lst h1 h2 =>
      rename_i a xs
      have em : ms.map nI = (ms.map fun m : Nat => (m : Int)).map PyData.int := by rw [List.map_map]; rfl
      rw [em] at h2
      have h3 := h2.ints
      rw [h3] at h1
      refine ⟨a, _, rfl, SqL.of (s1.fh _ _ h1), by simpa using hl, fun p c hp hc => ?_⟩
      refine ⟨p, _, c, rfl, upd_same, by
        have := hc ((List.range 32).map fun m : Nat => (m : Int)) fun j hj => by
          obtain ⟨m, h5, h6⟩ := List.mem_map.mp hj
          exact List.mem_map.mpr ⟨m, List.mem_range.mpr (hb m h5), h6⟩
        simp at this
        omega, fun ns' p' hs hm hlen hp' => ?_⟩
      have eq : ns' = (asc ms).map fun m : Nat => (m : Int) := by
        refine lt_unique hs ?_ fun x => ?_
        · rw [List.pairwise_map]; exact (asc_lt ms).imp fun q => by omega
        · rw [hm, decide_eq_true_iff, List.mem_map, List.mem_map]
          exact ⟨fun ⟨m, h5, h6⟩ => ⟨m, (mem_asc fun m hm => Nat.lt_of_lt_of_le (hb m hm) (by decide)).mpr h5, h6⟩, fun ⟨m, h5, h6⟩ => ⟨m, (mem_asc fun m hm => Nat.lt_of_lt_of_le (hb m hm) (by decide)).mp h5, h6⟩⟩
      have hne : p' ≠ p := fun z => by rw [z, upd_same] at hp'; cases hp'
      rw [upd_ne hne] at hp'
      have fp := fresh_back s1.fh hp
      have fp' := fresh_back s1.fh hp'
      refine q _ (upd F1 p' (.lst (ns'.map V.int))) _ (Stq.trans s1 ⟨fun b u hb _ => ?_, Ex.new fp', fun b u hb => ?_, fun b hb hn => ?_⟩) ?_
      · rw [upd_ne (ne_of_none hb hp'), upd_ne (ne_of_none hb hp)]; exact hb
      · by_cases z : b = p'
        · subst z; rw [upd_same] at hb ⊢; exact hb
        · rw [upd_ne z] at hb ⊢
          rw [upd_ne (ne_of_none hb fp)]
          exact s1.fh _ _ hb
      · rw [upd_ne (fun z => hn (by rw [z]; exact hp'))]; exact hb
      · refine .lst upd_same ?_
        rw [eq]
        have em2 : (asc ms).map nI = ((asc ms).map fun m : Nat => (m : Int)).map PyData.int := by rw [List.map_map]; rfl
        rw [em2]
        exact DVs.ofInts _
end ML
set_option Elab.async false
set_option linter.all false
set_option maxRecDepth 100000
set_option maxHeartbeats 2000000
/-! masks: families, closures, stems -/
namespace ML
open PySem L2

theorem shl1 (n : Nat) : 1 <<< n = 2 ^ n := Nat.one_shiftLeft n
theorem pow5 {n : Nat} (h : n ≤ 5) : 2 ^ n ≤ 32 := Nat.pow_le_pow_right (by decide) h
theorem pow_pos2 (n : Nat) : 0 < 2 ^ n := Nat.pow_pos (by decide)
theorem bit_lt {n m i : Nat} (h : m < 2 ^ n) (hb : m.testBit i = true) : i < n := by
  by_cases q : i < n
  · exact q
  · rw [Nat.testBit_lt_two_pow (Nat.lt_of_lt_of_le h (Nat.pow_le_pow_right (by decide) (by omega)))] at hb
    cases hb
theorem top_bit {n i : Nat} : (2 ^ n - 1).testBit i = decide (i < n) := Nat.testBit_two_pow_sub_one n i
theorem sub_top {n m : Nat} (h : m < 2 ^ n) : sub m (2 ^ n - 1) = true := sub_iff.mpr fun i hi => by rw [top_bit]; exact decide_eq_true (bit_lt h hi)
theorem lt_of_sub {a b k : Nat} (h : sub a b = true) (hb : b < k) : a < k := Nat.lt_of_le_of_lt (sub_le h) hb
theorem top_lt (n : Nat) : 2 ^ n - 1 < 2 ^ n := by have := pow_pos2 n; omega
theorem and_sub_left (a b : Nat) : sub (a &&& b) a = true := sub_iff.mpr fun i hi => by rw [Nat.testBit_and, Bool.and_eq_true] at hi; exact hi.1
theorem and_sub_right (a b : Nat) : sub (a &&& b) b = true := sub_iff.mpr fun i hi => by rw [Nat.testBit_and, Bool.and_eq_true] at hi; exact hi.2
theorem sub_and {a b c : Nat} (h : sub a b = true) (h' : sub a c = true) : sub a (b &&& c) = true := sub_iff.mpr fun i hi => by
  rw [Nat.testBit_and, sub_iff.mp h i hi, sub_iff.mp h' i hi]; rfl
theorem kept_and {rs : List (Nat × Nat)} {a b : Nat} (h : kept rs a = true) (h' : kept rs b = true) : kept rs (a &&& b) = true :=
  kept_iff.mpr fun r hr hs => sub_and (kept_iff.mp h r hr (sub_trans hs (and_sub_left _ _))) (kept_iff.mp h' r hr (sub_trans hs (and_sub_right _ _)))
/-- a book of at most five things -/
structure Bk (n : Nat) (rs : List (Nat × Nat)) : Prop where
  n5 : n ≤ 5
  len : rs.length ≤ 100
  low : ∀ r ∈ rs, r.1 < 2 ^ n ∧ r.2 < 2 ^ n
theorem Bk.small {n : Nat} {rs : List (Nat × Nat)} (h : Bk n rs) : Small rs := fun r hr => by
  have := h.low r hr
  have := pow5 h.n5
  omega
theorem Bk.l1000 {n : Nat} {rs : List (Nat × Nat)} (h : Bk n rs) : rs.length ≤ 1000 := Nat.le_trans h.len (by decide)
def fam (n : Nat) (rs : List (Nat × Nat)) : List Nat := (List.range (1 <<< n)).filter fun m => kept rs m
theorem mem_fam {n m : Nat} {rs : List (Nat × Nat)} : m ∈ fam n rs ↔ m < 2 ^ n ∧ kept rs m = true := by
  unfold fam
  rw [List.mem_filter, List.mem_range, shl1]
/-- a family of lots that is closed under meeting -/
structure Fm (n : Nat) (cl : List Nat) : Prop where
  n5 : n ≤ 5
  low : ∀ c ∈ cl, c < 2 ^ n
  top : 2 ^ n - 1 ∈ cl
  meet : ∀ a ∈ cl, ∀ b ∈ cl, a &&& b ∈ cl
theorem Bk.fm {n : Nat} {rs : List (Nat × Nat)} (h : Bk n rs) : Fm n (fam n rs) := by
  refine ⟨h.n5, fun c hc => (mem_fam.mp hc).1, mem_fam.mpr ⟨top_lt n, kept_iff.mpr fun r hr _ => sub_top (h.low r hr).2⟩, fun a ha b hb => ?_⟩
  have h1 := mem_fam.mp ha
  have h2 := mem_fam.mp hb
  exact mem_fam.mpr ⟨lt_of_sub (and_sub_left a b) h1.1, kept_and h1.2 h2.2⟩
theorem Fm.same {n : Nat} {cl cl' : List Nat} (h : Fm n cl) (e : ∀ x, x ∈ cl ↔ x ∈ cl') : Fm n cl' :=
  ⟨h.n5, fun c hc => h.low c ((e c).mpr hc), (e _).mp h.top, fun a ha b hb => (e _).mp (h.meet a ((e a).mpr ha) b ((e b).mpr hb))⟩
theorem Fm.has {n m : Nat} {cl : List Nat} (h : Fm n cl) (hm : m < 2 ^ n) : ∃ c ∈ cl, sub m c = true := ⟨_, h.top, sub_top hm⟩
/-- c is the least of cl that has m -/
structure Lst (cl : List Nat) (m c : Nat) : Prop where
  mem : c ∈ cl
  has : sub m c = true
  least : ∀ x ∈ cl, sub m x = true → sub c x = true
theorem Lst.one {cl : List Nat} {m c c' : Nat} (h : Lst cl m c) (h' : Lst cl m c') : c = c' := sub_anti (h.least _ h'.mem h'.has) (h'.least _ h.mem h.has)
theorem Lst.same {cl cl' : List Nat} {m c : Nat} (h : Lst cl m c) (e : ∀ x, x ∈ cl ↔ x ∈ cl') : Lst cl' m c := ⟨(e c).mp h.mem, h.has, fun x hx => h.least x ((e x).mpr hx)⟩
/-- the closure by meets -/
def shut (cl : List Nat) (m : Nat) : Nat := cl.foldl (fun x o => if sub m o then x &&& o else x) (cl.getLastD 0)
theorem foldl_meet {n m : Nat} {cl : List Nat} (h : Fm n cl) : ∀ (l : List Nat) (z : Nat), (∀ x ∈ l, x ∈ cl) → z ∈ cl → sub m z = true →
    l.foldl (fun x o => if sub m o then x &&& o else x) z ∈ cl ∧ sub m (l.foldl (fun x o => if sub m o then x &&& o else x) z) = true ∧ sub (l.foldl (fun x o => if sub m o then x &&& o else x) z) z = true ∧ ∀ x ∈ l, sub m x = true → sub (l.foldl (fun x o => if sub m o then x &&& o else x) z) x = true
  | [], z, _, hz, hs => ⟨hz, hs, sub_refl z, fun x hx => by cases hx⟩
  | o :: l, z, hl, hz, hs => by
    rw [List.foldl_cons]
    by_cases ho : sub m o = true
    · rw [if_pos ho]
      obtain ⟨a1, a2, a3, a4⟩ := foldl_meet h l (z &&& o) (fun x hx => hl x (List.mem_cons_of_mem _ hx)) (h.meet z hz o (hl o List.mem_cons_self)) (sub_and hs ho)
      refine ⟨a1, a2, sub_trans a3 (and_sub_left _ _), fun x hx hxs => ?_⟩
      rcases List.mem_cons.mp hx with rfl | hx
      · exact sub_trans a3 (and_sub_right _ _)
      · exact a4 x hx hxs
    · rw [if_neg ho]
      obtain ⟨a1, a2, a3, a4⟩ := foldl_meet h l z (fun x hx => hl x (List.mem_cons_of_mem _ hx)) hz hs
      refine ⟨a1, a2, a3, fun x hx hxs => ?_⟩
      rcases List.mem_cons.mp hx with rfl | hx
      · exact absurd hxs ho
      · exact a4 x hx hxs
theorem getLastD_mem {cl : List Nat} {z : Nat} (h : cl ≠ []) : cl.getLastD z ∈ cl := by
  rw [List.getLastD_eq_getLast?, List.getLast?_eq_some_getLast h]
  exact List.getLast_mem h
/-- the last of an ascending family is the lot of all things -/
theorem Fm.last {n : Nat} {cl : List Nat} (h : Fm n cl) (ha : cl.Pairwise (· < ·)) : cl.getLastD 0 = 2 ^ n - 1 := by
  have hne : cl ≠ [] := fun z => by have := h.top; rw [z] at this; cases this
  have h1 := h.low _ (getLastD_mem (z := 0) hne)
  have h2 : 2 ^ n - 1 ≤ cl.getLastD 0 := by
    have e : cl = cl.dropLast ++ [cl.getLastD 0] := by
      rw [List.getLastD_eq_getLast?, List.getLast?_eq_some_getLast hne]
      exact (List.dropLast_concat_getLast hne).symm
    have h3 := h.top
    rw [e] at h3 ha
    rw [List.pairwise_append] at ha
    rcases List.mem_append.mp h3 with h4 | h4
    · exact Nat.le_of_lt (ha.2.2 _ h4 _ (by simp))
    · simp only [List.mem_singleton] at h4; rw [← h4]; exact Nat.le_refl _
  omega
theorem Fm.shut {n m : Nat} {cl : List Nat} (h : Fm n cl) (ha : cl.Pairwise (· < ·)) (hm : m < 2 ^ n) : Lst cl m (ML.shut cl m) := by
  obtain ⟨a1, a2, a3, a4⟩ := foldl_meet h (m := m) cl (cl.getLastD 0) (fun x hx => hx) (by rw [h.last ha]; exact h.top) (by rw [h.last ha]; exact sub_top hm)
  exact ⟨a1, a2, a4⟩
theorem fam_lt (n : Nat) (rs : List (Nat × Nat)) : (fam n rs).Pairwise (· < ·) := (pw_range _).filter _
theorem Lst.clo {n m c : Nat} {rs : List (Nat × Nat)} (h : Lst (fam n rs) m c) : IsClo rs m c := by
  have hc := mem_fam.mp h.mem
  refine ⟨h.has, hc.2, fun x hx hs => ?_⟩
  have h1 : c &&& x ∈ fam n rs := mem_fam.mpr ⟨lt_of_sub (and_sub_left c x) hc.1, kept_and hc.2 hx⟩
  have h2 := h.least _ h1 (sub_and h.has hs)
  exact sub_trans h2 (and_sub_right _ _)
/-- the closure in a book -/
def clo (n : Nat) (rs : List (Nat × Nat)) (m : Nat) : Nat := shut (fam n rs) m
theorem Bk.lst {n m : Nat} {rs : List (Nat × Nat)} (h : Bk n rs) (hm : m < 2 ^ n) : Lst (fam n rs) m (clo n rs m) := h.fm.shut (fam_lt n rs) hm
theorem Bk.clo {n m : Nat} {rs : List (Nat × Nat)} (h : Bk n rs) (hm : m < 2 ^ n) : IsClo rs m (ML.clo n rs m) := (h.lst hm).clo
theorem Bk.clo_lt {n m : Nat} {rs : List (Nat × Nat)} (h : Bk n rs) (hm : m < 2 ^ n) : ML.clo n rs m < 2 ^ n := (mem_fam.mp (h.lst hm).mem).1

/-! ### the first one with a lot -/
theorem lotM_sub {a b : Nat} (h : sub a b = true) : List.Sublist (lotM a) (lotM b) := by
  have e : lotM a = (lotM b).filter fun i => a.testBit i := by
    unfold lotM
    rw [List.filter_filter]
    refine List.filter_congr fun i _ => ?_
    cases q : a.testBit i with
    | false => rfl
    | true => rw [sub_iff.mp h i q]; rfl
  rw [e]
  exact List.filter_sublist
theorem lotM_inj {a b : Nat} (ha : a < 1024) (hb : b < 1024) (h : lotM a = lotM b) : a = b := by rw [← bits_lot ha, ← bits_lot hb, h]
theorem sub_len {a b : Nat} (ha : a < 1024) (hb : b < 1024) (h : sub a b = true) (hl : (lotM b).length ≤ (lotM a).length) : a = b :=
  lotM_inj ha hb ((lotM_sub h).eq_of_length (Nat.le_antisymm (lotM_sub h).length_le hl))
theorem lt1024 {n m : Nat} (hn : n ≤ 5) (h : m < 2 ^ n) : m < 1024 := by have := pow5 hn; omega
theorem Fm.find {n m : Nat} {cl ls : List Nat} (h : Fm n cl) (hm : m < 2 ^ n) (hp : ls.Pairwise fun a b => (lotM a).length ≤ (lotM b).length) (e : ∀ x, x ∈ ls ↔ x ∈ cl) {c : Nat} (hc : Lst cl m c) : ls.find? (fun o => sub m o) = some c := by
  cases q : ls.find? (fun o => sub m o) with
  | none =>
    have := List.find?_eq_none.mp q c ((e c).mpr hc.mem)
    exact absurd hc.has this
  | some f =>
    obtain ⟨h1, as, bs, h2, h3⟩ := List.find?_eq_some_iff_append.mp q
    have hf : f ∈ cl := (e f).mp (by rw [h2]; simp)
    have hs := hc.least f hf h1
    have hl : (lotM f).length ≤ (lotM c).length := by
      have hcm : c ∈ ls := (e c).mpr hc.mem
      rw [h2] at hcm hp
      rw [List.pairwise_append, List.pairwise_cons] at hp
      rcases List.mem_append.mp hcm with h4 | h4
      · have := h3 c h4
        rw [hc.has] at this
        cases this
      · rcases List.mem_cons.mp h4 with rfl | h4
        · exact Nat.le_refl _
        · exact hp.2.1.1 c h4
    rw [sub_len (lt1024 h.n5 (h.low c hc.mem)) (lt1024 h.n5 (h.low f hf)) hs hl]

/-! ### the stem -/
def nstep (cl : List Nat) (f : Nat → Nat) (acc : List (Nat × Nat)) (m : Nat) : List (Nat × Nat) := if !cl.contains m && kept acc m then acc ++ [(m, f m)] else acc
def nearL (cl : List Nat) (f : Nat → Nat) (ls : List Nat) : List (Nat × Nat) := ls.foldl (nstep cl f) []
def near (n : Nat) (cl : List Nat) : List (Nat × Nat) := nearL cl (fun m => (cl.find? fun o => sub m o).getD 0) (ord (List.range (1 <<< n)))
def stemR (n : Nat) (cl : List Nat) : List (Nat × Nat) := (near n cl).map fun p => (p.1, diff p.2 p.1)
theorem nearL_len (cl : List Nat) (f : Nat → Nat) : ∀ (ls : List Nat) (acc : List (Nat × Nat)), (ls.foldl (nstep cl f) acc).length ≤ acc.length + ls.length
  | [], acc => Nat.le_refl _
  | m :: ls, acc => by
    rw [List.foldl_cons]
    refine Nat.le_trans (nearL_len cl f ls _) ?_
    unfold nstep
    split <;> simp <;> omega
theorem ord_range_len {n : Nat} (h : n ≤ 5) : (ord (List.range (1 <<< n))).length ≤ 32 := by
  rw [ord_len, List.length_range, shl1]; exact pow5 h
theorem near_take_len {n : Nat} (h : n ≤ 5) (cl : List Nat) (f : Nat → Nat) (i : Nat) : (nearL cl f ((ord (List.range (1 <<< n))).take i)).length ≤ 32 := by
  unfold nearL
  refine Nat.le_trans (nearL_len cl f _ []) ?_
  have := ord_range_len h
  rw [List.length_take]
  simp only [List.length_nil]
  omega
theorem near_len {n : Nat} (h : n ≤ 5) (cl : List Nat) : (near n cl).length ≤ 32 := by
  have := near_take_len h cl (fun m => (cl.find? fun o => sub m o).getD 0) (ord (List.range (1 <<< n))).length
  rwa [List.take_length] at this
theorem nearL_mem (cl : List Nat) (f : Nat → Nat) : ∀ (ls : List Nat) (acc : List (Nat × Nat)) (p : Nat × Nat), p ∈ ls.foldl (nstep cl f) acc → p ∈ acc ∨ (p.1 ∈ ls ∧ p.2 = f p.1)
  | [], acc, p, h => .inl h
  | m :: ls, acc, p, h => by
    rw [List.foldl_cons] at h
    rcases nearL_mem cl f ls _ p h with h | ⟨h1, h2⟩
    · unfold nstep at h
      split at h
      · rcases List.mem_append.mp h with h | h
        · exact .inl h
        · simp only [List.mem_singleton] at h
          subst h
          exact .inr ⟨List.mem_cons_self, rfl⟩
      · exact .inl h
    · exact .inr ⟨List.mem_cons_of_mem _ h1, h2⟩
theorem diff_sub (a b : Nat) : sub (diff a b) a = true := sub_iff.mpr fun i hi => by rw [diff_bit, Bool.and_eq_true] at hi; exact hi.1
theorem stem_bk {n : Nat} {cl : List Nat} (hn : n ≤ 5) (hl : ∀ c ∈ cl, c < 2 ^ n) : Bk n (stemR n cl) := by
  refine ⟨hn, by unfold stemR; rw [List.length_map]; have := near_len hn cl; omega, fun r hr => ?_⟩
  obtain ⟨p, hp, rfl⟩ := List.mem_map.mp hr
  rcases nearL_mem _ _ _ _ p hp with h | ⟨h1, h2⟩
  · cases h
  · rw [mem_ord, List.mem_range, shl1] at h1
    refine ⟨h1, lt_of_sub (diff_sub _ _) ?_⟩
    rw [h2]
    cases q : cl.find? (fun o => sub p.1 o) with
    | none => exact pow_pos2 n
    | some c => exact hl c (List.mem_of_find?_eq_some q)

/-! ### maps -/
def enN : Nat → List Nat → List (Nat × Nat)
  | _, [] => []
  | i, w :: ws => (i, w) :: enN (i + 1) ws
theorem enN_mem : ∀ {ws : List Nat} {k : Nat} {p : Nat × Nat}, p ∈ enN k ws ↔ ∃ i, p.1 = k + i ∧ ws[i]? = some p.2
  | [], k, p => by simp [enN]
  | w :: ws, k, p => by
    rw [enN, List.mem_cons, enN_mem]
    constructor
    · rintro (rfl | ⟨i, h1, h2⟩)
      · exact ⟨0, rfl, rfl⟩
      · exact ⟨i + 1, by omega, by simpa using h2⟩
    · rintro ⟨i, h1, h2⟩
      cases i with
      | zero =>
        left
        simp only [List.getElem?_cons_zero, Option.some.injEq] at h2
        exact Prod.ext h1 h2.symm
      | succ i => exact .inr ⟨i, by omega, by simpa using h2⟩
theorem enN_len : ∀ (ws : List Nat) (k : Nat), (enN k ws).length = ws.length
  | [], _ => rfl
  | w :: ws, k => by rw [enN, List.length_cons, List.length_cons, enN_len]
def onM (ws : List Nat) (m : Nat) : Nat := (enN 0 ws).foldl (fun b p => if m.testBit p.1 then b ||| 1 <<< p.2 else b) 0
def backM (ws : List Nat) (m : Nat) : Nat := (enN 0 ws).foldl (fun b p => if m.testBit p.2 then b ||| 1 <<< p.1 else b) 0
theorem fold_bits {α : Type} (c : α → Bool) (g : α → Nat) (i : Nat) : ∀ (l : List α) (z : Nat), (l.foldl (fun b p => if c p then b ||| 1 <<< g p else b) z).testBit i = true ↔ z.testBit i = true ∨ ∃ p ∈ l, c p = true ∧ g p = i
  | [], z => by simp
  | p :: l, z => by
    rw [List.foldl_cons, fold_bits c g i l]
    by_cases h : c p = true
    · rw [if_pos h, Nat.testBit_or, Nat.one_shiftLeft, Nat.testBit_two_pow, Bool.or_eq_true, decide_eq_true_iff]
      constructor
      · rintro ((h1 | h1) | ⟨q, h1, h2⟩)
        · exact .inl h1
        · exact .inr ⟨p, List.mem_cons_self, h, h1⟩
        · exact .inr ⟨q, List.mem_cons_of_mem _ h1, h2⟩
      · rintro (h1 | ⟨q, h1, h2⟩)
        · exact .inl (.inl h1)
        · rcases List.mem_cons.mp h1 with rfl | h1
          · exact .inl (.inr h2.2)
          · exact .inr ⟨q, h1, h2⟩
    · rw [if_neg h]
      constructor
      · rintro (h1 | ⟨q, h1, h2⟩)
        · exact .inl h1
        · exact .inr ⟨q, List.mem_cons_of_mem _ h1, h2⟩
      · rintro (h1 | ⟨q, h1, h2⟩)
        · exact .inl h1
        · rcases List.mem_cons.mp h1 with rfl | h1
          · exact absurd h2.1 h
          · exact .inr ⟨q, h1, h2⟩
theorem on_bit {ws : List Nat} {m x : Nat} : (onM ws m).testBit x = true ↔ ∃ i, m.testBit i = true ∧ ws[i]? = some x := by
  unfold onM
  rw [fold_bits (fun p : Nat × Nat => m.testBit p.1) (fun p => p.2), Nat.zero_testBit]
  constructor
  · rintro (h | ⟨p, h1, h2, rfl⟩)
    · cases h
    · obtain ⟨i, h3, h4⟩ := enN_mem.mp h1
      rw [Nat.zero_add] at h3
      exact ⟨i, by rw [← h3]; exact h2, h4⟩
  · rintro ⟨i, h1, h2⟩
    exact .inr ⟨(i, x), enN_mem.mpr ⟨i, by simp, h2⟩, h1, rfl⟩
theorem back_bit {ws : List Nat} {m i : Nat} : (backM ws m).testBit i = true ↔ ∃ x, ws[i]? = some x ∧ m.testBit x = true := by
  unfold backM
  rw [fold_bits (fun p : Nat × Nat => m.testBit p.2) (fun p => p.1), Nat.zero_testBit]
  constructor
  · rintro (h | ⟨p, h1, h2, rfl⟩)
    · cases h
    · obtain ⟨i, h3, h4⟩ := enN_mem.mp h1
      rw [Nat.zero_add] at h3
      exact ⟨p.2, by rw [h3]; exact h4, h2⟩
  · rintro ⟨x, h1, h2⟩
    exact .inr ⟨(i, x), enN_mem.mpr ⟨i, by simp, h1⟩, h2, rfl⟩
theorem lt_of_bits {n m : Nat} (h : ∀ i, m.testBit i = true → i < n) : m < 2 ^ n := by
  by_cases q : m < 2 ^ n
  · exact q
  · exfalso
    obtain ⟨i, h1, h2⟩ := Nat.exists_ge_and_testBit_of_ge_two_pow (Nat.not_lt.mp q)
    have := h i h2
    omega
theorem on_lt {ws : List Nat} {k m : Nat} (h : ∀ w ∈ ws, w < k) : onM ws m < 2 ^ k := lt_of_bits fun x hx => by
  obtain ⟨i, _, h2⟩ := on_bit.mp hx
  exact h x (List.mem_of_getElem? h2)
theorem back_lt {ws : List Nat} {m : Nat} : backM ws m < 2 ^ ws.length := lt_of_bits fun i hi => by
  obtain ⟨x, h1, _⟩ := back_bit.mp hi
  exact (List.getElem?_eq_some_iff.mp h1).1
theorem sub_back {ws : List Nat} {k m o : Nat} (hm : m < 2 ^ ws.length) : sub m (backM ws o) = sub (onM ws m) o := by
  rw [Bool.eq_iff_iff, sub_iff, sub_iff]
  constructor
  · intro h x hx
    obtain ⟨i, h1, h2⟩ := on_bit.mp hx
    obtain ⟨y, h3, h4⟩ := back_bit.mp (h i h1)
    rw [h2] at h3
    cases h3
    exact h4
  · intro h i hi
    have hl := bit_lt hm hi
    have hw : ws[i]? = some ws[i] := List.getElem?_eq_getElem hl
    exact back_bit.mpr ⟨_, hw, h _ (on_bit.mpr ⟨i, hi, hw⟩)⟩
theorem back_top {ws : List Nat} {k : Nat} (h : ∀ w ∈ ws, w < k) : backM ws (2 ^ k - 1) = 2 ^ ws.length - 1 := by
  apply Nat.eq_of_testBit_eq
  intro i
  rw [Bool.eq_iff_iff, back_bit, top_bit, decide_eq_true_iff]
  constructor
  · rintro ⟨x, h1, _⟩
    exact (List.getElem?_eq_some_iff.mp h1).1
  · intro hi
    have hw : ws[i]? = some ws[i] := List.getElem?_eq_getElem hi
    exact ⟨_, hw, by rw [top_bit]; exact decide_eq_true (h _ (List.mem_of_getElem? hw))⟩
theorem back_and (ws : List Nat) (a b : Nat) : backM ws (a &&& b) = backM ws a &&& backM ws b := by
  apply Nat.eq_of_testBit_eq
  intro i
  rw [Bool.eq_iff_iff, back_bit, Nat.testBit_and, Bool.and_eq_true, back_bit, back_bit]
  constructor
  · rintro ⟨x, h1, h2⟩
    rw [Nat.testBit_and, Bool.and_eq_true] at h2
    exact ⟨⟨x, h1, h2.1⟩, ⟨x, h1, h2.2⟩⟩
  · rintro ⟨⟨x, h1, h2⟩, ⟨y, h3, h4⟩⟩
    rw [h1] at h3
    cases h3
    exact ⟨x, h1, by rw [Nat.testBit_and, h2, h4]; rfl⟩
/-- the sources of a family -/
theorem Fm.pull {k : Nat} {cl ws : List Nat} (h : Fm k cl) (hw : ∀ w ∈ ws, w < k) (hl : ws.length ≤ 5) : Fm ws.length (cl.map (backM ws)) := by
  refine ⟨hl, fun c hc => ?_, List.mem_map.mpr ⟨_, h.top, back_top hw⟩, fun a ha b hb => ?_⟩
  · obtain ⟨x, _, rfl⟩ := List.mem_map.mp hc
    exact back_lt
  · obtain ⟨x, h1, rfl⟩ := List.mem_map.mp ha
    obtain ⟨y, h2, rfl⟩ := List.mem_map.mp hb
    exact List.mem_map.mpr ⟨x &&& y, h.meet x h1 y h2, back_and ws x y⟩
/-- the lots whose sources are in a family -/
def pushL (k : Nat) (cl ws : List Nat) : List Nat := (List.range (1 <<< k)).filter fun m => cl.contains (backM ws m)
theorem mem_push {k m : Nat} {cl ws : List Nat} : m ∈ pushL k cl ws ↔ m < 2 ^ k ∧ backM ws m ∈ cl := by
  unfold pushL
  rw [List.mem_filter, List.mem_range, shl1, List.contains_iff_mem]
theorem Fm.push {k : Nat} {cl ws : List Nat} (h : Fm ws.length cl) (hw : ∀ w ∈ ws, w < k) (hk : k ≤ 5) : Fm k (pushL k cl ws) := by
  refine ⟨hk, fun c hc => (mem_push.mp hc).1, mem_push.mpr ⟨top_lt k, by rw [back_top hw]; exact h.top⟩, fun a ha b hb => ?_⟩
  have h1 := mem_push.mp ha
  have h2 := mem_push.mp hb
  exact mem_push.mpr ⟨lt_of_sub (and_sub_left a b) h1.1, by rw [back_and]; exact h.meet _ h1.2 _ h2.2⟩
theorem enum_maps (ws : List Nat) (k : Nat) : (enN k ws).map pairD = (enN k ws).map fun p => PyData.tuple [.int ((p.1 : Nat) : Int), nI p.2] := rfl
end ML
set_option Elab.async false
set_option linter.all false
set_option maxRecDepth 100000
set_option maxHeartbeats 2000000
/-! masks: lots within, sums, least lots -/
namespace ML
open PySem L2

theorem diff_bitI (m n i : Nat) : (diff m n).testBit i = (m.testBit i && !n.testBit i) := diff_bit m n i
theorem or_add {z t : Nat} (h : z.testBit t = false) : z ||| 1 <<< t = z + 2 ^ t := by
  rw [shl1]
  have e1 : (z ||| 2 ^ t) &&& 2 ^ t = 2 ^ t := by
    apply Nat.eq_of_testBit_eq
    intro i
    rw [Nat.testBit_and, Nat.testBit_or, Nat.testBit_two_pow]
    cases decide (t = i) <;> simp
  have e2 : diff (z ||| 2 ^ t) (2 ^ t) = z := by
    apply Nat.eq_of_testBit_eq
    intro i
    rw [diff_bit, Nat.testBit_or, Nat.testBit_two_pow]
    by_cases q : t = i
    · subst q; simp [h]
    · simp [q]
  unfold diff at e2
  rw [e1] at e2
  have : 2 ^ t ≤ z ||| 2 ^ t := Nat.right_le_or
  omega
theorem fold_add : ∀ (l : List Nat) (z : Nat), l.Nodup → (∀ t ∈ l, z.testBit t = false) → l.foldl (fun b t => b ||| 1 <<< t) z = z + (l.map fun t => 1 <<< t).sum
  | [], z, _, _ => by simp
  | t :: l, z, h, hz => by
    rw [List.nodup_cons] at h
    rw [List.foldl_cons, fold_add l _ h.2 (fun u hu => ?_), or_add (hz t List.mem_cons_self), List.map_cons, List.sum_cons, shl1]
    · omega
    · rw [Nat.testBit_or, hz u (List.mem_cons_of_mem _ hu), Nat.one_shiftLeft, Nat.testBit_two_pow]
      have : ¬ t = u := fun e => h.1 (by rw [e]; exact hu)
      simp [this]
theorem lt_nodup {l : List Nat} (h : l.Pairwise (· < ·)) : l.Nodup := h.imp fun q => Nat.ne_of_lt q
theorem lotM_lt (m : Nat) : (lotM m).Pairwise (· < ·) := (pw_range 10).filter _
theorem sum_lot {m : Nat} (h : m < 1024) : ((lotM m).map fun t => 1 <<< t).sum = m := by
  have := fold_add (lotM m) 0 (lt_nodup (lotM_lt m)) (fun t _ => Nat.zero_testBit t)
  rw [bits_lot h] at this
  omega
theorem sum_cast (l : List Nat) : (l.map fun t => ((1 <<< t : Nat) : Int)).sum = (((l.map fun t => 1 <<< t).sum : Nat) : Int) := by
  induction l with
  | nil => rfl
  | cons t l ih => rw [List.map_cons, List.sum_cons, List.map_cons, List.sum_cons, ih]; omega
/-- the sum over what stands in any order, each once -/
theorem sum_bits {l : List Nat} {m : Nat} (hn : l.Nodup) (h : ∀ i, m.testBit i = true ↔ i ∈ l) : (l.map fun t => 1 <<< t).sum = m := by
  have h1 := fold_add l 0 hn (fun t _ => Nat.zero_testBit t)
  have h2 : l.foldl (fun b t => b ||| 1 <<< t) 0 = m := by
    apply Nat.eq_of_testBit_eq
    intro i
    rw [fold_or_bit, Nat.zero_testBit, Bool.false_or, Bool.eq_iff_iff, decide_eq_true_iff, h]
  omega
theorem lotM_top {n : Nat} (h : n ≤ 5) : lotM (2 ^ n - 1) = List.range n := by
  have : n = 0 ∨ n = 1 ∨ n = 2 ∨ n = 3 ∨ n = 4 ∨ n = 5 := by omega
  rcases this with rfl | rfl | rfl | rfl | rfl | rfl <;> rfl
theorem lotM_lt5 {n m i : Nat} (h : m < 2 ^ n) (hi : i ∈ lotM m) : i < n := bit_lt h (mem_lotM.mp hi).2

/-! ### lots within -/
def wstep (acc : List Nat) (t : Nat) : List Nat := acc ++ acc.map fun o => o ||| 1 <<< t
def lotsW (m : Nat) : List Nat := (lotM m).foldl wstep [0]
theorem wfold : ∀ (l : List Nat) (acc : List Nat) (k : Nat), l.Pairwise (· < ·) → (∀ t ∈ l, k ≤ t) → acc.Pairwise (· < ·) → (∀ x ∈ acc, x < 2 ^ k) →
    (l.foldl wstep acc).Pairwise (· < ·) ∧ ∀ x, x ∈ l.foldl wstep acc ↔ (x % 2 ^ k) ∈ acc ∧ ∀ i, k ≤ i → x.testBit i = true → i ∈ l
  | [], acc, k, _, _, ha, hk => by
    refine ⟨ha, fun x => ?_⟩
    rw [List.foldl_nil]
    constructor
    · intro h
      refine ⟨by rw [Nat.mod_eq_of_lt (hk x h)]; exact h, fun i hi hb => absurd (bit_lt (hk x h) hb) (by omega)⟩
    · rintro ⟨h1, h2⟩
      have : x < 2 ^ k := lt_of_bits fun i hi => by
        by_cases q : i < k
        · exact q
        · exact absurd (h2 i (by omega) hi) (by simp)
      rwa [Nat.mod_eq_of_lt this] at h1
  | t :: l, acc, k, hl, hk, ha, hb => by
    rw [List.pairwise_cons] at hl
    have hkt := hk t List.mem_cons_self
    have hpk : 2 ^ k ≤ 2 ^ t := Nat.pow_le_pow_right (by decide) hkt
    have hor : ∀ x ∈ acc, x ||| 1 <<< t = x + 2 ^ t := fun x hx => or_add (Nat.testBit_lt_two_pow (Nat.lt_of_lt_of_le (hb x hx) hpk))
    have hp2 : 2 ^ (t + 1) = 2 ^ t + 2 ^ t := by rw [Nat.pow_succ]; omega
    have h1 : (wstep acc t).Pairwise (· < ·) := by
      unfold wstep
      rw [List.pairwise_append]
      refine ⟨ha, ?_, fun x hx y hy => ?_⟩
      · rw [List.pairwise_map]
        exact ha.imp_of_mem fun {a b} ha' hb' q => by rw [hor a ha', hor b hb']; omega
      · obtain ⟨z, hz, rfl⟩ := List.mem_map.mp hy
        rw [hor z hz]
        have := hb x hx
        omega
    have h2 : ∀ x ∈ wstep acc t, x < 2 ^ (t + 1) := fun x hx => by
      unfold wstep at hx
      rcases List.mem_append.mp hx with hx | hx
      · have := hb x hx; omega
      · obtain ⟨z, hz, rfl⟩ := List.mem_map.mp hx
        rw [hor z hz]
        have := hb z hz
        omega
    obtain ⟨r1, r2⟩ := wfold l (wstep acc t) (t + 1) hl.2 (fun u hu => hl.1 u hu) h1 h2
    refine ⟨r1, fun x => ?_⟩
    rw [List.foldl_cons, r2]
    have hmod : ∀ i, (x % 2 ^ k).testBit i = (decide (i < k) && x.testBit i) := fun i => Nat.testBit_mod_two_pow x k i
    have hmod2 : ∀ i, (x % 2 ^ (t + 1)).testBit i = (decide (i < t + 1) && x.testBit i) := fun i => Nat.testBit_mod_two_pow x (t + 1) i
    constructor
    · rintro ⟨h3, h4⟩
      unfold wstep at h3
      rcases List.mem_append.mp h3 with h3 | h3
      · have hx := hb _ h3
        have e : x % 2 ^ k = x % 2 ^ (t + 1) := by
          apply Nat.eq_of_testBit_eq
          intro i
          rw [hmod, hmod2]
          by_cases q : i < k
          · simp [q, show i < t + 1 by omega]
          · have : (x % 2 ^ (t + 1)).testBit i = false := by
              cases w : (x % 2 ^ (t + 1)).testBit i with
              | false => rfl
              | true => exact absurd (bit_lt hx w) q
            rw [hmod2] at this
            simp [q, this]
        refine ⟨by rw [e]; exact h3, fun i hi hbi => ?_⟩
        by_cases q : t + 1 ≤ i
        · exact List.mem_cons_of_mem _ (h4 i q hbi)
        · exfalso
          have : (x % 2 ^ (t + 1)).testBit i = true := by rw [hmod2, hbi]; simp; omega
          exact absurd (bit_lt hx this) (by omega)
      · obtain ⟨z, hz, e⟩ := List.mem_map.mp h3
        have hzk := hb z hz
        have hzb : ∀ i, (z ||| 1 <<< t).testBit i = (z.testBit i || decide (t = i)) := fun i => by rw [Nat.testBit_or, Nat.one_shiftLeft, Nat.testBit_two_pow]
        have ez : x % 2 ^ k = z := by
          apply Nat.eq_of_testBit_eq
          intro i
          have h5 := hmod2 i
          rw [← e, hzb] at h5
          rw [hmod]
          by_cases q : i < k
          · have : ¬ t = i := by omega
            simp only [this, decide_false, Bool.or_false] at h5
            rw [h5]
            simp [q, show i < t + 1 by omega]
          · have : z.testBit i = false := by
              cases w : z.testBit i with
              | false => rfl
              | true => exact absurd (bit_lt hzk w) q
            simp [q, this]
        refine ⟨by rw [ez]; exact hz, fun i hi hbi => ?_⟩
        by_cases q : t + 1 ≤ i
        · exact List.mem_cons_of_mem _ (h4 i q hbi)
        · have h5 := hmod2 i
          rw [← e, hzb, hbi] at h5
          have h6 : z.testBit i = false := by
            cases w : z.testBit i with
            | false => rfl
            | true => exact absurd (bit_lt hzk w) (by omega)
          rw [h6] at h5
          have : t = i := by
            have h7 : decide (i < t + 1) = true := decide_eq_true (by omega)
            rw [h7] at h5
            simpa using h5
          rw [this]
          exact List.mem_cons_self
    · rintro ⟨h3, h4⟩
      refine ⟨?_, fun i hi hbi => ?_⟩
      · unfold wstep
        rw [List.mem_append, List.mem_map]
        cases w : x.testBit t with
        | false =>
          left
          have e : x % 2 ^ (t + 1) = x % 2 ^ k := by
            apply Nat.eq_of_testBit_eq
            intro i
            rw [hmod, hmod2]
            by_cases q : i < k
            · simp [q, show i < t + 1 by omega]
            · by_cases q2 : i < t + 1
              · have hb0 : x.testBit i = false := by
                  cases w2 : x.testBit i with
                  | false => rfl
                  | true =>
                    rcases List.mem_cons.mp (h4 i (by omega) w2) with e | e
                    · rw [e, w] at w2; cases w2
                    · have := hl.1 i e; omega
                simp [hb0]
              · simp [q, q2]
          rw [e]; exact h3
        | true =>
          right
          refine ⟨_, h3, ?_⟩
          apply Nat.eq_of_testBit_eq
          intro i
          rw [Nat.testBit_or, Nat.one_shiftLeft, Nat.testBit_two_pow, hmod, hmod2]
          by_cases q3 : t = i
          · subst q3
            simp [w]
          · by_cases q : i < k
            · simp [q, q3, show i < t + 1 by omega]
            · by_cases q2 : i < t + 1
              · have hb0 : x.testBit i = false := by
                  cases w2 : x.testBit i with
                  | false => rfl
                  | true =>
                    rcases List.mem_cons.mp (h4 i (by omega) w2) with e | e
                    · exact absurd e.symm q3
                    · have := hl.1 i e; omega
                simp [hb0, q3]
              · simp [q, q2, q3]
      · rcases List.mem_cons.mp (h4 i (by omega) hbi) with e | e
        · omega
        · exact e
theorem lotsW_all {m : Nat} (h : m < 1024) : (lotsW m).Pairwise (· < ·) ∧ ∀ x, x ∈ lotsW m ↔ sub x m = true := by
  obtain ⟨h1, h2⟩ := wfold (lotM m) [0] 0 (lotM_lt m) (fun t _ => Nat.zero_le t) (by simp) (by simp)
  refine ⟨h1, fun x => ?_⟩
  unfold lotsW
  rw [h2, sub_iff]
  simp only [Nat.pow_zero, Nat.mod_one, List.mem_singleton, Nat.zero_le, true_implies, true_and]
  constructor
  · exact fun q i hi => (mem_lotM.mp (q i hi)).2
  · exact fun q i hi => mem_lotM.mpr ⟨bit_lt (n := 10) h (q i hi), q i hi⟩
theorem lotsW_len {n m : Nat} (hn : n ≤ 5) (h : m < 2 ^ n) : (lotsW m).length ≤ 32 := by
  obtain ⟨h1, h2⟩ := lotsW_all (lt1024 hn h)
  have h3 : (lotsW m).map (fun m : Nat => (m : Int)) |>.Nodup := by
    rw [List.Nodup, List.pairwise_map]; exact h1.imp fun q => by omega
  have := nodup_len (bs := (List.range 32).map fun m : Nat => (m : Int)) h3 fun x hx => by
    obtain ⟨y, hy, rfl⟩ := List.mem_map.mp hx
    have h4 := lt_of_sub ((h2 y).mp hy) h
    have := pow5 hn
    exact List.mem_map.mpr ⟨y, List.mem_range.mpr (by omega), rfl⟩
  simpa using this
theorem wfold_len : ∀ (l acc : List Nat), (l.foldl wstep acc).length = acc.length * 2 ^ l.length
  | [], acc => by simp
  | t :: l, acc => by
    rw [List.foldl_cons, wfold_len l]
    unfold wstep
    rw [List.length_append, List.length_map, List.length_cons, Nat.pow_succ, Nat.mul_comm (2 ^ l.length) 2, ← Nat.mul_assoc]
    congr 1
    omega
/-- a thing of a lot that the others close over -/
def spareF (g : Nat → Nat) (m : Nat) : Option Nat := (lotM m).find? fun t => (g (diff m (1 <<< t))).testBit t
def mkL (g : Nat → Nat) (m : Nat) : List Nat := ((lotsW (g m)).filter fun x => decide (g x = g m)).filter fun x => (spareF g x).isNone
theorem intBits_lt (m : Nat) : m < 2 ^ Builtin.Int.intBits (m : Int) := by
  unfold Builtin.Int.intBits
  by_cases h : m = 0
  · subst h; decide
  · have h2 : ((m : Int) == 0) = false := by simp [h]
    rw [h2]
    simp only [Bool.false_eq_true, if_false, Int.natAbs_natCast]
    exact Nat.lt_log2_self
theorem things_eq {m : Nat} (h : m < 1024) : (List.range (Builtin.Int.intBits (m : Int))).filter (fun t => m.testBit t) = lotM m := by
  refine nats_unique ((pw_range _).filter _) (lotM_lt m) fun x => ?_
  rw [List.mem_filter, List.mem_range, mem_lotM]
  constructor
  · rintro ⟨_, h2⟩; exact ⟨bit_lt (n := 10) h h2, h2⟩
  · rintro ⟨_, h2⟩; exact ⟨bit_lt (intBits_lt m) h2, h2⟩
theorem intBits_le {m : Nat} (h : m < 1024) : Builtin.Int.intBits (m : Int) ≤ 10 := by
  unfold Builtin.Int.intBits
  by_cases h0 : m = 0
  · subst h0; decide
  · have h2 : ((m : Int) == 0) = false := by simp [h0]
    rw [h2]
    simp only [Bool.false_eq_true, if_false, Int.natAbs_natCast]
    have := (Nat.log2_lt h0 (k := 10)).mpr h
    omega
/-! ### the law's forms -/
def stemL (n : Nat) (cl : List Nat) : List (Nat × Nat) := (nearL cl (shut cl) (ord (List.range (1 <<< n)))).map fun p => (p.1, diff p.2 p.1)
def meetsL (n : Nat) (ms : List Nat) : List Nat := ms.foldl (fun acc m => asc (acc ++ acc.map fun o => o &&& m)) [2 ^ n - 1]
def keysS (cl ws : List Nat) : List Nat := (List.range (1 <<< ws.length)).filter fun m => sub (onM ws (2 ^ ws.length - 1)) (shut cl (onM ws m))
def keysL (cl ws : List Nat) : List Nat := (keysS cl ws).filter fun m => !(keysS cl ws).any fun o => sub o m && !decide (o = m)
theorem nearL_congr {cl cl' : List Nat} {f f' : Nat → Nat} (hc : ∀ x, x ∈ cl ↔ x ∈ cl') : ∀ (ls : List Nat) (acc : List (Nat × Nat)), (∀ m ∈ ls, f m = f' m) → ls.foldl (nstep cl f) acc = ls.foldl (nstep cl' f') acc
  | [], acc, _ => rfl
  | m :: ls, acc, h => by
    rw [List.foldl_cons, List.foldl_cons]
    have e : nstep cl f acc m = nstep cl' f' acc m := by
      have : cl.contains m = cl'.contains m := by rw [Bool.eq_iff_iff, List.contains_iff_mem, List.contains_iff_mem, hc]
      unfold nstep
      rw [this, h m List.mem_cons_self]
    rw [e]
    exact nearL_congr hc ls _ fun x hx => h x (List.mem_cons_of_mem _ hx)
/-- the program's stem is the law's -/
theorem stem_eq {n : Nat} {cl ls : List Nat} (h : Fm n cl) (ha : cl.Pairwise (· < ·)) (hp : ls.Pairwise fun a b => (lotM a).length ≤ (lotM b).length) (e : ∀ x, x ∈ ls ↔ x ∈ cl) : stemR n ls = stemL n cl := by
  unfold stemR stemL near nearL
  rw [nearL_congr (cl := ls) (cl' := cl) (f' := shut cl) e _ [] fun m hm => ?_]
  have hm2 : m < 2 ^ n := by
    have := mem_ord.mp hm
    rwa [List.mem_range, shl1] at this
  rw [h.find hm2 hp e (h.shut ha hm2)]
  rfl
theorem asc_bound {ms : List Nat} (h : ∀ m ∈ ms, m < 32) : (asc ms).length ≤ 32 := by
  have h3 : ((asc ms).map (fun m : Nat => (m : Int))).Nodup := by
    rw [List.Nodup, List.pairwise_map]; exact (asc_lt ms).imp fun q => by omega
  have := nodup_len (bs := (List.range 32).map fun m : Nat => (m : Int)) h3 fun x hx => by
    obtain ⟨y, hy, rfl⟩ := List.mem_map.mp hx
    have h4 := h y ((mem_asc fun m hm => Nat.lt_of_lt_of_le (h m hm) (by decide)).mp hy)
    exact List.mem_map.mpr ⟨y, List.mem_range.mpr h4, rfl⟩
  simpa using this
end ML
set_option Elab.async false
set_option linter.all false
set_option maxRecDepth 100000
set_option maxHeartbeats 2000000
namespace ML
open PySem L2
open Evl (Ex fresh_back)

/-! ### isinstance, bit_length -/
def tyD : PyData → String
  | .none => "NoneType"
  | .bool _ => "bool"
  | .int _ => "int"
  | .str _ => "str"
  | .list _ => "list"
  | .tuple _ => "tuple"
  | .dict _ => "dict"
theorem E_isi {K : PySem.W.Frag} {ρ : List Sl} {te : TE} {d : PyData} {n : String} {b : Bool} (h : E te ρ d) (hb : kitB (tyD d) n = some b) : E (tCB (rIsi K) (tCons te (tCons (tC (.ty n)) tNil))) ρ (.bool b) := fun σ F H e o Q q =>
  h σ F H e o _ fun v F1 H1 s1 dv => by
    refine ⟨v, .ty n, .type (tyD d), .type n, b, rfl, .ty n, ?_, kit_ty hb, q _ F1 H1 s1 (.bl b)⟩
    cases dv with
    | non => exact .base .non
    | bl x => exact .base (.bl x)
    | int i => exact .base (.int i)
    | str x => exact .base (.str x)
    | lst h1 _ => exact .base (.lst (s1.fh _ _ h1))
    | tup h1 _ =>
      rcases Evl.ex_rd s1.fh h1 with h | ⟨ob, h⟩
      · exact .base (.tup h)
      · exact .fTuple h
theorem E_bits {ρ : List Sl} {te : TE} {i : Int} (h : E te ρ (.int i)) : E (tBits te) ρ (nI (Builtin.Int.intBits i)) := fun σ F H e o Q q =>
  h σ F H e o _ fun v F1 H1 s1 dv => by
    cases dv
    exact ⟨i, rfl, q _ F1 H1 s1 (.int _)⟩
theorem ET_bit {K : PySem.W.Frag} {ρ : List Sl} {te : TE} {m i : Nat} (h : E te ρ (nI (m >>> i &&& 1))) : ET (fun σ H Q => te σ H fun x H' => ∃ k, TruV K x H' k ∧ Q k H') ρ (m.testBit i) := (ET_int h).to (bit_ne m i)
theorem enumD_en : ∀ (ws : List Nat) (k : Nat), enumD k (ws.map nI) = (enN k ws).map pairD
  | [], _ => rfl
  | w :: ws, k => by rw [List.map_cons, enumD, enN, List.map_cons, enumD_en ws]; rfl
def mapD (ws : List Nat) : PyData := .tuple (ws.map nI)
/-- the found so far is none -/
theorem find_take {α : Type} {p : α → Bool} {l : List α} {i : Nat} {y : α} (hy : l[i]? = some y) (pf : (l.take i).find? p = none) : l.find? p = if p y = true then some y else l.find? p := by
  split
  · rename_i hq
    have hl : i < l.length := (List.getElem?_eq_some_iff.mp hy).1
    have e3 : l = l.take i ++ y :: l.drop (i + 1) := by
      have h4 : y = l[i] := (List.getElem?_eq_some_iff.mp hy).2.symm
      rw [h4, ← List.drop_eq_getElem_cons hl, List.take_append_drop]
    rw [e3, List.find?_append, pf, List.find?_cons, hq]
    rfl
  · rfl
theorem find_next {α : Type} {p : α → Bool} {l : List α} {i : Nat} {y : α} (hy : l[i]? = some y) (pf : (l.take i).find? p = none) (hn : p y = false) : (l.take (i + 1)).find? p = none := by
  rw [List.take_add_one, hy, List.find?_append, pf]
  simp [hn]

section
variable {P : Program} {w : World} {K : PySem.W.Frag} {mg : Str → Option Value} {base : Heap} {f : Addr} {fd : FuncData}

def R_ordered (ds : List PyData) (d : PyData) : Prop := ∃ ms : List Nat, ms.length ≤ 100000 ∧ ds = [.list (ms.map nI)] ∧ d = .list ((ord ms).map nI)
theorem sc_ordered : FnScope ["many_bits"] ["many_bits"] (defScope s_ordered) := ⟨rfl, rfl, rfl, by decide +kernel, rfl, by decide +kernel, by decide +kernel⟩
theorem ok_ordered (B : Bl mg) (h_bits_key : Has P w K mg base 2 "bits_key" ["bits"] (spD R_bits_key)) (F : FnP K "ordered" s_ordered f fd) : FnOk P w K mg base CX0 5 f fd ["many_bits"] (spD R_ordered) := by
  refine pure_ok F sc_ordered (by rintro _ _ ⟨ms, hl, rfl, rfl⟩; rfl) (by decide) fun cdv A outer s H Q X hr => ⟨_,
    (pss_one (ps_ret (pe_sortedKey h_bits_key hr (by decide) rfl rfl B.sorted_ (pv 0)))), ?_⟩
  rintro F0 _ _ ⟨ms, hl, rfl, rfl⟩ σ c kR
  exact s_ret c (E_sortedKey (E_var rfl) hl noL_nI fun m _ => ⟨m, rfl, rfl⟩) kR
def R_closed_bits (ds : List PyData) (d : PyData) : Prop := ∃ (n : Nat) (rs : List (Nat × Nat)), Bk n rs ∧ ds = [bookD n rs] ∧ d = .list ((ord (fam n rs)).map nI)
theorem fam_len {n : Nat} (rs : List (Nat × Nat)) (h : n ≤ 5) : (fam n rs).length ≤ 32 := by
  unfold fam
  refine Nat.le_trans (List.length_filter_le _ _) ?_
  rw [List.length_range, shl1]
  exact pow5 h
theorem sc_closed_bits : FnScope ["book", "rules", "bits"] ["book"] (defScope s_closed_bits) := ⟨rfl, rfl, rfl, by decide +kernel, rfl, by decide +kernel, by decide +kernel⟩
theorem ok_closed_bits (B : Bl mg) (h_ordered : Has P w K mg base 5 "ordered" ["many_bits"] (spD R_ordered)) (h_is_kept : Has P w K mg base 1 "is_kept" ["rules", "bits"] (spD R_is_kept)) (h_rule_bits : Has P w K mg base 2 "rule_bits" ["book"] (spD R_rule_bits)) (F : FnP K "closed_bits" s_closed_bits f fd) : FnOk P w K mg base CX0 6 f fd ["book"] (spD R_closed_bits) := by
  refine pure_ok F sc_closed_bits (by rintro _ _ ⟨n, rs, hb, rfl, rfl⟩; rfl) (by decide) fun cdv A outer s H Q X hr => ⟨_,
    (pss_cons (ps_set (i := 1) sc_closed_bits.nd rfl (Or.inr rfl) (pe_fn h_rule_bits (hr.mono (by decide)) rfl (pa_cons (pv 0) pa_nil)))
      (pss_one (ps_ret (pe_fn h_ordered (hr.mono (by decide)) rfl (pa_cons (pe_lc (own := [("bits", 2)]) rfl sc_closed_bits.nd (pi_range1 rfl B.range_ (pa_cons (pe_op op_shl pe_int (pe_ix (ix_tupK (K := K) rfl) (pv 0) pe_int (fun _ _ => rfl))) pa_nil)) (blkOk_by (by kernel_rfl)) (fun _ _ _ _ _ => (pg_name (i := 2) sc_closed_bits.nd rfl (Or.inl rfl))) (fun _ _ _ _ _ => (pts_one (pt_val (pe_fn h_is_kept (hr.mono (by decide)) rfl (pa_cons (pv 1) (pa_cons (pv 2) pa_nil)))))) (fun _ _ _ _ _ => (pv 2))) pa_nil))))), ?_⟩
  rintro F0 _ _ ⟨n, rs, hb, rfl, rfl⟩ σ c kR
  have h5 := pow5 hb.n5
  refine q_asg c (E_call (EA_1 (E_var rfl)) ⟨n, rs, hb.small, hb.l1000, rfl, rfl⟩) fun σ1 H1 c1 => ?_
  refine s_ret c1 (E_call (EA_1 (E_lc (ys := List.range (1 <<< n)) (f := nI) (p := fun m => kept rs m) (WI_rng (EA_1 (E_op (E_nat 1) (E_op (E_var rfl) (E_nat 0) (rd_ixT rfl)) (rd_shl (by decide) (by have := hb.n5; omega)))) (by rw [shl1]; omega)) (by rw [List.length_range, shl1]; omega) (fun y _ => GB_name (by decide)) (fun y _ => ET_test (E_call (EA_2 (E_var rfl) (E_var rfl)) ⟨rs, y, rfl, rfl⟩)) (fun y _ _ => E_var rfl))) ⟨fam n rs, Nat.le_trans (fam_len rs hb.n5) (by decide), rfl, rfl⟩) kR
def R_closure (ds : List PyData) (d : PyData) : Prop := ∃ (n : Nat) (rs : List (Nat × Nat)) (m c : Nat), Bk n rs ∧ m < 1024 ∧ IsClo rs m c ∧ ds = [bookD n rs, lotD m] ∧ d = lotD c
theorem sc_closure : FnScope ["book", "lot"] ["book", "lot"] (defScope s_closure) := ⟨rfl, rfl, rfl, by decide +kernel, rfl, by decide +kernel, by decide +kernel⟩
theorem ok_closure (h_lot_of : Has P w K mg base 1 "lot_of" ["bits"] (spD R_lot_of)) (h_bits_closure : Has P w K mg base 2 "bits_closure" ["rules", "bits"] (spD R_bits_closure)) (h_bits_of : Has P w K mg base 1 "bits_of" ["lot"] (spD R_bits_of)) (h_rule_bits : Has P w K mg base 2 "rule_bits" ["book"] (spD R_rule_bits)) (F : FnP K "closure" s_closure f fd) : FnOk P w K mg base CX0 3 f fd ["book", "lot"] (spD R_closure) := by
  refine pure_ok F sc_closure (by rintro _ _ ⟨n, rs, m, r, hb, hm, hr', rfl, rfl⟩; rfl) (by decide) fun cdv A outer s H Q X hr => ⟨_,
    (pss_one (ps_ret (pe_fn h_lot_of (hr.mono (by decide)) rfl (pa_cons (pe_fn h_bits_closure (hr.mono (by decide)) rfl (pa_cons (pe_fn h_rule_bits (hr.mono (by decide)) rfl (pa_cons (pv 0) pa_nil)) (pa_cons (pe_fn h_bits_of (hr.mono (by decide)) rfl (pa_cons (pv 1) pa_nil)) pa_nil))) pa_nil)))), ?_⟩
  rintro F0 _ _ ⟨n, rs, m, r, hb, hm, hr', rfl, rfl⟩ σ c kR
  exact s_ret c (E_call (EA_1 (E_call (EA_2 (E_call (EA_1 (E_var rfl)) ⟨n, rs, hb.small, hb.l1000, rfl, rfl⟩) (E_call (EA_1 (E_var rfl)) ⟨m, hm, rfl, rfl⟩)) ⟨rs, m, r, hb.small, hm, hr', rfl, rfl⟩)) ⟨r, rfl, rfl⟩) kR
def R_is_closed (ds : List PyData) (d : PyData) : Prop := ∃ (n : Nat) (rs : List (Nat × Nat)) (m : Nat), Bk n rs ∧ m < 1024 ∧ ds = [bookD n rs, lotD m] ∧ d = .bool (kept rs m)
theorem sc_is_closed : FnScope ["book", "lot"] ["book", "lot"] (defScope s_is_closed) := ⟨rfl, rfl, rfl, by decide +kernel, rfl, by decide +kernel, by decide +kernel⟩
theorem ok_is_closed (h_is_kept : Has P w K mg base 1 "is_kept" ["rules", "bits"] (spD R_is_kept)) (h_bits_of : Has P w K mg base 1 "bits_of" ["lot"] (spD R_bits_of)) (h_rule_bits : Has P w K mg base 2 "rule_bits" ["book"] (spD R_rule_bits)) (F : FnP K "is_closed" s_is_closed f fd) : FnOk P w K mg base CX0 3 f fd ["book", "lot"] (spD R_is_closed) := by
  refine pure_ok F sc_is_closed (by rintro _ _ ⟨n, rs, m, hb, hm, rfl, rfl⟩; rfl) (by decide) fun cdv A outer s H Q X hr => ⟨_,
    (pss_one (ps_ret (pe_fn h_is_kept (hr.mono (by decide)) rfl (pa_cons (pe_fn h_rule_bits (hr.mono (by decide)) rfl (pa_cons (pv 0) pa_nil)) (pa_cons (pe_fn h_bits_of (hr.mono (by decide)) rfl (pa_cons (pv 1) pa_nil)) pa_nil))))), ?_⟩
  rintro F0 _ _ ⟨n, rs, m, hb, hm, rfl, rfl⟩ σ c kR
  exact s_ret c (E_call (EA_2 (E_call (EA_1 (E_var rfl)) ⟨n, rs, hb.small, hb.l1000, rfl, rfl⟩) (E_call (EA_1 (E_var rfl)) ⟨m, hm, rfl, rfl⟩)) ⟨rs, m, rfl, rfl⟩) kR
def R_closed_lots (ds : List PyData) (d : PyData) : Prop := ∃ (n : Nat) (rs : List (Nat × Nat)), Bk n rs ∧ ds = [bookD n rs] ∧ d = .tuple ((ord (fam n rs)).map lotD)
theorem sc_closed_lots : FnScope ["book", "bits"] ["book"] (defScope s_closed_lots) := ⟨rfl, rfl, rfl, by decide +kernel, rfl, by decide +kernel, by decide +kernel⟩
theorem ok_closed_lots (B : Bl mg) (h_closed_bits : Has P w K mg base 6 "closed_bits" ["book"] (spD R_closed_bits)) (h_lot_of : Has P w K mg base 1 "lot_of" ["bits"] (spD R_lot_of)) (F : FnP K "closed_lots" s_closed_lots f fd) : FnOk P w K mg base CX0 7 f fd ["book"] (spD R_closed_lots) := by
  refine pure_ok F sc_closed_lots (by rintro _ _ ⟨n, rs, hb, rfl, rfl⟩; rfl) (by decide) fun cdv A outer s H Q X hr => ⟨_,
    (pss_one (ps_ret (pe_callTy (call_tupK (K := K) rfl) rfl B.tuple_ (by decide +kernel) (pa_cons (pe_lc (own := [("bits", 1)]) rfl sc_closed_lots.nd (pi_listK (K := K) rfl (pe_fn h_closed_bits (hr.mono (by decide)) rfl (pa_cons (pv 0) pa_nil))) (blkOk_by (by kernel_rfl)) (fun _ _ _ _ _ => (pg_name (i := 1) sc_closed_lots.nd rfl (Or.inl rfl))) (fun _ _ _ _ _ => pts_nil) (fun _ _ _ _ _ => (pe_fn h_lot_of (hr.mono (by decide)) rfl (pa_cons (pv 1) pa_nil)))) pa_nil)))), ?_⟩
  rintro F0 _ _ ⟨n, rs, hb, rfl, rfl⟩ σ c kR
  exact s_ret c (E_cb (EA_1 (E_lc1 (ys := ord (fam n rs)) (enc := nI) (WI_list (E_call (EA_1 (E_var rfl)) ⟨n, rs, hb, rfl, rfl⟩)) (by rw [ord_len]; exact Nat.le_trans (fam_len rs hb.n5) (by decide)) (fun y _ => GB_name (by decide)) (fun y _ => E_call (EA_1 (E_var rfl)) ⟨y, rfl, rfl⟩))) rc_tuple) kR
def R_follows (ds : List PyData) (d : PyData) : Prop := ∃ (n : Nat) (rs : List (Nat × Nat)) (a b c : Nat), Bk n rs ∧ a < 1024 ∧ b < 1024 ∧ IsClo rs a c ∧ ds = [bookD n rs, ruleD (a, b)] ∧ d = .bool (sub b c)
theorem sc_follows : FnScope ["book", "rule", "behind"] ["book", "rule"] (defScope s_follows) := ⟨rfl, rfl, rfl, by decide +kernel, rfl, by decide +kernel, by decide +kernel⟩
theorem ok_follows (h_bits_closure : Has P w K mg base 2 "bits_closure" ["rules", "bits"] (spD R_bits_closure)) (h_bits_of : Has P w K mg base 1 "bits_of" ["lot"] (spD R_bits_of)) (h_rule_bits : Has P w K mg base 2 "rule_bits" ["book"] (spD R_rule_bits)) (F : FnP K "follows" s_follows f fd) : FnOk P w K mg base CX0 3 f fd ["book", "rule"] (spD R_follows) := by
  refine pure_ok F sc_follows (by rintro _ _ ⟨n, rs, a, b, r, hb, ha, hb2, hr', rfl, rfl⟩; rfl) (by decide) fun cdv A outer s H Q X hr => ⟨_,
    (pss_cons (ps_set (i := 2) sc_follows.nd rfl (Or.inl rfl) (pe_fn h_bits_of (hr.mono (by decide)) rfl (pa_cons (pe_ix (ix_tupK (K := K) rfl) (pv 1) pe_int (fun _ _ => rfl)) pa_nil)))
      (pss_one (ps_ret (pe_cmpR op_eq (pe_op op_and (pe_fn h_bits_closure (hr.mono (by decide)) rfl (pa_cons (pe_fn h_rule_bits (hr.mono (by decide)) rfl (pa_cons (pv 0) pa_nil)) (pa_cons (pe_fn h_bits_of (hr.mono (by decide)) rfl (pa_cons (pe_ix (ix_tupK (K := K) rfl) (pv 1) pe_int (fun _ _ => rfl)) pa_nil)) pa_nil))) (pv 2)) (pv 2) (nomark _))))), ?_⟩
  rintro F0 _ _ ⟨n, rs, a, b, r, hb, ha, hb2, hr', rfl, rfl⟩ σ c kR
  refine q_asg c (E_call (EA_1 (E_op (E_var rfl) (E_nat 1) (rd_ixT rfl))) ⟨b, hb2, rfl, rfl⟩) fun σ1 H1 c1 => ?_
  exact s_ret c1 (E_op (E_op (E_call (EA_2 (E_call (EA_1 (E_var rfl)) ⟨n, rs, hb.small, hb.l1000, rfl, rfl⟩) (E_call (EA_1 (E_op (E_var rfl) (E_nat 0) (rd_ixT rfl))) ⟨a, ha, rfl, rfl⟩)) ⟨rs, a, r, hb.small, ha, hr', rfl, rfl⟩) (E_var rfl) rd_and) (E_var rfl) rd_subE') kR
def optL : Option Nat → PyData
  | some m => lotD m
  | none => .none
def R_breaking (ds : List PyData) (d : PyData) : Prop := ∃ (n : Nat) (rs : List (Nat × Nat)) (a b : Nat), Bk n rs ∧ a < 1024 ∧ b < 1024 ∧ ds = [bookD n rs, ruleD (a, b)] ∧ d = optL ((ord (fam n rs)).find? fun m => !kept [(a, b)] m)
theorem sc_breaking : FnScope ["book", "rule", "own", "bits"] ["book", "rule"] (defScope s_breaking) := ⟨rfl, rfl, rfl, by decide +kernel, rfl, by decide +kernel, by decide +kernel⟩
theorem ok_breaking (h_closed_bits : Has P w K mg base 6 "closed_bits" ["book"] (spD R_closed_bits)) (h_is_kept : Has P w K mg base 1 "is_kept" ["rules", "bits"] (spD R_is_kept)) (h_lot_of : Has P w K mg base 1 "lot_of" ["bits"] (spD R_lot_of)) (h_bits_of : Has P w K mg base 1 "bits_of" ["lot"] (spD R_bits_of)) (F : FnP K "breaking" s_breaking f fd) : FnOk P w K mg base CX0 7 f fd ["book", "rule"] (spD R_breaking) := by
  refine pure_ok F sc_breaking (by rintro _ _ ⟨n, rs, a, b, hb, ha, hb2, rfl, rfl⟩; rfl) (by decide) fun cdv A outer s H Q X hr => ⟨_,
    (pss_cons (ps_set (i := 2) sc_breaking.nd rfl (Or.inl rfl) (pe_lst (pa_cons (pe_tup (pa_cons (pe_fn h_bits_of (hr.mono (by decide)) rfl (pa_cons (pe_ix (ix_tupK (K := K) rfl) (pv 1) pe_int (fun _ _ => rfl)) pa_nil)) (pa_cons (pe_fn h_bits_of (hr.mono (by decide)) rfl (pa_cons (pe_ix (ix_tupK (K := K) rfl) (pv 1) pe_int (fun _ _ => rfl)) pa_nil)) pa_nil))) pa_nil)))
      (pss_cons (ps_for PassesOwn.never rfl (pi_listK (K := K) rfl (pe_fn h_closed_bits (hr.mono (by decide)) rfl (pa_cons (pv 0) pa_nil))) (pg_name (i := 3) sc_breaking.nd rfl (Or.inl rfl)) (pss_one (ps_if (pt_not (pt_val (pe_fn h_is_kept (hr.mono (by decide)) rfl (pa_cons (pv 2) (pa_cons (pv 3) pa_nil))))) (pss_one (ps_ret (pe_fn h_lot_of (hr.mono (by decide)) rfl (pa_cons (pv 3) pa_nil)))) pss_nil)))
      (pss_one (ps_ret pe_non)))), ?_⟩
  rintro F0 _ _ ⟨n, rs, a, b, hb, ha, hb2, rfl, rfl⟩ σ c kR
  refine q_asg c (E_lst (EA_1 (E_tup (EA_2 (E_call (EA_1 (E_op (E_var rfl) (E_nat 0) (rd_ixT rfl))) ⟨a, ha, rfl, rfl⟩) (E_call (EA_1 (E_op (E_var rfl) (E_nat 1) (rd_ixT rfl))) ⟨b, hb2, rfl, rfl⟩))))) fun σ1 H1 c1 => ?_
  refine q_forP (ys := ord (fam n rs)) (enc := nI) (fun i => [.da (bookD n rs), .da (ruleD (a, b)), .da (.list ([(a, b)].map pairD)), .un]) (fun i => ((ord (fam n rs)).take i).find? (fun m => !kept [(a, b)] m) = none) c1 (WI_list (E_call (EA_1 (E_var rfl)) ⟨n, rs, hb, rfl, rfl⟩)) (.of rfl) rfl (fun i y hy => GF_name) (fun G1 e1 i y σ2 H2 hy pf c2 => ?_) fun σ2 H2 pf c2 => ?_
  · refine s_when c2 (ET_not (ET_test (E_call (EA_2 (E_var rfl) (E_var rfl)) ⟨[(a, b)], y, rfl, rfl⟩))) (fun ht H3 c3 => ?_) fun ht H3 c3 => ?_
    · refine s_ret c3 (E_call (EA_1 (E_var rfl)) ⟨y, rfl, rfl⟩) fun v H4 q => kR v H4 ?_
      rw [find_take hy pf, if_pos ht]
      exact q.less e1
    · exact ⟨find_next hy pf ht, c3.lss (.cons (.cons (.cons (.un .nil))))⟩
  · refine s_ret c2 E_non ?_
    rw [List.take_length] at pf
    rw [pf] at kR
    exact kR
def R_nearly_pairs (ds : List PyData) (d : PyData) : Prop := ∃ (n : Nat) (cl : List Nat), n ≤ 5 ∧ cl.length ≤ 1000 ∧ (∀ m, m < 2 ^ n → ∃ c ∈ cl, sub m c = true) ∧ ds = [nI n, .list (cl.map nI)] ∧ d = .list ((near n cl).map pairD)
theorem kept_prog (acc : List (Nat × Nat)) (m : Nat) : (((acc.filter fun p => sub p.1 m).map fun p => sub p.2 m).all id) = kept acc m := by
  unfold kept
  induction acc with
  | nil => rfl
  | cons p acc ih =>
    rw [List.filter_cons, List.all_cons, ← ih]
    cases e : sub p.1 m with
    | true => simp
    | false => simp
theorem sc_nearly_pairs : FnScope ["size", "closed", "are_closed", "lot", "found", "less", "full"] ["size", "closed"] (defScope s_nearly_pairs) := ⟨rfl, rfl, rfl, by decide +kernel, rfl, by decide +kernel, by decide +kernel⟩
theorem ok_nearly_pairs (B : Bl mg) (h_ordered : Has P w K mg base 5 "ordered" ["many_bits"] (spD R_ordered)) (h_is_within : Has P w K mg base 1 "is_within" ["one", "other"] (spD R_is_within)) (h_closure_in : Has P w K mg base 1 "closure_in" ["closed", "bits"] (spD R_closure_in)) (F : FnP K "nearly_pairs" s_nearly_pairs f fd) : FnOk P w K mg base CX0 6 f fd ["size", "closed"] (spD R_nearly_pairs) := by
  refine pure_ok F sc_nearly_pairs (by rintro _ _ ⟨n, cl, hn, hl, hc, rfl, rfl⟩; rfl) (by decide) fun cdv A outer s H Q X hr => ⟨_,
    (pss_cons (ps_set (i := 2) sc_nearly_pairs.nd rfl (Or.inl rfl) pe_dnewK)
      (pss_cons (ps_for PassesOwn.never rfl (pi_listK (K := K) rfl (pv 1)) (pg_name (i := 3) sc_nearly_pairs.nd rfl (Or.inr rfl)) (pss_one (ps_dput (hu_of hr) (pv 2) (pv 3) pe_bl rfl)))
      (pss_cons (ps_set (i := 4) sc_nearly_pairs.nd rfl (Or.inl rfl) (pe_lst pa_nil))
      (pss_cons (ps_for PassesOwn.never rfl (pi_listK (K := K) rfl (pe_fn h_ordered (hr.mono (by decide)) rfl (pa_cons (pe_listRg rfl rfl B.list_ (prg_1 rfl B.range_ (pe_op op_shl pe_int (pv 0)))) pa_nil))) (pg_name (i := 3) sc_nearly_pairs.nd rfl (Or.inr rfl)) (pss_one (ps_if (PW.pt (pw_and (pt_cmp (pc_dnotin (hu_of hr) (pv 3) (pv 2))) (pw_and1 (pt_val (pe_callB (cr_allK (K := K) rfl rfl) rfl B.all_ (by decide +kernel) (pa_cons (pe_lc (own := [("less", 5), ("full", 6)]) (g := gTup K 2 (gCons (gName 5) (gCons (gName 6) gNil))) rfl sc_nearly_pairs.nd (pi_listK (K := K) rfl (pv 4)) (blkOk_by (by kernel_rfl)) (fun _ _ _ _ _ => (pg_tup rfl (pgs_cons (pg_name (i := 5) sc_nearly_pairs.nd rfl (Or.inl rfl)) (pgs_cons (pg_name (i := 6) sc_nearly_pairs.nd rfl (Or.inl rfl)) pgs_nil)))) (fun _ _ _ _ _ => (pts_one (pt_val (pe_fn h_is_within (hr.mono (by decide)) rfl (pa_cons (pv 5) (pa_cons (pv 3) pa_nil)))))) (fun _ _ _ _ _ => (pe_fn h_is_within (hr.mono (by decide)) rfl (pa_cons (pv 6) (pa_cons (pv 3) pa_nil))))) pa_nil)))))) (pss_cons (ps_expr (pe_bm PySem.F.plainAttrs_list PySem.F.slot_list_append PySem.F.type_list_append mt_append (pv 4) (pa_cons (pe_tup (pa_cons (pv 3) (pa_cons (pe_fn h_closure_in (hr.mono (by decide)) rfl (pa_cons (pv 1) (pa_cons (pv 3) pa_nil))) pa_nil))) pa_nil)))
      (pss_one (ps_if (pt_cmpR op_gt (pe_callB (call_lenK (K := K) rfl) rfl B.len_ (by decide +kernel) (pa_cons (pv 4) pa_nil)) (pe_const rfl B.mr) (nomark _)) (pss_one ps_break) pss_nil))) pss_nil)))
      (pss_one (ps_ret (pv 4))))))), ?_⟩
  rintro F0 _ _ ⟨n, cl, hn, hl, hc, rfl, rfl⟩ σ c kR
  have h5 := pow5 hn
  refine q_newD c fun σ1 H1 c1 => ?_
  refine q_for (ys := cl) (enc := nI) (fun i => [.da (nI n), .da (.list (cl.map nI)), .dk (cl.take i).reverse, .un, .un, .un, .un]) c1 (WI_list (E_var rfl)) (.of rfl) (fun i y hy => GF_name) (fun G1 e1 i y σ2 H2 hy c2 => ?_) fun σ2 H2 c2 => ?_
  · refine s_dput c2 rfl (E_var rfl) E_bl (by rw [List.length_reverse, List.length_take]; omega) fun H3 c3 => ?_
    show Con _ G1 [.da (nI n), .da (.list (cl.map nI)), .dk (cl.take (i + 1)).reverse, .un, .un, .un, .un] _ H3
    rw [List.take_add_one, hy, Option.toList_some, List.reverse_append]
    exact c3.lss (.cons (.cons (.cons (.un (.cons (.cons (.cons .nil)))))))
  · rw [List.take_length] at c2
    refine q_own c2 EA_nil fun σ3 H3 c3 => ?_
    have hol : (ord (List.range (1 <<< n))).length ≤ 32 := ord_range_len hn
    refine q_for (ys := ord (List.range (1 <<< n))) (enc := nI) (fun i => [.da (nI n), .da (.list (cl.map nI)), .dk cl.reverse, .un, .ow ((nearL cl (fun m => (cl.find? fun o => sub m o).getD 0) ((ord (List.range (1 <<< n))).take i)).map pairD), .un, .un]) c3 (WI_list (E_call (EA_1 (E_lstRg (E_op (E_nat 1) (E_var rfl) (rd_shl (by decide) (by omega))) (by rw [shl1]; omega))) ⟨List.range (1 <<< n), by rw [List.length_range, shl1]; omega, rfl, rfl⟩)) (.of rfl) (fun i y hy => GF_name) (fun G1 e1 i y σ4 H4 hy c4 => ?_) fun σ4 H4 c4 => ?_
    · generalize hacc : nearL cl (fun m => (cl.find? fun o => sub m o).getD 0) ((ord (List.range (1 <<< n))).take i) = acc at c4
      have hal : acc.length ≤ 32 := by rw [← hacc]; exact near_take_len hn _ _ i
      have hnext : nearL cl (fun m => (cl.find? fun o => sub m o).getD 0) ((ord (List.range (1 <<< n))).take (i + 1)) = nstep cl (fun m => (cl.find? fun o => sub m o).getD 0) acc y := by
        rw [← hacc]; unfold nearL; rw [foldl_take hy]
      have hlt := near_take_len hn cl (fun m => (cl.find? fun o => sub m o).getD 0) (i + 1)
      have hy2 : y < 2 ^ n := by
        have := mem_ord.mp (List.mem_of_getElem? hy)
        rwa [List.mem_range, shl1] at this
      refine s_when c4 (ET_and (x := !cl.reverse.contains y) (ET_B (E_dnin rfl (E_var rfl))) fun _ => ET_frz 4 rfl (ET_test (E_cb (EA_1 ((E_lc (ys := acc) (enc := pairD) (p := fun p => sub p.1 y) (f := fun p => .bool (sub p.2 y)) (WI_list (E_var rfl)) (by omega) (fun p _ => GB_pair (by decide) (by decide)) (fun p _ => ET_test (E_call (EA_2 (E_var rfl) (E_var rfl)) ⟨p.1, y, rfl, rfl⟩)) (fun p _ _ => E_call (EA_2 (E_var rfl) (E_var rfl)) ⟨p.2, y, rfl, rfl⟩)).to (d' := .list (((acc.filter fun p => sub p.1 y).map fun p => sub p.2 y).map PyData.bool)) (by rw [List.map_map]; rfl))) rc_all))) (fun ht H5 c5 => ?_) fun ht H5 c5 => ?_
      · rw [kept_prog, List.contains_reverse] at ht
        have hst : nstep cl (fun m => (cl.find? fun o => sub m o).getD 0) acc y = acc ++ [(y, (cl.find? fun o => sub y o).getD 0)] := by unfold nstep; rw [if_pos ht]
        obtain ⟨c0, hc0, hs0⟩ := hc y hy2
        have hfind : cl.find? (fun o => sub y o) = some ((cl.find? fun o => sub y o).getD 0) := by
          cases q : cl.find? (fun o => sub y o) with
          | none => exact absurd hs0 (List.find?_eq_none.mp q c0 hc0)
          | some z => rfl
        refine q_app c5 rfl (E_tup (EA_2 (E_var rfl) ((E_call (EA_2 (E_var rfl) (E_var rfl)) ⟨cl, y, rfl, rfl⟩).to (by rw [hfind])))) (by rw [List.length_map]; omega) fun H6 c6 => ?_
        have c7 : Con (bs0 F0 H) G1 [.da (nI n), .da (.list (cl.map nI)), .dk cl.reverse, .un, .ow ((nearL cl (fun m => (cl.find? fun o => sub m o).getD 0) ((ord (List.range (1 <<< n))).take (i + 1))).map pairD), .un, .un] σ4 H6 := by
          rw [hnext, hst, List.map_append]
          exact c6.lss (.cons (.cons (.cons (.un (.cons (.un (.un .nil)))))))
        refine s_when c7 (ET_frz 4 rfl (ET_test (E_op (E_cb (EA_1 (E_var rfl)) rc_lenL) (E_int (i := 60)) rd_gt))) (fun ht2 H7 c8 => ?_) fun ht2 H7 c8 => ?_
        · rw [decide_eq_true_iff, List.length_map] at ht2
          omega
        · exact c8
      · rw [kept_prog, List.contains_reverse] at ht
        have hst : nstep cl (fun m => (cl.find? fun o => sub m o).getD 0) acc y = acc := by unfold nstep; rw [ht]; rfl
        show Con _ G1 [.da (nI n), .da (.list (cl.map nI)), .dk cl.reverse, .un, .ow ((nearL cl (fun m => (cl.find? fun o => sub m o).getD 0) ((ord (List.range (1 <<< n))).take (i + 1))).map pairD), .un, .un] _ H5
        rw [hnext, hst]
        exact c5.lss (.cons (.cons (.cons (.un (.cons (.un (.un .nil)))))))
    · rw [List.take_length] at c4
      exact s_ret (c4.frz 4 rfl) (E_var rfl) kR
def R_stem_of (ds : List PyData) (d : PyData) : Prop := ∃ (n : Nat) (cl : List Nat), n ≤ 5 ∧ cl.length ≤ 1000 ∧ (∀ m, m < 2 ^ n → ∃ c ∈ cl, sub m c = true) ∧ ds = [nI n, .list (cl.map nI)] ∧ d = bookD n (stemR n cl)
theorem sc_stem_of : FnScope ["size", "closed", "found", "less", "full"] ["size", "closed"] (defScope s_stem_of) := ⟨rfl, rfl, rfl, by decide +kernel, rfl, by decide +kernel, by decide +kernel⟩
theorem ok_stem_of (B : Bl mg) (h_bits_rule : Has P w K mg base 2 "bits_rule" ["ahead", "behind"] (spD R_bits_rule)) (h_nearly_pairs : Has P w K mg base 6 "nearly_pairs" ["size", "closed"] (spD R_nearly_pairs)) (F : FnP K "stem_of" s_stem_of f fd) : FnOk P w K mg base CX0 7 f fd ["size", "closed"] (spD R_stem_of) := by
  refine pure_ok F sc_stem_of (by rintro _ _ ⟨n, cl, hn, hl, hc, rfl, rfl⟩; rfl) (by decide) fun cdv A outer s H Q X hr => ⟨_,
    (pss_cons (ps_set (i := 2) sc_stem_of.nd rfl (Or.inl rfl) (pe_fn h_nearly_pairs (hr.mono (by decide)) rfl (pa_cons (pv 0) (pa_cons (pv 1) pa_nil))))
      (pss_cons (ps_if (pt_cmpR op_gt (pe_callB (call_lenK (K := K) rfl) rfl B.len_ (by decide +kernel) (pa_cons (pv 2) pa_nil)) (pe_const rfl B.mr) (nomark _)) (pss_one ps_never) pss_nil)
      (pss_one (ps_ret (pe_tup (pa_cons (pv 0) (pa_cons (pe_callTy (call_tupK (K := K) rfl) rfl B.tuple_ (by decide +kernel) (pa_cons (pe_lc (own := [("less", 3), ("full", 4)]) (g := gTup K 2 (gCons (gName 3) (gCons (gName 4) gNil))) rfl sc_stem_of.nd (pi_listK (K := K) rfl (pv 2)) (blkOk_by (by kernel_rfl)) (fun _ _ _ _ _ => (pg_tup rfl (pgs_cons (pg_name (i := 3) sc_stem_of.nd rfl (Or.inl rfl)) (pgs_cons (pg_name (i := 4) sc_stem_of.nd rfl (Or.inl rfl)) pgs_nil)))) (fun _ _ _ _ _ => pts_nil) (fun _ _ _ _ _ => (pe_fn h_bits_rule (hr.mono (by decide)) rfl (pa_cons (pv 3) (pa_cons (pe_op op_and (pv 4) (pe_un un_inv (pv 3))) pa_nil))))) pa_nil)) pa_nil))))))), ?_⟩
  rintro F0 _ _ ⟨n, cl, hn, hl, hc, rfl, rfl⟩ σ c kR
  have hnl := near_len hn cl
  refine q_asg c (E_call (EA_2 (E_var rfl) (E_var rfl)) ⟨n, cl, hn, hl, hc, rfl, rfl⟩) fun σ1 H1 c1 => ?_
  refine q_when c1 (ET_test (E_op (E_cb (EA_1 (E_var rfl)) rc_lenL) (E_int (i := 60)) rd_gt)) (fun ht H2 c2 => ?_) fun ht H2 c2 => ?_
  · rw [decide_eq_true_iff, List.length_map] at ht
    omega
  · refine s_ret c2 (E_tup (EA_2 (E_var rfl) (E_cb (EA_1 (E_lc1 (ys := near n cl) (enc := pairD) (f := fun p => ruleD (p.1, diff p.2 p.1)) (WI_list (E_var rfl)) (by omega) (fun y _ => GB_pair (by decide) (by decide)) (fun y _ => E_call (EA_2 (E_var rfl) (E_op (E_var rfl) (E_un (E_var rfl) ru_inv) rd_diff)) ⟨y.1, diff y.2 y.1, rfl, rfl⟩))) rc_tuple))) ?_
    have e : bookD n (stemR n cl) = .tuple [nI n, .tuple ((near n cl).map fun p => ruleD (p.1, diff p.2 p.1))] := by unfold bookD stemR; rw [List.map_map]; rfl
    rw [e] at kR
    exact kR
def R_stem (ds : List PyData) (d : PyData) : Prop := ∃ (n : Nat) (rs : List (Nat × Nat)), Bk n rs ∧ ds = [bookD n rs] ∧ d = bookD n (stemR n (ord (fam n rs)))
theorem sc_stem : FnScope ["book"] ["book"] (defScope s_stem) := ⟨rfl, rfl, rfl, by decide +kernel, rfl, by decide +kernel, by decide +kernel⟩
theorem ok_stem (h_stem_of : Has P w K mg base 7 "stem_of" ["size", "closed"] (spD R_stem_of)) (h_closed_bits : Has P w K mg base 6 "closed_bits" ["book"] (spD R_closed_bits)) (F : FnP K "stem" s_stem f fd) : FnOk P w K mg base CX0 8 f fd ["book"] (spD R_stem) := by
  refine pure_ok F sc_stem (by rintro _ _ ⟨n, rs, hb, rfl, rfl⟩; rfl) (by decide) fun cdv A outer s H Q X hr => ⟨_,
    (pss_one (ps_ret (pe_fn h_stem_of (hr.mono (by decide)) rfl (pa_cons (pe_ix (ix_tupK (K := K) rfl) (pv 0) pe_int (fun _ _ => rfl)) (pa_cons (pe_fn h_closed_bits (hr.mono (by decide)) rfl (pa_cons (pv 0) pa_nil)) pa_nil))))), ?_⟩
  rintro F0 _ _ ⟨n, rs, hb, rfl, rfl⟩ σ c kR
  exact s_ret c (E_call (EA_2 (E_op (E_var rfl) (E_nat 0) (rd_ixT rfl)) (E_call (EA_1 (E_var rfl)) ⟨n, rs, hb, rfl, rfl⟩)) ⟨n, _, hb.n5, by rw [ord_len]; exact Nat.le_trans (fam_len rs hb.n5) (by decide), fun m hm => (hb.fm.same fun x => mem_ord.symm).has hm, rfl, rfl⟩) kR
def R_book_of_family (ds : List PyData) (d : PyData) : Prop := ∃ (n : Nat) (cl : List Nat), n ≤ 5 ∧ cl.length ≤ 1000 ∧ (∀ m, m < 2 ^ n → ∃ c ∈ cl, sub m c = true) ∧ ds = [nI n, .list (cl.map nI)] ∧ d = bookD n (stemR n (ord (ddp cl)))
theorem sc_book_of_family : FnScope ["size", "family", "own"] ["size", "family"] (defScope s_book_of_family) := ⟨rfl, rfl, rfl, by decide +kernel, rfl, by decide +kernel, by decide +kernel⟩
theorem ok_book_of_family (B : Bl mg) (h_stem_of : Has P w K mg base 7 "stem_of" ["size", "closed"] (spD R_stem_of)) (h_ordered : Has P w K mg base 5 "ordered" ["many_bits"] (spD R_ordered)) (F : FnP K "book_of_family" s_book_of_family f fd) : FnOk P w K mg base CX0 8 f fd ["size", "family"] (spD R_book_of_family) := by
  refine pure_ok F sc_book_of_family (by rintro _ _ ⟨n, cl, hn, hl, hc, rfl, rfl⟩; rfl) (by decide) fun cdv A outer s H Q X hr => ⟨_,
    (pss_one (ps_ret (pe_fn h_stem_of (hr.mono (by decide)) rfl (pa_cons (pv 0) (pa_cons (pe_fn h_ordered (hr.mono (by decide)) rfl (pa_cons (pe_callTy (call_list_dK rfl) rfl B.list_ (by decide +kernel) (pa_cons (pe_callTy (call_dictP rfl) rfl B.dict_ (by decide +kernel) (pa_cons (pe_lc (own := [("own", 2)]) rfl sc_book_of_family.nd (pi_listK (K := K) rfl (pv 1)) (blkOk_by (by kernel_rfl)) (fun _ _ _ _ _ => (pg_name (i := 2) sc_book_of_family.nd rfl (Or.inl rfl))) (fun _ _ _ _ _ => pts_nil) (fun _ _ _ _ _ => (pe_tup (pa_cons (pv 2) (pa_cons pe_bl pa_nil))))) pa_nil)) pa_nil)) pa_nil)) pa_nil))))), ?_⟩
  rintro F0 _ _ ⟨n, cl, hn, hl, hc, rfl, rfl⟩ σ c kR
  have hd := ddp_len cl
  refine s_ret c (E_call (EA_2 (E_var rfl) (E_call (EA_1 (E_ddp (E_lc1 (ys := cl) (enc := nI) (WI_list (E_var rfl)) (by omega) (fun y _ => GB_name (by decide)) (fun y _ => E_tup (EA_2 (E_var rfl) E_bl))))) ⟨ddp cl, by omega, rfl, rfl⟩)) ⟨n, ord (ddp cl), hn, by rw [ord_len]; omega, fun m hm => ?_, rfl, rfl⟩) kR
  obtain ⟨c0, h1, h2⟩ := hc m hm
  exact ⟨c0, mem_ord.mpr (mem_ddp.mpr h1), h2⟩
theorem chain_b (y k : Nat) : PyData.bool (true && (!false && (decide (((0 : Nat) : Int) ≤ ((y : Nat) : Int)) && decide (((y : Nat) : Int) < ((k : Nat) : Int))))) = .bool (decide (y < k)) := by
  have h : (((0 : Nat) : Int) ≤ ((y : Nat) : Int)) := by omega
  simp [h]
def IsMap (ws : List Nat) (k : Nat) : Prop := ws.length ≤ 5 ∧ ∀ w ∈ ws, w < k
def R_is_map (ds : List PyData) (d : PyData) : Prop := ∃ (k : Nat) (ws : List Nat), IsMap ws k ∧ ds = [nI ws.length, nI k, mapD ws] ∧ d = .bool true
theorem sc_is_map : FnScope ["size", "other_size", "value", "own"] ["size", "other_size", "value"] (defScope s_is_map) := ⟨rfl, rfl, rfl, by decide +kernel, rfl, by decide +kernel, by decide +kernel⟩
theorem ok_is_map (B : Bl mg) (F : FnP K "is_map" s_is_map f fd) : FnOk P w K mg base CX0 1 f fd ["size", "other_size", "value"] (spD R_is_map) := by
  refine pure_ok F sc_is_map (by rintro _ _ ⟨k, ws, hw, rfl, rfl⟩; rfl) (by decide) fun cdv A outer s H Q X hr => ⟨_,
    (pss_cons (ps_if (PW.pt (pw_or (pt_not (pt_val (pe_callB (call_isiK1 (K := K) rfl) rfl B.isinstance_ (by decide +kernel) (pa_cons (pv 2) (pa_cons (pe_ty (n := "tuple") rfl B.tuple_ (by decide +kernel)) pa_nil))))) (pw_or1 (pt_cmpR op_ne (pe_callB (call_lenK (K := K) rfl) rfl B.len_ (by decide +kernel) (pa_cons (pv 2) pa_nil)) (pv 0) (nomark _))))) (pss_one (ps_ret pe_bl)) pss_nil)
      (pss_one (ps_ret (pe_callB (cr_allK (K := K) rfl rfl) rfl B.all_ (by decide +kernel) (pa_cons (pe_lc (own := [("own", 3)]) rfl sc_is_map.nd (pi_tupK (K := K) rfl (pv 2)) (blkOk_by (by kernel_rfl)) (fun _ _ _ _ _ => (pg_name (i := 3) sc_is_map.nd rfl (Or.inl rfl))) (fun _ _ _ _ _ => pts_nil) (fun _ _ _ _ _ => (pe_and (pe_callB (call_isiK1 (K := K) rfl) rfl B.isinstance_ (by decide +kernel) (pa_cons (pv 3) (pa_cons (pe_ty (n := "int") rfl B.int_ (by decide +kernel)) pa_nil))) (pe_and (pe_not (pe_callB (call_isiK1 (K := K) rfl) rfl B.isinstance_ (by decide +kernel) (pa_cons (pv 3) (pa_cons (pe_ty (n := "bool") rfl B.bool_ (by decide +kernel)) pa_nil)))) (pe_one (pe_chain op_le op_lt pe_int (pv 3) (pv 1))))))) pa_nil))))), ?_⟩
  rintro F0 _ _ ⟨k, ws, hw, rfl, rfl⟩ σ c kR
  refine q_when c (ET_or (ET_not (ET_test (E_isi (b := true) (d := mapD ws) (E_var rfl) (show kitB "tuple" "tuple" = some true from by decide +kernel)))) fun _ => ET_test (E_op (E_cb (EA_1 (E_var rfl)) rc_lenT) (E_var rfl) rd_neN)) (fun ht H2 c2 => ?_) fun ht H2 c2 => ?_
  · rw [List.length_map] at ht
    simp at ht
  · refine s_ret c2 (E_cb (EA_1 ((E_lc1 (ys := ws) (enc := nI) (f := fun x => .bool (decide (x < k))) (WI_tup (E_var rfl)) (by have := hw.1; omega) (fun y _ => GB_name (by decide)) (fun y _ => (E_andV (E_isi (b := true) (d := nI y) (E_var rfl) (show kitB "int" "int" = some true from by decide +kernel)) fun _ => E_andV (E_notV (E_isi (b := false) (d := nI y) (E_var rfl) (show kitB "int" "bool" = some false from by decide +kernel))) fun _ => E_chain (E_nat 0) (E_var rfl) (E_var rfl) rd_le rd_lt).to (chain_b y k))).to (d' := .list ((ws.map fun x => decide (x < k)).map PyData.bool)) (by rw [List.map_map]; rfl))) rc_all) ?_
    have e : ((ws.map fun x => decide (x < k)).all id) = true := by
      rw [List.all_map, List.all_eq_true]
      exact fun x hx => decide_eq_true (hw.2 x hx)
    rw [e]
    exact kR
def R_need_map (ds : List PyData) (d : PyData) : Prop := ∃ (k : Nat) (ws : List Nat), IsMap ws k ∧ ds = [nI ws.length, nI k, mapD ws] ∧ d = .none
theorem sc_need_map : FnScope ["size", "other_size", "lead"] ["size", "other_size", "lead"] (defScope s_need_map) := ⟨rfl, rfl, rfl, by decide +kernel, rfl, by decide +kernel, by decide +kernel⟩
theorem ok_need_map (h_is_map : Has P w K mg base 1 "is_map" ["size", "other_size", "value"] (spD R_is_map)) (F : FnP K "need_map" s_need_map f fd) : FnOk P w K mg base CX0 2 f fd ["size", "other_size", "lead"] (spD R_need_map) := by
  refine pure_ok F sc_need_map (by rintro _ _ ⟨k, ws, hw, rfl, rfl⟩; rfl) (by decide) fun cdv A outer s H Q X hr => ⟨_,
    (pss_one (ps_if (pt_not (pt_val (pe_fn h_is_map (hr.mono (by decide)) rfl (pa_cons (pv 0) (pa_cons (pv 1) (pa_cons (pv 2) pa_nil)))))) (pss_one ps_never) pss_nil)), ?_⟩
  rintro F0 _ _ ⟨k, ws, hw, rfl, rfl⟩ σ c kR
  refine s_when c (ET_not (ET_test (E_call (EA_3 (E_var rfl) (E_var rfl) (E_var rfl)) ⟨k, ws, hw, rfl, rfl⟩))) (fun ht H2 c2 => by simp at ht) fun ht H2 c2 => ?_
  obtain ⟨F2, c2⟩ := c2
  exact kR _ _ (c2.ret .non)
def R_led_bits (ds : List PyData) (d : PyData) : Prop := ∃ (k : Nat) (ws : List Nat) (m : Nat), k ≤ 5 ∧ IsMap ws k ∧ ds = [mapD ws, nI m] ∧ d = nI (onM ws m)
theorem sc_led_bits : FnScope ["lead", "bits", "found", "thing", "own"] ["lead", "bits"] (defScope s_led_bits) := ⟨rfl, rfl, rfl, by decide +kernel, rfl, by decide +kernel, by decide +kernel⟩
theorem ok_led_bits (B : Bl mg) (F : FnP K "led_bits" s_led_bits f fd) : FnOk P w K mg base CX0 1 f fd ["lead", "bits"] (spD R_led_bits) := by
  refine pure_ok F sc_led_bits (by rintro _ _ ⟨k, ws, m, hk, hw, rfl, rfl⟩; rfl) (by decide) fun cdv A outer s H Q X hr => ⟨_,
    (pss_cons (ps_set (i := 2) sc_led_bits.nd rfl (Or.inl rfl) pe_int)
      (pss_cons (ps_for PassesOwn.never rfl (pi_enumT rfl B.enumerate_ (pa_cons (pv 0) pa_nil)) (pg_tup rfl (pgs_cons (pg_name (i := 3) sc_led_bits.nd rfl (Or.inl rfl)) (pgs_cons (pg_name (i := 4) sc_led_bits.nd rfl (Or.inl rfl)) pgs_nil))) (pss_one (ps_if (pt_truthK (K := K) rfl (pe_op op_and (pe_op op_shr (pv 1) (pv 3)) pe_int) (by intro _; rfl)) (pss_one (ps_set (i := 2) sc_led_bits.nd rfl (Or.inl rfl) (pe_op op_or (pv 2) (pe_op op_shl pe_int (pv 4))))) pss_nil)))
      (pss_one (ps_ret (pv 2))))), ?_⟩
  rintro F0 _ _ ⟨k, ws, m, hk, hw, rfl, rfl⟩ σ c kR
  refine q_asg c (E_nat 0) fun σ1 H1 c1 => ?_
  refine q_for (ys := enN 0 ws) (enc := pairD) (fun i => [.da (mapD ws), .da (nI m), .da (nI (((enN 0 ws).take i).foldl (fun b p => if m.testBit p.1 then b ||| 1 <<< p.2 else b) 0)), .un, .un]) c1 (by rw [← enumD_en]; exact WI_enumT (EA_1 (E_var rfl))) (.of rfl) (fun i y hy => GF_pair) (fun G1 e1 i y σ2 H2 hy c2 => ?_) fun σ2 H2 c2 => ?_
  · have hyk : y.2 < k := by
      obtain ⟨i, _, h2⟩ := enN_mem.mp (List.mem_of_getElem? hy)
      exact hw.2 _ (List.mem_of_getElem? h2)
    refine s_when c2 (ET_bit (E_op (E_op (E_var rfl) (E_var rfl) rd_shr) (E_nat 1) rd_and)) (fun ht H3 c3 => ?_) fun ht H3 c3 => ?_
    · refine s_asg c3 (E_op (E_var rfl) (E_op (E_nat 1) (E_var rfl) (rd_shl (by decide) (by omega))) rd_or) fun σ4 H4 c4 => ?_
      show Con _ G1 [.da (mapD ws), .da (nI m), .da (nI (((enN 0 ws).take (i + 1)).foldl (fun b p => if m.testBit p.1 then b ||| 1 <<< p.2 else b) 0)), .un, .un] σ4 H4
      rw [foldl_take hy, if_pos ht]
      exact c4.lss (.cons (.cons (.cons (.un (.un .nil)))))
    · show Con _ G1 [.da (mapD ws), .da (nI m), .da (nI (((enN 0 ws).take (i + 1)).foldl (fun b p => if m.testBit p.1 then b ||| 1 <<< p.2 else b) 0)), .un, .un] _ H3
      rw [foldl_take hy, ht]
      exact c3.lss (.cons (.cons (.cons (.un (.un .nil)))))
  · refine s_ret c2 (E_var rfl) ?_
    rw [List.take_length]
    exact kR
def R_source_bits (ds : List PyData) (d : PyData) : Prop := ∃ (ws : List Nat) (m : Nat), ws.length ≤ 5 ∧ ds = [mapD ws, nI m] ∧ d = nI (backM ws m)
theorem sc_source_bits : FnScope ["lead", "bits", "found", "thing", "own"] ["lead", "bits"] (defScope s_source_bits) := ⟨rfl, rfl, rfl, by decide +kernel, rfl, by decide +kernel, by decide +kernel⟩
theorem ok_source_bits (B : Bl mg) (F : FnP K "source_bits" s_source_bits f fd) : FnOk P w K mg base CX0 1 f fd ["lead", "bits"] (spD R_source_bits) := by
  refine pure_ok F sc_source_bits (by rintro _ _ ⟨ws, m, hw, rfl, rfl⟩; rfl) (by decide) fun cdv A outer s H Q X hr => ⟨_,
    (pss_cons (ps_set (i := 2) sc_source_bits.nd rfl (Or.inl rfl) pe_int)
      (pss_cons (ps_for PassesOwn.never rfl (pi_enumT rfl B.enumerate_ (pa_cons (pv 0) pa_nil)) (pg_tup rfl (pgs_cons (pg_name (i := 3) sc_source_bits.nd rfl (Or.inl rfl)) (pgs_cons (pg_name (i := 4) sc_source_bits.nd rfl (Or.inl rfl)) pgs_nil))) (pss_one (ps_if (pt_truthK (K := K) rfl (pe_op op_and (pe_op op_shr (pv 1) (pv 4)) pe_int) (by intro _; rfl)) (pss_one (ps_set (i := 2) sc_source_bits.nd rfl (Or.inl rfl) (pe_op op_or (pv 2) (pe_op op_shl pe_int (pv 3))))) pss_nil)))
      (pss_one (ps_ret (pv 2))))), ?_⟩
  rintro F0 _ _ ⟨ws, m, hw, rfl, rfl⟩ σ c kR
  refine q_asg c (E_nat 0) fun σ1 H1 c1 => ?_
  refine q_for (ys := enN 0 ws) (enc := pairD) (fun i => [.da (mapD ws), .da (nI m), .da (nI (((enN 0 ws).take i).foldl (fun b p => if m.testBit p.2 then b ||| 1 <<< p.1 else b) 0)), .un, .un]) c1 (by rw [← enumD_en]; exact WI_enumT (EA_1 (E_var rfl))) (.of rfl) (fun i y hy => GF_pair) (fun G1 e1 i y σ2 H2 hy c2 => ?_) fun σ2 H2 c2 => ?_
  · have hyk : y.1 < 5 := by
      obtain ⟨i, h1, h2⟩ := enN_mem.mp (List.mem_of_getElem? hy)
      have := (List.getElem?_eq_some_iff.mp h2).1
      omega
    refine s_when c2 (ET_bit (E_op (E_op (E_var rfl) (E_var rfl) rd_shr) (E_nat 1) rd_and)) (fun ht H3 c3 => ?_) fun ht H3 c3 => ?_
    · refine s_asg c3 (E_op (E_var rfl) (E_op (E_nat 1) (E_var rfl) (rd_shl (by decide) (by omega))) rd_or) fun σ4 H4 c4 => ?_
      show Con _ G1 [.da (mapD ws), .da (nI m), .da (nI (((enN 0 ws).take (i + 1)).foldl (fun b p => if m.testBit p.2 then b ||| 1 <<< p.1 else b) 0)), .un, .un] σ4 H4
      rw [foldl_take hy, if_pos ht]
      exact c4.lss (.cons (.cons (.cons (.un (.un .nil)))))
    · show Con _ G1 [.da (mapD ws), .da (nI m), .da (nI (((enN 0 ws).take (i + 1)).foldl (fun b p => if m.testBit p.2 then b ||| 1 <<< p.1 else b) 0)), .un, .un] _ H3
      rw [foldl_take hy, ht]
      exact c3.lss (.cons (.cons (.cons (.un (.un .nil)))))
  · refine s_ret c2 (E_var rfl) ?_
    rw [List.take_length]
    exact kR
def R_led (ds : List PyData) (d : PyData) : Prop := ∃ (k : Nat) (ws : List Nat) (m : Nat), k ≤ 5 ∧ IsMap ws k ∧ m < 1024 ∧ ds = [mapD ws, lotD m] ∧ d = lotD (onM ws m)
theorem sc_led : FnScope ["lead", "lot"] ["lead", "lot"] (defScope s_led) := ⟨rfl, rfl, rfl, by decide +kernel, rfl, by decide +kernel, by decide +kernel⟩
theorem ok_led (h_lot_of : Has P w K mg base 1 "lot_of" ["bits"] (spD R_lot_of)) (h_led_bits : Has P w K mg base 1 "led_bits" ["lead", "bits"] (spD R_led_bits)) (h_bits_of : Has P w K mg base 1 "bits_of" ["lot"] (spD R_bits_of)) (F : FnP K "led" s_led f fd) : FnOk P w K mg base CX0 2 f fd ["lead", "lot"] (spD R_led) := by
  refine pure_ok F sc_led (by rintro _ _ ⟨k, ws, m, hk, hw, hm, rfl, rfl⟩; rfl) (by decide) fun cdv A outer s H Q X hr => ⟨_,
    (pss_one (ps_ret (pe_fn h_lot_of (hr.mono (by decide)) rfl (pa_cons (pe_fn h_led_bits (hr.mono (by decide)) rfl (pa_cons (pv 0) (pa_cons (pe_fn h_bits_of (hr.mono (by decide)) rfl (pa_cons (pv 1) pa_nil)) pa_nil))) pa_nil)))), ?_⟩
  rintro F0 _ _ ⟨k, ws, m, hk, hw, hm, rfl, rfl⟩ σ c kR
  exact s_ret c (E_call (EA_1 (E_call (EA_2 (E_var rfl) (E_call (EA_1 (E_var rfl)) ⟨m, hm, rfl, rfl⟩)) ⟨k, ws, m, hk, hw, rfl, rfl⟩)) ⟨_, rfl, rfl⟩) kR
def R_source (ds : List PyData) (d : PyData) : Prop := ∃ (ws : List Nat) (m : Nat), ws.length ≤ 5 ∧ m < 1024 ∧ ds = [mapD ws, lotD m] ∧ d = lotD (backM ws m)
theorem sc_source : FnScope ["lead", "lot"] ["lead", "lot"] (defScope s_source) := ⟨rfl, rfl, rfl, by decide +kernel, rfl, by decide +kernel, by decide +kernel⟩
theorem ok_source (h_lot_of : Has P w K mg base 1 "lot_of" ["bits"] (spD R_lot_of)) (h_source_bits : Has P w K mg base 1 "source_bits" ["lead", "bits"] (spD R_source_bits)) (h_bits_of : Has P w K mg base 1 "bits_of" ["lot"] (spD R_bits_of)) (F : FnP K "source" s_source f fd) : FnOk P w K mg base CX0 2 f fd ["lead", "lot"] (spD R_source) := by
  refine pure_ok F sc_source (by rintro _ _ ⟨ws, m, hw, hm, rfl, rfl⟩; rfl) (by decide) fun cdv A outer s H Q X hr => ⟨_,
    (pss_one (ps_ret (pe_fn h_lot_of (hr.mono (by decide)) rfl (pa_cons (pe_fn h_source_bits (hr.mono (by decide)) rfl (pa_cons (pv 0) (pa_cons (pe_fn h_bits_of (hr.mono (by decide)) rfl (pa_cons (pv 1) pa_nil)) pa_nil))) pa_nil)))), ?_⟩
  rintro F0 _ _ ⟨ws, m, hw, hm, rfl, rfl⟩ σ c kR
  exact s_ret c (E_call (EA_1 (E_call (EA_2 (E_var rfl) (E_call (EA_1 (E_var rfl)) ⟨m, hm, rfl, rfl⟩)) ⟨ws, m, hw, rfl, rfl⟩)) ⟨_, rfl, rfl⟩) kR
/-- a map behind a map -/
def afterM (ws vs : List Nat) : List Nat := ws.map fun x => vs.getD x 0
def R_after (ds : List PyData) (d : PyData) : Prop := ∃ (ws vs : List Nat), IsMap ws vs.length ∧ ds = [mapD ws, mapD vs] ∧ d = mapD (afterM ws vs)
theorem sc_after : FnScope ["lead", "further", "own"] ["lead", "further"] (defScope s_after) := ⟨rfl, rfl, rfl, by decide +kernel, rfl, by decide +kernel, by decide +kernel⟩
theorem ok_after (B : Bl mg) (F : FnP K "after" s_after f fd) : FnOk P w K mg base CX0 1 f fd ["lead", "further"] (spD R_after) := by
  refine pure_ok F sc_after (by rintro _ _ ⟨ws, vs, hw, rfl, rfl⟩; rfl) (by decide) fun cdv A outer s H Q X hr => ⟨_,
    (pss_cons (ps_if (pt_val (pe_callB (cr_anyK (K := K) rfl rfl) rfl B.any_ (by decide +kernel) (pa_cons (pe_lc (own := [("own", 2)]) rfl sc_after.nd (pi_tupK (K := K) rfl (pv 0)) (blkOk_by (by kernel_rfl)) (fun _ _ _ _ _ => (pg_name (i := 2) sc_after.nd rfl (Or.inl rfl))) (fun _ _ _ _ _ => pts_nil) (fun _ _ _ _ _ => (pe_cmpR op_ge (pv 2) (pe_callB (call_lenK (K := K) rfl) rfl B.len_ (by decide +kernel) (pa_cons (pv 1) pa_nil)) (nomark _)))) pa_nil))) (pss_one ps_never) pss_nil)
      (pss_one (ps_ret (pe_callTy (call_tupK (K := K) rfl) rfl B.tuple_ (by decide +kernel) (pa_cons (pe_lc (own := [("own", 2)]) rfl sc_after.nd (pi_tupK (K := K) rfl (pv 0)) (blkOk_by (by kernel_rfl)) (fun _ _ _ _ _ => (pg_name (i := 2) sc_after.nd rfl (Or.inl rfl))) (fun _ _ _ _ _ => pts_nil) (fun _ _ _ _ _ => (pe_ix (ix_tupK (K := K) rfl) (pv 1) (pv 2) (fun _ _ => rfl)))) pa_nil))))), ?_⟩
  rintro F0 _ _ ⟨ws, vs, hw, rfl, rfl⟩ σ c kR
  refine q_when c (ET_test (E_cb (EA_1 ((E_lc1 (ys := ws) (enc := nI) (f := fun x => .bool (decide (vs.length ≤ x))) (WI_tup (E_var rfl)) (by have := hw.1; omega) (fun y _ => GB_name (by decide)) (fun y _ => (E_op (E_var rfl) (E_cb (EA_1 (E_var rfl)) rc_lenT) rd_ge).to (by rw [List.length_map]; simp))).to (d' := .list ((ws.map fun x => decide (vs.length ≤ x)).map PyData.bool)) (by rw [List.map_map]; rfl))) rc_any)) (fun ht H2 c2 => ?_) fun ht H2 c2 => ?_
  · rw [List.any_map, List.any_eq_true] at ht
    obtain ⟨x, hx, h⟩ := ht
    have := hw.2 x hx
    simp at h
    omega
  · refine s_ret c2 (E_cb (EA_1 (E_lc1 (ys := ws) (enc := nI) (f := fun x => nI (vs.getD x 0)) (WI_tup (E_var rfl)) (by have := hw.1; omega) (fun y _ => GB_name (by decide)) (fun y hy => E_op (E_var rfl) (E_var rfl) (rd_ixT (by
      have := hw.2 y hy
      rw [List.getElem?_map, List.getElem?_eq_getElem this, List.getD_eq_getElem?_getD, List.getElem?_eq_getElem this]; rfl))))) rc_tuple) ?_
    have e : mapD (afterM ws vs) = .tuple (ws.map fun x => nI (vs.getD x 0)) := by unfold mapD afterM; rw [List.map_map]; rfl
    rw [e] at kR
    exact kR
def pullR (k : Nat) (rs : List (Nat × Nat)) (ws : List Nat) : List (Nat × Nat) := stemR ws.length (ord (ddp ((ord (fam k rs)).map (backM ws))))
def R_pulled (ds : List PyData) (d : PyData) : Prop := ∃ (k : Nat) (rs : List (Nat × Nat)) (ws : List Nat), Bk k rs ∧ IsMap ws k ∧ ds = [bookD k rs, mapD ws] ∧ d = bookD ws.length (pullR k rs ws)
theorem sc_pulled : FnScope ["other", "lead", "own"] ["other", "lead"] (defScope s_pulled) := ⟨rfl, rfl, rfl, by decide +kernel, rfl, by decide +kernel, by decide +kernel⟩
theorem ok_pulled (B : Bl mg) (h_book_of_family : Has P w K mg base 8 "book_of_family" ["size", "family"] (spD R_book_of_family)) (h_closed_bits : Has P w K mg base 6 "closed_bits" ["book"] (spD R_closed_bits)) (h_source_bits : Has P w K mg base 1 "source_bits" ["lead", "bits"] (spD R_source_bits)) (h_need_map : Has P w K mg base 2 "need_map" ["size", "other_size", "lead"] (spD R_need_map)) (F : FnP K "pulled" s_pulled f fd) : FnOk P w K mg base CX0 9 f fd ["other", "lead"] (spD R_pulled) := by
  refine pure_ok F sc_pulled (by rintro _ _ ⟨k, rs, ws, hb, hw, rfl, rfl⟩; rfl) (by decide) fun cdv A outer s H Q X hr => ⟨_,
    (pss_cons (ps_expr (pe_fn h_need_map (hr.mono (by decide)) rfl (pa_cons (pe_callB (call_lenK (K := K) rfl) rfl B.len_ (by decide +kernel) (pa_cons (pv 1) pa_nil)) (pa_cons (pe_ix (ix_tupK (K := K) rfl) (pv 0) pe_int (fun _ _ => rfl)) (pa_cons (pv 1) pa_nil)))))
      (pss_one (ps_ret (pe_fn h_book_of_family (hr.mono (by decide)) rfl (pa_cons (pe_callB (call_lenK (K := K) rfl) rfl B.len_ (by decide +kernel) (pa_cons (pv 1) pa_nil)) (pa_cons (pe_lc (own := [("own", 2)]) rfl sc_pulled.nd (pi_listK (K := K) rfl (pe_fn h_closed_bits (hr.mono (by decide)) rfl (pa_cons (pv 0) pa_nil))) (blkOk_by (by kernel_rfl)) (fun _ _ _ _ _ => (pg_name (i := 2) sc_pulled.nd rfl (Or.inl rfl))) (fun _ _ _ _ _ => pts_nil) (fun _ _ _ _ _ => (pe_fn h_source_bits (hr.mono (by decide)) rfl (pa_cons (pv 1) (pa_cons (pv 2) pa_nil))))) pa_nil)))))), ?_⟩
  rintro F0 _ _ ⟨k, rs, ws, hb, hw, rfl, rfl⟩ σ c kR
  have hfl := fam_len rs hb.n5
  have hlen : E (tCB (fun xs H Q => ∃ x n, xs = [x] ∧ LenV K x H n ∧ Q (.int n) H) (tCons (tVar 1) tNil)) [.da (bookD k rs), .da (mapD ws), .un] (nI ws.length) := (E_cb (EA_1 (E_var rfl)) rc_lenT).to (by rw [List.length_map])
  refine q_drop c (E_call (EA_3 hlen (E_op (E_var rfl) (E_nat 0) (rd_ixT rfl)) (E_var rfl)) ⟨k, ws, hw, rfl, rfl⟩) fun H1 c1 => ?_
  refine s_ret c1 (E_call (EA_2 hlen ((E_lc1 (ys := ord (fam k rs)) (enc := nI) (f := fun o => nI (backM ws o)) (WI_list (E_call (EA_1 (E_var rfl)) ⟨k, rs, hb, rfl, rfl⟩)) (by rw [ord_len]; omega) (fun y _ => GB_name (by decide)) (fun y _ => E_call (EA_2 (E_var rfl) (E_var rfl)) ⟨ws, y, hw.1, rfl, rfl⟩)).to (d' := .list (((ord (fam k rs)).map (backM ws)).map nI)) (by rw [List.map_map]; rfl))) ⟨ws.length, _, hw.1, by rw [List.length_map, ord_len]; omega, fun m hm => ((hb.fm.same fun x => mem_ord.symm).pull hw.2 hw.1).has hm, rfl, rfl⟩) kR
def pushR (rs : List (Nat × Nat)) (k : Nat) (ws : List Nat) : List (Nat × Nat) := stemR k (ord (ddp (pushL k (fam ws.length rs) ws)))
def R_pushed (ds : List PyData) (d : PyData) : Prop := ∃ (rs : List (Nat × Nat)) (k : Nat) (ws : List Nat), Bk ws.length rs ∧ k ≤ 5 ∧ IsMap ws k ∧ ds = [bookD ws.length rs, nI k, mapD ws] ∧ d = bookD k (pushR rs k ws)
theorem sc_pushed : FnScope ["book", "other_size", "lead", "closed", "own"] ["book", "other_size", "lead"] (defScope s_pushed) := ⟨rfl, rfl, rfl, by decide +kernel, rfl, by decide +kernel, by decide +kernel⟩
theorem ok_pushed (B : Bl mg) (h_book_of_family : Has P w K mg base 8 "book_of_family" ["size", "family"] (spD R_book_of_family)) (h_source_bits : Has P w K mg base 1 "source_bits" ["lead", "bits"] (spD R_source_bits)) (h_closed_bits : Has P w K mg base 6 "closed_bits" ["book"] (spD R_closed_bits)) (h_need_map : Has P w K mg base 2 "need_map" ["size", "other_size", "lead"] (spD R_need_map)) (F : FnP K "pushed" s_pushed f fd) : FnOk P w K mg base CX0 9 f fd ["book", "other_size", "lead"] (spD R_pushed) := by
  refine pure_ok F sc_pushed (by rintro _ _ ⟨rs, k, ws, hb, hk, hw, rfl, rfl⟩; rfl) (by decide) fun cdv A outer s H Q X hr => ⟨_,
    (pss_cons (ps_expr (pe_fn h_need_map (hr.mono (by decide)) rfl (pa_cons (pe_ix (ix_tupK (K := K) rfl) (pv 0) pe_int (fun _ _ => rfl)) (pa_cons (pv 1) (pa_cons (pv 2) pa_nil)))))
      (pss_cons (ps_set (i := 3) sc_pushed.nd rfl (Or.inr rfl) (pe_callTy (call_dictP rfl) rfl B.dict_ (by decide +kernel) (pa_cons (pe_lc (own := [("own", 4)]) rfl sc_pushed.nd (pi_listK (K := K) rfl (pe_fn h_closed_bits (hr.mono (by decide)) rfl (pa_cons (pv 0) pa_nil))) (blkOk_by (by kernel_rfl)) (fun _ _ _ _ _ => (pg_name (i := 4) sc_pushed.nd rfl (Or.inl rfl))) (fun _ _ _ _ _ => pts_nil) (fun _ _ _ _ _ => (pe_tup (pa_cons (pv 4) (pa_cons pe_bl pa_nil))))) pa_nil)))
      (pss_one (ps_ret (pe_fn h_book_of_family (hr.mono (by decide)) rfl (pa_cons (pv 1) (pa_cons (pe_lc (own := [("own", 4)]) rfl sc_pushed.nd (pi_range1 rfl B.range_ (pa_cons (pe_op op_shl pe_int (pv 1)) pa_nil)) (blkOk_by (by kernel_rfl)) (fun _ _ _ _ _ => (pg_name (i := 4) sc_pushed.nd rfl (Or.inl rfl))) (fun _ _ _ _ _ => (pts_one (pt_cmp (pc_din (hu_of hr) (pe_fn h_source_bits (hr.mono (by decide)) rfl (pa_cons (pv 2) (pa_cons (pv 4) pa_nil))) (pv 3))))) (fun _ _ _ _ _ => (pv 4))) pa_nil))))))), ?_⟩
  rintro F0 _ _ ⟨rs, k, ws, hb, hk, hw, rfl, rfl⟩ σ c kR
  have hfl := fam_len rs hb.n5
  have h5 := pow5 hk
  refine q_drop c (E_call (EA_3 (E_op (E_var rfl) (E_nat 0) (rd_ixT rfl)) (E_var rfl) (E_var rfl)) ⟨k, ws, hw, rfl, rfl⟩) fun H1 c1 => ?_
  refine q_dict c1 (E_lc1 (ys := ord (fam ws.length rs)) (enc := nI) (WI_list (E_call (EA_1 (E_var rfl)) ⟨ws.length, rs, hb, rfl, rfl⟩)) (by rw [ord_len]; omega) (fun y _ => GB_name (by decide)) (fun y _ => E_tup (EA_2 (E_var rfl) E_bl))) fun σ2 H2 c2 => ?_
  refine s_ret c2 (E_call (EA_2 (E_var rfl) ((E_lc (ys := List.range (1 <<< k)) (enc := nI) (f := nI) (p := fun m => (ord (fam ws.length rs)).contains (backM ws m)) (WI_rng (EA_1 (E_op (E_nat 1) (E_var rfl) (rd_shl (by decide) (by omega)))) (by rw [shl1]; omega)) (by rw [List.length_range, shl1]; omega) (fun y _ => GB_name (by decide)) (fun y _ => ET_B (E_din rfl (E_call (EA_2 (E_var rfl) (E_var rfl)) ⟨ws, y, hw.1, rfl, rfl⟩))) (fun y _ _ => E_var rfl)).to (d' := .list ((pushL k (fam ws.length rs) ws).map nI)) ?_)) ⟨k, _, hk, ?_, fun m hm => (hb.fm.push hw.2 hk).has hm, rfl, rfl⟩) kR
  · unfold pushL
    congr 2
    refine List.filter_congr fun m _ => ?_
    rw [Bool.eq_iff_iff, List.contains_iff_mem, List.contains_iff_mem, mem_ord]
  · unfold pushL
    refine Nat.le_trans (List.length_filter_le _ _) ?_
    rw [List.length_range, shl1]
    omega
end
end ML
set_option Elab.async false
set_option linter.all false
set_option maxRecDepth 100000
set_option maxHeartbeats 2000000
namespace ML
open PySem L2
open Evl (Ex fresh_back)

theorem canLay_intsL : ∀ l : List Int, PyData.canLayAll0 (l.map .int) = true
  | [] => by rw [List.map_nil, PyData.canLayAll0]
  | x :: l => by rw [List.map_cons, PyData.canLayAll0, canLay_intsL l, PyData.canLay0]; rfl
theorem shaped_intsL (l : List Int) : SeqAt.shaped (.list (l.map .int)) = true := by
  unfold SeqAt.shaped
  rw [PyData.canLay0, canLay_intsL, PyData.depth, PySem.W.depth_ints]
  decide
theorem shaped_ones (l : List PyData) (h : ∀ x ∈ l, x = .int 1) : SeqAt.shaped (.list l) = true := by
  have e : l = (List.replicate l.length (1 : Int)).map PyData.int := by
    rw [List.map_replicate]
    exact List.eq_replicate_iff.mpr ⟨rfl, h⟩
  rw [e]
  exact shaped_intsL _
theorem eqv_nilL (l : List PyData) : PyData.eqv (.list l) (.list []) = l.isEmpty := by
  cases l with
  | nil => simp [PyData.eqv, PyData.eqvAll]
  | cons a l => simp [PyData.eqv, PyData.eqvAll]
/-- [1 for .. if ..] == [] -/
theorem rd_none {K : PySem.W.Frag} {α : Type} {l : List α} {p : α → Bool} : RD (rEqD K) (.list ((l.filter p).map fun _ => .int 1)) (.list []) (.bool (!l.any p)) := by
  refine (rd_eqD (shaped_ones _ ?_) rfl).to ?_
  · intro x hx
    obtain ⟨_, _, rfl⟩ := List.mem_map.mp hx
    rfl
  · rw [eqv_nilL, List.isEmpty_map]
    congr 1
    rw [Bool.eq_iff_iff, List.isEmpty_iff, List.filter_eq_nil_iff, Bool.not_eq_true', ← Bool.not_eq_true, List.any_eq_true]
    exact ⟨fun h ⟨x, hx, hp⟩ => h x hx hp, fun h x hx hp => h ⟨x, hx, hp⟩⟩
theorem kept_none (rs : List (Nat × Nat)) (m : Nat) : (!rs.any fun r => sub r.1 m && !sub r.2 m) = kept rs m := by
  unfold kept
  induction rs with
  | nil => rfl
  | cons r rs ih =>
    rw [List.any_cons, List.all_cons, ← ih, Bool.not_or, Bool.not_and, Bool.not_not]

section
variable {P : Program} {w : World} {K : PySem.W.Frag} {mg : Str → Option Value} {base : Heap} {f : Addr} {fd : FuncData}

def R_things_in (ds : List PyData) (d : PyData) : Prop := ∃ m : Nat, m < 1024 ∧ ds = [nI m] ∧ d = .list ((lotM m).map nI)
theorem sc_things_in : FnScope ["bits", "thing"] ["bits"] (defScope s_things_in) := ⟨rfl, rfl, rfl, by decide +kernel, rfl, by decide +kernel, by decide +kernel⟩
theorem ok_things_in (B : Bl mg) (F : FnP K "things_in" s_things_in f fd) : FnOk P w K mg base CX0 1 f fd ["bits"] (spD R_things_in) := by
  refine pure_ok F sc_things_in (by rintro _ _ ⟨m, hm, rfl, rfl⟩; rfl) (by decide) fun cdv A outer s H Q X hr => ⟨_,
    (pss_one (ps_ret (pe_lc (own := [("thing", 1)]) rfl sc_things_in.nd (pi_range1 rfl B.range_ (pa_cons (pe_bits (pv 0)) pa_nil)) (blkOk_by (by kernel_rfl)) (fun _ _ _ _ _ => (pg_name (i := 1) sc_things_in.nd rfl (Or.inl rfl))) (fun _ _ _ _ _ => (pts_one (pt_truthK (K := K) rfl (pe_op op_and (pe_op op_shr (pv 0) (pv 1)) pe_int) (by intro _; rfl)))) (fun _ _ _ _ _ => (pv 1))))), ?_⟩
  rintro F0 _ _ ⟨m, hm, rfl, rfl⟩ σ c kR
  have hb := intBits_le hm
  refine s_ret c ((E_lc (ys := List.range (Builtin.Int.intBits (m : Int))) (enc := nI) (f := nI) (p := fun t => m.testBit t) (WI_rng (EA_1 (E_bits (E_var rfl))) (by omega)) (by rw [List.length_range]; omega) (fun y _ => GB_name (by decide)) (fun y _ => ET_bit (E_op (E_op (E_var rfl) (E_var rfl) rd_shr) (E_nat 1) rd_and)) (fun y _ _ => E_var rfl)).to (d' := .list ((lotM m).map nI)) (by rw [things_eq hm])) kR
def R_lots_within (ds : List PyData) (d : PyData) : Prop := ∃ (n m : Nat), n ≤ 5 ∧ m < 2 ^ n ∧ ds = [nI m] ∧ d = .list ((lotsW m).map nI)
theorem sc_lots_within : FnScope ["bits", "many", "thing", "own"] ["bits"] (defScope s_lots_within) := ⟨rfl, rfl, rfl, by decide +kernel, rfl, by decide +kernel, by decide +kernel⟩
theorem ok_lots_within (h_things_in : Has P w K mg base 1 "things_in" ["bits"] (spD R_things_in)) (F : FnP K "lots_within" s_lots_within f fd) : FnOk P w K mg base CX0 2 f fd ["bits"] (spD R_lots_within) := by
  refine pure_ok F sc_lots_within (by rintro _ _ ⟨n, m, hn, hm, rfl, rfl⟩; rfl) (by decide) fun cdv A outer s H Q X hr => ⟨_,
    (pss_cons (ps_set (i := 1) sc_lots_within.nd rfl (Or.inl rfl) (pe_lst (pa_cons pe_int pa_nil)))
      (pss_cons (ps_for PassesOwn.never rfl (pi_listK (K := K) rfl (pe_fn h_things_in (hr.mono (by decide)) rfl (pa_cons (pv 0) pa_nil))) (pg_name (i := 2) sc_lots_within.nd rfl (Or.inr rfl)) (pss_one (ps_expr (pe_bm PySem.F.plainAttrs_list PySem.F.slot_list_extend PySem.F.type_list_extend mt_extend (pv 1) (pa_cons (pe_lc (own := [("own", 3)]) rfl sc_lots_within.nd (pi_listK (K := K) rfl (pv 1)) (blkOk_by (by kernel_rfl)) (fun _ _ _ _ _ => (pg_name (i := 3) sc_lots_within.nd rfl (Or.inl rfl))) (fun _ _ _ _ _ => pts_nil) (fun _ _ _ _ _ => (pe_op op_or (pv 3) (pe_op op_shl pe_int (pv 2))))) pa_nil)))))
      (pss_one (ps_ret (pv 1))))), ?_⟩
  rintro F0 _ _ ⟨n, m, hn, hm, rfl, rfl⟩ σ c kR
  have hm10 := lt1024 hn hm
  have hlen : (lotM m).length ≤ 5 := by
    have h1 := (lotM_sub (sub_top hm)).length_le
    rw [lotM_top hn, List.length_range] at h1
    omega
  refine q_own c (EA_1 (E_nat 0)) fun σ1 H1 c1 => ?_
  refine q_for (ys := lotM m) (enc := nI) (fun i => [.da (nI m), .ow ((((lotM m).take i).foldl wstep [0]).map nI), .un, .un]) c1 (WI_list (E_call (EA_1 (E_var rfl)) ⟨m, hm10, rfl, rfl⟩)) (.of rfl) (fun i y hy => GF_name) (fun G1 e1 i y σ2 H2 hy c2 => ?_) fun σ2 H2 c2 => ?_
  · have hy5 : y < 10 := (mem_lotM.mp (List.mem_of_getElem? hy)).1
    have hacc : (((lotM m).take i).foldl wstep [0]).length ≤ 32 := by
      rw [wfold_len, List.length_take, List.length_singleton, Nat.one_mul]
      exact Nat.le_trans (Nat.pow_le_pow_right (n := 2) (by decide) (show min i (lotM m).length ≤ 5 by omega)) (by decide)
    refine s_ext (ns := (((lotM m).take i).foldl wstep [0]).map fun o => o ||| 1 <<< y) c2 rfl ((E_lc1 (ys := ((lotM m).take i).foldl wstep [0]) (enc := nI) (f := fun o => nI (o ||| 1 <<< y)) (WI_list (E_var rfl)) (by omega) (fun o _ => GB_name (by decide)) (fun o _ => E_op (E_var rfl) (E_op (E_nat 1) (E_var rfl) (rd_shl (by decide) (by omega))) rd_or)).to (by rw [List.map_map]; rfl)) (by rw [List.length_map, List.length_map]; omega) fun H3 c3 => ?_
    show Con _ G1 [.da (nI m), .ow ((((lotM m).take (i + 1)).foldl wstep [0]).map nI), .un, .un] _ H3
    rw [foldl_take hy]
    unfold wstep
    rw [List.map_append]
    exact c3.lss (.cons (.cons (.un (.un .nil))))
  · rw [List.take_length] at c2
    exact s_ret (c2.frz 1 rfl) (E_var rfl) kR
def clD (N : Nat) (g : Nat → Nat) : PyData := .list ((List.range N).map fun x => nI (g x))
theorem clD_at {N m : Nat} (g : Nat → Nat) (h : m < N) : ((List.range N).map fun x => nI (g x))[m]? = some (nI (g m)) := by rw [List.getElem?_map, List.getElem?_range h]; rfl
def R_closures_of (ds : List PyData) (d : PyData) : Prop := ∃ (n : Nat) (rs : List (Nat × Nat)), Bk n rs ∧ ds = [bookD n rs] ∧ d = clD (2 ^ n) (clo n rs)
theorem sc_closures_of : FnScope ["book", "rules", "own"] ["book"] (defScope s_closures_of) := ⟨rfl, rfl, rfl, by decide +kernel, rfl, by decide +kernel, by decide +kernel⟩
theorem ok_closures_of (B : Bl mg) (h_bits_closure : Has P w K mg base 2 "bits_closure" ["rules", "bits"] (spD R_bits_closure)) (h_rule_bits : Has P w K mg base 2 "rule_bits" ["book"] (spD R_rule_bits)) (F : FnP K "closures_of" s_closures_of f fd) : FnOk P w K mg base CX0 3 f fd ["book"] (spD R_closures_of) := by
  refine pure_ok F sc_closures_of (by rintro _ _ ⟨n, rs, hb, rfl, rfl⟩; rfl) (by decide) fun cdv A outer s H Q X hr => ⟨_,
    (pss_cons (ps_set (i := 1) sc_closures_of.nd rfl (Or.inr rfl) (pe_fn h_rule_bits (hr.mono (by decide)) rfl (pa_cons (pv 0) pa_nil)))
      (pss_one (ps_ret (pe_lc (own := [("own", 2)]) rfl sc_closures_of.nd (pi_range1 rfl B.range_ (pa_cons (pe_op op_shl pe_int (pe_ix (ix_tupK (K := K) rfl) (pv 0) pe_int (fun _ _ => rfl))) pa_nil)) (blkOk_by (by kernel_rfl)) (fun _ _ _ _ _ => (pg_name (i := 2) sc_closures_of.nd rfl (Or.inl rfl))) (fun _ _ _ _ _ => pts_nil) (fun _ _ _ _ _ => (pe_fn h_bits_closure (hr.mono (by decide)) rfl (pa_cons (pv 1) (pa_cons (pv 2) pa_nil)))))))), ?_⟩
  rintro F0 _ _ ⟨n, rs, hb, rfl, rfl⟩ σ c kR
  have h5 := pow5 hb.n5
  refine q_asg c (E_call (EA_1 (E_var rfl)) ⟨n, rs, hb.small, hb.l1000, rfl, rfl⟩) fun σ1 H1 c1 => ?_
  refine s_ret c1 ((E_lc1 (ys := List.range (1 <<< n)) (enc := nI) (f := fun x => nI (clo n rs x)) (WI_rng (EA_1 (E_op (E_nat 1) (E_op (E_var rfl) (E_nat 0) (rd_ixT rfl)) (rd_shl (by decide) (by have := hb.n5; omega)))) (by rw [shl1]; omega)) (by rw [List.length_range, shl1]; omega) (fun o _ => GB_name (by decide)) (fun o ho => ?_)).to (d' := clD (2 ^ n) (clo n rs)) (by unfold clD; rw [shl1])) kR
  rw [List.mem_range, shl1] at ho
  exact E_call (EA_2 (E_var rfl) (E_var rfl)) ⟨rs, o, _, hb.small, lt1024 hb.n5 ho, hb.clo ho, rfl, rfl⟩
def R_spare_by (ds : List PyData) (d : PyData) : Prop := ∃ (N : Nat) (g : Nat → Nat) (m : Nat), m < N ∧ m < 1024 ∧ ds = [clD N g, nI m] ∧ d = optN (spareF g m)
theorem sc_spare_by : FnScope ["closures", "bits", "thing"] ["closures", "bits"] (defScope s_spare_by) := ⟨rfl, rfl, rfl, by decide +kernel, rfl, by decide +kernel, by decide +kernel⟩
theorem ok_spare_by (h_things_in : Has P w K mg base 1 "things_in" ["bits"] (spD R_things_in)) (F : FnP K "spare_by" s_spare_by f fd) : FnOk P w K mg base CX0 2 f fd ["closures", "bits"] (spD R_spare_by) := by
  refine pure_ok F sc_spare_by (by rintro _ _ ⟨N, g, m, hN, hm, rfl, rfl⟩; rfl) (by decide) fun cdv A outer s H Q X hr => ⟨_,
    (pss_cons (ps_for PassesOwn.never rfl (pi_listK (K := K) rfl (pe_fn h_things_in (hr.mono (by decide)) rfl (pa_cons (pv 1) pa_nil))) (pg_name (i := 2) sc_spare_by.nd rfl (Or.inl rfl)) (pss_one (ps_if (pt_truthK (K := K) rfl (pe_op op_and (pe_op op_shr (pe_ix (ix_listK (K := K) rfl) (pv 0) (pe_op op_and (pv 1) (pe_un un_inv (pe_op op_shl pe_int (pv 2)))) (fun _ _ => rfl)) (pv 2)) pe_int) (by intro _; rfl)) (pss_one (ps_ret (pv 2))) pss_nil)))
      (pss_one (ps_ret pe_non))), ?_⟩
  rintro F0 _ _ ⟨N, g, m, hN, hm, rfl, rfl⟩ σ c kR
  refine q_forP (ys := lotM m) (enc := nI) (fun i => [.da (clD N g), .da (nI m), .un]) (fun i => ((lotM m).take i).find? (fun t => (g (diff m (1 <<< t))).testBit t) = none) c (WI_list (E_call (EA_1 (E_var rfl)) ⟨m, hm, rfl, rfl⟩)) (.of rfl) rfl (fun i y hy => GF_name) (fun G1 e1 i y σ2 H2 hy pf c2 => ?_) fun σ2 H2 pf c2 => ?_
  · have hy5 : y < 10 := (mem_lotM.mp (List.mem_of_getElem? hy)).1
    refine s_when c2 (ET_bit (E_op (E_op (E_op (E_var rfl) (E_op (E_var rfl) (E_un (E_op (E_nat 1) (E_var rfl) (rd_shl (by decide) (by omega))) ru_inv) rd_diff) (rd_ixL (clD_at g (Nat.lt_of_le_of_lt (sub_le (diff_sub m (1 <<< y))) hN)))) (E_var rfl) rd_shr) (E_nat 1) rd_and)) (fun ht H3 c3 => ?_) fun ht H3 c3 => ?_
    · refine s_ret c3 (E_var rfl) fun v H4 q => kR v H4 ?_
      unfold spareF
      rw [find_take hy pf, if_pos ht]
      exact q.less e1
    · exact ⟨find_next hy pf ht, c3.lss (.cons (.cons (.un .nil)))⟩
  · refine s_ret c2 E_non ?_
    rw [List.take_length] at pf
    unfold spareF at kR
    rw [pf] at kR
    exact kR
def R_makers_by (ds : List PyData) (d : PyData) : Prop := ∃ (n : Nat) (g : Nat → Nat) (m : Nat), n ≤ 5 ∧ (∀ x, x < 2 ^ n → g x < 2 ^ n) ∧ m < 2 ^ n ∧ ds = [clD (2 ^ n) g, nI m] ∧ d = .list ((ord (mkL g m)).map nI)
theorem sc_makers_by : FnScope ["closures", "bits", "whole", "some", "own"] ["closures", "bits"] (defScope s_makers_by) := ⟨rfl, rfl, rfl, by decide +kernel, rfl, by decide +kernel, by decide +kernel⟩
theorem ok_makers_by (h_ordered : Has P w K mg base 5 "ordered" ["many_bits"] (spD R_ordered)) (h_spare_by : Has P w K mg base 2 "spare_by" ["closures", "bits"] (spD R_spare_by)) (h_lots_within : Has P w K mg base 2 "lots_within" ["bits"] (spD R_lots_within)) (F : FnP K "makers_by" s_makers_by f fd) : FnOk P w K mg base CX0 6 f fd ["closures", "bits"] (spD R_makers_by) := by
  refine pure_ok F sc_makers_by (by rintro _ _ ⟨n, g, m, hn, hg, hm, rfl, rfl⟩; rfl) (by decide) fun cdv A outer s H Q X hr => ⟨_,
    (pss_cons (ps_set (i := 2) sc_makers_by.nd rfl (Or.inr rfl) (pe_ix (ix_listK (K := K) rfl) (pv 0) (pv 1) (fun _ _ => rfl)))
      (pss_cons (ps_setLc (i := 3) (own := [("own", 4)]) rfl sc_makers_by.nd rfl rfl (sw_true rfl rfl rfl (by decide +kernel)) (pi_listK (K := K) rfl (pe_fn h_lots_within (hr.mono (by decide)) rfl (pa_cons (pv 2) pa_nil))) (blkOk_by (by kernel_rfl)) (fun _ _ _ _ _ => (pg_name (i := 4) sc_makers_by.nd rfl (Or.inl rfl))) (fun _ _ _ _ _ => (pts_one (pt_cmpR op_eq (pe_ix (ix_listK (K := K) rfl) (pv 0) (pv 4) (fun _ _ => rfl)) (pv 2) (nomark _)))) (fun _ _ _ _ _ => (pv 4)))
      (pss_one (ps_ret (pe_fn h_ordered (hr.mono (by decide)) rfl (pa_cons (pe_lc (own := [("own", 4)]) rfl sc_makers_by.nd (pi_listK (K := K) rfl (pv 3)) (blkOk_by (by kernel_rfl)) (fun _ _ _ _ _ => (pg_name (i := 4) sc_makers_by.nd rfl (Or.inl rfl))) (fun _ _ _ _ _ => (pts_one (pt_cmpR op_isN (pe_fn h_spare_by (hr.mono (by decide)) rfl (pa_cons (pv 0) (pa_cons (pv 4) pa_nil))) pe_non (nomark _)))) (fun _ _ _ _ _ => (pv 4))) pa_nil)))))), ?_⟩
  rintro F0 _ _ ⟨n, g, m, hn, hg, hm, rfl, rfl⟩ σ c kR
  have hgm := hg m hm
  have hwl := lotsW_len hn hgm
  obtain ⟨_, hw2⟩ := lotsW_all (lt1024 hn hgm)
  have hwb : ∀ x ∈ lotsW (g m), x < 2 ^ n := fun x hx => lt_of_sub ((hw2 x).mp hx) hgm
  refine q_asg c (E_op (E_var rfl) (E_var rfl) (rd_ixL (clD_at g hm))) fun σ1 H1 c1 => ?_
  refine q_asg c1 (E_lc (ys := lotsW (g m)) (enc := nI) (f := nI) (p := fun x => decide (g x = g m)) (WI_list (E_call (EA_1 (E_var rfl)) ⟨n, g m, hn, hgm, rfl, rfl⟩)) (by omega) (fun o _ => GB_name (by decide)) (fun o ho => ET_test (E_op (E_op (E_var rfl) (E_var rfl) (rd_ixL (clD_at g (hwb o ho)))) (E_var rfl) rd_eqN)) (fun o _ _ => E_var rfl)) fun σ2 H2 c2 => ?_
  have hfl : ((lotsW (g m)).filter fun x => decide (g x = g m)).length ≤ 32 := Nat.le_trans (List.length_filter_le _ _) hwl
  refine s_ret c2 (E_call (EA_1 ((E_lc (ys := (lotsW (g m)).filter fun x => decide (g x = g m)) (enc := nI) (f := nI) (p := fun x => isNn (optN (spareF g x))) (WI_list (E_var rfl)) (by omega) (fun o _ => GB_name (by decide)) (fun o ho => ET_test (E_op (E_call (EA_2 (E_var rfl) (E_var rfl)) ⟨2 ^ n, g, o, hwb o (List.mem_filter.mp ho).1, lt1024 hn (hwb o (List.mem_filter.mp ho).1), rfl, rfl⟩) E_non rd_isN)) (fun o _ _ => E_var rfl)).to (d' := .list ((mkL g m).map nI)) ?_)) ⟨mkL g m, ?_, rfl, rfl⟩) kR
  · unfold mkL
    congr 2
    refine List.filter_congr fun x _ => ?_
    cases spareF g x <;> rfl
  · refine Nat.le_trans (List.length_filter_le _ _) (by omega)
def R_makers_with (ds : List PyData) (d : PyData) : Prop := ∃ (n : Nat) (rs : List (Nat × Nat)) (m : Nat), Bk n rs ∧ m < 2 ^ n ∧ ds = [bookD n rs, lotD m] ∧ d = .list ((ord (mkL (clo n rs) m)).map nI)
theorem sc_makers_with : FnScope ["book", "lot"] ["book", "lot"] (defScope s_makers_with) := ⟨rfl, rfl, rfl, by decide +kernel, rfl, by decide +kernel, by decide +kernel⟩
theorem ok_makers_with (h_makers_by : Has P w K mg base 6 "makers_by" ["closures", "bits"] (spD R_makers_by)) (h_bits_of : Has P w K mg base 1 "bits_of" ["lot"] (spD R_bits_of)) (h_closures_of : Has P w K mg base 3 "closures_of" ["book"] (spD R_closures_of)) (F : FnP K "makers_with" s_makers_with f fd) : FnOk P w K mg base CX0 7 f fd ["book", "lot"] (spD R_makers_with) := by
  refine pure_ok F sc_makers_with (by rintro _ _ ⟨n, rs, m, hb, hm, rfl, rfl⟩; rfl) (by decide) fun cdv A outer s H Q X hr => ⟨_,
    (pss_one (ps_ret (pe_fn h_makers_by (hr.mono (by decide)) rfl (pa_cons (pe_fn h_closures_of (hr.mono (by decide)) rfl (pa_cons (pv 0) pa_nil)) (pa_cons (pe_fn h_bits_of (hr.mono (by decide)) rfl (pa_cons (pv 1) pa_nil)) pa_nil))))), ?_⟩
  rintro F0 _ _ ⟨n, rs, m, hb, hm, rfl, rfl⟩ σ c kR
  exact s_ret c (E_call (EA_2 (E_call (EA_1 (E_var rfl)) ⟨n, rs, hb, rfl, rfl⟩) (E_call (EA_1 (E_var rfl)) ⟨m, lt1024 hb.n5 hm, rfl, rfl⟩)) ⟨n, clo n rs, m, hb.n5, fun x hx => hb.clo_lt hx, hm, rfl, rfl⟩) kR
def R_all_things (ds : List PyData) (d : PyData) : Prop := ∃ (n : Nat) (rs : List (Nat × Nat)), n ≤ 5 ∧ ds = [bookD n rs] ∧ d = lotD (2 ^ n - 1)
theorem sc_all_things : FnScope ["book"] ["book"] (defScope s_all_things) := ⟨rfl, rfl, rfl, by decide +kernel, rfl, by decide +kernel, by decide +kernel⟩
theorem ok_all_things (B : Bl mg) (F : FnP K "all_things" s_all_things f fd) : FnOk P w K mg base CX0 1 f fd ["book"] (spD R_all_things) := by
  refine pure_ok F sc_all_things (by rintro _ _ ⟨n, rs, hn, rfl, rfl⟩; rfl) (by decide) fun cdv A outer s H Q X hr => ⟨_,
    (pss_one (ps_ret (pe_tupRg rfl rfl B.tuple_ (prg_1 rfl B.range_ (pe_ix (ix_tupK (K := K) rfl) (pv 0) pe_int (fun _ _ => rfl)))))), ?_⟩
  rintro F0 _ _ ⟨n, rs, hn, rfl, rfl⟩ σ c kR
  exact s_ret c ((E_tupRg (E_op (E_var rfl) (E_nat 0) (rd_ixT rfl)) (by omega)).to (d' := lotD (2 ^ n - 1)) (by unfold lotD; rw [lotM_top hn])) kR
def R_makers (ds : List PyData) (d : PyData) : Prop := ∃ (n : Nat) (rs : List (Nat × Nat)) (m : Nat), Bk n rs ∧ m < 2 ^ n ∧ ds = [bookD n rs, lotD m] ∧ d = .tuple ((ord (mkL (clo n rs) m)).map lotD)
theorem mkL_len {n m : Nat} {rs : List (Nat × Nat)} (hb : Bk n rs) (hm : m < 2 ^ n) : (mkL (clo n rs) m).length ≤ 32 :=
  Nat.le_trans (List.length_filter_le _ _) (Nat.le_trans (List.length_filter_le _ _) (lotsW_len hb.n5 (hb.clo_lt hm)))
theorem sc_makers : FnScope ["book", "lot", "own"] ["book", "lot"] (defScope s_makers) := ⟨rfl, rfl, rfl, by decide +kernel, rfl, by decide +kernel, by decide +kernel⟩
theorem ok_makers (B : Bl mg) (h_makers_with : Has P w K mg base 7 "makers_with" ["book", "lot"] (spD R_makers_with)) (h_lot_of : Has P w K mg base 1 "lot_of" ["bits"] (spD R_lot_of)) (F : FnP K "makers" s_makers f fd) : FnOk P w K mg base CX0 8 f fd ["book", "lot"] (spD R_makers) := by
  refine pure_ok F sc_makers (by rintro _ _ ⟨n, rs, m, hb, hm, rfl, rfl⟩; rfl) (by decide) fun cdv A outer s H Q X hr => ⟨_,
    (pss_one (ps_ret (pe_callTy (call_tupK (K := K) rfl) rfl B.tuple_ (by decide +kernel) (pa_cons (pe_lc (own := [("own", 2)]) rfl sc_makers.nd (pi_listK (K := K) rfl (pe_fn h_makers_with (hr.mono (by decide)) rfl (pa_cons (pv 0) (pa_cons (pv 1) pa_nil)))) (blkOk_by (by kernel_rfl)) (fun _ _ _ _ _ => (pg_name (i := 2) sc_makers.nd rfl (Or.inl rfl))) (fun _ _ _ _ _ => pts_nil) (fun _ _ _ _ _ => (pe_fn h_lot_of (hr.mono (by decide)) rfl (pa_cons (pv 2) pa_nil)))) pa_nil)))), ?_⟩
  rintro F0 _ _ ⟨n, rs, m, hb, hm, rfl, rfl⟩ σ c kR
  have hl := mkL_len hb hm
  exact s_ret c (E_cb (EA_1 (E_lc1 (ys := ord (mkL (clo n rs) m)) (enc := nI) (WI_list (E_call (EA_2 (E_var rfl) (E_var rfl)) ⟨n, rs, m, hb, hm, rfl, rfl⟩)) (by rw [ord_len]; omega) (fun y _ => GB_name (by decide)) (fun y _ => E_call (EA_1 (E_var rfl)) ⟨y, rfl, rfl⟩))) rc_tuple) kR
def R_keys (ds : List PyData) (d : PyData) : Prop := ∃ (n : Nat) (rs : List (Nat × Nat)), Bk n rs ∧ ds = [bookD n rs] ∧ d = .tuple ((ord (mkL (clo n rs) (2 ^ n - 1))).map lotD)
theorem sc_keys : FnScope ["book"] ["book"] (defScope s_keys) := ⟨rfl, rfl, rfl, by decide +kernel, rfl, by decide +kernel, by decide +kernel⟩
theorem ok_keys (h_makers : Has P w K mg base 8 "makers" ["book", "lot"] (spD R_makers)) (h_all_things : Has P w K mg base 1 "all_things" ["book"] (spD R_all_things)) (F : FnP K "keys" s_keys f fd) : FnOk P w K mg base CX0 9 f fd ["book"] (spD R_keys) := by
  refine pure_ok F sc_keys (by rintro _ _ ⟨n, rs, hb, rfl, rfl⟩; rfl) (by decide) fun cdv A outer s H Q X hr => ⟨_,
    (pss_one (ps_ret (pe_fn h_makers (hr.mono (by decide)) rfl (pa_cons (pv 0) (pa_cons (pe_fn h_all_things (hr.mono (by decide)) rfl (pa_cons (pv 0) pa_nil)) pa_nil))))), ?_⟩
  rintro F0 _ _ ⟨n, rs, hb, rfl, rfl⟩ σ c kR
  exact s_ret c (E_call (EA_2 (E_var rfl) (E_call (EA_1 (E_var rfl)) ⟨n, rs, hb.n5, rfl, rfl⟩)) ⟨n, rs, _, hb, top_lt n, rfl, rfl⟩) kR

/-! ### the law's own -/
def R_law_lot (ds : List PyData) (d : PyData) : Prop := ∃ m : Nat, ds = [nI m] ∧ d = lotD m
theorem sc_law_lot : FnScope ["_law_mask_here", "_law_x"] ["_law_mask_here"] (defScope s_law_lot) := ⟨rfl, rfl, rfl, by decide +kernel, rfl, by decide +kernel, by decide +kernel⟩
theorem ok_law_lot (B : Bl mg) (F : FnP K "_law_lot" s_law_lot f fd) : FnOk P w K mg base CX0 1 f fd ["_law_mask_here"] (spD R_law_lot) := by
  refine pure_ok F sc_law_lot (by rintro _ _ ⟨m, rfl, rfl⟩; rfl) (by decide) fun cdv A outer s H Q X hr => ⟨_,
    (pss_one (ps_ret (pe_callTy (call_tupK (K := K) rfl) rfl B.tuple_ (by decide +kernel) (pa_cons (pe_lc (own := [("_law_x", 1)]) rfl sc_law_lot.nd (pi_range1 rfl B.range_ (pa_cons pe_int pa_nil)) (blkOk_by (by kernel_rfl)) (fun _ _ _ _ _ => (pg_name (i := 1) sc_law_lot.nd rfl (Or.inl rfl))) (fun _ _ _ _ _ => (pts_one (pt_cmpR op_eq (pe_op op_and (pe_op op_shr (pv 0) (pv 1)) pe_int) pe_int (nomark _)))) (fun _ _ _ _ _ => (pv 1))) pa_nil)))), ?_⟩
  rintro F0 _ _ ⟨m, rfl, rfl⟩ σ c kR
  exact s_ret c (E_cb (EA_1 (E_lc (ys := List.range 10) (WI_rng (EA_1 (E_nat 10)) (by decide)) (by decide) (fun y _ => GB_name (by decide)) (fun y _ => ET_test (E_op (E_op (E_op (E_var rfl) (E_var rfl) rd_shr) (E_nat 1) rd_and) (E_nat 1) rd_bit)) (fun y _ _ => E_var rfl))) rc_tuple) kR
def R_law_mask (ds : List PyData) (d : PyData) : Prop := ∃ m : Nat, m < 1024 ∧ ds = [lotD m] ∧ d = nI m
theorem sumD (l : List Nat) : PyData.int ((l.map fun t => ((1 <<< t : Nat) : Int)).sum) = nI ((l.map fun t => 1 <<< t).sum) := by rw [sum_cast]
theorem sc_law_mask : FnScope ["_law_own", "_law_x"] ["_law_own"] (defScope s_law_mask) := ⟨rfl, rfl, rfl, by decide +kernel, rfl, by decide +kernel, by decide +kernel⟩
theorem ok_law_mask (B : Bl mg) (F : FnP K "_law_mask" s_law_mask f fd) : FnOk P w K mg base CX0 1 f fd ["_law_own"] (spD R_law_mask) := by
  refine pure_ok F sc_law_mask (by rintro _ _ ⟨m, hm, rfl, rfl⟩; rfl) (by decide) fun cdv A outer s H Q X hr => ⟨_,
    (pss_one (ps_ret (pe_callB (cr_sumK (K := K) rfl rfl) rfl B.sum_ (by decide +kernel) (pa_cons (pe_lc (own := [("_law_x", 1)]) rfl sc_law_mask.nd (pi_tupK (K := K) rfl (pv 0)) (blkOk_by (by kernel_rfl)) (fun _ _ _ _ _ => (pg_name (i := 1) sc_law_mask.nd rfl (Or.inl rfl))) (fun _ _ _ _ _ => pts_nil) (fun _ _ _ _ _ => (pe_op op_shl pe_int (pv 1)))) pa_nil)))), ?_⟩
  rintro F0 _ _ ⟨m, hm, rfl, rfl⟩ σ c kR
  have hl := lotM_len m
  exact s_ret c ((E_cb (EA_1 ((E_lc1 (ys := lotM m) (enc := nI) (f := fun t => nI (1 <<< t)) (WI_tup (E_var rfl)) (by omega) (fun y _ => GB_name (by decide)) (fun y hy => E_op (E_nat 1) (E_var rfl) (rd_shl (by decide) (by have := (mem_lotM.mp hy).1; omega)))).to (d' := .list (((lotM m).map fun t => ((1 <<< t : Nat) : Int)).map PyData.int)) (by rw [List.map_map]; rfl))) rc_sum).to (d' := nI m) (by rw [sumD, sum_lot hm])) kR
def R_law_maskL (ds : List PyData) (d : PyData) : Prop := ∃ (l : List Nat) (m : Nat), l.length ≤ 1000 ∧ (∀ t ∈ l, t < 1000) ∧ l.Nodup ∧ (∀ i, m.testBit i = true ↔ i ∈ l) ∧ ds = [.list (l.map nI)] ∧ d = nI m
theorem ok_law_maskL (B : Bl mg) (F : FnP K "_law_mask" s_law_mask f fd) : FnOk P w K mg base CX0 1 f fd ["_law_own"] (spD R_law_maskL) := by
  refine pure_ok F sc_law_mask (by rintro _ _ ⟨l, m, hl, ht, hn, hm, rfl, rfl⟩; rfl) (by decide) fun cdv A outer s H Q X hr => ⟨_,
    (pss_one (ps_ret (pe_callB (cr_sumK (K := K) rfl rfl) rfl B.sum_ (by decide +kernel) (pa_cons (pe_lc (own := [("_law_x", 1)]) rfl sc_law_mask.nd (pi_listK (K := K) rfl (pv 0)) (blkOk_by (by kernel_rfl)) (fun _ _ _ _ _ => (pg_name (i := 1) sc_law_mask.nd rfl (Or.inl rfl))) (fun _ _ _ _ _ => pts_nil) (fun _ _ _ _ _ => (pe_op op_shl pe_int (pv 1)))) pa_nil)))), ?_⟩
  rintro F0 _ _ ⟨l, m, hl, ht, hn, hm, rfl, rfl⟩ σ c kR
  exact s_ret c ((E_cb (EA_1 ((E_lc1 (ys := l) (enc := nI) (f := fun t => nI (1 <<< t)) (WI_list (E_var rfl)) (by omega) (fun y _ => GB_name (by decide)) (fun y hy => E_op (E_nat 1) (E_var rfl) (rd_shl (by decide) (by have := ht y hy; omega)))).to (d' := .list ((l.map fun t => ((1 <<< t : Nat) : Int)).map PyData.int)) (by rw [List.map_map]; rfl))) rc_sum).to (d' := nI m) (by rw [sumD, sum_bits hn hm])) kR
def R_law_rank (ds : List PyData) (d : PyData) : Prop := ∃ m : Nat, ds = [lotD m] ∧ d = keyD m
theorem sc_law_rank : FnScope ["_law_own"] ["_law_own"] (defScope s_law_rank) := ⟨rfl, rfl, rfl, by decide +kernel, rfl, by decide +kernel, by decide +kernel⟩
theorem ok_law_rank (B : Bl mg) (F : FnP K "_law_rank" s_law_rank f fd) : FnOk P w K mg base CX0 1 f fd ["_law_own"] (spD R_law_rank) := by
  refine pure_ok F sc_law_rank (by rintro _ _ ⟨m, rfl, rfl⟩; rfl) (by decide) fun cdv A outer s H Q X hr => ⟨_,
    (pss_one (ps_ret (pe_tup (pa_cons (pe_callB (call_lenK (K := K) rfl) rfl B.len_ (by decide +kernel) (pa_cons (pv 0) pa_nil)) (pa_cons (pv 0) pa_nil))))), ?_⟩
  rintro F0 _ _ ⟨m, rfl, rfl⟩ σ c kR
  refine s_ret c (E_tup (EA_2 (E_cb (EA_1 (E_var rfl)) rc_lenT) (E_var rfl))) ?_
  rw [List.length_map]
  exact kR
def R_law_in_order (ds : List PyData) (d : PyData) : Prop := ∃ ms : List Nat, ms.length ≤ 1000 ∧ ds = [.list (ms.map nI)] ∧ d = .tuple ((ord ms).map lotD)
theorem sc_law_in_order : FnScope ["_law_masks", "_law_mask_here"] ["_law_masks"] (defScope s_law_in_order) := ⟨rfl, rfl, rfl, by decide +kernel, rfl, by decide +kernel, by decide +kernel⟩
theorem ok_law_in_order (B : Bl mg) (h_law_rank : Has P w K mg base 1 "_law_rank" ["_law_own"] (spD R_law_rank)) (h_law_lot : Has P w K mg base 1 "_law_lot" ["_law_mask_here"] (spD R_law_lot)) (F : FnP K "_law_in_order" s_law_in_order f fd) : FnOk P w K mg base CX0 4 f fd ["_law_masks"] (spD R_law_in_order) := by
  refine pure_ok F sc_law_in_order (by rintro _ _ ⟨ms, hl, rfl, rfl⟩; rfl) (by decide) fun cdv A outer s H Q X hr => ⟨_,
    (pss_one (ps_ret (pe_callTy (call_tupK (K := K) rfl) rfl B.tuple_ (by decide +kernel) (pa_cons (pe_sortedKey h_law_rank hr (by decide) rfl rfl B.sorted_ (pe_lc (own := [("_law_mask_here", 1)]) rfl sc_law_in_order.nd (pi_listK (K := K) rfl (pv 0)) (blkOk_by (by kernel_rfl)) (fun _ _ _ _ _ => (pg_name (i := 1) sc_law_in_order.nd rfl (Or.inl rfl))) (fun _ _ _ _ _ => pts_nil) (fun _ _ _ _ _ => (pe_fn h_law_lot (hr.mono (by decide)) rfl (pa_cons (pv 1) pa_nil))))) pa_nil)))), ?_⟩
  rintro F0 _ _ ⟨ms, hl, rfl, rfl⟩ σ c kR
  exact s_ret c (E_cb (EA_1 (E_sortedKey (E_lc1 (ys := ms) (enc := nI) (WI_list (E_var rfl)) (by omega) (fun y _ => GB_name (by decide)) (fun y _ => E_call (EA_1 (E_var rfl)) ⟨y, rfl, rfl⟩)) (by omega) noL_lot fun m _ => ⟨m, rfl, rfl⟩)) rc_tuple) kR
def R_law_family (ds : List PyData) (d : PyData) : Prop := ∃ (n : Nat) (rs : List (Nat × Nat)), Bk n rs ∧ ds = [nI n, .tuple (rs.map ruleD)] ∧ d = .list ((fam n rs).map nI)
theorem sc_law_family : FnScope ["_law_wide", "_law_rules_here", "_law_marks", "_law_ahead", "_law_behind", "_law_mask_here", "_law_a", "_law_b"] ["_law_wide", "_law_rules_here"] (defScope s_law_family) := ⟨rfl, rfl, rfl, by decide +kernel, rfl, by decide +kernel, by decide +kernel⟩
theorem ok_law_family (B : Bl mg) (h_law_mask : Has P w K mg base 1 "_law_mask" ["_law_own"] (spD R_law_mask)) (F : FnP K "_law_family" s_law_family f fd) : FnOk P w K mg base CX0 2 f fd ["_law_wide", "_law_rules_here"] (spD R_law_family) := by
  refine pure_ok F sc_law_family (by rintro _ _ ⟨n, rs, hb, rfl, rfl⟩; rfl) (by decide) fun cdv A outer s H Q X hr => ⟨_,
    (pss_cons (ps_set (i := 2) sc_law_family.nd rfl (Or.inr rfl) (pe_lc (own := [("_law_ahead", 3), ("_law_behind", 4)]) (g := gTup K 2 (gCons (gName 3) (gCons (gName 4) gNil))) rfl sc_law_family.nd (pi_tupK (K := K) rfl (pv 1)) (blkOk_by (by kernel_rfl)) (fun _ _ _ _ _ => (pg_tup rfl (pgs_cons (pg_name (i := 3) sc_law_family.nd rfl (Or.inl rfl)) (pgs_cons (pg_name (i := 4) sc_law_family.nd rfl (Or.inl rfl)) pgs_nil)))) (fun _ _ _ _ _ => pts_nil) (fun _ _ _ _ _ => (pe_tup (pa_cons (pe_fn h_law_mask (hr.mono (by decide)) rfl (pa_cons (pv 3) pa_nil)) (pa_cons (pe_fn h_law_mask (hr.mono (by decide)) rfl (pa_cons (pv 4) pa_nil)) pa_nil))))))
      (pss_one (ps_ret (pe_lc (own := [("_law_mask_here", 5)]) rfl sc_law_family.nd (pi_range1 rfl B.range_ (pa_cons (pe_op op_shl pe_int (pv 0)) pa_nil)) (blkOk_by (by kernel_rfl)) (fun _ _ _ _ _ => (pg_name (i := 5) sc_law_family.nd rfl (Or.inr rfl))) (fun _ _ _ _ _ => (pts_one (pt_cmpR (op_eqDK (K := K) rfl hr.units) (pe_lc (own := [("_law_a", 6), ("_law_b", 7)]) (g := gTup K 2 (gCons (gName 6) (gCons (gName 7) gNil))) rfl sc_law_family.nd (pi_listK (K := K) rfl (pv 2)) (blkOk_by (by kernel_rfl)) (fun _ _ _ _ _ => (pg_tup rfl (pgs_cons (pg_name (i := 6) sc_law_family.nd rfl (Or.inl rfl)) (pgs_cons (pg_name (i := 7) sc_law_family.nd rfl (Or.inl rfl)) pgs_nil)))) (fun _ _ _ _ _ => (pts_one (PW.pt (pw_and (pt_cmpR op_eq (pe_op op_and (pv 6) (pv 5)) (pv 6) (nomark _)) (pw_and1 (pt_cmpR op_ne (pe_op op_and (pv 7) (pv 5)) (pv 7) (nomark _))))))) (fun _ _ _ _ _ => pe_int)) (pe_lst pa_nil) (nomark _)))) (fun _ _ _ _ _ => (pv 5)))))), ?_⟩
  rintro F0 _ _ ⟨n, rs, hb, rfl, rfl⟩ σ c kR
  have h5 := pow5 hb.n5
  have hl := hb.len
  refine q_asg c (E_lc1 (ys := rs) (enc := ruleD) (f := pairD) (WI_tup (E_var rfl)) (by omega) (fun y _ => GB_pair (by decide) (by decide)) (fun y hy => E_tup (EA_2 (E_call (EA_1 (E_var rfl)) ⟨_, (hb.small y hy).1, rfl, rfl⟩) (E_call (EA_1 (E_var rfl)) ⟨_, (hb.small y hy).2, rfl, rfl⟩)))) fun σ1 H1 c1 => ?_
  refine s_ret c1 ((E_lc (ys := List.range (1 <<< n)) (enc := nI) (f := nI) (p := fun m => !rs.any fun r => sub r.1 m && !sub r.2 m) (WI_rng (EA_1 (E_op (E_nat 1) (E_var rfl) (rd_shl (by decide) (by have := hb.n5; omega)))) (by rw [shl1]; omega)) (by rw [List.length_range, shl1]; omega) (fun y _ => GB_name (by decide)) (fun y _ => ET_test (E_op (E_lc (ys := rs) (enc := pairD) (f := fun _ => .int 1) (p := fun r => sub r.1 y && !sub r.2 y) (WI_list (E_var rfl)) (by omega) (fun z _ => GB_pair (by decide) (by decide)) (fun z _ => ET_and (ET_test (E_op (E_op (E_var rfl) (E_var rfl) rd_and) (E_var rfl) rd_subE)) fun _ => ET_test (E_op (E_op (E_var rfl) (E_var rfl) rd_and) (E_var rfl) rd_subNe)) (fun z _ _ => E_int)) (E_lst EA_nil) rd_none)) (fun y _ _ => E_var rfl)).to (d' := .list ((fam n rs).map nI)) ?_) kR
  unfold fam
  congr 2
  exact List.filter_congr fun m _ => kept_none rs m
def R_law_shut (ds : List PyData) (d : PyData) : Prop := ∃ (cl : List Nat) (m : Nat), cl ≠ [] ∧ ds = [.list (cl.map nI), nI m] ∧ d = nI (shut cl m)
theorem ru_neg {i : Int} : RU (L2.rU fun i => .int (-i)) (.int i) (.int (-i)) := fun x F H e hx Q q => by
  cases hx
  exact ⟨i, rfl, q _ F H (Stp.refl e) (.int _)⟩
theorem sc_law_shut : FnScope ["_law_closed", "_law_mask_here", "_law_found", "_law_one"] ["_law_closed", "_law_mask_here"] (defScope s_law_shut) := ⟨rfl, rfl, rfl, by decide +kernel, rfl, by decide +kernel, by decide +kernel⟩
theorem ok_law_shut (F : FnP K "_law_shut" s_law_shut f fd) : FnOk P w K mg base CX0 1 f fd ["_law_closed", "_law_mask_here"] (spD R_law_shut) := by
  refine pure_ok F sc_law_shut (by rintro _ _ ⟨cl, m, hne, rfl, rfl⟩; rfl) (by decide) fun cdv A outer s H Q X hr => ⟨_,
    (pss_cons (ps_set (i := 2) sc_law_shut.nd rfl (Or.inl rfl) (pe_ix (ix_listK (K := K) rfl) (pv 0) (pe_un un_neg pe_int) (fun _ _ => rfl)))
      (pss_cons (ps_for PassesOwn.never rfl (pi_listK (K := K) rfl (pv 0)) (pg_name (i := 3) sc_law_shut.nd rfl (Or.inl rfl)) (pss_one (ps_if (pt_cmpR op_eq (pe_op op_and (pv 3) (pv 1)) (pv 1) (nomark _)) (pss_one (ps_set (i := 2) sc_law_shut.nd rfl (Or.inl rfl) (pe_op op_and (pv 2) (pv 3)))) pss_nil)))
      (pss_one (ps_ret (pv 2))))), ?_⟩
  rintro F0 _ _ ⟨cl, m, hne, rfl, rfl⟩ σ c kR
  have hlast : E (tOp (rIxL K) (tVar 0) (tUn (L2.rU fun i => .int (-i)) (tC (.int 1)))) [.da (.list (cl.map nI)), .da (nI m), .un, .un] (nI (cl.getLastD 0)) := by
    have e : cl.map nI = cl.dropLast.map nI ++ [nI (cl.getLastD 0)] := by
      conv => lhs; rw [← List.dropLast_concat_getLast hne]
      rw [List.map_append, List.getLastD_eq_getLast?, List.getLast?_eq_some_getLast hne]
      rfl
    refine E_op (a := .list (cl.dropLast.map nI ++ [nI (cl.getLastD 0)])) ?_ (E_un E_int ru_neg) rd_ixLast
    rw [← e]
    exact E_var rfl
  refine q_asg c hlast fun σ1 H1 c1 => ?_
  refine q_for (ys := cl) (enc := nI) (fun i => [.da (.list (cl.map nI)), .da (nI m), .da (nI ((cl.take i).foldl (fun x o => if sub m o then x &&& o else x) (cl.getLastD 0))), .un]) c1 (WI_list (E_var rfl)) (.of rfl) (fun i y hy => GF_name) (fun G1 e1 i y σ2 H2 hy c2 => ?_) fun σ2 H2 c2 => ?_
  · refine s_when c2 (ET_test (E_op (E_op (E_var rfl) (E_var rfl) rd_and) (E_var rfl) rd_subE')) (fun ht H3 c3 => ?_) fun ht H3 c3 => ?_
    · refine s_asg c3 (E_op (E_var rfl) (E_var rfl) rd_and) fun σ4 H4 c4 => ?_
      show Con _ G1 [.da (.list (cl.map nI)), .da (nI m), .da (nI ((cl.take (i + 1)).foldl (fun x o => if sub m o then x &&& o else x) (cl.getLastD 0))), .un] σ4 H4
      rw [foldl_take hy, if_pos ht]
      exact c4.lss (.cons (.cons (.cons (.un .nil))))
    · show Con _ G1 [.da (.list (cl.map nI)), .da (nI m), .da (nI ((cl.take (i + 1)).foldl (fun x o => if sub m o then x &&& o else x) (cl.getLastD 0))), .un] _ H3
      rw [foldl_take hy, if_neg (by rw [ht]; simp)]
      exact c3.lss (.cons (.cons (.cons (.un .nil))))
  · refine s_ret c2 (E_var rfl) ?_
    rw [List.take_length]
    exact kR
def R_law_stem (ds : List PyData) (d : PyData) : Prop := ∃ (n : Nat) (cl : List Nat), Fm n cl ∧ cl.Pairwise (· < ·) ∧ ds = [nI n, .list (cl.map nI)] ∧ d = bookD n (stemL n cl)
theorem Fm.ne {n : Nat} {cl : List Nat} (h : Fm n cl) : cl ≠ [] := fun z => by have := h.top; rw [z] at this; cases this
theorem sc_law_stem : FnScope ["_law_wide", "_law_closed", "_law_found", "_law_own", "_law_mask_here", "_law_a", "_law_b"] ["_law_wide", "_law_closed"] (defScope s_law_stem) := ⟨rfl, rfl, rfl, by decide +kernel, rfl, by decide +kernel, by decide +kernel⟩
theorem ok_law_stem (B : Bl mg) (h_law_lot : Has P w K mg base 1 "_law_lot" ["_law_mask_here"] (spD R_law_lot)) (h_law_in_order : Has P w K mg base 4 "_law_in_order" ["_law_masks"] (spD R_law_in_order)) (h_law_shut : Has P w K mg base 1 "_law_shut" ["_law_closed", "_law_mask_here"] (spD R_law_shut)) (h_law_mask : Has P w K mg base 1 "_law_mask" ["_law_own"] (spD R_law_mask)) (F : FnP K "_law_stem" s_law_stem f fd) : FnOk P w K mg base CX0 5 f fd ["_law_wide", "_law_closed"] (spD R_law_stem) := by
  refine pure_ok F sc_law_stem (by rintro _ _ ⟨n, cl, hF, ha, rfl, rfl⟩; rfl) (by decide) fun cdv A outer s H Q X hr => ⟨_,
    (pss_cons (ps_set (i := 2) sc_law_stem.nd rfl (Or.inl rfl) (pe_lst pa_nil))
      (pss_cons (ps_for PassesOwn.never rfl (pi_tupK (K := K) rfl (pe_fn h_law_in_order (hr.mono (by decide)) rfl (pa_cons (pe_listRg rfl rfl B.list_ (prg_1 rfl B.range_ (pe_op op_shl pe_int (pv 0)))) pa_nil))) (pg_name (i := 3) sc_law_stem.nd rfl (Or.inl rfl)) (pss_cons (ps_set (i := 4) sc_law_stem.nd rfl (Or.inr rfl) (pe_fn h_law_mask (hr.mono (by decide)) rfl (pa_cons (pv 3) pa_nil)))
      (pss_one (ps_if (PW.pt (pw_and (pt_cmpR (op_notInK (K := K) rfl) (pv 4) (pv 1) (by rfl)) (pw_and1 (pt_cmpR (op_eqDK (K := K) rfl hr.units) (pe_lc (own := [("_law_a", 5), ("_law_b", 6)]) (g := gTup K 2 (gCons (gName 5) (gCons (gName 6) gNil))) rfl sc_law_stem.nd (pi_listK (K := K) rfl (pv 2)) (blkOk_by (by kernel_rfl)) (fun _ _ _ _ _ => (pg_tup rfl (pgs_cons (pg_name (i := 5) sc_law_stem.nd rfl (Or.inl rfl)) (pgs_cons (pg_name (i := 6) sc_law_stem.nd rfl (Or.inl rfl)) pgs_nil)))) (fun _ _ _ _ _ => (pts_one (PW.pt (pw_and (pt_cmpR op_eq (pe_op op_and (pv 5) (pv 4)) (pv 5) (nomark _)) (pw_and1 (pt_cmpR op_ne (pe_op op_and (pv 6) (pv 4)) (pv 6) (nomark _))))))) (fun _ _ _ _ _ => pe_int)) (pe_lst pa_nil) (nomark _))))) (pss_one (ps_expr (pe_bm PySem.F.plainAttrs_list PySem.F.slot_list_append PySem.F.type_list_append mt_append (pv 2) (pa_cons (pe_tup (pa_cons (pv 4) (pa_cons (pe_fn h_law_shut (hr.mono (by decide)) rfl (pa_cons (pv 1) (pa_cons (pv 4) pa_nil))) pa_nil))) pa_nil)))) pss_nil))))
      (pss_one (ps_ret (pe_tup (pa_cons (pv 0) (pa_cons (pe_callTy (call_tupK (K := K) rfl) rfl B.tuple_ (by decide +kernel) (pa_cons (pe_lc (own := [("_law_a", 5), ("_law_b", 6)]) (g := gTup K 2 (gCons (gName 5) (gCons (gName 6) gNil))) rfl sc_law_stem.nd (pi_listK (K := K) rfl (pv 2)) (blkOk_by (by kernel_rfl)) (fun _ _ _ _ _ => (pg_tup rfl (pgs_cons (pg_name (i := 5) sc_law_stem.nd rfl (Or.inl rfl)) (pgs_cons (pg_name (i := 6) sc_law_stem.nd rfl (Or.inl rfl)) pgs_nil)))) (fun _ _ _ _ _ => pts_nil) (fun _ _ _ _ _ => (pe_tup (pa_cons (pe_fn h_law_lot (hr.mono (by decide)) rfl (pa_cons (pv 5) pa_nil)) (pa_cons (pe_fn h_law_lot (hr.mono (by decide)) rfl (pa_cons (pe_op op_sub (pv 6) (pv 5)) pa_nil)) pa_nil))))) pa_nil)) pa_nil))))))), ?_⟩
  rintro F0 _ _ ⟨n, cl, hF, ha, rfl, rfl⟩ σ c kR
  have h5 := pow5 hF.n5
  have hn5 := hF.n5
  refine q_own c EA_nil fun σ1 H1 c1 => ?_
  have hol : (ord (List.range (1 <<< n))).length ≤ 32 := ord_range_len hF.n5
  refine q_for (ys := ord (List.range (1 <<< n))) (enc := lotD) (fun i => [.da (nI n), .da (.list (cl.map nI)), .ow ((nearL cl (shut cl) ((ord (List.range (1 <<< n))).take i)).map pairD), .un, .un, .un, .un]) c1 (WI_tup (E_call (EA_1 (E_lstRg (E_op (E_nat 1) (E_var rfl) (rd_shl (by decide) (by omega))) (by rw [shl1]; omega))) ⟨List.range (1 <<< n), by rw [List.length_range, shl1]; omega, rfl, rfl⟩)) (.of rfl) (fun i y hy => GF_name) (fun G1 e1 i y σ2 H2 hy c2 => ?_) fun σ2 H2 c2 => ?_
  · generalize hacc : nearL cl (shut cl) ((ord (List.range (1 <<< n))).take i) = acc at c2
    have hal : acc.length ≤ 32 := by rw [← hacc]; exact near_take_len hF.n5 _ _ i
    have hnext : nearL cl (shut cl) ((ord (List.range (1 <<< n))).take (i + 1)) = nstep cl (shut cl) acc y := by
      rw [← hacc]; unfold nearL; rw [foldl_take hy]
    have hy2 : y < 2 ^ n := by
      have := mem_ord.mp (List.mem_of_getElem? hy)
      rwa [List.mem_range, shl1] at this
    refine q_asg c2 (E_call (EA_1 (E_var rfl)) ⟨y, lt1024 hF.n5 hy2, rfl, rfl⟩) fun σ3 H3 c3 => ?_
    refine s_when c3 (ET_and (x := !cl.contains y) (y := kept acc y) ?_ fun _ => (ET_frz 2 rfl (ET_test (E_op (E_lc (ys := acc) (enc := pairD) (f := fun _ => .int 1) (p := fun r => sub r.1 y && !sub r.2 y) (WI_list (E_var rfl)) (by omega) (fun z _ => GB_pair (by decide) (by decide)) (fun z _ => ET_and (ET_test (E_op (E_op (E_var rfl) (E_var rfl) rd_and) (E_var rfl) rd_subE)) fun _ => ET_test (E_op (E_op (E_var rfl) (E_var rfl) rd_and) (E_var rfl) rd_subNe)) (fun z _ _ => E_int)) (E_lst EA_nil) rd_none))).to (kept_none acc y)) (fun ht H4 c4 => ?_) fun ht H4 c4 => ?_
    · have e : cl.contains y = (cl.map fun m : Nat => (m : Int)).contains (y : Int) := by
        rw [Bool.eq_iff_iff, List.contains_iff_mem, List.contains_iff_mem, List.mem_map]
        refine ⟨fun h => ⟨y, h, rfl⟩, fun ⟨x, h1, h2⟩ => ?_⟩
        have : x = y := by omega
        rw [← this]
        exact h1
      rw [e]
      refine ET_test (E_op (b := .list ((cl.map fun m : Nat => (m : Int)).map PyData.int)) (E_var rfl) ?_ rd_notIn)
      rw [← nats_ints]
      exact E_var rfl
    · have hst : nstep cl (shut cl) acc y = acc ++ [(y, shut cl y)] := by unfold nstep; rw [if_pos ht]
      refine s_app c4 rfl (E_tup (EA_2 (E_var rfl) (E_call (EA_2 (E_var rfl) (E_var rfl)) ⟨cl, y, hF.ne, rfl, rfl⟩))) (by rw [List.length_map]; omega) fun H5 c5 => ?_
      show Con _ G1 [.da (nI n), .da (.list (cl.map nI)), .ow ((nearL cl (shut cl) ((ord (List.range (1 <<< n))).take (i + 1))).map pairD), .un, .un, .un, .un] _ H5
      rw [hnext, hst, List.map_append]
      exact c5.lss (.cons (.cons (.cons (.un (.un (.un (.un .nil)))))))
    · have hst : nstep cl (shut cl) acc y = acc := by unfold nstep; rw [ht]; rfl
      show Con _ G1 [.da (nI n), .da (.list (cl.map nI)), .ow ((nearL cl (shut cl) ((ord (List.range (1 <<< n))).take (i + 1))).map pairD), .un, .un, .un, .un] _ H4
      rw [hnext, hst]
      exact c4.lss (.cons (.cons (.cons (.un (.un (.un (.un .nil)))))))
  · rw [List.take_length] at c2
    have hnl : (nearL cl (shut cl) (ord (List.range (1 <<< n)))).length ≤ 32 := by
      have := near_take_len hF.n5 cl (shut cl) (ord (List.range (1 <<< n))).length
      rwa [List.take_length] at this
    have hpr : ∀ p ∈ nearL cl (shut cl) (ord (List.range (1 <<< n))), sub p.1 p.2 = true := fun p hp => by
      rcases nearL_mem _ _ _ _ p hp with h | ⟨h1, h2⟩
      · cases h
      · have hm2 : p.1 < 2 ^ n := by
          have := mem_ord.mp h1
          rwa [List.mem_range, shl1] at this
        rw [h2]
        exact (hF.shut ha hm2).has
    refine s_ret (c2.frz 2 rfl) (E_tup (EA_2 (E_var rfl) (E_cb (EA_1 (E_lc1 (ys := nearL cl (shut cl) (ord (List.range (1 <<< n)))) (enc := pairD) (f := fun p => ruleD (p.1, diff p.2 p.1)) (WI_list (E_var rfl)) (by omega) (fun y _ => GB_pair (by decide) (by decide)) (fun p hp => E_tup (EA_2 (E_call (EA_1 (E_var rfl)) ⟨p.1, rfl, rfl⟩) (E_call (EA_1 (E_op (E_var rfl) (E_var rfl) (rd_subN (sub_le (hpr p hp))))) ⟨p.2 - p.1, rfl, ?_⟩))))) rc_tuple))) ?_
    · have hand : p.2 &&& p.1 = p.1 := by rw [Nat.and_comm]; exact beq_iff_eq.mp (hpr p hp)
      show lotD (diff p.2 p.1) = _
      unfold diff
      rw [hand]
    · have e : bookD n (stemL n cl) = .tuple [nI n, .tuple ((nearL cl (shut cl) (ord (List.range (1 <<< n)))).map fun p => ruleD (p.1, diff p.2 p.1))] := by unfold bookD stemL; rw [List.map_map]; rfl
      rw [e] at kR
      exact kR
def R_law_meets (ds : List PyData) (d : PyData) : Prop := ∃ (n : Nat) (ms : List Nat), n ≤ 5 ∧ (∀ m ∈ ms, m < 2 ^ n) ∧ ds = [nI n, .list (ms.map nI)] ∧ d = .list ((meetsL n ms).map nI)
theorem topE {te : TE} {ρ : List Sl} {n : Nat} (h : E te ρ (nI n)) (hn : n ≤ 1000) : E (tOp (rI0 fun i j => .int (i - j)) (tOp (rI CPow fun i j => .int (i * 2 ^ j.toNat)) (tC (.int 1)) te) (tC (.int 1))) ρ (nI (2 ^ n - 1)) :=
  (E_op (E_op (E_nat 1) h (rd_shl (by decide) (by omega))) (E_nat 1) (rd_subN (by rw [shl1]; exact pow_pos2 n))).to (by rw [shl1])
theorem meets_low {n : Nat} (hn : n ≤ 5) : ∀ (l acc : List Nat), acc.length ≤ 32 → (∀ x ∈ acc, x < 2 ^ n) → (l.foldl (fun acc m => asc (acc ++ acc.map fun o => o &&& m)) acc).length ≤ 32 ∧ ∀ x ∈ l.foldl (fun acc m => asc (acc ++ acc.map fun o => o &&& m)) acc, x < 2 ^ n
  | [], acc, h, h' => ⟨h, h'⟩
  | m :: l, acc, h, h' => by
    rw [List.foldl_cons]
    have h5 := pow5 hn
    have hb : ∀ x ∈ acc ++ acc.map (fun o => o &&& m), x < 2 ^ n := fun x hx => by
      rcases List.mem_append.mp hx with hx | hx
      · exact h' x hx
      · obtain ⟨y, hy, rfl⟩ := List.mem_map.mp hx
        exact lt_of_sub (and_sub_left y m) (h' y hy)
    refine meets_low hn l _ (asc_bound fun x hx => Nat.lt_of_lt_of_le (hb x hx) h5) fun x hx => hb x ((mem_asc fun y hy => by have := hb y hy; omega).mp hx)
theorem sc_law_meets : FnScope ["_law_wide", "_law_masks", "_law_found", "_law_mask_here", "_law_one"] ["_law_wide", "_law_masks"] (defScope s_law_meets) := ⟨rfl, rfl, rfl, by decide +kernel, rfl, by decide +kernel, by decide +kernel⟩
theorem ok_law_meets (B : Bl mg) (F : FnP K "_law_meets" s_law_meets f fd) : FnOk P w K mg base CX0 1 f fd ["_law_wide", "_law_masks"] (spD R_law_meets) := by
  refine pure_ok F sc_law_meets (by rintro _ _ ⟨n, ms, hn, hm, rfl, rfl⟩; rfl) (by decide) fun cdv A outer s H Q X hr => ⟨_,
    (pss_cons (ps_set (i := 2) sc_law_meets.nd rfl (Or.inl rfl) (pe_lst (pa_cons (pe_op op_sub (pe_op op_shl pe_int (pv 0)) pe_int) pa_nil)))
      (pss_cons (ps_for PassesOwn.never rfl (pi_listK (K := K) rfl (pv 1)) (pg_name (i := 3) sc_law_meets.nd rfl (Or.inr rfl)) (pss_one (ps_set (i := 2) sc_law_meets.nd rfl (Or.inl rfl) (pe_callB (cr_sortedSet rfl) rfl B.sorted_ (by decide +kernel) (pa_cons (pe_callTy (cr_setI rfl) rfl B.set_ (by decide +kernel) (pa_cons (pe_op op_cat (pv 2) (pe_lc (own := [("_law_one", 4)]) rfl sc_law_meets.nd (pi_listK (K := K) rfl (pv 2)) (blkOk_by (by kernel_rfl)) (fun _ _ _ _ _ => (pg_name (i := 4) sc_law_meets.nd rfl (Or.inl rfl))) (fun _ _ _ _ _ => pts_nil) (fun _ _ _ _ _ => (pe_op op_and (pv 4) (pv 3))))) pa_nil)) pa_nil)))))
      (pss_one (ps_ret (pv 2))))), ?_⟩
  rintro F0 _ _ ⟨n, ms, hn, hm, rfl, rfl⟩ σ c kR
  have h5 := pow5 hn
  refine q_asg c (E_lst (EA_1 (topE (E_var rfl) (by omega)))) fun σ1 H1 c1 => ?_
  refine q_for (ys := ms) (enc := nI) (fun i => [.da (nI n), .da (.list (ms.map nI)), .da (.list (((ms.take i).foldl (fun acc m => asc (acc ++ acc.map fun o => o &&& m)) [2 ^ n - 1]).map nI)), .un, .un]) c1 (WI_list (E_var rfl)) (.of rfl) (fun i y hy => GF_name) (fun G1 e1 i y σ2 H2 hy c2 => ?_) fun σ2 H2 c2 => ?_
  · obtain ⟨hl, hlow⟩ := meets_low hn (ms.take i) [2 ^ n - 1] (by simp) (by intro x hx; rw [List.mem_singleton] at hx; rw [hx]; exact top_lt n)
    generalize hacc : (ms.take i).foldl (fun acc m => asc (acc ++ acc.map fun o => o &&& m)) [2 ^ n - 1] = acc at c2 hl hlow
    have hb : ∀ x ∈ acc ++ acc.map (fun o => o &&& y), x < 32 := fun x hx => by
      rcases List.mem_append.mp hx with hx | hx
      · have := hlow x hx; omega
      · obtain ⟨z, hz, rfl⟩ := List.mem_map.mp hx
        have := lt_of_sub (and_sub_left z y) (hlow z hz)
        omega
    refine s_asg c2 (E_sortedSet (ms := acc ++ acc.map fun o => o &&& y) ((E_op (E_var rfl) (E_lc1 (ys := acc) (enc := nI) (f := fun o => nI (o &&& y)) (WI_list (E_var rfl)) (by omega) (fun o _ => GB_name (by decide)) (fun o _ => E_op (E_var rfl) (E_var rfl) rd_and)) (rd_cat (by rw [List.length_map, List.length_map]; omega))).to (by rw [List.map_append, List.map_map]; rfl)) hb (by rw [List.length_append, List.length_map]; omega)) fun σ3 H3 c3 => ?_
    show Con _ G1 [.da (nI n), .da (.list (ms.map nI)), .da (.list (((ms.take (i + 1)).foldl (fun acc m => asc (acc ++ acc.map fun o => o &&& m)) [2 ^ n - 1]).map nI)), .un, .un] σ3 H3
    rw [foldl_take hy, hacc]
    exact c3.lss (.cons (.cons (.cons (.un (.un .nil)))))
  · refine s_ret c2 (E_var rfl) ?_
    rw [List.take_length]
    exact kR
def R_law_on (ds : List PyData) (d : PyData) : Prop := ∃ (k : Nat) (ws : List Nat) (m : Nat), k ≤ 5 ∧ IsMap ws k ∧ ds = [mapD ws, nI m] ∧ d = nI (onM ws m)
def onX (ws : List Nat) (m : Nat) : List Nat := ((enN 0 ws).filter fun p => m.testBit p.1).map fun p => p.2
theorem onX_low {ws : List Nat} {k m : Nat} (hk : k ≤ 5) (hw : IsMap ws k) : ∀ x ∈ onX ws m, x < 32 := fun x hx => by
  obtain ⟨p, hp, rfl⟩ := List.mem_map.mp hx
  obtain ⟨i, _, h2⟩ := enN_mem.mp (List.mem_filter.mp hp).1
  have := hw.2 _ (List.mem_of_getElem? h2)
  omega
theorem onX_bit {ws : List Nat} {m x : Nat} : (onM ws m).testBit x = true ↔ x ∈ onX ws m := by
  rw [on_bit]
  unfold onX
  rw [List.mem_map]
  constructor
  · rintro ⟨i, h1, h2⟩
    exact ⟨(i, x), List.mem_filter.mpr ⟨enN_mem.mpr ⟨i, by simp, h2⟩, h1⟩, rfl⟩
  · rintro ⟨p, hp, rfl⟩
    obtain ⟨h1, h2⟩ := List.mem_filter.mp hp
    obtain ⟨i, h3, h4⟩ := enN_mem.mp h1
    rw [Nat.zero_add] at h3
    exact ⟨i, by rw [← h3]; exact h2, h4⟩
theorem enumE {K : PySem.W.Frag} {ta : TA} {ρ : List Sl} {ws : List Nat} (h : EA ta ρ [mapD ws]) : WI (iEnumT K ta) ρ ((enN 0 ws).map pairD) := by
  rw [← enumD_en]
  exact WI_enumT h
theorem sc_law_on : FnScope ["_law_way", "_law_mask_here", "_law_k", "_law_x"] ["_law_way", "_law_mask_here"] (defScope s_law_on) := ⟨rfl, rfl, rfl, by decide +kernel, rfl, by decide +kernel, by decide +kernel⟩
theorem ok_law_on (B : Bl mg) (h_law_maskL : Has P w K mg base 1 "_law_mask" ["_law_own"] (spD R_law_maskL)) (F : FnP K "_law_on" s_law_on f fd) : FnOk P w K mg base CX0 2 f fd ["_law_way", "_law_mask_here"] (spD R_law_on) := by
  refine pure_ok F sc_law_on (by rintro _ _ ⟨k, ws, m, hk, hw, rfl, rfl⟩; rfl) (by decide) fun cdv A outer s H Q X hr => ⟨_,
    (pss_one (ps_ret (pe_fn h_law_maskL (hr.mono (by decide)) rfl (pa_cons (pe_callB (cr_sortedSet rfl) rfl B.sorted_ (by decide +kernel) (pa_cons (pe_callTy (cr_setI rfl) rfl B.set_ (by decide +kernel) (pa_cons (pe_lc (own := [("_law_k", 2), ("_law_x", 3)]) (g := gTup K 2 (gCons (gName 2) (gCons (gName 3) gNil))) rfl sc_law_on.nd (pi_enumT rfl B.enumerate_ (pa_cons (pv 0) pa_nil)) (blkOk_by (by kernel_rfl)) (fun _ _ _ _ _ => (pg_tup rfl (pgs_cons (pg_name (i := 2) sc_law_on.nd rfl (Or.inl rfl)) (pgs_cons (pg_name (i := 3) sc_law_on.nd rfl (Or.inl rfl)) pgs_nil)))) (fun _ _ _ _ _ => (pts_one (pt_cmpR op_eq (pe_op op_and (pe_op op_shr (pv 1) (pv 2)) pe_int) pe_int (nomark _)))) (fun _ _ _ _ _ => (pv 3))) pa_nil)) pa_nil)) pa_nil)))), ?_⟩
  rintro F0 _ _ ⟨k, ws, m, hk, hw, rfl, rfl⟩ σ c kR
  have hlen : (enN 0 ws).length ≤ 5 := by rw [enN_len]; exact hw.1
  have hx : (onX ws m).length ≤ 5 := by unfold onX; rw [List.length_map]; exact Nat.le_trans (List.length_filter_le _ _) hlen
  have hlow := onX_low (m := m) hk hw
  refine s_ret c (E_call (EA_1 (E_sortedSet (ms := onX ws m) ((E_lc (ys := enN 0 ws) (enc := pairD) (f := fun p => nI p.2) (p := fun p => m.testBit p.1) (enumE (EA_1 (E_var rfl))) (by omega) (fun o _ => GB_pair (by decide) (by decide)) (fun o _ => ET_test (E_op (E_op (E_op (E_var rfl) (E_var rfl) rd_shr) (E_nat 1) rd_and) (E_nat 1) rd_bit)) (fun o _ _ => E_var rfl)).to (by unfold onX; rw [List.map_map]; rfl)) hlow (by omega))) ⟨asc (onX ws m), onM ws m, ?_, fun t ht => ?_, lt_nodup (asc_lt _), fun i => ?_, rfl, rfl⟩) kR
  · exact Nat.le_trans (asc_bound hlow) (by decide)
  · have := hlow t ((mem_asc fun x hx => by have := hlow x hx; omega).mp ht)
    omega
  · rw [onX_bit, mem_asc fun x hx => by have := hlow x hx; omega]
def R_law_back (ds : List PyData) (d : PyData) : Prop := ∃ (ws : List Nat) (m : Nat), ws.length ≤ 5 ∧ ds = [mapD ws, nI m] ∧ d = nI (backM ws m)
theorem enN_nodup : ∀ (ws : List Nat) (k : Nat), ((enN k ws).map fun p => p.1).Pairwise (· < ·)
  | [], _ => .nil
  | w :: ws, k => by
    rw [enN, List.map_cons, List.pairwise_cons]
    refine ⟨fun x hx => ?_, enN_nodup ws (k + 1)⟩
    obtain ⟨p, hp, rfl⟩ := List.mem_map.mp hx
    obtain ⟨i, h1, _⟩ := enN_mem.mp hp
    show k < p.1
    omega
theorem sc_law_back : FnScope ["_law_way", "_law_mask_here", "_law_k", "_law_x"] ["_law_way", "_law_mask_here"] (defScope s_law_back) := ⟨rfl, rfl, rfl, by decide +kernel, rfl, by decide +kernel, by decide +kernel⟩
theorem ok_law_back (B : Bl mg) (F : FnP K "_law_back" s_law_back f fd) : FnOk P w K mg base CX0 1 f fd ["_law_way", "_law_mask_here"] (spD R_law_back) := by
  refine pure_ok F sc_law_back (by rintro _ _ ⟨ws, m, hw, rfl, rfl⟩; rfl) (by decide) fun cdv A outer s H Q X hr => ⟨_,
    (pss_one (ps_ret (pe_callB (cr_sumK (K := K) rfl rfl) rfl B.sum_ (by decide +kernel) (pa_cons (pe_lc (own := [("_law_k", 2), ("_law_x", 3)]) (g := gTup K 2 (gCons (gName 2) (gCons (gName 3) gNil))) rfl sc_law_back.nd (pi_enumT rfl B.enumerate_ (pa_cons (pv 0) pa_nil)) (blkOk_by (by kernel_rfl)) (fun _ _ _ _ _ => (pg_tup rfl (pgs_cons (pg_name (i := 2) sc_law_back.nd rfl (Or.inl rfl)) (pgs_cons (pg_name (i := 3) sc_law_back.nd rfl (Or.inl rfl)) pgs_nil)))) (fun _ _ _ _ _ => (pts_one (pt_cmpR op_eq (pe_op op_and (pe_op op_shr (pv 1) (pv 3)) pe_int) pe_int (nomark _)))) (fun _ _ _ _ _ => (pe_op op_shl pe_int (pv 2)))) pa_nil)))), ?_⟩
  rintro F0 _ _ ⟨ws, m, hw, rfl, rfl⟩ σ c kR
  have hlen : (enN 0 ws).length ≤ 5 := by rw [enN_len]; exact hw
  refine s_ret c ((E_cb (EA_1 ((E_lc (ys := enN 0 ws) (enc := pairD) (f := fun p => nI (1 <<< p.1)) (p := fun p => m.testBit p.2) (enumE (EA_1 (E_var rfl))) (by omega) (fun o _ => GB_pair (by decide) (by decide)) (fun o _ => ET_test (E_op (E_op (E_op (E_var rfl) (E_var rfl) rd_shr) (E_nat 1) rd_and) (E_nat 1) rd_bit)) (fun o ho _ => E_op (E_nat 1) (E_var rfl) (rd_shl (by decide) (by
    obtain ⟨i, h1, h2⟩ := enN_mem.mp ho
    have := (List.getElem?_eq_some_iff.mp h2).1
    omega)))).to (d' := .list (((((enN 0 ws).filter fun p => m.testBit p.2).map fun p => p.1).map fun t => ((1 <<< t : Nat) : Int)).map PyData.int)) (by rw [List.map_map, List.map_map]; rfl))) rc_sum).to (d' := nI (backM ws m)) ?_) kR
  rw [sumD]
  congr 1
  rw [sum_bits (m := backM ws m) (lt_nodup ?_) fun i => ?_]
  · exact List.Pairwise.sublist (List.Sublist.map _ List.filter_sublist) (enN_nodup ws 0)
  · rw [back_bit, List.mem_map]
    constructor
    · rintro ⟨x, h1, h2⟩
      exact ⟨(i, x), List.mem_filter.mpr ⟨enN_mem.mpr ⟨i, by simp, h1⟩, h2⟩, rfl⟩
    · rintro ⟨p, hp, rfl⟩
      obtain ⟨h1, h2⟩ := List.mem_filter.mp hp
      obtain ⟨i, h3, h4⟩ := enN_mem.mp h1
      rw [Nat.zero_add] at h3
      exact ⟨p.2, by rw [h3]; exact h4, h2⟩
def R_law_keys (ds : List PyData) (d : PyData) : Prop := ∃ (k : Nat) (cl ws : List Nat), k ≤ 5 ∧ IsMap ws k ∧ cl ≠ [] ∧ ds = [.list (cl.map nI), mapD ws] ∧ d = .tuple ((ord (keysL cl ws)).map lotD)
theorem sc_law_keys : FnScope ["_law_closed", "_law_way", "_law_whole", "_law_some_here", "_law_mask_here", "_law_one"] ["_law_closed", "_law_way"] (defScope s_law_keys) := ⟨rfl, rfl, rfl, by decide +kernel, rfl, by decide +kernel, by decide +kernel⟩
theorem ok_law_keys (B : Bl mg) (h_law_in_order : Has P w K mg base 4 "_law_in_order" ["_law_masks"] (spD R_law_in_order)) (h_law_shut : Has P w K mg base 1 "_law_shut" ["_law_closed", "_law_mask_here"] (spD R_law_shut)) (h_law_on : Has P w K mg base 2 "_law_on" ["_law_way", "_law_mask_here"] (spD R_law_on)) (F : FnP K "_law_keys" s_law_keys f fd) : FnOk P w K mg base CX0 5 f fd ["_law_closed", "_law_way"] (spD R_law_keys) := by
  refine pure_ok F sc_law_keys (by rintro _ _ ⟨k, cl, ws, hk, hw, hne, rfl, rfl⟩; rfl) (by decide) fun cdv A outer s H Q X hr => ⟨_,
    (pss_cons (ps_set (i := 2) sc_law_keys.nd rfl (Or.inr rfl) (pe_fn h_law_on (hr.mono (by decide)) rfl (pa_cons (pv 1) (pa_cons (pe_op op_sub (pe_op op_shl pe_int (pe_callB (call_lenK (K := K) rfl) rfl B.len_ (by decide +kernel) (pa_cons (pv 1) pa_nil))) pe_int) pa_nil))))
      (pss_cons (ps_set (i := 3) sc_law_keys.nd rfl (Or.inr rfl) (pe_lc (own := [("_law_mask_here", 4)]) rfl sc_law_keys.nd (pi_range1 rfl B.range_ (pa_cons (pe_op op_shl pe_int (pe_callB (call_lenK (K := K) rfl) rfl B.len_ (by decide +kernel) (pa_cons (pv 1) pa_nil))) pa_nil)) (blkOk_by (by kernel_rfl)) (fun _ _ _ _ _ => (pg_name (i := 4) sc_law_keys.nd rfl (Or.inl rfl))) (fun _ _ _ _ _ => (pts_one (pt_cmpR op_eq (pe_op op_and (pv 2) (pe_fn h_law_shut (hr.mono (by decide)) rfl (pa_cons (pv 0) (pa_cons (pe_fn h_law_on (hr.mono (by decide)) rfl (pa_cons (pv 1) (pa_cons (pv 4) pa_nil))) pa_nil)))) (pv 2) (nomark _)))) (fun _ _ _ _ _ => (pv 4))))
      (pss_one (ps_ret (pe_fn h_law_in_order (hr.mono (by decide)) rfl (pa_cons (pe_lc (own := [("_law_mask_here", 4)]) rfl sc_law_keys.nd (pi_listK (K := K) rfl (pv 3)) (blkOk_by (by kernel_rfl)) (fun _ _ _ _ _ => (pg_name (i := 4) sc_law_keys.nd rfl (Or.inr rfl))) (fun _ _ _ _ _ => (pts_one (pt_cmpR (op_eqDK (K := K) rfl hr.units) (pe_lc (own := [("_law_one", 5)]) rfl sc_law_keys.nd (pi_listK (K := K) rfl (pv 3)) (blkOk_by (by kernel_rfl)) (fun _ _ _ _ _ => (pg_name (i := 5) sc_law_keys.nd rfl (Or.inl rfl))) (fun _ _ _ _ _ => (pts_one (PW.pt (pw_and (pt_cmpR op_eq (pe_op op_and (pv 5) (pv 4)) (pv 5) (nomark _)) (pw_and1 (pt_cmpR op_ne (pv 5) (pv 4) (nomark _))))))) (fun _ _ _ _ _ => pe_int)) (pe_lst pa_nil) (nomark _)))) (fun _ _ _ _ _ => (pv 4))) pa_nil)))))), ?_⟩
  rintro F0 _ _ ⟨k, cl, ws, hk, hw, hne, rfl, rfl⟩ σ c kR
  have h5 := pow5 hw.1
  have hw1 := hw.1
  have hlen : ∀ ρ : List Sl, ρ[1]? = some (.da (mapD ws)) → E (tCB (fun xs H Q => ∃ x n, xs = [x] ∧ LenV K x H n ∧ Q (.int n) H) (tCons (tVar 1) tNil)) ρ (nI ws.length) := fun ρ h => (E_cb (EA_1 (E_var h)) rc_lenT).to (by rw [List.length_map])
  refine q_asg c (E_call (EA_2 (E_var rfl) (topE (hlen _ rfl) (by omega))) ⟨k, ws, _, hk, hw, rfl, rfl⟩) fun σ1 H1 c1 => ?_
  have hsl : (keysS cl ws).length ≤ 32 := by
    unfold keysS
    refine Nat.le_trans (List.length_filter_le _ _) ?_
    rw [List.length_range, shl1]; exact h5
  refine q_asg c1 ((E_lc (ys := List.range (1 <<< ws.length)) (enc := nI) (f := nI) (p := fun m => sub (onM ws (2 ^ ws.length - 1)) (shut cl (onM ws m))) (WI_rng (EA_1 (E_op (E_nat 1) (hlen _ rfl) (rd_shl (by decide) (by omega)))) (by rw [shl1]; omega)) (by rw [List.length_range, shl1]; omega) (fun o _ => GB_name (by decide)) (fun o _ => ET_test (E_op (E_op (E_var rfl) (E_call (EA_2 (E_var rfl) (E_call (EA_2 (E_var rfl) (E_var rfl)) ⟨k, ws, o, hk, hw, rfl, rfl⟩)) ⟨cl, _, hne, rfl, rfl⟩) rd_and) (E_var rfl) rd_subE)) (fun o _ _ => E_var rfl)).to (d' := .list ((keysS cl ws).map nI)) rfl) fun σ2 H2 c2 => ?_
  refine s_ret c2 (E_call (EA_1 ((E_lc (ys := keysS cl ws) (enc := nI) (f := nI) (p := fun m => !(keysS cl ws).any fun o => sub o m && !decide (o = m)) (WI_list (E_var rfl)) (by omega) (fun o _ => GB_name (by decide)) (fun o _ => ET_test (E_op (E_lc (ys := keysS cl ws) (enc := nI) (f := fun _ => .int 1) (p := fun z => sub z o && !decide (z = o)) (WI_list (E_var rfl)) (by omega) (fun z _ => GB_name (by decide)) (fun z _ => ET_and (ET_test (E_op (E_op (E_var rfl) (E_var rfl) rd_and) (E_var rfl) rd_subE)) fun _ => ET_test (E_op (E_var rfl) (E_var rfl) rd_neN)) (fun z _ _ => E_int)) (E_lst EA_nil) rd_none)) (fun o _ _ => E_var rfl)).to (d' := .list ((keysL cl ws).map nI)) rfl)) ⟨keysL cl ws, ?_, rfl, rfl⟩) kR
  unfold keysL
  exact Nat.le_trans (List.length_filter_le _ _) (by omega)
end
end ML
set_option Elab.async false
set_option linter.all false
set_option maxRecDepth 100000
set_option maxHeartbeats 2000000
/-! readings that may change the state: what they give is told by a set of data -/
namespace ML
open PySem L2
open Evl (Ex fresh_back)

/-- values that are held meanwhile -/
abbrev Hold := List (List V × List PyData)
def ConX (b : Bs) (G : Hp) (κ : Hold) (ρ : List Sl) (σ : L2.St) (H : Hp) : Prop := ∃ F, ConF b G F ρ σ H ∧ ∀ p ∈ κ, DVs F p.1 p.2
def XE (b : Bs) (te : TE) (ρ : List Sl) (P : PyData → Prop) : Prop := ∀ (κ : Hold) (G : Hp) (σ : L2.St) (H : Hp), ConX b G κ ρ σ H → ∀ Q : VK, (∀ v d H', P d → ConX b G (([v], [d]) :: κ) ρ σ H' → Q v H') → te σ H Q
def XA (b : Bs) (ta : TA) (ρ : List Sl) (P : List PyData → Prop) : Prop := ∀ (κ : Hold) (G : Hp) (σ : L2.St) (H : Hp), ConX b G κ ρ σ H → ∀ Q : List V → Hp → Prop, (∀ vs ds H', P ds → ConX b G ((vs, ds) :: κ) ρ σ H' → Q vs H') → ta σ H Q
def XT (b : Bs) (tt : TT) (ρ : List Sl) (P : Bool → Prop) : Prop := ∀ (κ : Hold) (G : Hp) (σ : L2.St) (H : Hp), ConX b G κ ρ σ H → ∀ Q : Bool → Hp → Prop, (∀ x H', P x → ConX b G κ ρ σ H' → Q x H') → tt σ H Q
theorem one_dv {F : Hp} {v : V} {d : PyData} (h : DVs F [v] [d]) : DV F v d := by
  cases h with
  | cons h _ => exact h
section
variable {K : PySem.W.Frag} {b : Bs} [Stb b.I b.N] {G F F' H H' : Hp} {κ : Hold} {ρ : List Sl} {σ : L2.St} {ta tr : TA} {te tf tb : TE} {tt tu : TT} {d : PyData} {ds : List PyData} {P P1 P2 P3 : PyData → Prop} {PA PB : List PyData → Prop} {PT PU : Bool → Prop} {r : R2}
theorem Con.x (c : Con b G ρ σ H) : ConX b G [] ρ σ H := by
  obtain ⟨F, c⟩ := c
  exact ⟨F, c, fun p hp => by cases hp⟩
omit [Stb b.I b.N] in
theorem ConX.con (c : ConX b G κ ρ σ H) : Con b G ρ σ H := by
  obtain ⟨F, c, _⟩ := c
  exact ⟨F, c⟩
omit [Stb b.I b.N] in
theorem ConX.drop {p : List V × List PyData} (c : ConX b G (p :: κ) ρ σ H) : ConX b G κ ρ σ H := by
  obtain ⟨F, c, h⟩ := c
  exact ⟨F, c, fun q hq => h q (List.mem_cons_of_mem _ hq)⟩
theorem held_up {F F' : Hp} (e : Ex F F') (h : ∀ p ∈ κ, DVs F p.1 p.2) : ∀ p ∈ κ, DVs F' p.1 p.2 := fun p hp => (h p hp).up e
omit [Stb b.I b.N] in
theorem held_cons {F : Hp} {p : List V × List PyData} (h : DVs F p.1 p.2) (h' : ∀ q ∈ κ, DVs F q.1 q.2) : ∀ q ∈ p :: κ, DVs F q.1 q.2 := fun q hq => by
  rcases List.mem_cons.mp hq with rfl | hq
  · exact h
  · exact h' q hq
omit [Stb b.I b.N] in
theorem XE.imp (h : XE b te ρ P) (i : ∀ d, P d → P1 d) : XE b te ρ P1 := fun κ G σ H c Q q => h κ G σ H c Q fun v d H' p c' => q v d H' (i d p) c'
theorem E.x (h : E te ρ d) : XE b te ρ (fun z => z = d) := fun κ G σ H c Q q => by
  obtain ⟨F, c, hk⟩ := c
  exact h σ F H c.fh c.env Q fun v F' H' s dv => q v d H' rfl ⟨F', c.pure s, held_cons (.cons dv .nil) (held_up s.ff hk)⟩
theorem EA.x (h : EA ta ρ ds) : XA b ta ρ (fun z => z = ds) := fun κ G σ H c Q q => by
  obtain ⟨F, c, hk⟩ := c
  exact h σ F H c.fh c.env Q fun vs F' H' s dv => q vs ds H' rfl ⟨F', c.pure s, held_cons dv (held_up s.ff hk)⟩
theorem ET.x {x : Bool} (h : ET tt ρ x) : XT b tt ρ (fun z => z = x) := fun κ G σ H c Q q => by
  obtain ⟨F, c, hk⟩ := c
  exact h σ F H c.fh c.env Q fun F' H' s => q x H' rfl ⟨F', c.pure s, held_up s.ff hk⟩
theorem XE_op (ha : XE b te ρ P1) (hb : XE b tf ρ P2) (hr : ∀ x y, P1 x → P2 y → ∃ z, RD r x y z ∧ P3 z) : XE b (tOp r te tf) ρ P3 := fun κ G σ H c Q q =>
  ha κ G σ H c _ fun v d H1 p1 c1 => hb _ G σ H1 c1 _ fun w e H2 p2 c2 => by
    obtain ⟨F, c2, hk⟩ := c2
    obtain ⟨z, hz, pz⟩ := hr d e p1 p2
    have hw := one_dv (hk _ List.mem_cons_self)
    have hv := one_dv (hk _ (List.mem_cons_of_mem _ List.mem_cons_self))
    exact hz v w F H2 c2.fh hv hw Q fun u F' H' s dv => q u z H' pz ⟨F', c2.pure s, held_cons (.cons dv .nil) (held_up s.ff fun p hp => hk p (List.mem_cons_of_mem _ (List.mem_cons_of_mem _ hp)))⟩
theorem XE_un {r : V → Hp → VK → Prop} (ha : XE b te ρ P1) (hr : ∀ x, P1 x → ∃ z, RU r x z ∧ P3 z) : XE b (tUn r te) ρ P3 := fun κ G σ H c Q q =>
  ha κ G σ H c _ fun v d H1 p1 c1 => by
    obtain ⟨F, c2, hk⟩ := c1
    obtain ⟨z, hz, pz⟩ := hr d p1
    exact hz v F H1 c2.fh (one_dv (hk _ List.mem_cons_self)) Q fun u F' H' s dv => q u z H' pz ⟨F', c2.pure s, held_cons (.cons dv .nil) (held_up s.ff fun p hp => hk p (List.mem_cons_of_mem _ hp))⟩
theorem XE_if (ht : XT b tt ρ PT) (h1 : PT true → XE b te ρ P) (h2 : PT false → XE b tf ρ P) : XE b (tIf tt te tf) ρ P := fun κ G σ H c Q q =>
  ht κ G σ H c _ fun x H1 p c1 => by
    cases x with
    | true =>
      show te σ H1 Q
      exact h1 p κ G σ H1 c1 Q q
    | false =>
      show tf σ H1 Q
      exact h2 p κ G σ H1 c1 Q q
theorem XT_test (h : XE b te ρ (fun z => ∃ x, z = .bool x ∧ PT x)) : XT b (tTest te) ρ PT := fun κ G σ H c Q q => h κ G σ H c _ fun v d H1 p c1 => by
  obtain ⟨x, rfl, px⟩ := p
  obtain ⟨F, c1, hk⟩ := c1
  have hv := one_dv (hk _ List.mem_cons_self)
  cases hv
  exact ⟨x, rfl, q x H1 px ⟨F, c1, fun p hp => hk p (List.mem_cons_of_mem _ hp)⟩⟩
theorem XT_not (h : XT b tt ρ PT) : XT b (tNot tt) ρ (fun x => ∃ y, PT y ∧ x = !y) := fun κ G σ H c Q q => h κ G σ H c _ fun x H1 p c1 => q _ H1 ⟨x, p, rfl⟩ c1
theorem XT_and (h : XT b tt ρ PT) (h' : PT true → XT b tu ρ PU) : XT b (tAnd tt tu) ρ (fun x => (x = false ∧ PT false) ∨ (PT true ∧ PU x)) := fun κ G σ H c Q q => h κ G σ H c _ fun x H1 p c1 => by
  cases x with
  | true =>
    show tu σ H1 Q
    exact h' p κ G σ H1 c1 Q fun y H2 p2 c2 => q y H2 (.inr ⟨p, p2⟩) c2
  | false =>
    show Q false H1
    exact q false H1 (.inl ⟨rfl, p⟩) c1
theorem XA_cons (h : XE b te ρ P) (h' : XA b ta ρ PA) : XA b (tCons te ta) ρ (fun ds => ∃ d ds', ds = d :: ds' ∧ P d ∧ PA ds') := fun κ G σ H c Q q =>
  h κ G σ H c _ fun v d H1 p c1 => h' _ G σ H1 c1 _ fun vs ds H2 p2 c2 => by
    obtain ⟨F, c2, hk⟩ := c2
    refine q (v :: vs) (d :: ds) H2 ⟨d, ds, rfl, p, p2⟩ ⟨F, c2, held_cons (.cons (one_dv (hk _ (List.mem_cons_of_mem _ List.mem_cons_self))) (hk _ List.mem_cons_self)) fun p hp => hk p (List.mem_cons_of_mem _ (List.mem_cons_of_mem _ hp))⟩
theorem XA_nil : XA b tNil ρ (fun ds => ds = []) := EA_nil.x
theorem XA.imp (h : XA b ta ρ PA) (i : ∀ d, PA d → PB d) : XA b ta ρ PB := fun κ G σ H c Q q => h κ G σ H c Q fun v d H' p c' => q v d H' (i d p) c'
theorem XA_1 (h : XE b te ρ P) : XA b (tCons te tNil) ρ (fun ds => ∃ d, ds = [d] ∧ P d) := (XA_cons h XA_nil).imp fun ds ⟨d, ds', e, p, e'⟩ => ⟨d, by rw [e, e'], p⟩
theorem XA_2 (h : XE b te ρ P1) (h' : XE b tf ρ P2) : XA b (tCons te (tCons tf tNil)) ρ (fun ds => ∃ d e, ds = [d, e] ∧ P1 d ∧ P2 e) := (XA_cons h (XA_1 h')).imp fun ds ⟨d, ds', e, p, d', e', p'⟩ => ⟨d, d', by rw [e, e'], p, p'⟩
theorem XA_3 (h : XE b te ρ P1) (h' : XE b tf ρ P2) (h'' : XE b tb ρ P3) : XA b (tCons te (tCons tf (tCons tb tNil))) ρ (fun ds => ∃ d e f, ds = [d, e, f] ∧ P1 d ∧ P2 e ∧ P3 f) := (XA_cons h (XA_2 h' h'')).imp fun ds ⟨d, ds', e, p, d', d'', e', p'⟩ => ⟨d, d', d'', by rw [e, e'], p, p'⟩
theorem XE_tup (h : XA b ta ρ (fun ds => ds.length ≤ 100000 ∧ P (.tuple ds))) : XE b (tTup ta) ρ P := fun κ G σ H c Q q => h κ G σ H c _ fun vs ds H1 p c1 => by
  obtain ⟨F, c1, hk⟩ := c1
  have hd := hk _ List.mem_cons_self
  refine ⟨by rw [hd.len]; exact Evl.sz_of p.1, fun a ha => ?_⟩
  have s := Stq.new (o := .tup vs) c1.fh ha
  exact q _ _ _ p.2 ⟨_, c1.pure s, held_cons (.cons (.tup (.inl upd_same) (hd.up s.ff)) .nil) (held_up s.ff fun p hp => hk p (List.mem_cons_of_mem _ hp))⟩
theorem XE_lst (h : XA b ta ρ (fun ds => ds.length ≤ 100000 ∧ P (.list ds))) : XE b (tLst ta) ρ P := fun κ G σ H c Q q => h κ G σ H c _ fun vs ds H1 p c1 => by
  obtain ⟨F, c1, hk⟩ := c1
  have hd := hk _ List.mem_cons_self
  refine ⟨by rw [hd.len]; exact Evl.sz_of p.1, fun a ha => ?_⟩
  have s := Stq.new (o := .lst vs) c1.fh ha
  exact q _ _ _ p.2 ⟨_, c1.pure s, held_cons (.cons (.lst upd_same (hd.up s.ff)) .nil) (held_up s.ff fun p hp => hk p (List.mem_cons_of_mem _ hp))⟩
theorem XE_cb {r : List V → Hp → VK → Prop} (h : XA b ta ρ PA) (hr : ∀ ds, PA ds → ∃ z, RC r ds z ∧ P z) : XE b (tCB r ta) ρ P := fun κ G σ H c Q q => h κ G σ H c _ fun vs ds H1 p c1 => by
  obtain ⟨F, c1, hk⟩ := c1
  obtain ⟨z, hz, pz⟩ := hr ds p
  exact hz vs F H1 c1.fh (hk _ List.mem_cons_self) Q fun v F' H' s dv => q v z H' pz ⟨F', c1.pure s, held_cons (.cons dv .nil) (held_up s.ff fun p hp => hk p (List.mem_cons_of_mem _ hp))⟩
theorem XE_call {R : List PyData → PyData → Prop} {X : XK} (h : XA b ta ρ PA) (hr : ∀ ds, PA ds → ∃ z, R ds z ∧ P z) : XE b (tCall (spD R) [] X ta) ρ P := fun κ G σ H c Q q => h κ G σ H c _ fun vs ds H1 p c1 => by
  obtain ⟨F, c1, hk⟩ := c1
  obtain ⟨z, hz, pz⟩ := hr ds p
  exact ⟨F, ds, c1.fh, by rw [List.append_nil]; exact hk _ List.mem_cons_self, z, hz, fun v F' H' s dv => q v z H' pz ⟨F', c1.pure s, held_cons (.cons dv .nil) (held_up s.ff fun p hp => hk p (List.mem_cons_of_mem _ hp))⟩⟩

/-! ### statements -/
variable {D : Ends} {tz t1 t2 : TS} {i : Nat}
theorem s_asgX (c : Con b G ρ σ H) (h : XE b te ρ P) (k : ∀ d, P d → ∀ σ' H', Con b G (ρ.set i (.da d)) σ' H' → D.nx σ' H') : tAsg te (gName i) D σ H :=
  h [] G σ H c.x _ fun v d H' p c' => by
    obtain ⟨F, c', hk⟩ := c'
    exact k d p _ _ ⟨F, c'.da (one_dv (hk _ List.mem_cons_self))⟩
theorem q_asgX (c : Con b G ρ σ H) (h : XE b te ρ P) (k : ∀ d, P d → ∀ σ' H', Con b G (ρ.set i (.da d)) σ' H' → tz D σ' H') : tSeq (tAsg te (gName i)) tz D σ H := s_asgX (D := { D with nx := tz D }) c h k
theorem s_retX (c : Con b G ρ σ H) (h : XE b te ρ P) (k : ∀ d, P d → ∀ v H', Ret b G d v H' → D.rt v H') : tRet te D σ H :=
  h [] G σ H c.x _ fun v d H' p c' => by
    obtain ⟨F, c', hk⟩ := c'
    exact k d p _ _ (c'.ret (one_dv (hk _ List.mem_cons_self)))
theorem s_ifX (c : Con b G ρ σ H) (h : XT b tt ρ PT) (h1 : PT true → ∀ H', Con b G ρ σ H' → t1 D σ H') (h2 : PT false → ∀ H', Con b G ρ σ H' → t2 D σ H') : tIfS tt t1 t2 D σ H :=
  h [] G σ H c.x _ fun x H' p c' => by
    cases x with
    | true => exact h1 p H' c'.con
    | false => exact h2 p H' c'.con
theorem q_whenX (c : Con b G ρ σ H) (h : XT b tt ρ PT) (h1 : PT true → ∀ H', Con b G ρ σ H' → t1 { D with nx := tz D } σ H') (h2 : PT false → ∀ H', Con b G ρ σ H' → tz D σ H') : tSeq (tIfS tt t1 tNext) tz D σ H := s_ifX (D := { D with nx := tz D }) c h h1 h2
/-- xs.append(..) -/
theorem s_appX (c : Con b G ρ σ H) (h : ρ[i]? = some (.ow ds)) (he : XE b te ρ P) (hl : ds.length < 100000) (k : ∀ d, P d → ∀ H', Con b G (ρ.set i (.ow (ds ++ [d]))) σ H' → D.nx σ H') (h1 : oneOw i ρ = true := by rfl) : tDrop (tBM K "list" rAppend (tVar i) (tCons te tNil)) D σ H := by
  obtain ⟨F, c0⟩ := id c
  obtain ⟨p, vs, e1, z, e2, e3, e4⟩ := c0.2.2.2.2.2 i _ h
  refine ⟨.ref p, e1, .inl ⟨rfl, vs, SqL.of e3⟩, he [] G σ H c.x _ fun v d H1 pd c1 => ?_⟩
  obtain ⟨F1, c1, hk⟩ := c1
  obtain ⟨p', vs', f1, z', f2, f3, f4⟩ := c1.2.2.2.2.2 i _ h
  have ep : p' = p := by rw [e1] at f1; injection f1 with f1; injection f1 with f1; injection f1 with f1; exact f1.symm
  subst ep
  exact ⟨p', vs', v, rfl, rfl, f3, by rw [f4.len]; exact Evl.sz_lt hl, k d pd _ ⟨F1, c1.lset h h1 f1 f3 f2 z' (f4.app (.cons (one_dv (hk _ List.mem_cons_self)) .nil))⟩⟩
theorem q_appX (c : Con b G ρ σ H) (h : ρ[i]? = some (.ow ds)) (he : XE b te ρ P) (hl : ds.length < 100000) (k : ∀ d, P d → ∀ H', Con b G (ρ.set i (.ow (ds ++ [d]))) σ H' → tz D σ H') (h1 : oneOw i ρ = true := by rfl) : tSeq (tDrop (tBM K "list" rAppend (tVar i) (tCons te tNil))) tz D σ H := s_appX (D := { D with nx := tz D }) c h he hl k h1
/-- for .. in range(..), how many drawn -/
theorem q_forRng {g : TG} {tu : TS} {PU' : Nat → Prop} (c : Con b G ρ σ H) (h : XA b ta ρ (fun ds => ∃ n : Nat, ds = [nI n] ∧ PU' n)) (k : ∀ n, PU' n → ∀ H', Con b G ρ σ H' → tSeq (tFor (iRng1 (tCons (tC (.int ((n : Nat) : Int))) tNil)) g tu) tz D σ H') : tSeq (tFor (iRng1 ta) g tu) tz D σ H :=
  h [] G σ H c.x _ fun vs ds H1 p c1 => by
    obtain ⟨n, rfl, pn⟩ := p
    obtain ⟨F, c1, hk⟩ := c1
    have hv := hk _ List.mem_cons_self
    cases hv with
    | cons h1 h2 =>
      cases h2
      cases h1
      exact k n pn H1 ⟨F, c1⟩
/-- for .. in a list that a reading gives -/
theorem q_forLst {g : TG} {tu : TS} {PL : List PyData → Prop} (c : Con b G ρ σ H) (h : XE b te ρ (fun d => ∃ ds, d = .list ds ∧ PL ds)) (k : ∀ ds, PL ds → ∀ J F1 H1, ConF b G F1 ρ σ H1 → WalkOk J ds F1 → Wk J g tu { D with nx := tz D } σ H1) : tSeq (tFor (iList K te) g tu) tz D σ H :=
  h [] G σ H c.x _ fun v d H1 p c1 => by
    obtain ⟨ds, rfl, pd⟩ := p
    obtain ⟨F, c1, hk⟩ := c1
    have hv := one_dv (hk _ List.mem_cons_self)
    cases hv with
    | lst h1 h2 => exact ⟨_, rfl, ⟨_, SqL.of (c1.fh _ _ h1)⟩, k ds pd _ F H1 c1 (walk_list h1 h2)⟩
end

/-! ### the urn -/
def urnHO (g : Addr) (mx : Nat) : HO := .dK [(.inr "great", .ref g), (.inr "mixed", .int ((mx : Nat) : Int))]
structure UrnOk (u g : Addr) (F H : Hp) : Prop where
  fu : F u = none
  fg : F g = none
  st : ∃ (gs : List Nat) (mx : Nat), H u = some (urnHO g mx) ∧ H g = some (.lst (gs.map fun n => V.int ((n : Nat) : Int))) ∧ gs.length ≤ 63 ∧ mx < 2 ^ 61
def UG (u g : Addr) : Addr → Prop := fun a => a = u ∨ a = g
def UI (u g : Addr) (H0 : Hp) : Hp → Hp → Prop := fun F H => ∃ g', UrnOk u g' F H ∧ (g' = g ∨ H0 g' = none)
def UN (u : Addr) : Hp → Addr → Prop := fun H a => a = u ∨ ∃ mx, H u = some (urnHO a mx)
theorem urn_inj {g g' : Addr} {m m' : Nat} (h : urnHO g m = urnHO g' m') : g = g' := by
  unfold urnHO at h
  injection h with h
  injection h with h _
  injection h with _ h
  injection h
theorem UrnOk.ne {u g : Addr} {F H : Hp} (h : UrnOk u g F H) : u ≠ g := fun e => by
  obtain ⟨gs, mx, h1, h2, _⟩ := h.st
  rw [e, h2] at h1
  cases h1
theorem UrnOk.n {u g a : Addr} {F H : Hp} (h : UrnOk u g F H) (n : UN u H a) : a = u ∨ a = g := by
  rcases n with rfl | ⟨mx, e⟩
  · exact .inl rfl
  · obtain ⟨gs, m, h1, _⟩ := h.st
    rw [h1] at e
    exact .inr (urn_inj (Option.some.inj e)).symm
theorem UrnOk.ng {u g : Addr} {F H : Hp} (h : UrnOk u g F H) : UN u H g := by
  obtain ⟨gs, m, h1, _⟩ := h.st
  exact .inr ⟨m, h1⟩
theorem UrnOk.up {u g : Addr} {F H F' H' : Hp} (h : UrnOk u g F H) (h1 : H' u = H u) (h2 : H' g = H g) (h3 : F' u = none) (h4 : F' g = none) : UrnOk u g F' H' := by
  obtain ⟨gs, m, a1, a2, a3⟩ := h.st
  exact ⟨h3, h4, gs, m, by rw [h1]; exact a1, by rw [h2]; exact a2, a3⟩
theorem UrnOk.pure {u g : Addr} {F H F' H' : Hp} (h : UrnOk u g F H) (s : Stq F H F' H') : UrnOk u g F' H' := by
  obtain ⟨gs, m, a1, a2, a3⟩ := h.st
  exact ⟨s.nw u h.fu (by rw [a1]; simp), s.nw g h.fg (by rw [a2]; simp), gs, m, s.ex u _ a1, s.ex g _ a2, a3⟩
theorem UrnOk.hu {u g : Addr} {F H : Hp} (h : UrnOk u g F H) : H u ≠ none := by
  obtain ⟨gs, m, a1, a2, a3⟩ := h.st
  rw [a1]; simp
theorem UrnOk.hg {u g : Addr} {F H : Hp} (h : UrnOk u g F H) : H g ≠ none := by
  obtain ⟨gs, m, a1, a2, a3⟩ := h.st
  rw [a2]; simp
instance urnStb (u g : Addr) (H0 : Hp) : Stb (UI u g H0) (UN u) where
  st := fun s ⟨g', h, e⟩ => ⟨g', h.pure s, e⟩
  sn := fun {F H F' H' a} s ⟨g', h, _⟩ n => by
    rcases (h.pure s).n n with rfl | rfl
    · exact .inl rfl
    · exact h.ng
  nn := fun ⟨g', h, _⟩ n => by
    rcases h.n n with rfl | rfl
    · exact h.hu
    · exact h.hg
  ow := fun {F H p o} ⟨g', h, e⟩ n f _ => ⟨g', h.up (upd_ne fun z => n (.inl z.symm)) (upd_ne fun z => n (by rw [← z]; exact h.ng)) h.fu h.fg, e⟩
  on := fun {F H p o a} ⟨g', h, _⟩ n _ m => by
    rcases m with rfl | ⟨mx, e⟩
    · exact .inl rfl
    · rw [upd_ne fun z => n (.inl z.symm)] at e
      exact .inr ⟨mx, e⟩
  fz := fun {F H p o} ⟨g', h, e⟩ n f _ => ⟨g', h.up rfl rfl (by rw [upd_ne fun z => n (.inl z.symm)]; exact h.fu) (by rw [upd_ne fun z => n (by rw [← z]; exact h.ng)]; exact h.fg), e⟩
abbrev bsU (u g : Addr) (F H : Hp) : Bs := ⟨UG u g, UI u g H, UN u, F, H⟩
/-- what an urn's reading promises: some d of R; what the urn holds changes -/
def spU (R : List PyData → PyData → Prop) : Sp := fun vs H Q _ => ∃ (F : Hp) (u g : Addr) (ws : List V) (ds : List PyData), vs = .ref u :: ws ∧ Ex F H ∧ UrnOk u g F H ∧ DVs F ws ds ∧ (∃ d, R ds d) ∧
  ∀ v d F' H' g', R ds d → Stp (UG u g) F H F' H' → UrnOk u g' F' H' → (g' = g ∨ H g' = none) → H' g ≠ none → DV F' v d → Q v H'
/-- b knows of the urn at u -/
structure UrnIn (b : Bs) (u : Addr) : Prop where
  get : ∀ {F H}, b.I F H → ∃ g, UrnOk u g F H ∧ (b.M g ∨ b.H0 g = none) ∧ (b.M u ∨ b.H0 u = none) ∧ b.N H u ∧ b.N H g
  put : ∀ {F H F' H' g g'}, b.I F H → UrnOk u g F H → Stp (UG u g) F H F' H' → UrnOk u g' F' H' → (g' = g ∨ H g' = none) → (∀ a, b.H0 a ≠ none → H a ≠ none) → b.I F' H' ∧ ∀ a, b.N H' a → b.N H a ∨ H a = none
theorem bsU_in (u g : Addr) (F0 H0 : Hp) : UrnIn (bsU u g F0 H0) u where
  get := fun ⟨g', h, e⟩ => ⟨g', h, e.elim (fun e => .inl (.inr e)) .inr, .inl (.inl rfl), .inl rfl, h.ng⟩
  put := fun {F H F' H' g1 g2} ⟨g', h, e⟩ h1 s h2 e2 hn => by
    have eg : g1 = g' := by
      rcases h.n h1.ng with q | q
      · exact absurd q.symm h1.ne
      · exact q
    subst eg
    refine ⟨⟨g2, h2, ?_⟩, fun a n => ?_⟩
    · rcases e2 with rfl | e2
      · exact e
      · right
        cases q : H0 g2 with
        | none => rfl
        | some o => exact absurd e2 (hn g2 (by show H0 g2 ≠ none; rw [q]; simp))
    · rcases h2.n n with rfl | rfl
      · exact .inl (.inl rfl)
      · rcases e2 with rfl | e2
        · exact .inl h1.ng
        · exact .inr e2
section
variable {b : Bs} [Stb b.I b.N] {ρ : List Sl} {ta : TA} {PA : List PyData → Prop} {i : Nat} {u : Addr} {X : XK} {R : List PyData → PyData → Prop}
theorem XE_urn (U : UrnIn b u) (hi : ρ[i]? = some (.at_ u)) (h : XA b ta ρ PA) (hR : ∀ ds, PA ds → ∃ d, R ds d) : XE b (tCall (spU R) [] X (tCons (tVar i) ta)) ρ (fun d => ∃ ds, PA ds ∧ R ds d) := fun κ G σ H c Q q => by
  obtain ⟨F0', c0, _⟩ := id c
  refine ⟨.ref u, c0.2.2.2.2.2 i _ hi, h κ G σ H c _ fun vs ds H1 p c1 => ?_⟩
  obtain ⟨F1, c1, hk⟩ := c1
  obtain ⟨st, gx, j, m, o⟩ := id c1
  obtain ⟨g, hu, hg, hM, nu, ng⟩ := U.get j
  refine ⟨F1, u, g, vs, ds, by rw [List.append_nil], c1.fh, hu, hk _ List.mem_cons_self, hR ds p, fun v d F' H' g' hr s h2 e2 h3 dv => ?_⟩
  have hn : ∀ a, b.H0 a ≠ none → H1 a ≠ none := fun a ha => by
    by_cases hm : b.M a
    · exact m a hm
    · exact st.sets ha hm
  obtain ⟨j', nn⟩ := U.put j hu s h2 e2 hn
  have keep : ∀ a, H1 a ≠ none → H' a ≠ none := fun a ha => by
    by_cases hm : UG u g a
    · rcases hm with rfl | rfl
      · exact h2.hu
      · exact h3
    · exact s.sets ha hm
  refine q v d H' ⟨ds, p, hr⟩ ⟨F', ⟨⟨fun a w ha hm => ?_, st.ff.trans s.ff, s.fh, fun a ha h0 => s.nw a (st.nw a ha h0) (hn a h0)⟩, gx.trans s.ff, j', fun a ha => keep a (m a ha), o.1, fun k t ht => ?_⟩, held_cons (.cons dv .nil) (held_up s.ff fun p hp => hk p (List.mem_cons_of_mem _ hp))⟩
  · refine s.hh a w (st.hh a w ha hm) fun z => ?_
    rcases z with rfl | rfl
    · rcases hM with hM | hM
      · exact hm hM
      · rw [hM] at ha; cases ha
    · rcases hg with hg | hg
      · exact hm hg
      · rw [hg] at ha; cases ha
  · have ht' := o.2 k t ht
    have ok : ∀ p, b.Z H1 p → H1 p ≠ none → F1 p = none → H' p = H1 p ∧ F' p = none ∧ b.Z H' p := fun p z hp fp => by
      have np : ¬ UG u g p := fun w => by
        rcases w with rfl | rfl
        · exact z.1 nu
        · exact z.1 ng
      refine ⟨?_, s.nw p fp hp, fun w => (nn p w).elim z.1 hp, z.2⟩
      cases q2 : H1 p with
      | none => exact absurd q2 hp
      | some w => exact s.hh p w q2 np
    cases t with
    | un => trivial
    | da d =>
      obtain ⟨w, a1, a2⟩ := ht'
      exact ⟨w, a1, a2.up s.ff⟩
    | at_ p => exact ht'
    | ow es =>
      obtain ⟨p, ws, a1, a2, a3, a4, a5⟩ := ht'
      obtain ⟨b1, b2, b3⟩ := ok p a2 (by rw [a4]; simp) a3
      exact ⟨p, ws, a1, b3, b2, by rw [b1]; exact a4, a5.up s.ff⟩
    | dk ks =>
      obtain ⟨p, kvs, a1, a2, a3, a4, a5⟩ := ht'
      obtain ⟨b1, b2, b3⟩ := ok p a2 (by rw [a4]; simp) a3
      exact ⟨p, kvs, a1, b3, b2, by rw [b1]; exact a4, a5⟩
end

/-! ### an urn's def -/
theorem EnvOk_startU {Z : Addr → Prop} {F H : Hp} {N : List Str} {u : Addr} {vs : List V} {ds : List PyData} (h : DVs F vs ds) (hl : ds.length + 1 ≤ N.length) : EnvOk Z F H (L2.start N (.ref u :: vs)) (.at_ u :: ds.map Sl.da ++ List.replicate (N.length - (ds.length + 1)) Sl.un) := by
  refine ⟨by unfold L2.start; simp [h.len], fun i s hi => ?_⟩
  cases i with
  | zero =>
    have e : s = .at_ u := by simpa using hi.symm
    subst e
    unfold L2.start
    simp [SlOk]
  | succ i =>
    have h2 := (EnvOk_start (Z := Z) (F := F) (H := H) (N := N.tail) h (by rw [List.length_tail]; omega)).2 i s (by
      rw [List.length_tail]
      have e : N.length - 1 - ds.length = N.length - (ds.length + 1) := by omega
      rw [e]
      simpa using hi)
    have e2 : (L2.start N (.ref u :: vs))[i + 1]? = (L2.start N.tail vs)[i]? := by
      unfold L2.start
      have e3 : N.length - (vs.length + 1) = N.length - 1 - vs.length := by omega
      simp [e3]
    rw [e2]
    exact h2
theorem urn_ok {P : Program} {w : World} {K : PySem.W.Frag} {mg : Str → Option Value} {base : Heap} {x : Str} {st : Stmt} {f : Addr} {fd : FuncData} {N ps : List Str} {k : Nat} {R : List PyData → PyData → Prop} (F : FnP K x st f fd) (S : FnScope N ps (defScope st))
    (hl : ∀ ds d, R ds d → ds.length + 1 = ps.length) (hN : ps.length ≤ N.length)
    (hb : ∀ (cdv : Value) (A : Around) (outer : List Env) (s : Shared) (H : Hp) (Q : VK) (X : XK), Room k (A.deeper (PyProof.Rows.envOfC x (defScope st) s.heap.objs.size f cdv)) →
      ∃ t, PSs (cxOf CX0 P w K mg base N x (defScope st) f cdv A outer s H X).nox (defBody st) t ∧ ∀ (F0 : Hp) (u g : Addr) (ds : List PyData) (d : PyData), R ds d → UrnOk u g F0 H → ∀ σ, Con (bsU u g F0 H) F0 (.at_ u :: ds.map Sl.da ++ List.replicate (N.length - (ds.length + 1)) Sl.un) σ H →
        (∀ v d H', R ds d → Ret (bsU u g F0 H) F0 d v H' → Q v H') → t { nx := fun _ H' => Q .non H', rt := Q } σ H) : FnOk P w K mg base CX0 (k + 1) f fd ps (spU R) := by
  refine F.ok S (fun vs H Q X h => ?_) (fun cdv A outer s H vs Q X hr h => ?_)
  · obtain ⟨F0, u, g, ws, ds, rfl, _, _, dv, ⟨d, hR⟩, _⟩ := h
    rw [List.length_cons, dv.len]
    exact hl ds d hR
  · obtain ⟨F0, u, g, ws, ds, rfl, e, hu, dv, ⟨d, hR⟩, q⟩ := h
    obtain ⟨t, ht, hq⟩ := hb cdv A outer s H Q X hr
    refine ⟨t, PSs.nox ht, hq F0 u g ds d hR hu _ ⟨F0, Stp.refl e, Ex.refl F0, ⟨g, hu, .inl rfl⟩, fun a ha => ?_, EnvOk_startU dv (by rw [hl ds d hR]; exact hN)⟩ fun v d' H' hR' r => ?_⟩
    · rcases ha with rfl | rfl
      · exact hu.hu
      · exact hu.hg
    · obtain ⟨F', s', _, ⟨g', h1, h2⟩, m', o'⟩ := r
      obtain ⟨v', e', dv'⟩ := o'.2 0 _ rfl
      obtain rfl := Option.some.inj (Option.some.inj e')
      exact q v d' F' H' g' hR' s' h1 h2 (m' g (.inr rfl)) dv'
end ML
set_option Elab.async false
set_option linter.all false
set_option maxRecDepth 100000
set_option maxHeartbeats 2000000
/-! a draw -/
namespace ML
open PySem L2
open Evl (Ex fresh_back)

def intsV (gs : List Nat) : List V := gs.map fun n => V.int ((n : Nat) : Int)
/-- along a draw: from H (the frozen F0) to H1, where the urn's list stands at g1 -/
structure DS (u g : Addr) (F0 H : Hp) (g1 : Addr) (gs : List Nat) (mx : Nat) (H1 : Hp) : Prop where
  e : Ex F0 H
  s : Stp (UG u g) F0 H F0 H1
  fu : F0 u = none
  fg : F0 g1 = none
  hu : H1 u = some (urnHO g1 mx)
  hg : H1 g1 = some (.lst (intsV gs))
  og : g1 = g ∨ H g1 = none
  kg : H1 g ≠ none
  ug : u ≠ g1
  uh : H u ≠ none
  len : gs.length ≤ 63
  low : mx < 2 ^ 61
section
variable {u g g1 : Addr} {F0 H H1 : Hp} {gs gs' : List Nat} {mx mx' : Nat} {σ : L2.St}
theorem DS.start (hu : UrnOk u g F0 H) (e : Ex F0 H) : ∃ gs mx, DS u g F0 H g gs mx H := by
  obtain ⟨gs, mx, h1, h2, h3, h4⟩ := hu.st
  exact ⟨gs, mx, e, Stp.refl e, hu.fu, hu.fg, h1, h2, .inl rfl, by rw [h2]; simp, hu.ne, by rw [h1]; simp, h3, h4⟩
theorem DS.new (d : DS u g F0 H g1 gs mx H1) {p : Addr} {o : HO} (h : H1 p = none) : DS u g F0 H g1 gs mx (upd H1 p o) := by
  have hu : u ≠ p := fun z => by have := d.hu; rw [z, h] at this; cases this
  have hg : g1 ≠ p := fun z => by have := d.hg; rw [z, h] at this; cases this
  have hg0 : g ≠ p := fun z => d.kg (by rw [z]; exact h)
  refine ⟨d.e, ⟨fun a w q m => ?_, d.s.ff, ex_upd_new d.s.fh (fresh_back d.s.fh h), d.s.nw⟩, d.fu, d.fg, by rw [upd_ne hu]; exact d.hu, by rw [upd_ne hg]; exact d.hg, d.og, by rw [upd_ne hg0]; exact d.kg, d.ug, d.uh, d.len, d.low⟩
  have := d.s.hh a w q m
  rw [upd_ne (ne_of_none this h)]
  exact this
theorem DS.setg (d : DS u g F0 H g1 gs mx H1) (hl : gs'.length ≤ 63) : DS u g F0 H g1 gs' mx (upd H1 g1 (.lst (intsV gs'))) := by
  refine ⟨d.e, ⟨fun a w q m => ?_, d.s.ff, ex_upd_new d.s.fh d.fg, d.s.nw⟩, d.fu, d.fg, by rw [upd_ne d.ug]; exact d.hu, upd_same, d.og, ?_, d.ug, d.uh, hl, d.low⟩
  · rw [upd_ne (fun z => ?_)]
    · exact d.s.hh a w q m
    · rcases d.og with e | e
      · exact m (.inr (z.trans e))
      · rw [z, e] at q; cases q
  · by_cases z : g = g1
    · rw [z, upd_same]; simp
    · rw [upd_ne z]; exact d.kg
theorem DS.putg (d : DS u g F0 H g1 gs mx H1) {p : Addr} (hp : H1 p = some (.lst (intsV gs'))) (h0 : H p = none) (hl : gs'.length ≤ 63) (pu : u ≠ p) : DS u g F0 H p gs' mx (upd H1 u (urnHO p mx)) := by
  refine ⟨d.e, ⟨fun a w q m => ?_, d.s.ff, ex_upd_new d.s.fh d.fu, d.s.nw⟩, d.fu, fresh_back d.e h0, upd_same, by rw [upd_ne fun z => pu z.symm]; exact hp, .inr h0, ?_, pu, d.uh, hl, d.low⟩
  · rw [upd_ne (fun z => m (.inl z))]
    exact d.s.hh a w q m
  · by_cases z : g = u
    · rw [z, upd_same]; simp
    · rw [upd_ne z]; exact d.kg
theorem DS.putm (d : DS u g F0 H g1 gs mx H1) (hm : mx' < 2 ^ 61) : DS u g F0 H g1 gs mx' (upd H1 u (urnHO g1 mx')) := by
  refine ⟨d.e, ⟨fun a w q m => ?_, d.s.ff, ex_upd_new d.s.fh d.fu, d.s.nw⟩, d.fu, d.fg, upd_same, by rw [upd_ne fun z => d.ug z.symm]; exact d.hg, d.og, ?_, d.ug, d.uh, d.len, hm⟩
  · rw [upd_ne (fun z => m (.inl z))]
    exact d.s.hh a w q m
  · by_cases z : g = u
    · rw [z, upd_same]; simp
    · rw [upd_ne z]; exact d.kg
/-- the draw's end -/
theorem DS.ret (d : DS u g F0 H g1 gs mx H1) (r : Nat) : Ret (bsU u g F0 H) F0 (nI r) (.int ((r : Nat) : Int)) H1 := by
  have hk : UrnOk u g1 F0 H1 := ⟨d.fu, d.fg, gs, mx, d.hu, d.hg, d.len, d.low⟩
  refine ⟨F0, d.s, Ex.refl F0, ⟨g1, hk, d.og⟩, fun a ha => ?_, rfl, fun i t hi => ?_⟩
  · rcases ha with rfl | rfl
    · exact hk.hu
    · exact d.kg
  · cases i with
    | zero =>
      have e : t = .da (nI r) := (Option.some.inj hi).symm
      subst e
      exact ⟨_, rfl, .int _⟩
    | succ i => cases hi
/-! readings along it -/
theorem g_great (d : DS u g F0 H g1 gs mx H1) (hσ : σ[0]? = some (some (.ref u))) {Q : VK} (q : Q (.ref g1) H1) : tDGet (tVar 0) (tC (.str "great")) σ H1 Q :=
  ⟨.ref u, hσ, u, .ref g1, rfl, DGet.k (k := .inr "great") d.hu, q⟩
theorem g_mixed (d : DS u g F0 H g1 gs mx H1) (hσ : σ[0]? = some (some (.ref u))) {Q : VK} (q : Q (.int ((mx : Nat) : Int)) H1) : tDGet (tVar 0) (tC (.str "mixed")) σ H1 Q :=
  ⟨.ref u, hσ, u, .int ((mx : Nat) : Int), rfl, DGet.k (k := .inr "mixed") d.hu, q⟩
theorem dp_ints {K : PySem.W.Frag} {H : Hp} : ∀ gs : List Nat, DpAll K H (intsV gs) (gs.map nI)
  | [] => .nil
  | n :: gs => .cons (.int _) (dp_ints gs)
theorem fmod_nat (a b : Nat) : ((a : Nat) : Int).fmod ((b : Nat) : Int) = ((a % b : Nat) : Int) := by
  rw [Int.fmod_eq_emod_of_nonneg _ (by omega)]; rfl
theorem fdiv_nat (a b : Nat) : ((a : Nat) : Int).fdiv ((b : Nat) : Int) = ((a / b : Nat) : Int) := by
  rw [Int.fdiv_eq_ediv_of_nonneg _ (by omega)]; rfl
theorem mixD {m k : Nat} : ((m : Nat) : Int) * ((k : Nat) : Int) = ((m * k : Nat) : Int) := by simp
end
section
variable {P : Program} {w : World} {K : PySem.W.Frag} {mg : Str → Option Value} {base : Heap} {f : Addr} {fd : FuncData}
def R_law_draw (ds : List PyData) (d : PyData) : Prop := ∃ many : Nat, 0 < many ∧ many < 1073741824 ∧ ds = [nI many] ∧ ∃ r, r < many ∧ d = nI r
theorem sc_law_draw : FnScope ["_law_urn_here", "_law_many", "_law_rest", "_law_mixed"] ["_law_urn_here", "_law_many"] (defScope s_law_draw) := ⟨rfl, rfl, rfl, by decide +kernel, rfl, by decide +kernel, by decide +kernel⟩
theorem ok_law_draw (B : Bl mg) (F : FnP K "_law_draw" s_law_draw f fd) : FnOk P w K mg base CX0 1 f fd ["_law_urn_here", "_law_many"] (spU R_law_draw) := by
  refine urn_ok F sc_law_draw (by rintro _ _ ⟨many, h0, h1, rfl, r0, hr0, rfl⟩; rfl) (by decide) fun cdv A outer s H Q X hr => ⟨_,
    (pss_cons (ps_if (pt_cmpR (op_neDK (K := K) rfl hr.units) (pe_dget (hu_of hr) (pv 0) pe_str (fun _ _ => rfl)) (pe_lst pa_nil) (nomark _)) (pss_cons (ps_set (i := 2) sc_law_draw.nd rfl (Or.inl rfl) (pe_bm PySem.F.plainAttrs_list PySem.F.slot_list_pop PySem.F.type_list_pop mt_popAt (pe_dget (hu_of hr) (pv 0) pe_str (fun _ _ => rfl)) (pa_cons pe_int pa_nil)))
      (pss_cons (ps_if (pt_cmpR op_ge (pv 2) (pv 1) (nomark _)) (pss_one (ps_dput (hu_of hr) (pv 0) pe_str (pe_op op_cat (pe_lst (pa_cons (pe_op op_fdivN (pv 2) (pv 1)) pa_nil)) (pe_dget (hu_of hr) (pv 0) pe_str (fun _ _ => rfl))) rfl)) pss_nil)
      (pss_one (ps_ret (pe_op op_modN (pe_callTy call_int1 rfl B.int_ (by decide +kernel) (pa_cons (pv 2) pa_nil)) (pv 1)))))) pss_nil)
      (pss_cons (ps_set (i := 3) sc_law_draw.nd rfl (Or.inl rfl) (pe_op op_modN (pe_callTy call_int1 rfl B.int_ (by decide +kernel) (pa_cons (pe_op op_add (pe_op op_mul (pe_dget (hu_of hr) (pv 0) pe_str (fun _ _ => rfl)) pe_int) pe_int) pa_nil)) pe_int))
      (pss_cons (ps_set (i := 3) sc_law_draw.nd rfl (Or.inl rfl) (pe_op op_modN (pe_callTy call_int1 rfl B.int_ (by decide +kernel) (pa_cons (pe_op op_add (pe_op op_mul (pv 3) (pv 3)) pe_int) pa_nil)) pe_int))
      (pss_cons (ps_dput (hu_of hr) (pv 0) pe_str (pv 3) rfl)
      (pss_one (ps_ret (pe_op op_modN (pe_callTy call_int1 rfl B.int_ (by decide +kernel) (pa_cons (pe_op op_fdivN (pv 3) pe_int) pa_nil)) (pv 1)))))))), ?_⟩
  rintro F0 u g _ _ ⟨many, h0, h1, rfl, r0, hr0, rfl⟩ hu σ c kR
  obtain ⟨F, cF⟩ := c
  have hσ0 := cF.2.2.2.2.2 0 _ rfl
  obtain ⟨vm, hσ1, dm⟩ := cF.2.2.2.2.2 1 _ rfl
  have hlen : σ.length = 4 := cF.2.2.2.2.1
  cases dm
  obtain ⟨gs, mx, D0⟩ := DS.start hu (cF.2.1.trans cF.fh)
  clear cF
  have hmany : ((many : Nat) : Int) ≠ 0 := by omega
  have fin : ∀ (gs : List Nat) (g1 : Addr) (mx : Nat) (H1 : Hp) (r : Nat), DS u g F0 H g1 gs mx H1 → Q (.int ((r % many : Nat) : Int)) H1 := fun gs g1 mx H1 r D => kR _ (nI (r % many)) H1 ⟨many, h0, h1, rfl, _, Nat.mod_lt _ h0, rfl⟩ (D.ret _)
  have hσ : ∀ (x : V), (σ.set 2 (some x))[0]? = some (some (.ref u)) ∧ (σ.set 2 (some x))[1]? = some (some (.int ((many : Nat) : Int))) ∧ (σ.set 2 (some x))[2]? = some (some x) := fun x => by
    refine ⟨by rw [List.getElem?_set_ne (by decide)]; exact hσ0, by rw [List.getElem?_set_ne (by decide)]; exact hσ1, List.getElem?_set_self (by omega)⟩
  refine g_great D0 hσ0 ⟨Nat.zero_le _, fun p hp => ?_⟩
  have D1 := D0.new (o := .lst []) hp
  refine ⟨.list (gs.map nI), .list [], .lst (SqL.of D1.hg) (dp_ints gs), .lst (SqL.of upd_same) .nil, by rw [nats_ints]; exact shaped_intsL _, by decide +kernel, _, rfl, ?_⟩
  rw [eqv_nilL]
  cases gs with
  | cons n gs =>
    rw [if_pos (show (!(List.map nI (n :: gs)).isEmpty) = true from rfl)]
    refine g_great D1 hσ0 ⟨.inl ⟨rfl, _, SqL.of D1.hg⟩, g, _, 0, 0, .int ((n : Nat) : Int), rfl, rfl, D1.hg, by decide, by decide, ?_, rfl, ?_⟩
    · show seqIndex? 0 (intsV (n :: gs)).length = some 0
      unfold seqIndex?
      simp [intsV]
    have D2 := D1.setg (gs' := gs) (by have := D1.len; simp only [List.length_cons] at this; omega)
    obtain ⟨q0, q1, q2⟩ := hσ (.int ((n : Nat) : Int))
    have fin2 : ∀ (gs : List Nat) (g1 : Addr) (mx : Nat) (H1 : Hp) (D : Ends), D.rt = Q → DS u g F0 H g1 gs mx H1 → tRet (tOp (rI (fun _ j => j ≠ 0) fun i j => V.int (i.fmod j)) (tCB (fun xs H Q => (∃ i, xs = [V.int i] ∧ Q (V.int i) H) ∨ ∃ k, xs = [V.bl k] ∧ Q (V.int (if k = true then 1 else 0)) H) (tCons (tVar 2) tNil)) (tVar 1)) D (σ.set 2 (some (.int ((n : Nat) : Int)))) H1 := fun gs g1 mx H1 D hD E => by
      refine ⟨_, q2, .inl ⟨_, rfl, _, q1, _, _, rfl, rfl, hmany, ?_⟩⟩
      dsimp only
      rw [fmod_nat, hD]
      exact fin gs g1 mx H1 n E
    refine ⟨_, q2, _, q1, _, _, rfl, rfl, _, rfl, ?_⟩
    by_cases hle : ((many : Nat) : Int) ≤ ((n : Nat) : Int)
    · dsimp only
      rw [if_pos (decide_eq_true hle)]
      refine ⟨_, q2, _, q1, _, _, rfl, rfl, ⟨hmany, by rw [Int.natAbs_natCast]; exact h1⟩, show 1 ≤ sizeLine from by decide +kernel, fun p1 hp1 => ?_⟩
      dsimp only
      rw [fdiv_nat]
      have D3 := D2.new (o := .lst [V.int ((n / many : Nat) : Int)]) hp1
      refine g_great D3 q0 ⟨p1, g, _, _, rfl, rfl, upd_same, D3.hg, Evl.sz_of (by have := D3.len; simp only [List.length_cons, List.length_nil, intsV, List.length_map]; omega), fun p2 hp2 => ?_⟩
      have D4 := D3.new (o := .lst ([V.int ((n / many : Nat) : Int)] ++ intsV gs)) hp2
      refine ⟨_, q0, u, _, rfl, DPut.k (k := .inr "great") D4.hu (show 2 < sizeLine from by decide +kernel), ?_⟩
      have h0p : H p2 = none := by
        cases w : H p2 with
        | none => rfl
        | some o =>
          by_cases hm : UG u g p2
          · rcases hm with rfl | rfl
            · rw [D3.hu] at hp2; cases hp2
            · rw [D3.hg] at hp2; cases hp2
          · rw [D3.s.hh _ _ w hm] at hp2; cases hp2
      have D5 := D4.putg (gs' := (n / many) :: gs) (p := p2) upd_same h0p (by have := D1.len; simpa using this) (fun z => by have := D3.hu; rw [z, hp2] at this; cases this)
      exact fin2 _ _ _ _ _ rfl D5
    · dsimp only
      rw [if_neg (by simpa using hle)]
      exact fin2 _ _ _ _ _ rfl D2
  | nil =>
    rw [if_neg (by simp)]
    have hs3 : ∀ (x : V), (σ.set 3 (some x))[0]? = some (some (.ref u)) ∧ (σ.set 3 (some x))[1]? = some (some (.int ((many : Nat) : Int))) ∧ (σ.set 3 (some x))[3]? = some (some x) := fun x => by
      refine ⟨by rw [List.getElem?_set_ne (by decide)]; exact hσ0, by rw [List.getElem?_set_ne (by decide)]; exact hσ1, List.getElem?_set_self (by omega)⟩
    refine g_mixed D1 hσ0 ?_
    have hmx := D1.low
    refine ⟨((mx : Nat) : Int), ((48271 : Nat) : Int), rfl, rfl, .inr ⟨by decide, by decide⟩, ?_⟩
    dsimp only
    rw [mixD]
    refine ⟨((mx * 48271 : Nat) : Int), ((2531011 : Nat) : Int), rfl, rfl, .inl ⟨_, rfl, ?_⟩⟩
    rw [show ((mx * 48271 : Nat) : Int) + ((2531011 : Nat) : Int) = ((mx * 48271 + 2531011 : Nat) : Int) from by omega]
    refine ⟨((mx * 48271 + 2531011 : Nat) : Int), ((2305843009213693951 : Nat) : Int), rfl, rfl, show ((2305843009213693951 : Nat) : Int) ≠ 0 from by decide, ?_⟩
    dsimp only
    rw [fmod_nat]
    have hm1 : (mx * 48271 + 2531011) % 2305843009213693951 < 2 ^ 61 := Nat.lt_of_lt_of_le (Nat.mod_lt _ (by decide)) (by decide)
    generalize (mx * 48271 + 2531011) % 2305843009213693951 = m1 at hm1
    obtain ⟨a0, a1, a3⟩ := hs3 (.int ((m1 : Nat) : Int))
    refine ⟨_, a3, _, a3, _, _, rfl, rfl, .inl ⟨by omega, by omega⟩, ?_⟩
    dsimp only
    rw [mixD]
    refine ⟨((m1 * m1 : Nat) : Int), ((1442695040888963 : Nat) : Int), rfl, rfl, .inl ⟨_, rfl, ?_⟩⟩
    rw [show ((m1 * m1 : Nat) : Int) + ((1442695040888963 : Nat) : Int) = ((m1 * m1 + 1442695040888963 : Nat) : Int) from by omega]
    refine ⟨((m1 * m1 + 1442695040888963 : Nat) : Int), ((2305843009213693921 : Nat) : Int), rfl, rfl, show ((2305843009213693921 : Nat) : Int) ≠ 0 from by decide, ?_⟩
    dsimp only
    rw [fmod_nat]
    have hm2 : (m1 * m1 + 1442695040888963) % 2305843009213693921 < 2 ^ 61 := Nat.lt_of_lt_of_le (Nat.mod_lt _ (by decide)) (by decide)
    generalize (m1 * m1 + 1442695040888963) % 2305843009213693921 = m2 at hm2
    have b0 : ((σ.set 3 (some (.int ((m1 : Nat) : Int)))).set 3 (some (.int ((m2 : Nat) : Int))))[0]? = some (some (.ref u)) := by rw [List.getElem?_set_ne (by decide)]; exact a0
    have b1 : ((σ.set 3 (some (.int ((m1 : Nat) : Int)))).set 3 (some (.int ((m2 : Nat) : Int))))[1]? = some (some (.int ((many : Nat) : Int))) := by rw [List.getElem?_set_ne (by decide)]; exact a1
    have b3 : ((σ.set 3 (some (.int ((m1 : Nat) : Int)))).set 3 (some (.int ((m2 : Nat) : Int))))[3]? = some (some (.int ((m2 : Nat) : Int))) := List.getElem?_set_self (by rw [List.length_set]; omega)
    refine ⟨_, b3, _, b0, u, _, rfl, DPut.k (k := .inr "mixed") D1.hu (show 2 < sizeLine from by decide +kernel), ?_⟩
    have D2 := D1.putm hm2
    refine ⟨_, b3, _, _, rfl, rfl, ⟨by decide, by decide⟩, .inl ⟨_, rfl, _, b1, _, _, rfl, rfl, hmany, ?_⟩⟩
    have e : ((m2 : Nat) : Int).fdiv 1048573 = ((m2 / 1048573 : Nat) : Int) := fdiv_nat m2 1048573
    dsimp only
    rw [e, fmod_nat]
    exact fin _ _ _ _ _ D2
end
end ML
set_option Elab.async false
set_option linter.all false
set_option maxRecDepth 100000
set_option maxHeartbeats 4000000
/-! a tuple of something, from once on -/
namespace ML
open PySem PySem.Spec PyProof.Rows L2
/-- once a tuple is the tuple -/
theorem tuple_once (l : Addr) (its : Array Value) (n : Nat) (dd : Option Addr) (sl : Array (Option Value)) (u : Tok) :
    Meets (Builtin.«tuple.__mul__» ⟨[.ref l, .int 1 u], []⟩) fun _ R s => s.heap.get? l = some { cls := .type "tuple", dict := dd, data := .seq its n, slots := sl } ∧ R (.ok (.ret (.ref l))) s :=
  .of_wp fun _ _ _ _ s ⟨there, q⟩ => by
    cases s with
    | mk hp gens drawn tk os =>
    have int := AutoSeq1.idx_int
    have room : ¬ (decide ((1 : Int) < -(2 ^ 63)) || decide ((1 : Int) ≥ 2 ^ 63)) = true := by decide
    have same : (its.isEmpty || (1 : Int) == 1) = true := Bool.or_true _
    wp_walk using wpAny_loadPart' there
    exact ⟨_, rfl, q⟩
def rRep1 (K : PySem.W.Frag) : R2 := fun x y H Q => ∃ l k xs, x = .ref l ∧ y = .int k ∧ SqT K H l xs ∧ xs ≠ [] ∧ 1 ≤ k ∧ k ≤ 1000 ∧ xs.length ≤ 1000 ∧ (k = 1 → Q (.ref l) H) ∧ (2 ≤ k → ∀ p, H p = none → Q (.ref p) (upd H p (.tup (List.replicate k.toNat xs).flatten)))
theorem op_rep1 {X : Cx} : OpR X (binaryOp .Mult) (rRep1 X.K) := fun pins s σ H x y v u Q I rx ry ⟨l, k, xs, ex, ey, tup, some1, low, high, len, once, more⟩ => by
  rcases Int.lt_or_eq_of_le low with two | rfl
  · exact op_repT pins s σ H x y v u Q I rx ry ⟨l, k, xs, ex, ey, tup, some1, two, high, len, more two⟩
  subst ex ey
  cases rx
  obtain ⟨t, rfl⟩ := ry
  obtain ⟨its, _, ⟨⟨cl, dd, dt, sl⟩, there, hcl, n, hdt⟩, _⟩ := I.tuple tup
  replace hcl : cl = .type "tuple" := hcl
  replace hdt : dt = .seq its.toArray n := hdt
  subst hcl hdt
  have kind : s.TypeIs (.ref l) "tuple" := ⟨_, there, rfl⟩
  exact wpAny_binaryOp_repeat_ref (by decide) kind (fun s' => typeIs_int s' 1 t) noFill_tuple_mul F.fills_int_mul F.slot_int_rmul repeat_tuple F.slot_int_index.lookup
    (call_meets F.slot_int_rmul (typeIs_int s 1 t) F.entry_int_rmul (F.args_int_rmul_2 _ _) (int_rmul_tuple 1 t l its.toArray n dd sl) 
      ⟨there, rfl, kind, call_meets F.slot_tuple_mul kind F.entry_tuple_mul (F.args_tuple_mul_2 _ _) (tuple_once l its.toArray n dd sl t) ⟨there, .ref l, H, I, rfl, once rfl⟩⟩)
theorem op_rep1K {X : Cx} {K : PySem.W.Frag} (h : X.K = K) : OpR X (binaryOp .Mult) (rRep1 K) := h ▸ op_rep1
open Evl (Ex fresh_back)
theorem flat_one {α : Type} (v : α) : ∀ n : Nat, (List.replicate n [v]).flatten = List.replicate n v
  | 0 => rfl
  | n + 1 => by rw [List.replicate_succ, List.flatten_cons, flat_one v n, List.replicate_succ]; rfl
theorem dvs_rep {F : Hp} {v : V} {d : PyData} (h : DV F v d) : ∀ n : Nat, DVs F (List.replicate n v) (List.replicate n d)
  | 0 => .nil
  | n + 1 => .cons h (dvs_rep h n)
theorem rd_rep1 {K : PySem.W.Frag} {d : PyData} {n : Nat} (h1 : 1 ≤ n) (h2 : n ≤ 1000) : RD (rRep1 K) (.tuple [d]) (.int ((n : Nat) : Int)) (.tuple (List.replicate n d)) := fun x y F H e hx hy Q q => by
  cases hy
  cases hx with
  | tup h3 h4 =>
    rename_i a xs
    cases h4 with
    | cons h5 h6 =>
      cases h6
      refine ⟨a, _, _, rfl, rfl, .inl (Evl.ex_rd e h3), by simp, by omega, by omega, by simp, fun hk => ?_, fun hk p hp => ?_⟩
      · have : n = 1 := by omega
        subst this
        exact q _ F H (Stp.refl e) (.tup h3 (.cons h5 .nil))
      · rw [Int.toNat_natCast, flat_one]
        exact q _ _ _ (Stq.new e hp) (.tup (.inl upd_same) (dvs_rep (h5.up (Ex.new (fresh_back e hp))) n))
end ML
set_option Elab.async false
set_option linter.all false
set_option maxRecDepth 100000
set_option maxHeartbeats 2000000
/-! loops whose state is not told beforehand; more statements; calls that draw -/
namespace ML
open PySem L2
open Evl (Ex fresh_back)
section
variable {K : PySem.W.Frag} {b : Bs} [Stb b.I b.N] {G F F' H H' : Hp} {ρ : List Sl} {σ : L2.St} {ta : TA} {te tf : TE} {tt tu tz : TS} {d : PyData} {ds : List PyData} {P P1 P2 : PyData → Prop} {D : Ends} {i j : Nat}
theorem for_coreE {α β : Type} {J : It} {g : TG} {ys : List α} {enc : α → PyData} {ρb : β → α → List Sl} {F1 H1 : Hp} (ρs : β → List Sl) (Pf : Nat → β → Prop) (s0 : β) (c1 : ConF b G F1 ρ σ H1) (W : WalkOk J (ys.map enc) F1) (h0 : Lss ρ (ρs s0)) (p0 : Pf 0 s0) (hg : ∀ s y, y ∈ ys → GF g (ρs s) (enc y) (ρb s y))
    (hs : ∀ G1, Ex G G1 → ∀ i s y σ' H', ys[i]? = some y → Pf i s → Con b G1 (ρb s y) σ' H' → tu { D with nx := fun σ2 H2 => ∃ s', Pf (i + 1) s' ∧ Con b G1 (ρs s') σ2 H2, ct := fun σ2 H2 => ∃ s', Pf (i + 1) s' ∧ Con b G1 (ρs s') σ2 H2, bk := D.nx } σ' H')
    (hd : ∀ s σ' H', Pf ys.length s → Con b G (ρs s) σ' H' → D.nx σ' H') : Wk J g tu D σ H1 := by
  have e1 : Ex G F1 := c1.2.1
  refine ⟨fun i m' σ' H' => m' = ys.length - i ∧ i ≤ ys.length ∧ ∃ s, Pf i s ∧ Con b F1 (ρs s) σ' H', ⟨ys.length, by simp, Nat.zero_le _, s0, p0, F1, c1.1, Ex.refl F1, c1.2.2.1, c1.2.2.2.1, c1.2.2.2.2.less h0⟩, ?_⟩
  rintro i m' σ' H' ⟨rfl, hi, s, pf, c'⟩
  obtain ⟨F2, c2⟩ := id c'
  have g2 := c2.2.1
  by_cases hlt : i < ys.length
  · refine .inr ⟨W.go i H' (by rw [List.length_map]; exact hlt) (g2.trans c2.fh), fun σ2 H2 => ∃ s', Pf (i + 1) s' ∧ Con b F1 (ρs s') σ2 H2, fun σ3 H3 h3 => ⟨ys.length - (i + 1), by omega, rfl, hlt, h3⟩, fun x H3 y => ?_⟩
    have hy : ys[i]? = some ys[i] := List.getElem?_eq_getElem hlt
    obtain ⟨F3, s3, dx⟩ := W.yld i H' x H3 (enc ys[i]) F2 (by rw [List.getElem?_map, hy]; rfl) g2 c2.fh y
    exact (c2.pure s3).tgt (hg s _ (List.mem_of_getElem? hy)) dx fun σ3 c3 => hs F1 e1 i s _ σ3 H3 hy pf ⟨F3, c3⟩
  · refine .inl ⟨W.stop i H' (by rw [List.length_map]; omega) (g2.trans c2.fh), ?_⟩
    have : i = ys.length := by omega
    subst this
    exact hd s σ' H' pf (c'.less e1)
theorem q_forE {α β : Type} {wi : TI} {g : TG} {ys : List α} {enc : α → PyData} {ρb : β → α → List Sl} (ρs : β → List Sl) (Pf : Nat → β → Prop) (s0 : β) (c : Con b G ρ σ H) (hW : WI wi ρ (ys.map enc)) (h0 : Lss ρ (ρs s0)) (p0 : Pf 0 s0) (hg : ∀ s y, y ∈ ys → GF g (ρs s) (enc y) (ρb s y))
    (hs : ∀ G1, Ex G G1 → ∀ i s y σ' H', ys[i]? = some y → Pf i s → Con b G1 (ρb s y) σ' H' → tu { D with nx := fun σ2 H2 => ∃ s', Pf (i + 1) s' ∧ Con b G1 (ρs s') σ2 H2, ct := fun σ2 H2 => ∃ s', Pf (i + 1) s' ∧ Con b G1 (ρs s') σ2 H2, bk := tz D } σ' H')
    (hd : ∀ s σ' H', Pf ys.length s → Con b G (ρs s) σ' H' → tz D σ' H') : tSeq (tFor wi g tu) tz D σ H := by
  obtain ⟨F, c⟩ := c
  exact hW σ F H c.fh c.env _ fun J F1 H1 s1 W => for_coreE (D := { D with nx := tz D }) ρs Pf s0 (c.pure s1) W h0 p0 hg hs hd
/-- an if without else; behind it less is known -/
theorem q_whenJ {tt : TT} {β : Type} (ρs : β → List Sl) (Pf : β → Prop) {x : Bool} (c : Con b G ρ σ H) (ht : ET tt ρ x) (h1 : x = true → ∀ H', Con b G ρ σ H' → ∀ N : L2.St → Hp → Prop, (∀ s σ2 H2, Pf s → Con b G (ρs s) σ2 H2 → N σ2 H2) → tu { D with nx := N } σ H')
    (h2 : x = false → ∃ s, Pf s ∧ Lss ρ (ρs s)) (k : ∀ s σ2 H2, Pf s → Con b G (ρs s) σ2 H2 → tz D σ2 H2) : tSeq (tIfS tt tu tNext) tz D σ H := by
  refine q_when c ht (fun e H' c' => h1 e H' c' _ k) fun e H' c' => ?_
  obtain ⟨s, p, l⟩ := h2 e
  exact k s σ H' p (c'.lss l)
theorem q_whenJX {tt : TT} {β : Type} (ρs : β → List Sl) (Pf : β → Prop) {PT : Bool → Prop} (c : Con b G ρ σ H) (ht : XT b tt ρ PT) (h1 : PT true → ∀ H', Con b G ρ σ H' → ∀ N : L2.St → Hp → Prop, (∀ s σ2 H2, Pf s → Con b G (ρs s) σ2 H2 → N σ2 H2) → tu { D with nx := N } σ H')
    (h2 : PT false → ∃ s, Pf s ∧ Lss ρ (ρs s)) (k : ∀ s σ2 H2, Pf s → Con b G (ρs s) σ2 H2 → tz D σ2 H2) : tSeq (tIfS tt tu tNext) tz D σ H := by
  refine q_whenX c ht (fun e H' c' => h1 e H' c' _ k) fun e H' c' => ?_
  obtain ⟨s, p, l⟩ := h2 e
  exact k s σ H' p (c'.lss l)
theorem s_forLst {g : TG} {tu : TS} {PL : List PyData → Prop} (c : Con b G ρ σ H) (h : XE b te ρ (fun d => ∃ ds, d = .list ds ∧ PL ds)) (k : ∀ ds, PL ds → ∀ J F1 H1, ConF b G F1 ρ σ H1 → WalkOk J ds F1 → Wk J g tu D σ H1) : tFor (iList K te) g tu D σ H :=
  h [] G σ H c.x _ fun v d H1 p c1 => by
    obtain ⟨ds, rfl, pd⟩ := p
    obtain ⟨F, c1, hk⟩ := c1
    have hv := one_dv (hk _ List.mem_cons_self)
    cases hv with
    | lst h1 h2 => exact ⟨_, rfl, ⟨_, SqL.of (c1.fh _ _ h1)⟩, k ds pd _ F H1 c1 (walk_list h1 h2)⟩
/-- targets = what a reading gives -/
theorem q_asgG {g : TG} {ρ' : PyData → List Sl} (c : Con b G ρ σ H) (h : XE b te ρ P) (hg : ∀ d, P d → GF g ρ d (ρ' d)) (k : ∀ d, P d → ∀ σ' H', Con b G (ρ' d) σ' H' → tz D σ' H') : tSeq (tAsg te g) tz D σ H :=
  h [] G σ H c.x _ fun v d H' p c' => by
    obtain ⟨F, c', hk⟩ := c'
    exact c'.tgt (hg d p) (one_dv (hk _ List.mem_cons_self)) fun σ' c2 => k d p σ' H' ⟨F, c2⟩
theorem GF_trip {ρ : List Sl} {d1 d2 d3 : PyData} {i j k : Nat} : GF (gTup K 3 (gCons (gName i) (gCons (gName j) (gCons (gName k) gNil)))) ρ (.tuple [d1, d2, d3]) (((ρ.set i (.da d1)).set j (.da d2)).set k (.da d3)) := fun Z σ F H v e o dv Q q => by
  cases dv with
  | tup h1 h2 =>
    cases h2 with
    | cons a1 a2 =>
      cases a2 with
      | cons a3 a4 =>
        cases a4 with
        | cons a5 a6 =>
          cases a6
          exact ⟨_, _, rfl, .inl (Evl.ex_rd e h1), rfl, _, _, rfl, _, _, rfl, _, _, rfl, rfl, q _ (((o.da a1).da a3).da a5)⟩
/-- a, b = x, y -/
theorem q_parX {PA : List PyData → Prop} (c : Con b G ρ σ H) (h : XA b ta ρ PA) (hp : ∀ ds, PA ds → ∃ d e, ds = [d, e]) (k : ∀ d e, PA [d, e] → ∀ σ' H', Con b G ((ρ.set i (.da d)).set j (.da e)) σ' H' → tz D σ' H') : tSeq (tPar i j ta) tz D σ H :=
  h [] G σ H c.x _ fun vs ds H' p c' => by
    obtain ⟨F, c', hk⟩ := c'
    obtain ⟨d, e, rfl⟩ := hp ds p
    have hv := hk _ List.mem_cons_self
    cases hv with
    | cons h1 h2 =>
      cases h2 with
      | cons h3 h4 =>
        cases h4
        exact ⟨_, _, rfl, k d e p _ _ ⟨F, (c'.da h1).da h3⟩⟩
/-- a, b, c = x, y, z -/
theorem q_par3X {l : Nat} {PA : List PyData → Prop} (c : Con b G ρ σ H) (h : XA b ta ρ PA) (hp : ∀ ds, PA ds → ∃ d e f, ds = [d, e, f]) (k : ∀ d e f, PA [d, e, f] → ∀ σ' H', Con b G (((ρ.set i (.da d)).set j (.da e)).set l (.da f)) σ' H' → tz D σ' H') : tSeq (tPar3 i j l ta) tz D σ H :=
  h [] G σ H c.x _ fun vs ds H' p c' => by
    obtain ⟨F, c', hk⟩ := c'
    obtain ⟨d, e, f, rfl⟩ := hp ds p
    have hv := hk _ List.mem_cons_self
    cases hv with
    | cons h1 h2 =>
      cases h2 with
      | cons h3 h4 =>
        cases h4 with
        | cons h5 h6 =>
          cases h6
          exact ⟨_, _, _, rfl, k d e f p _ _ ⟨F, ((c'.da h1).da h3).da h5⟩⟩
/-- a, b = [], 0 -/
theorem q_parOwn {z : Int} (c : Con b G ρ σ H) (k : ∀ σ' H', Con b G ((ρ.set i (.ow [])).set j (.da (.int z))) σ' H' → tz D σ' H') : tSeq (tPar i j (tCons (tLst tNil) (tCons (tC (.int z)) tNil))) tz D σ H := by
  obtain ⟨F, c⟩ := c
  refine ⟨Nat.zero_le _, fun p hp => ⟨_, _, rfl, ?_⟩⟩
  obtain ⟨F2, c2⟩ := Con.own (i := i) (s := .ow []) c hp fun z => ⟨p, [], rfl, z, fresh_back c.fh hp, upd_same, .nil⟩
  exact k _ _ ⟨F2, c2.da (.int z)⟩
end
/-! ### a comprehension that draws: its list, not yet told, is no one's -/
def Bs.hid (b : Bs) (D : Addr) (vs : List V) (acc : List PyData) : Bs := ⟨b.M, fun F H => b.I F H ∧ F D = none ∧ H D = some (.lst vs) ∧ DVs F vs acc ∧ ¬ b.N H D ∧ b.H0 D = none, fun H a => b.N H a ∨ a = D, b.F0, b.H0⟩
section
variable {K : PySem.W.Frag} {b : Bs} [Stb b.I b.N] {G F F' H H' : Hp} {ρ ρ1 : List Sl} {σ : L2.St} {te : TE} {P : PyData → Prop} {D : Addr} {vs : List V} {acc : List PyData} {d : PyData} {v : V}
instance hidStb : Stb (b.hid D vs acc).I (b.hid D vs acc).N where
  st := fun s ⟨j, h1, h2, h3, h4, h5⟩ => ⟨Stb.st b.N s j, s.nw D h1 (by rw [h2]; simp), s.ex D _ h2, h3.up s.ff, fun n => h4 (Stb.sn s j n), h5⟩
  sn := fun s ⟨j, _⟩ n => n.elim (fun n => .inl (Stb.sn s j n)) .inr
  nn := fun {F H a} ⟨j, h1, h2, _⟩ n => by
    rcases n with n | rfl
    · exact Stb.nn j n
    · rw [h2]; simp
  ow := fun {F H p o} ⟨j, h1, h2, h3, h4, h5⟩ n f hp => ⟨Stb.ow j (fun z => n (.inl z)) f hp, h1, by rw [upd_ne fun z => n (.inr z.symm)]; exact h2, h3, fun z => h4 (Stb.on j (fun z => n (.inl z)) hp z), h5⟩
  on := fun {F H p o a} ⟨j, h1, h2, h3, h4, h5⟩ n hp m => m.elim (fun m => .inl (Stb.on j (fun z => n (.inl z)) hp m)) .inr
  fz := fun {F H p o} ⟨j, h1, h2, h3, h4, h5⟩ n f hp => ⟨Stb.fz j (fun z => n (.inl z)) f hp, by rw [upd_ne fun z => n (.inr z.symm)]; exact h1, h2, h3.up (Ex.new f), h4, h5⟩
omit [Stb b.I b.N] in
theorem UrnIn.hid {u : Addr} (U : UrnIn b u) : UrnIn (b.hid D vs acc) u where
  get := fun ⟨j, _⟩ => by
    obtain ⟨g, h1, h2, h3, h4, h5⟩ := U.get j
    exact ⟨g, h1, h2, h3, .inl h4, .inl h5⟩
  put := fun {F H F' H' g g'} ⟨j, h1, h2, h3, h4, h5⟩ hu s h' e hn => by
    obtain ⟨g2, a1, a2, a3, a4, a5⟩ := U.get j
    have eg : g = g2 := by
      rcases a1.n hu.ng with q | q
      · exact absurd q.symm hu.ne
      · exact q
    subst eg
    obtain ⟨j', nn⟩ := U.put j hu s h' e hn
    have hD : ¬ UG u g D := fun z => by
      rcases z with rfl | rfl
      · exact h4 a4
      · exact h4 a5
    refine ⟨⟨j', s.nw D h1 (by rw [h2]; simp), s.hh D _ h2 hD, h3.up s.ff, fun z => (nn D z).elim h4 fun q => (by rw [h2] at q; cases q), h5⟩, fun a n => ?_⟩
    rcases n with n | rfl
    · exact (nn a n).elim (fun z => .inl (.inl z)) .inr
    · exact .inl (.inr rfl)
theorem hid_start (c : ConF b G F ρ σ H) (hD : H D = none) : ConF (b.hid D [] []) G F ρ σ (upd H D (.lst [])) := by
  have fD := fresh_back c.fh hD
  have s1 : Stq F H F (upd H D (.lst [])) := ⟨fun a w q _ => by rw [upd_ne (ne_of_none q hD)]; exact q, Ex.refl F, ex_upd_new c.fh fD, fun a q _ => q⟩
  have c1 := c.pure s1
  obtain ⟨st, g, j, m, o⟩ := id c1
  have h0 : b.H0 D = none := by
    cases q : b.H0 D with
    | none => rfl
    | some w =>
      by_cases hm : b.M D
      · exact absurd hD (c.2.2.2.1 D hm)
      · rw [c.1.hh D w q hm] at hD; cases hD
  have hn : ¬ b.N (upd H D (.lst [])) D := fun z => Stb.nn c.2.2.1 (Stb.sn s1 c.2.2.1 z) hD
  refine ⟨st, g, ⟨j, fD, upd_same, .nil, hn, h0⟩, m, (c.2.2.2.2.z fun p hp _ z => ?_).up s1⟩
  exact ⟨fun w => w.elim (fun w => z.1 (Stb.sn s1 c.2.2.1 w)) fun w => hp (by rw [w]; exact hD), z.2⟩
theorem hid_add (c : ConF (b.hid D vs acc) G F ρ σ H) (dv : DV F v d) : ConF (b.hid D (vs ++ [v]) (acc ++ [d])) G F ρ σ (upd H D (.lst (vs ++ [v]))) := by
  obtain ⟨st, g, ⟨j, h1, h2, h3, h4, h5⟩, m, o⟩ := c
  have hp : H D ≠ none := by rw [h2]; simp
  refine ⟨⟨fun a u q hm => ?_, st.ff, ex_upd_new st.fh h1, st.nw⟩, g, ⟨Stb.ow j h4 h1 hp, h1, upd_same, h3.app (.cons dv .nil), fun z => h4 (Stb.on j h4 hp z), h5⟩, fun a ha => ?_, o.1, fun k t hk => ?_⟩
  · rw [upd_ne (fun z => by rw [z] at q; exact absurd (h5.symm.trans q) (by simp))]
    exact st.hh a u q hm
  · by_cases z : a = D
    · rw [z, upd_same]; simp
    · rw [upd_ne z]; exact m a ha
  · have ht := o.2 k t hk
    have zz : ∀ p, (b.hid D vs acc).Z H p → H p ≠ none → p ≠ D ∧ (b.hid D (vs ++ [v]) (acc ++ [d])).Z (upd H D (.lst (vs ++ [v]))) p := fun p z hp' => by
      have ne : p ≠ D := fun w => z.1 (.inr w)
      exact ⟨ne, fun w => w.elim (fun w => z.1 (.inl (Stb.on j h4 hp w))) ne, z.2⟩
    cases t with
    | un => trivial
    | da d => exact ht
    | at_ p => exact ht
    | ow es =>
      obtain ⟨p, ws, a1, a2, a3, a4, a5⟩ := ht
      obtain ⟨b1, b2⟩ := zz p a2 (by rw [a4]; simp)
      exact ⟨p, ws, a1, b2, a3, by rw [upd_ne b1]; exact a4, a5⟩
    | dk ks =>
      obtain ⟨p, kvs, a1, a2, a3, a4, a5⟩ := ht
      obtain ⟨b1, b2⟩ := zz p a2 (by rw [a4]; simp)
      exact ⟨p, kvs, a1, b2, a3, by rw [upd_ne b1]; exact a4, a5⟩
def plainR (ρ : List Sl) : Bool := ρ.all fun s => !s.isOw && !s.isDk
theorem EnvOk.plain {Z Z' : Addr → Prop} (o : EnvOk Z F H σ ρ) (e : Ex F F') (h : plainR ρ = true) : EnvOk Z' F' H' σ ρ := by
  refine ⟨o.1, fun k t hk => ?_⟩
  have ht := o.2 k t hk
  have hp := List.all_eq_true.mp h t (List.mem_of_getElem? hk)
  cases t with
  | un => trivial
  | da d =>
    obtain ⟨w, a1, a2⟩ := ht
    exact ⟨w, a1, a2.up e⟩
  | at_ p => exact ht
  | ow es => cases hp
  | dk ks => cases hp
theorem XE_lcRng {u : Addr} {j m : Nat} {is : List Nat} (U : UrnIn b u) (hm : m ≤ 100000) (hpl : plainR ρ = true) (hpw : plainR (wipeR ρ is) = true) (hj : j ∈ is)
    (he : ∀ (b' : Bs) [Stb b'.I b'.N], UrnIn b' u → ∀ y, y < m → XE b' te ((wipeR ρ is).set j (.da (nI y))) P) : XE b (tLc (iRng1 (tCons (tC (.int ((m : Nat) : Int))) tNil)) (gName j) tYes te is) ρ (fun d => ∃ ds, d = .list ds ∧ ds.length = m ∧ ∀ x ∈ ds, P x) := fun κ G σ H c Q q => by
  obtain ⟨F0, c0, hκ⟩ := c
  refine (WI_rng (EA_1 (E_nat m)) hm : WI _ ρ _) σ F0 H c0.fh c0.env _ fun J F1 H1 s1 W D hD => ?_
  have c1 := c0.pure s1
  have hκ1 := held_up (κ := κ) s1.ff hκ
  have g1 : Ex G F1 := c1.2.1
  have w1 : ConF b F1 F1 (wipeR ρ is) (wipe σ is) H1 := ⟨c1.1, Ex.refl F1, c1.2.2.1, c1.2.2.2.1, c1.2.2.2.2.wipe is⟩
  refine ⟨fun i mm H2 => mm = m - i ∧ i ≤ m ∧ ∃ (F2 : Hp) (vs : List V) (acc : List PyData), acc.length = i ∧ (∀ x ∈ acc, P x) ∧ ConF (b.hid D vs acc) F1 F2 (wipeR ρ is) (wipe σ is) H2, ⟨m, by omega, Nat.zero_le _, F1, [], [], rfl, fun x hx => (by cases hx), hid_start w1 hD⟩, ?_⟩
  rintro i mm H2 ⟨rfl, hi, F2, vs, acc, hlen, hP, c2⟩
  have g2 : Ex F1 F2 := c2.2.1
  by_cases hlt : i < m
  · refine .inr ⟨W.go i H2 (by simpa using hlt) (g2.trans c2.fh), fun H3 => ∃ (F2 : Hp) (vs : List V) (acc : List PyData), acc.length = i + 1 ∧ (∀ x ∈ acc, P x) ∧ ConF (b.hid D vs acc) F1 F2 (wipeR ρ is) (wipe σ is) H3, fun H3 h3 => ⟨m - (i + 1), by omega, rfl, hlt, h3⟩, fun x H3 y => ?_⟩
    obtain ⟨F3, s3, dx⟩ := W.yld i H2 x H3 (nI i) F2 (by rw [List.getElem?_map, List.getElem?_range hlt]; rfl) g2 c2.fh y
    have c3 := c2.pure s3
    refine ⟨by rw [wipe_set _ _ _ hj, wipe_wipe], ?_⟩
    unfold tYes
    dsimp only
    rw [if_pos rfl]
    have c4 : ConF (b.hid D vs acc) F1 F3 ((wipeR ρ is).set j (.da (nI i))) ((wipe σ is).set j (some x)) H3 := c3.da dx
    refine he (b.hid D vs acc) U.hid i hlt [] F1 _ H3 ⟨F3, c4, fun p hp => by cases hp⟩ _ fun v d H4 pd c5 => ?_
    obtain ⟨F5, c5, hk5⟩ := c5
    have dv := one_dv (hk5 _ List.mem_cons_self)
    have hl : vs.length = i := by
      obtain ⟨_, _, ⟨_, _, _, h3, _⟩, _⟩ := c5
      rw [h3.len, hlen]
    refine ⟨vs, c5.2.2.1.2.2.1, Evl.sz_lt (by omega), F5, vs ++ [v], acc ++ [d], by simp [hlen], fun z hz => ?_, ?_⟩
    · rcases List.mem_append.mp hz with hz | hz
      · exact hP z hz
      · rw [List.mem_singleton] at hz; rw [hz]; exact pd
    · have c6 := hid_add c5 dv
      obtain ⟨a1, a2, a3, a4, a5⟩ := c6
      refine ⟨a1, a2, a3, a4, ?_⟩
      have e5 : Ex F1 F5 := a2
      exact (w1.2.2.2.2).plain e5 hpw
  · have him : i = m := by omega
    subst him
    refine .inl ⟨W.stop i H2 (by simp) (g2.trans c2.fh), ?_⟩
    obtain ⟨a1, a2, ⟨j', h1, h2, h3, h4, h5⟩, a4, a5⟩ := c2
    refine q _ (.list acc) H2 ⟨acc, rfl, hlen, hP⟩ ⟨upd F2 D (.lst vs), ⟨⟨a1.hh, a1.ff.trans (Ex.new h1), ex_frz a1.fh h2, fun a z n => ?_⟩, g1.trans (g2.trans (Ex.new h1)), Stb.fz j' h4 h1 (by rw [h2]; simp), a4, c1.2.2.2.2.plain (g2.trans (Ex.new h1)) hpl⟩, held_cons (.cons (.lst upd_same (h3.up (Ex.new h1))) .nil) (held_up (g2.trans (Ex.new h1)) hκ1)⟩
    rw [upd_ne (fun w => n (by rw [w]; exact h5))]
    exact a1.nw a z n
/-- the same, how many drawn -/
theorem XE_lcRngX {u : Addr} {ta : TA} {j : Nat} {PN : Nat → Prop} {is : List Nat} (U : UrnIn b u) (h : XA b ta ρ (fun ds => ∃ n : Nat, ds = [nI n] ∧ PN n)) (hm : ∀ n, PN n → n ≤ 100000) (hpl : plainR ρ = true) (hpw : plainR (wipeR ρ is) = true) (hj : j ∈ is)
    (he : ∀ (b' : Bs) [Stb b'.I b'.N], UrnIn b' u → ∀ y, XE b' te ((wipeR ρ is).set j (.da (nI y))) P) : XE b (tLc (iRng1 ta) (gName j) tYes te is) ρ (fun d => ∃ ds, d = .list ds ∧ PN ds.length ∧ ∀ x ∈ ds, P x) := fun κ G σ H c Q q =>
  h κ G σ H c _ fun vs ds H1 p c1 => by
    obtain ⟨n, rfl, pn⟩ := p
    obtain ⟨F, c1, hk⟩ := c1
    have hv := hk _ List.mem_cons_self
    have c2 : ConX b G κ ρ σ H1 := ⟨F, c1, fun p hp => hk p (List.mem_cons_of_mem _ hp)⟩
    cases hv with
    | cons h1 h2 =>
      cases h2
      cases h1
      exact XE_lcRng U (hm n pn) hpl hpw hj (fun b' _ U' y _ => he b' U' y) κ G σ H1 c2 Q fun v d H' ⟨ds, e, hl, hp⟩ c' => q v d H' ⟨ds, e, by rw [hl]; exact pn, hp⟩ c'
end
end ML
set_option Elab.async false
set_option linter.all false
set_option maxRecDepth 100000
set_option maxHeartbeats 2000000
/-! what is drawn: some of all that it may be -/
namespace ML
open PySem L2
open Evl (Ex fresh_back)

theorem nI_inj {m n : Nat} (h : nI m = nI n) : m = n := by
  injection h with h
  omega
theorem ints_inj : ∀ {l l' : List Nat}, l.map nI = l'.map nI → l = l'
  | [], [], _ => rfl
  | [], _ :: _, h => by simp at h
  | _ :: _, [], h => by simp at h
  | m :: l, n :: l', h => by
    rw [List.map_cons, List.map_cons] at h
    injection h with h1 h2
    rw [nI_inj h1, ints_inj h2]
section
variable {b : Bs} [Stb b.I b.N] {ρ : List Sl} {te tf : TE} {i : Nat} {u : Addr} {X : XK}
theorem XE_draw {many : Nat} (U : UrnIn b u) (hi : ρ[i]? = some (.at_ u)) (h : E te ρ (nI many)) (h0 : 0 < many) (h1 : many < 1073741824) : XE b (tCall (spU R_law_draw) [] X (tCons (tVar i) (tCons te tNil))) ρ (fun d => ∃ r, r < many ∧ d = nI r) :=
  (XE_urn U hi (EA_1 h).x fun ds e => by subst e; exact ⟨nI 0, many, h0, h1, rfl, 0, h0, rfl⟩).imp fun d ⟨ds, e, m', a, b, e2, r, hr, e3⟩ => by
    subst e
    injection e2 with e2
    rw [nI_inj e2]
    exact ⟨r, hr, e3⟩
theorem XE_rdN {r : R2} {f : Nat → Nat → Nat} {PA PB PC : Nat → Prop} (ha : XE b te ρ (fun d => ∃ m, PA m ∧ d = nI m)) (hb : XE b tf ρ (fun d => ∃ m, PB m ∧ d = nI m)) (hr : ∀ m n, PA m → PB n → RD r (nI m) (nI n) (nI (f m n))) (hp : ∀ m n, PA m → PB n → PC (f m n)) : XE b (tOp r te tf) ρ (fun d => ∃ m, PC m ∧ d = nI m) :=
  XE_op ha hb fun x y ⟨m, hm, ex⟩ ⟨n, hn, ey⟩ => by
    subst ex ey
    exact ⟨_, hr m n hm hn, f m n, hp m n hm hn, rfl⟩
theorem E.xn {m : Nat} {P : Nat → Prop} (h : E te ρ (nI m)) (hp : P m) : XE b te ρ (fun d => ∃ m, P m ∧ d = nI m) := h.x.imp fun d e => ⟨m, hp, e⟩
theorem XT_eqN {PA : Nat → Prop} {n : Nat} (ha : XE b te ρ (fun d => ∃ m, PA m ∧ d = nI m)) (hb : E tf ρ (nI n)) : XT b (tTest (tOp rEq te tf)) ρ (fun x => ∃ m, PA m ∧ x = decide (m = n)) :=
  XT_test (XE_op ha hb.x fun x y ⟨m, hm, ex⟩ ey => by
    subst ex ey
    exact ⟨_, rd_eqN, _, rfl, m, hm, rfl⟩)
end
section
variable {P : Program} {w : World} {K : PySem.W.Frag} {mg : Str → Option Value} {base : Heap} {f : Addr} {fd : FuncData}
def R_law_pick (ds : List PyData) (d : PyData) : Prop := ∃ xs : List PyData, 0 < xs.length ∧ xs.length < 1000 ∧ ds = [.list xs] ∧ ∃ x, x ∈ xs ∧ d = x
theorem sc_law_pick : FnScope ["_law_urn_here", "_law_items"] ["_law_urn_here", "_law_items"] (defScope s_law_pick) := ⟨rfl, rfl, rfl, by decide +kernel, rfl, by decide +kernel, by decide +kernel⟩
theorem ok_law_pick (B : Bl mg) (h_law_draw : Has P w K mg base 1 "_law_draw" ["_law_urn_here", "_law_many"] (spU R_law_draw)) (F : FnP K "_law_pick" s_law_pick f fd) : FnOk P w K mg base CX0 2 f fd ["_law_urn_here", "_law_items"] (spU R_law_pick) := by
  refine urn_ok F sc_law_pick (by rintro _ _ ⟨xs, h0, h1, rfl, x0, hx0, rfl⟩; rfl) (by decide) fun cdv A outer s H Q X hr => ⟨_,
    (pss_one (ps_ret (pe_ix (ix_listK (K := K) rfl) (pv 1) (pe_fn h_law_draw (hr.mono (by decide)) rfl (pa_cons (pv 0) (pa_cons (pe_callB (call_lenK (K := K) rfl) rfl B.len_ (by decide +kernel) (pa_cons (pv 1) pa_nil)) pa_nil))) (fun _ _ => rfl)))), ?_⟩
  rintro F0 u g _ _ ⟨xs, h0, h1, rfl, x0, hx0, rfl⟩ hu σ c kR
  refine s_retX c (XE_op (P3 := fun d => d ∈ xs) (E_var rfl).x (XE_draw (bsU_in u g F0 H) rfl (E_cb (EA_1 (E_var rfl)) rc_lenL) h0 (by omega)) fun x y e ⟨r, hr, ey⟩ => ?_) fun d hd v H' r => kR v d H' ⟨xs, h0, h1, rfl, d, hd, rfl⟩ r
  subst e ey
  exact ⟨xs[r], rd_ixL (List.getElem?_eq_getElem hr), List.getElem_mem hr⟩
def R_law_shuffled (ds : List PyData) (d : PyData) : Prop := ∃ xs : List PyData, xs.length ≤ 1000 ∧ ds = [.list xs] ∧ ∃ ys : List PyData, ys.Perm xs ∧ d = .list ys
theorem sIx_none (n e : Nat) : HT.sIx n e none = e := rfl
theorem sIx_nat {n e k : Nat} (h : k ≤ n) : HT.sIx n e (some ((k : Nat) : Int)) = k := by
  unfold HT.sIx
  have h1 : ¬ ((k : Nat) : Int) < 0 := by omega
  simp [h1]
  omega
theorem sc_law_shuffled : FnScope ["_law_urn_here", "_law_items", "_law_found", "_law_item", "_law_at"] ["_law_urn_here", "_law_items"] (defScope s_law_shuffled) := ⟨rfl, rfl, rfl, by decide +kernel, rfl, by decide +kernel, by decide +kernel⟩
theorem ok_law_shuffled (B : Bl mg) (h_law_draw : Has P w K mg base 1 "_law_draw" ["_law_urn_here", "_law_many"] (spU R_law_draw)) (F : FnP K "_law_shuffled" s_law_shuffled f fd) : FnOk P w K mg base CX0 2 f fd ["_law_urn_here", "_law_items"] (spU R_law_shuffled) := by
  refine urn_ok F sc_law_shuffled (by rintro _ _ ⟨xs, hl, rfl, x0, hx0, rfl⟩; rfl) (by decide) fun cdv A outer s H Q X hr => ⟨_,
    (pss_cons (ps_set (i := 2) sc_law_shuffled.nd rfl (Or.inl rfl) (pe_lst pa_nil))
      (pss_cons (ps_for PassesOwn.never rfl (pi_listK (K := K) rfl (pv 1)) (pg_name (i := 3) sc_law_shuffled.nd rfl (Or.inl rfl)) (pss_cons (ps_set (i := 4) sc_law_shuffled.nd rfl (Or.inl rfl) (pe_fn h_law_draw (hr.mono (by decide)) rfl (pa_cons (pv 0) (pa_cons (pe_op op_add (pe_callB (call_lenK (K := K) rfl) rfl B.len_ (by decide +kernel) (pa_cons (pv 2) pa_nil)) pe_int) pa_nil))))
      (pss_one (ps_set (i := 2) sc_law_shuffled.nd rfl (Or.inl rfl) (pe_op op_cat (pe_op op_cat (pe_slice (sl_listK (K := K) rfl) (pv 2) po_none (po_some (pv 4))) (pe_lst (pa_cons (pv 3) pa_nil))) (pe_slice (sl_listK (K := K) rfl) (pv 2) (po_some (pv 4)) po_none))))))
      (pss_one (ps_ret (pv 2))))), ?_⟩
  rintro F0 u g _ _ ⟨xs, hl, rfl, x0, hx0, rfl⟩ hu σ c kR
  refine q_asg c (E_lst EA_nil) fun σ1 H1 c1 => ?_
  refine q_forE (β := List PyData) (ys := xs) (enc := id) (fun ys => [.at_ u, .da (.list xs), .da (.list ys), .un, .un]) (fun i ys => ys.Perm (xs.take i)) [] c1 (by rw [List.map_id]; exact WI_list (E_var rfl)) (.of rfl) (by rw [List.take_zero]) (fun s y _ => GF_name) (fun G1 e1 i s y σ2 H2 hy pf c2 => ?_) fun s σ2 H2 pf c2 => ?_
  · have hi : i < xs.length := (List.getElem?_eq_some_iff.mp hy).1
    have hsl : s.length ≤ 1000 := by rw [pf.length_eq, List.length_take]; omega
    refine q_asgX c2 (XE_draw (bsU_in u g F0 H) rfl ((E_op (E_cb (EA_1 (E_var rfl)) rc_lenL) (E_nat 1) rd_addN)) (by omega) (by omega)) fun d ⟨r, hr, ed⟩ σ3 H3 c3 => ?_
    subst ed
    refine s_asg c3 (E_op (E_op (E_slL (E_var rfl) EO_none (EO_some (E_var rfl))) (E_lst (EA_1 (E_var rfl))) (rd_cat ?_)) (E_slL (E_var rfl) (EO_some (E_var rfl)) EO_none) (rd_cat ?_)) fun σ4 H4 c4 => ⟨s.take r ++ [y] ++ s.drop r, ?_, ?_⟩
    · have := List.length_take_le (HT.sIx s.length s.length (some ((r : Nat) : Int)) - HT.sIx s.length 0 none) (s.drop (HT.sIx s.length 0 none))
      rw [List.length_take, List.length_drop]
      simp only [List.length_singleton]
      omega
    · simp only [List.length_append, List.length_take, List.length_drop, List.length_singleton]
      omega
    · rw [List.take_add_one, hy, Option.toList_some]
      refine List.Perm.trans ?_ (List.Perm.append_right [y] pf)
      rw [List.append_assoc]
      refine List.Perm.trans (List.perm_middle (a := y) (l₁ := s.take r) (l₂ := s.drop r)) ?_
      rw [List.take_append_drop]
      exact (List.perm_append_singleton y s).symm
    · have e : ((s.drop (HT.sIx s.length 0 none)).take (HT.sIx s.length s.length (some ((r : Nat) : Int)) - HT.sIx s.length 0 none) ++ [y] ++ (s.drop (HT.sIx s.length 0 (some ((r : Nat) : Int)))).take (HT.sIx s.length s.length none - HT.sIx s.length 0 (some ((r : Nat) : Int)))) = s.take r ++ [y] ++ s.drop r := by
        rw [sIx_none, sIx_none, sIx_nat (by omega), sIx_nat (by omega), List.drop_zero, Nat.sub_zero, List.take_of_length_le (l := s.drop r) (by rw [List.length_drop]; omega)]
      have c5 : Con (bsU u g F0 H) G1 [.at_ u, .da (.list xs), .da (.list (s.take r ++ [y] ++ s.drop r)), .da y, .da (nI r)] σ4 H4 := by rw [← e]; exact c4
      exact c5.lss (.cons (.cons (.cons (.un (.un .nil)))))
  · rw [List.take_length] at pf
    exact s_ret c2 (E_var rfl) fun v H' r => kR v _ H' ⟨xs, hl, rfl, s, pf, rfl⟩ r
section
variable {b : Bs} [Stb b.I b.N] {ρ : List Sl} {te tf : TE} {i : Nat} {u : Addr} {X : XK}
theorem XE_pick {xs : List PyData} (U : UrnIn b u) (hi : ρ[i]? = some (.at_ u)) (h : E te ρ (.list xs)) (h0 : 0 < xs.length) (h1 : xs.length < 1000) : XE b (tCall (spU R_law_pick) [] X (tCons (tVar i) (tCons te tNil))) ρ (fun d => d ∈ xs) :=
  (XE_urn U hi (EA_1 h).x fun ds e => by subst e; exact ⟨xs[0], xs, h0, h1, rfl, _, List.getElem_mem h0, rfl⟩).imp fun d ⟨ds, e, m', a, b, e2, r, hr, e3⟩ => by
    subst e
    injection e2 with e2
    injection e2 with e2
    rw [e3, e2]
    exact hr
theorem XE_shuf {xs : List PyData} (U : UrnIn b u) (hi : ρ[i]? = some (.at_ u)) (h : E te ρ (.list xs)) (h1 : xs.length ≤ 1000) : XE b (tCall (spU R_law_shuffled) [] X (tCons (tVar i) (tCons te tNil))) ρ (fun d => ∃ ys : List PyData, d = .list ys ∧ ys.Perm xs) :=
  (XE_urn U hi (EA_1 h).x fun ds e => by subst e; exact ⟨.list xs, xs, h1, rfl, xs, .refl _, rfl⟩).imp fun d ⟨ds, e, m', a, e2, r, hr, e3⟩ => by
    subst e
    injection e2 with e2
    injection e2 with e2
    rw [e2]
    exact ⟨r, e3, hr⟩
theorem shl_small {te : TE} {ρ : List Sl} {n : Nat} (h : E te ρ (nI n)) (hn : n ≤ 5) : E (tOp (rI CPow fun i j => V.int (i * 2 ^ j.toNat)) (tC (.int 1)) te) ρ (nI (2 ^ n)) := (E_op (E_nat 1) h (rd_shl (by decide) (by omega))).to (by rw [shl1])
end
def R_law_some (ds : List PyData) (d : PyData) : Prop := ∃ n : Nat, n ≤ 5 ∧ ds = [nI n] ∧ ∃ m, m < 2 ^ n ∧ d = nI m
theorem sc_law_some : FnScope ["_law_urn_here", "_law_wide", "_law_mask_here"] ["_law_urn_here", "_law_wide"] (defScope s_law_some) := ⟨rfl, rfl, rfl, by decide +kernel, rfl, by decide +kernel, by decide +kernel⟩
theorem ok_law_some (h_law_draw : Has P w K mg base 1 "_law_draw" ["_law_urn_here", "_law_many"] (spU R_law_draw)) (F : FnP K "_law_some" s_law_some f fd) : FnOk P w K mg base CX0 2 f fd ["_law_urn_here", "_law_wide"] (spU R_law_some) := by
  refine urn_ok F sc_law_some (by rintro _ _ ⟨n, hn, rfl, m0, hm0, rfl⟩; rfl) (by decide) fun cdv A outer s H Q X hr => ⟨_,
    (pss_cons (ps_set (i := 2) sc_law_some.nd rfl (Or.inl rfl) (pe_fn h_law_draw (hr.mono (by decide)) rfl (pa_cons (pv 0) (pa_cons (pe_op op_shl pe_int (pv 1)) pa_nil))))
      (pss_one (ps_ret (pe_ifExp (pt_cmpR op_eq (pe_fn h_law_draw (hr.mono (by decide)) rfl (pa_cons (pv 0) (pa_cons pe_int pa_nil))) pe_int (nomark _)) (pv 2) (pe_op op_and (pv 2) (pe_fn h_law_draw (hr.mono (by decide)) rfl (pa_cons (pv 0) (pa_cons (pe_op op_shl pe_int (pv 1)) pa_nil)))))))), ?_⟩
  rintro F0 u g _ _ ⟨n, hn, rfl, m0, hm0, rfl⟩ hu σ c kR
  have h5 := pow5 hn
  have hp := pow_pos2 n
  refine q_asgX c (XE_draw (bsU_in u g F0 H) rfl (shl_small (E_var rfl) hn) hp (by omega)) fun d ⟨m, hm, ed⟩ σ1 H1 c1 => ?_
  subst ed
  refine s_retX c1 (XE_if (P := fun d => ∃ m, m < 2 ^ n ∧ d = nI m) (XT_eqN (XE_draw (bsU_in u g F0 H) rfl (E_nat 2) (by decide) (by decide)) (E_nat 0)) (fun _ => (E_var rfl).xn hm) fun _ => XE_rdN (PA := fun z => z < 2 ^ n) (PB := fun z => z < 2 ^ n) (PC := fun z => z < 2 ^ n) ((E_var rfl).xn hm) (XE_draw (bsU_in u g F0 H) rfl (shl_small (E_var rfl) hn) hp (by omega)) (fun m n _ _ => rd_and) fun a b' ha _ => lt_of_sub (and_sub_left a b') ha) fun d hd v H' r => kR v d H' ⟨n, hn, rfl, hd⟩ r
theorem XE_some {b : Bs} [Stb b.I b.N] {ρ : List Sl} {te : TE} {i : Nat} {u : Addr} {X : XK} {n : Nat} (U : UrnIn b u) (hi : ρ[i]? = some (.at_ u)) (h : E te ρ (nI n)) (hn : n ≤ 5) : XE b (tCall (spU R_law_some) [] X (tCons (tVar i) (tCons te tNil))) ρ (fun d => ∃ m, m < 2 ^ n ∧ d = nI m) :=
  (XE_urn U hi (EA_1 h).x fun ds e => by subst e; exact ⟨nI 0, n, hn, rfl, 0, pow_pos2 n, rfl⟩).imp fun d ⟨ds, e, m', a, e2, r, hr, e3⟩ => by
    subst e
    injection e2 with e2
    rw [nI_inj e2]
    exact ⟨r, hr, e3⟩
/-- rules within n things -/
def Low (n : Nat) (rs : List (Nat × Nat)) : Prop := ∀ r ∈ rs, r.1 < 2 ^ n ∧ r.2 < 2 ^ n
theorem Low.snoc {n : Nat} {rs : List (Nat × Nat)} {a b : Nat} (h : Low n rs) (ha : a < 2 ^ n) (hb : b < 2 ^ n) : Low n (rs ++ [(a, b)]) := fun r hr => by
  rcases List.mem_append.mp hr with hr | hr
  · exact h r hr
  · rw [List.mem_singleton] at hr
    subst hr
    exact ⟨ha, hb⟩
def R_law_rules (ds : List PyData) (d : PyData) : Prop := ∃ n : Nat, n ≤ 5 ∧ ds = [nI n] ∧ ∃ rs, rs.length ≤ 10 ∧ Low n rs ∧ d = .tuple (rs.map ruleD)
theorem sc_law_rules : FnScope ["_law_urn_here", "_law_wide", "_law_found", "_law_turn", "_law_ahead", "_law_behind", "_law_how"] ["_law_urn_here", "_law_wide"] (defScope s_law_rules) := ⟨rfl, rfl, rfl, by decide +kernel, rfl, by decide +kernel, by decide +kernel⟩
theorem ok_law_rules (B : Bl mg) (h_law_draw : Has P w K mg base 1 "_law_draw" ["_law_urn_here", "_law_many"] (spU R_law_draw)) (h_law_lot : Has P w K mg base 1 "_law_lot" ["_law_mask_here"] (spD R_law_lot)) (h_law_some : Has P w K mg base 2 "_law_some" ["_law_urn_here", "_law_wide"] (spU R_law_some)) (F : FnP K "_law_rules" s_law_rules f fd) : FnOk P w K mg base CX0 3 f fd ["_law_urn_here", "_law_wide"] (spU R_law_rules) := by
  refine urn_ok F sc_law_rules (by rintro _ _ ⟨n, hn, rfl, rs0, hl0, hr0, rfl⟩; rfl) (by decide) fun cdv A outer s H Q X hr => ⟨_,
    (pss_cons (ps_set (i := 2) sc_law_rules.nd rfl (Or.inl rfl) (pe_lst pa_nil))
      (pss_cons (ps_for PassesOwn.never rfl (pi_range1 rfl B.range_ (pa_cons (pe_fn h_law_draw (hr.mono (by decide)) rfl (pa_cons (pv 0) (pa_cons pe_int pa_nil))) pa_nil)) (pg_name (i := 3) sc_law_rules.nd rfl (Or.inl rfl)) (pss_cons (ps_par3 (i := 4) (j := 5) (l := 6) rfl sc_law_rules.nd rfl rfl rfl (by decide) (by decide) (by decide) rfl rfl rfl (pa_cons (pe_fn h_law_some (hr.mono (by decide)) rfl (pa_cons (pv 0) (pa_cons (pv 1) pa_nil))) (pa_cons (pe_fn h_law_some (hr.mono (by decide)) rfl (pa_cons (pv 0) (pa_cons (pv 1) pa_nil))) (pa_cons (pe_fn h_law_draw (hr.mono (by decide)) rfl (pa_cons (pv 0) (pa_cons pe_int pa_nil))) pa_nil))) (by rfl))
      (pss_cons (ps_if (pt_cmpR op_eq (pv 6) pe_int (nomark _)) (pss_one (ps_set (i := 4) sc_law_rules.nd rfl (Or.inl rfl) pe_int)) pss_nil)
      (pss_cons (ps_if (pt_cmpR op_eq (pv 6) pe_int (nomark _)) (pss_one (ps_set (i := 5) sc_law_rules.nd rfl (Or.inl rfl) (pe_op op_and (pv 5) (pv 4)))) pss_nil)
      (pss_cons (ps_expr (pe_bm PySem.F.plainAttrs_list PySem.F.slot_list_append PySem.F.type_list_append mt_append (pv 2) (pa_cons (pe_tup (pa_cons (pe_fn h_law_lot (hr.mono (by decide)) rfl (pa_cons (pv 4) pa_nil)) (pa_cons (pe_fn h_law_lot (hr.mono (by decide)) rfl (pa_cons (pv 5) pa_nil)) pa_nil))) pa_nil)))
      (pss_one (ps_if (pt_cmpR op_eq (pv 6) pe_int (nomark _)) (pss_one (ps_expr (pe_bm PySem.F.plainAttrs_list PySem.F.slot_list_append PySem.F.type_list_append mt_append (pv 2) (pa_cons (pe_ix (ix_listK (K := K) rfl) (pv 2) pe_int (fun _ _ => rfl)) pa_nil)))) pss_nil)))))))
      (pss_one (ps_ret (pe_callTy (call_tupK (K := K) rfl) rfl B.tuple_ (by decide +kernel) (pa_cons (pv 2) pa_nil)))))), ?_⟩
  rintro F0 u g _ _ ⟨n, hn, rfl, rs0, hl0, hr0, rfl⟩ hu σ c kR
  have hp := pow_pos2 n
  refine q_own c EA_nil fun σ1 H1 c1 => ?_
  refine q_forRng (PU' := fun m => m < 6) c1 (XA_1 (XE_draw (bsU_in u g F0 H) rfl (E_nat 6) (by decide) (by decide)) |>.imp fun ds ⟨d, e, r, hr, ed⟩ => ⟨r, by rw [e, ed], hr⟩) fun k hk H2 c2 => ?_
  refine q_forE (β := List (Nat × Nat)) (ys := List.range k) (enc := nI) (fun rs => [.at_ u, .da (nI n), .ow (rs.map ruleD), .un, .un, .un, .un]) (fun i rs => rs.length ≤ 2 * i ∧ Low n rs) [] c2 (WI_rng (EA_1 (E_nat k)) (by omega)) (.of rfl) ⟨Nat.zero_le _, fun r hr => by cases hr⟩ (fun s y _ => GF_name) (fun G1 e1 i rs y σ3 H3 hy pf c3 => ?_) fun rs σ3 H3 pf c3 => ?_
  · have hi : i < k := by have := (List.getElem?_eq_some_iff.mp hy).1; simpa using this
    obtain ⟨hl, hr⟩ := pf
    have U := bsU_in u g F0 H
    refine q_par3X (PA := fun ds => ∃ a b' c', a < 2 ^ n ∧ b' < 2 ^ n ∧ c' < 8 ∧ ds = [nI a, nI b', nI c']) c3 ((XA_3 (XE_some U rfl (E_var rfl) hn) (XE_some U rfl (E_var rfl) hn) (XE_draw U rfl (E_nat 8) (by decide) (by decide))).imp fun ds ⟨x, y, z, e, ⟨a, ha, ea⟩, ⟨b', hb, eb⟩, ⟨c', hc, ec⟩⟩ => by
        subst e ea eb ec
        exact ⟨a, b', c', ha, hb, hc, rfl⟩) (fun ds ⟨a, b', c', _, _, _, e⟩ => ⟨_, _, _, e⟩) fun d1 d2 d3 ⟨a, b', c', ha, hb, hc, e⟩ σ4 H4 c4 => ?_
    injection e with e1 e2
    injection e2 with e2 e3
    injection e3 with e3 _
    subst e1 e2 e3
    replace c4 : Con (bsU u g F0 H) G1 [.at_ u, .da (nI n), .ow (rs.map ruleD), .da (nI y), .da (nI a), .da (nI b'), .da (nI c')] σ4 H4 := c4
    refine q_whenJ (fun a2 : Nat => [.at_ u, .da (nI n), .ow (rs.map ruleD), .da (nI y), .da (nI a2), .da (nI b'), .da (nI c')]) (fun a2 => a2 < 2 ^ n) c4 (ET_test (E_op (E_var rfl) (E_nat 0) rd_eqN)) (fun _ H5 c5 N hN => s_asg c5 (E_nat 0) fun σ6 H6 c6 => hN 0 σ6 H6 hp c6) (fun _ => ⟨a, ha, Lss.refl _⟩) fun a2 σ5 H5 ha2 c5 => ?_
    refine q_whenJ (fun b2 : Nat => [.at_ u, .da (nI n), .ow (rs.map ruleD), .da (nI y), .da (nI a2), .da (nI b2), .da (nI c')]) (fun b2 => b2 < 2 ^ n) c5 (ET_test (E_op (E_var rfl) (E_nat 1) rd_eqN)) (fun _ H6 c6 N hN => s_asg c6 (E_op (E_var rfl) (E_var rfl) rd_and) fun σ7 H7 c7 => hN _ σ7 H7 (lt_of_sub (and_sub_left b' a2) hb) c7) (fun _ => ⟨b', hb, Lss.refl _⟩) fun b2 σ6 H6 hb2 c6 => ?_
    refine q_app c6 rfl (d := ruleD (a2, b2)) (E_tup (EA_2 (E_call (EA_1 (E_var rfl)) ⟨a2, rfl, rfl⟩) (E_call (EA_1 (E_var rfl)) ⟨b2, rfl, rfl⟩))) (by rw [List.length_map]; omega) fun H7 c7 => ?_
    replace c7 : Con (bsU u g F0 H) G1 [.at_ u, .da (nI n), .ow ((rs ++ [(a2, b2)]).map ruleD), .da (nI y), .da (nI a2), .da (nI b2), .da (nI c')] σ6 H7 := by rw [List.map_append]; exact c7
    have hr2 := hr.snoc ha2 hb2
    have hlen2 : (rs ++ [(a2, b2)]).length ≤ 2 * i + 1 := by rw [List.length_append, List.length_singleton]; omega
    refine s_when c7 (ET_test (E_op (E_var rfl) (E_nat 2) rd_eqN)) (fun _ H8 c8 => ?_) fun _ H8 c8 => ⟨rs ++ [(a2, b2)], ⟨by omega, hr2⟩, c8.lss (.cons (.cons (.cons (.un (.un (.un (.un .nil)))))))⟩
    have hne : 0 < (rs ++ [(a2, b2)]).length := by rw [List.length_append, List.length_singleton]; omega
    have h0 : ((rs ++ [(a2, b2)]).map ruleD)[0]? = some (ruleD (rs ++ [(a2, b2)])[0]) := by rw [List.getElem?_map, List.getElem?_eq_getElem hne]; rfl
    refine s_app c8 rfl (E_ixOw (n := 0) rfl (E_nat 0) h0) (by rw [List.length_map]; omega) fun H9 c9 => ⟨rs ++ [(a2, b2)] ++ [(rs ++ [(a2, b2)])[0]], ⟨by rw [List.length_append, List.length_singleton]; omega, ?_⟩, ?_⟩
    · have hz := hr2 _ (List.getElem_mem hne)
      exact hr2.snoc hz.1 hz.2
    · have e : (rs ++ [(a2, b2)] ++ [(rs ++ [(a2, b2)])[0]]).map ruleD = (rs ++ [(a2, b2)]).map ruleD ++ [ruleD (rs ++ [(a2, b2)])[0]] := by rw [List.map_append]; rfl
      rw [e]
      exact c9.lss (.cons (.cons (.cons (.un (.un (.un (.un .nil)))))))
  · have c4 := c3.frz 2 rfl
    refine s_ret c4 (E_cb (EA_1 (E_var rfl)) rc_tuple) fun v H' r => kR v _ H' ⟨n, hn, rfl, rs, ?_, pf.2, rfl⟩ r
    have := pf.1
    rw [List.length_range] at this
    omega
end
end ML
set_option Elab.async false
set_option linter.all false
set_option maxRecDepth 100000
set_option maxHeartbeats 2000000
/-! drawn books and maps -/
namespace ML
open PySem L2
open Evl (Ex fresh_back)

def natOf : PyData → Nat
  | .int i => i.toNat
  | _ => 0
theorem natOf_nI (n : Nat) : natOf (nI n) = n := by show ((n : Nat) : Int).toNat = n; omega
theorem perm_ints {ys : List PyData} {l : List Nat} (h : ys.Perm (l.map nI)) : ∃ l' : List Nat, ys = l'.map nI ∧ l'.Perm l := by
  refine ⟨ys.map natOf, ?_, ?_⟩
  · have e : ∀ y ∈ ys, (nI ∘ natOf) y = id y := fun y hy => by
      obtain ⟨n, _, rfl⟩ := List.mem_map.mp (h.mem_iff.mp hy)
      show nI (natOf (nI n)) = nI n
      rw [natOf_nI]
    rw [List.map_map]
    exact ((List.map_congr_left e).trans (List.map_id _)).symm
  · have := h.map natOf
    rw [List.map_map] at this
    have e : l.map (natOf ∘ nI) = l := by
      conv => rhs; rw [← List.map_id l]
      exact List.map_congr_left fun n _ => natOf_nI n
    rwa [e] at this
theorem all_rules {ys : List PyData} {rs : List (Nat × Nat)} (h : ys.Perm (rs.map ruleD)) : ∃ rs' : List (Nat × Nat), ys = rs'.map ruleD ∧ rs'.length = rs.length ∧ ∀ r ∈ rs', r ∈ rs := by
  have key : ∀ l : List PyData, (∀ y ∈ l, ∃ r ∈ rs, y = ruleD r) → ∃ rs' : List (Nat × Nat), l = rs'.map ruleD ∧ ∀ r ∈ rs', r ∈ rs := by
    intro l
    induction l with
    | nil => exact fun _ => ⟨[], rfl, fun r hr => by cases hr⟩
    | cons y l ih =>
      intro hy
      obtain ⟨rs', e1, e2⟩ := ih fun z hz => hy z (List.mem_cons_of_mem _ hz)
      obtain ⟨r, hr, e3⟩ := hy y List.mem_cons_self
      refine ⟨r :: rs', by rw [List.map_cons, ← e1, e3], fun q hq => ?_⟩
      rcases List.mem_cons.mp hq with rfl | hq
      · exact hr
      · exact e2 q hq
  obtain ⟨rs', e1, e2⟩ := key ys fun y hy => by
    obtain ⟨r, hr, e⟩ := List.mem_map.mp (h.mem_iff.mp hy)
    exact ⟨r, hr, e.symm⟩
  refine ⟨rs', e1, ?_, e2⟩
  have := h.length_eq
  rw [e1, List.length_map, List.length_map] at this
  exact this
theorem add_diff {a f : Nat} (h : sub a f = true) : a + diff f a = f := by
  have e : f &&& a = a := by rw [Nat.and_comm]; exact beq_iff_eq.mp h
  have := sub_le h
  unfold diff
  rw [e]
  omega
theorem stemL_mem {n : Nat} {cl : List Nat} (hF : Fm n cl) (ha : cl.Pairwise (· < ·)) {r : Nat × Nat} (h : r ∈ stemL n cl) : r.1 < 2 ^ n ∧ r.2 < 2 ^ n ∧ r.1 + r.2 < 2 ^ n := by
  obtain ⟨p, hp, rfl⟩ := List.mem_map.mp h
  rcases nearL_mem _ _ _ _ p hp with h | ⟨h1, h2⟩
  · cases h
  · have hm2 : p.1 < 2 ^ n := by
      have := mem_ord.mp h1
      rwa [List.mem_range, shl1] at this
    have hs := hF.shut ha hm2
    have hl := hF.low _ hs.mem
    refine ⟨hm2, ?_, ?_⟩
    · show diff p.2 p.1 < 2 ^ n
      rw [h2]
      exact lt_of_sub (diff_sub _ _) hl
    · show p.1 + diff p.2 p.1 < 2 ^ n
      rw [add_diff (by rw [h2]; exact hs.has), h2]
      exact hl
theorem stemL_len {n : Nat} {cl : List Nat} (hn : n ≤ 5) : (stemL n cl).length ≤ 32 := by
  unfold stemL
  rw [List.length_map]
  have := near_take_len hn cl (shut cl) (ord (List.range (1 <<< n))).length
  rwa [List.take_length] at this
theorem lotD_one {x : Nat} (h : x < 10) : lotD (1 <<< x) = .tuple [nI x] := by
  have : x = 0 ∨ x = 1 ∨ x = 2 ∨ x = 3 ∨ x = 4 ∨ x = 5 ∨ x = 6 ∨ x = 7 ∨ x = 8 ∨ x = 9 := by omega
  rcases this with rfl | rfl | rfl | rfl | rfl | rfl | rfl | rfl | rfl | rfl <;> rfl
theorem lotD_zero : lotD 0 = .tuple [] := rfl
theorem meets_fm {n : Nat} (hn : n ≤ 5) : ∀ (l acc : List Nat), (∀ m ∈ l, m < 2 ^ n) → Fm n acc → Fm n (l.foldl (fun acc m => asc (acc ++ acc.map fun o => o &&& m)) acc)
  | [], acc, _, h => h
  | m :: l, acc, hl, h => by
    rw [List.foldl_cons]
    have h5 := pow5 hn
    have hb : ∀ x ∈ acc ++ acc.map (fun o => o &&& m), x < 2 ^ n := fun x hx => by
      rcases List.mem_append.mp hx with hx | hx
      · exact h.low x hx
      · obtain ⟨y, hy, rfl⟩ := List.mem_map.mp hx
        exact lt_of_sub (and_sub_left y m) (h.low y hy)
    have hm : ∀ x, x ∈ asc (acc ++ acc.map fun o => o &&& m) ↔ x ∈ acc ++ acc.map fun o => o &&& m := fun x => mem_asc fun y hy => by have := hb y hy; omega
    refine meets_fm hn l _ (fun x hx => hl x (List.mem_cons_of_mem _ hx)) ⟨hn, fun x hx => hb x ((hm x).mp hx), (hm _).mpr (List.mem_append_left _ h.top), fun a ha b hb' => (hm _).mpr ?_⟩
    rcases List.mem_append.mp ((hm a).mp ha) with ha | ha
    · rcases List.mem_append.mp ((hm b).mp hb') with hb' | hb'
      · exact List.mem_append_left _ (h.meet a ha b hb')
      · obtain ⟨y, hy, rfl⟩ := List.mem_map.mp hb'
        exact List.mem_append_right _ (List.mem_map.mpr ⟨a &&& y, h.meet a ha y hy, Nat.and_assoc _ _ _⟩)
    · obtain ⟨z, hz, rfl⟩ := List.mem_map.mp ha
      rcases List.mem_append.mp ((hm b).mp hb') with hb' | hb'
      · refine List.mem_append_right _ (List.mem_map.mpr ⟨z &&& b, h.meet z hz b hb', ?_⟩)
        rw [Nat.and_assoc, Nat.and_assoc, Nat.and_comm b m]
      · obtain ⟨y, hy, rfl⟩ := List.mem_map.mp hb'
        refine List.mem_append_right _ (List.mem_map.mpr ⟨z &&& y, h.meet z hz y hy, ?_⟩)
        apply Nat.eq_of_testBit_eq
        intro i
        simp only [Nat.testBit_and]
        cases z.testBit i <;> cases y.testBit i <;> cases m.testBit i <;> rfl
theorem one_fm {n : Nat} (hn : n ≤ 5) : Fm n [2 ^ n - 1] := by
  refine ⟨hn, fun c hc => ?_, List.mem_singleton.mpr rfl, fun a ha b hb => ?_⟩
  · rw [List.mem_singleton] at hc; rw [hc]; exact top_lt n
  · rw [List.mem_singleton] at ha hb ⊢
    rw [ha, hb, Nat.and_self]
theorem meetsL_fm {n : Nat} {ms : List Nat} (hn : n ≤ 5) (h : ∀ m ∈ ms, m < 2 ^ n) : Fm n (meetsL n ms) := meets_fm hn ms _ h (one_fm hn)
theorem meetsL_lt (n : Nat) (ms : List Nat) : (meetsL n ms).Pairwise (· < ·) := by
  unfold meetsL
  have key : ∀ (l acc : List Nat), acc.Pairwise (· < ·) → (l.foldl (fun acc m => asc (acc ++ acc.map fun o => o &&& m)) acc).Pairwise (· < ·) := by
    intro l
    induction l with
    | nil => exact fun acc h => h
    | cons m l ih => exact fun acc _ => ih _ (asc_lt _)
  exact key ms _ (by simp)
theorem rd_modN {m n : Nat} (h : 0 < n) : RD (rI (fun _ j => j ≠ 0) fun i j => .int (i.fmod j)) (nI m) (nI n) (nI (m % n)) := rd_I (by omega) fun F => by rw [fmod_nat]; exact .int _
section
variable {P : Program} {w : World} {K : PySem.W.Frag} {mg : Str → Option Value} {base : Heap} {f : Addr} {fd : FuncData}
def R_law_spelt (ds : List PyData) (d : PyData) : Prop := ∃ (n : Nat) (cl : List Nat), Fm n cl ∧ cl.Pairwise (· < ·) ∧ ds = [nI n, .list (cl.map nI)] ∧ ∃ rs, Bk n rs ∧ d = bookD n rs
theorem sc_law_spelt : FnScope ["_law_urn_here", "_law_wide", "_law_closed", "_law_found", "_law_ahead", "_law_behind", "_law_turn", "_law_mask_here"] ["_law_urn_here", "_law_wide", "_law_closed"] (defScope s_law_spelt) := ⟨rfl, rfl, rfl, by decide +kernel, rfl, by decide +kernel, by decide +kernel⟩
theorem ok_law_spelt (B : Bl mg) (h_law_shuffled : Has P w K mg base 2 "_law_shuffled" ["_law_urn_here", "_law_items"] (spU R_law_shuffled)) (h_law_draw : Has P w K mg base 1 "_law_draw" ["_law_urn_here", "_law_many"] (spU R_law_draw)) (h_law_lot : Has P w K mg base 1 "_law_lot" ["_law_mask_here"] (spD R_law_lot)) (h_law_shut : Has P w K mg base 1 "_law_shut" ["_law_closed", "_law_mask_here"] (spD R_law_shut)) (h_law_some : Has P w K mg base 2 "_law_some" ["_law_urn_here", "_law_wide"] (spU R_law_some)) (h_law_stem : Has P w K mg base 5 "_law_stem" ["_law_wide", "_law_closed"] (spD R_law_stem)) (h_law_pick : Has P w K mg base 2 "_law_pick" ["_law_urn_here", "_law_items"] (spU R_law_pick)) (h_law_mask : Has P w K mg base 1 "_law_mask" ["_law_own"] (spD R_law_mask)) (F : FnP K "_law_spelt" s_law_spelt f fd) : FnOk P w K mg base CX0 6 f fd ["_law_urn_here", "_law_wide", "_law_closed"] (spU R_law_spelt) := by
  refine urn_ok F sc_law_spelt (by rintro _ _ ⟨n, cl, hF, ha, rfl, rs0, hb0, rfl⟩; rfl) (by decide) fun cdv A outer s H Q X hr => ⟨_,
    (pss_cons (ps_set (i := 3) sc_law_spelt.nd rfl (Or.inl rfl) (pe_lst pa_nil))
      (pss_cons (ps_for PassesOwn.never rfl (pi_tupK (K := K) rfl (pe_ix (ix_tupK (K := K) rfl) (pe_fn h_law_stem (hr.mono (by decide)) rfl (pa_cons (pv 1) (pa_cons (pv 2) pa_nil))) pe_int (fun _ _ => rfl))) (pg_tup rfl (pgs_cons (pg_name (i := 4) sc_law_spelt.nd rfl (Or.inl rfl)) (pgs_cons (pg_name (i := 5) sc_law_spelt.nd rfl (Or.inl rfl)) pgs_nil))) (pss_one (ps_expr (pe_bm PySem.F.plainAttrs_list PySem.F.slot_list_append PySem.F.type_list_append mt_append (pv 3) (pa_cons (pe_tup (pa_cons (pv 4) (pa_cons (pe_fn h_law_pick (hr.mono (by decide)) rfl (pa_cons (pv 0) (pa_cons (pe_lst (pa_cons (pv 5) (pa_cons (pe_fn h_law_lot (hr.mono (by decide)) rfl (pa_cons (pe_op op_add (pe_fn h_law_mask (hr.mono (by decide)) rfl (pa_cons (pv 4) pa_nil)) (pe_fn h_law_mask (hr.mono (by decide)) rfl (pa_cons (pv 5) pa_nil))) pa_nil)) pa_nil))) pa_nil))) pa_nil))) pa_nil)))))
      (pss_cons (ps_for PassesOwn.never rfl (pi_range1 rfl B.range_ (pa_cons (pe_fn h_law_draw (hr.mono (by decide)) rfl (pa_cons (pv 0) (pa_cons pe_int pa_nil))) pa_nil)) (pg_name (i := 6) sc_law_spelt.nd rfl (Or.inl rfl)) (pss_cons (ps_set (i := 7) sc_law_spelt.nd rfl (Or.inl rfl) (pe_fn h_law_some (hr.mono (by decide)) rfl (pa_cons (pv 0) (pa_cons (pv 1) pa_nil))))
      (pss_one (ps_expr (pe_bm PySem.F.plainAttrs_list PySem.F.slot_list_append PySem.F.type_list_append mt_append (pv 3) (pa_cons (pe_tup (pa_cons (pe_fn h_law_lot (hr.mono (by decide)) rfl (pa_cons (pv 7) pa_nil)) (pa_cons (pe_fn h_law_lot (hr.mono (by decide)) rfl (pa_cons (pe_op op_and (pe_fn h_law_shut (hr.mono (by decide)) rfl (pa_cons (pv 2) (pa_cons (pv 7) pa_nil))) (pe_fn h_law_some (hr.mono (by decide)) rfl (pa_cons (pv 0) (pa_cons (pv 1) pa_nil)))) pa_nil)) pa_nil))) pa_nil))))))
      (pss_one (ps_ret (pe_tup (pa_cons (pv 1) (pa_cons (pe_callTy (call_tupK (K := K) rfl) rfl B.tuple_ (by decide +kernel) (pa_cons (pe_fn h_law_shuffled (hr.mono (by decide)) rfl (pa_cons (pv 0) (pa_cons (pv 3) pa_nil))) pa_nil)) pa_nil)))))))), ?_⟩
  rintro F0 u g _ _ ⟨n, cl, hF, ha, rfl, rs0, hb0, rfl⟩ hu σ c kR
  have hn := hF.n5
  have h5 := pow5 hn
  have U := bsU_in u g F0 H
  refine q_own c EA_nil fun σ1 H1 c1 => ?_
  refine q_forE (β := List (Nat × Nat)) (ys := stemL n cl) (enc := ruleD) (fun rs => [.at_ u, .da (nI n), .da (.list (cl.map nI)), .ow (rs.map ruleD), .un, .un, .un, .un]) (fun i rs => rs.length ≤ i ∧ Low n rs) [] c1 (WI_tup (E_op (E_call (EA_2 (E_var rfl) (E_var rfl)) ⟨n, cl, hF, ha, rfl, rfl⟩) (E_nat 1) (rd_ixT rfl))) (.of rfl) ⟨Nat.zero_le _, fun r hr => by cases hr⟩ (fun s y _ => GF_pair) (fun G1 e1 i rs y σ2 H2 hy pf c2 => ?_) fun rs σ2 H2 pf c2 => ?_
  · obtain ⟨hl, hr⟩ := pf
    have hi : i < (stemL n cl).length := (List.getElem?_eq_some_iff.mp hy).1
    have hsl := stemL_len (cl := cl) hn
    obtain ⟨y1, y2, y3⟩ := stemL_mem hF ha (List.mem_of_getElem? hy)
    refine s_appX (P := fun d => ∃ b2, b2 < 2 ^ n ∧ d = ruleD (y.1, b2)) c2 rfl (XE_tup ((XA_2 (E_var rfl).x (XE_pick (xs := [lotD y.2, lotD (y.1 + y.2)]) U rfl (E_lst (EA_2 (E_var rfl) (E_call (EA_1 (E_op (E_call (EA_1 (E_var rfl)) ⟨y.1, by omega, rfl, rfl⟩) (E_call (EA_1 (E_var rfl)) ⟨y.2, by omega, rfl, rfl⟩) rd_addN)) ⟨_, rfl, rfl⟩))) (by simp) (by simp))).imp fun ds ⟨x, z, e, ex, ez⟩ => ?_)) (by rw [List.length_map]; omega) fun d ⟨b2, hb2, e⟩ H3 c3 => ⟨rs ++ [(y.1, b2)], ⟨by rw [List.length_append, List.length_singleton]; omega, hr.snoc y1 hb2⟩, ?_⟩
    · subst e ex
      refine ⟨by simp, ?_⟩
      rcases List.mem_cons.mp ez with rfl | ez
      · exact ⟨y.2, y2, rfl⟩
      · rw [List.mem_singleton] at ez
        subst ez
        exact ⟨_, y3, rfl⟩
    · subst e
      rw [List.map_append]
      exact c3.lss (.cons (.cons (.cons (.cons (.un (.un (.un (.un .nil))))))))
  · have hsl := stemL_len (cl := cl) hn
    refine q_forRng (PU' := fun m => m < 3) c2 (XA_1 (XE_draw U rfl (E_nat 3) (by decide) (by decide)) |>.imp fun ds ⟨d, e, r, hr, ed⟩ => ⟨r, by rw [e, ed], hr⟩) fun k hk H3 c3 => ?_
    refine q_forE (β := List (Nat × Nat)) (ys := List.range k) (enc := nI) (fun rs => [.at_ u, .da (nI n), .da (.list (cl.map nI)), .ow (rs.map ruleD), .un, .un, .un, .un]) (fun i rs => rs.length ≤ 32 + i ∧ Low n rs) rs c3 (WI_rng (EA_1 (E_nat k)) (by omega)) (.of rfl) ⟨by have := pf.1; omega, pf.2⟩ (fun s y _ => GF_name) (fun G1 e1 i rs y σ4 H4 hy pf c4 => ?_) fun rs σ4 H4 pf c4 => ?_
    · obtain ⟨hl, hr⟩ := pf
      have hi : i < k := by have := (List.getElem?_eq_some_iff.mp hy).1; simpa using this
      refine q_asgX c4 (XE_some U rfl (E_var rfl) hn) fun d ⟨m, hm, ed⟩ σ5 H5 c5 => ?_
      subst ed
      have hsm := hF.shut ha hm
      refine s_appX (P := fun d => ∃ b2, b2 < 2 ^ n ∧ d = ruleD (m, b2)) c5 rfl (XE_tup ((XA_2 (E_call (EA_1 (E_var rfl)) ⟨m, rfl, rfl⟩).x (XE_call (P := fun d => ∃ b2, b2 < 2 ^ n ∧ d = lotD b2) (XA_1 (XE_rdN (PA := fun z => z < 2 ^ n) (PB := fun z => z < 2 ^ n) (PC := fun z => z < 2 ^ n) ((E_call (EA_2 (E_var rfl) (E_var rfl)) ⟨cl, m, hF.ne, rfl, rfl⟩).xn (hF.low _ hsm.mem)) (XE_some U rfl (E_var rfl) hn) (fun a b _ _ => rd_and) fun a b ha' _ => lt_of_sub (and_sub_left a b) ha')) fun ds ⟨x, e, b2, hb2, ex⟩ => ⟨lotD b2, ⟨b2, by rw [e, ex], rfl⟩, b2, hb2, rfl⟩)).imp fun ds ⟨x, z, e, ex, b2, hb2, ez⟩ => ?_)) (by rw [List.length_map]; omega) fun d ⟨b2, hb2, e⟩ H6 c6 => ⟨rs ++ [(m, b2)], ⟨by rw [List.length_append, List.length_singleton]; omega, hr.snoc hm hb2⟩, ?_⟩
      · subst e ex ez
        exact ⟨by simp, b2, hb2, rfl⟩
      · subst e
        rw [List.map_append]
        exact c6.lss (.cons (.cons (.cons (.cons (.un (.un (.un (.un .nil))))))))
    · have hl := pf.1
      rw [List.length_range] at hl
      refine s_retX (P := fun d => ∃ rs', Bk n rs' ∧ d = bookD n rs') (c4.frz 3 rfl) (XE_tup ((XA_2 (E_var rfl).x (XE_cb (P := fun d => ∃ rs', Bk n rs' ∧ d = .tuple (rs'.map ruleD)) (XA_1 (XE_shuf (xs := rs.map ruleD) U rfl (E_var rfl) (by rw [List.length_map]; omega))) fun ds ⟨x, e, ys, ex, hp⟩ => ?_)).imp fun ds ⟨x, z, e, ex, rs', hb', ez⟩ => ?_)) fun d hd v H' r => kR v d H' ⟨n, cl, hF, ha, rfl, hd⟩ r
      · obtain ⟨rs', e1, e2, e3⟩ := all_rules hp
        subst e ex e1
        exact ⟨_, rc_tuple, rs', ⟨hn, by omega, fun r hr => pf.2 r (e3 r hr)⟩, rfl⟩
      · subst e ex ez
        exact ⟨by simp, rs', hb', rfl⟩
def R_law_tails (ds : List PyData) (d : PyData) : Prop := ∃ n k : Nat, n ≤ 5 ∧ k ≤ 5 ∧ ds = [nI n, nI k] ∧ ∃ ms : List Nat, ms.length ≤ 100 ∧ (∀ m ∈ ms, m < 2 ^ n) ∧ d = .list (ms.map nI)
theorem low_snoc {n m : Nat} {ms : List Nat} (h : ∀ m ∈ ms, m < 2 ^ n) (hm : m < 2 ^ n) : ∀ x ∈ ms ++ [m], x < 2 ^ n := fun x hx => by
  rcases List.mem_append.mp hx with hx | hx
  · exact h x hx
  · rw [List.mem_singleton] at hx; rw [hx]; exact hm
theorem sc_law_tails : FnScope ["_law_urn_here", "_law_wide", "_law_many", "_law_found", "_law_turn", "_law_mask_here", "_law_x"] ["_law_urn_here", "_law_wide", "_law_many"] (defScope s_law_tails) := ⟨rfl, rfl, rfl, by decide +kernel, rfl, by decide +kernel, by decide +kernel⟩
theorem ok_law_tails (B : Bl mg) (h_law_shuffled : Has P w K mg base 2 "_law_shuffled" ["_law_urn_here", "_law_items"] (spU R_law_shuffled)) (F : FnP K "_law_tails" s_law_tails f fd) : FnOk P w K mg base CX0 3 f fd ["_law_urn_here", "_law_wide", "_law_many"] (spU R_law_tails) := by
  refine urn_ok F sc_law_tails (by rintro _ _ ⟨n, k, hn, hk, rfl, ms0, hl0, hm0, rfl⟩; rfl) (by decide) fun cdv A outer s H Q X hr => ⟨_,
    (pss_cons (ps_set (i := 3) sc_law_tails.nd rfl (Or.inl rfl) (pe_lst pa_nil))
      (pss_cons (ps_for PassesOwn.never rfl (pi_range1 rfl B.range_ (pa_cons (pv 2) pa_nil)) (pg_name (i := 4) sc_law_tails.nd rfl (Or.inl rfl)) (pss_cons (ps_set (i := 5) sc_law_tails.nd rfl (Or.inl rfl) pe_int)
      (pss_cons (ps_expr (pe_bm PySem.F.plainAttrs_list PySem.F.slot_list_append PySem.F.type_list_append mt_append (pv 3) (pa_cons (pv 5) pa_nil)))
      (pss_one (ps_for PassesOwn.never rfl (pi_listK (K := K) rfl (pe_fn h_law_shuffled (hr.mono (by decide)) rfl (pa_cons (pv 0) (pa_cons (pe_listRg rfl rfl B.list_ (prg_1 rfl B.range_ (pv 1))) pa_nil)))) (pg_name (i := 6) sc_law_tails.nd rfl (Or.inl rfl)) (pss_cons (ps_set (i := 5) sc_law_tails.nd rfl (Or.inl rfl) (pe_op op_add (pv 5) (pe_op op_shl pe_int (pv 6))))
      (pss_one (ps_expr (pe_bm PySem.F.plainAttrs_list PySem.F.slot_list_append PySem.F.type_list_append mt_append (pv 3) (pa_cons (pv 5) pa_nil))))))))))
      (pss_one (ps_ret (pv 3))))), ?_⟩
  rintro F0 u g _ _ ⟨n, k, hn, hk, rfl, ms0, hl0, hm0, rfl⟩ hu σ c kR
  have h5 := pow5 hn
  have U := bsU_in u g F0 H
  refine q_own c EA_nil fun σ1 H1 c1 => ?_
  refine q_forE (β := List Nat) (ys := List.range k) (enc := nI) (fun ms => [.at_ u, .da (nI n), .da (nI k), .ow (ms.map nI), .un, .un, .un]) (fun i ms => ms.length ≤ 6 * i ∧ ∀ m ∈ ms, m < 2 ^ n) [] c1 (WI_rng (EA_1 (E_var rfl)) (by omega)) (.of rfl) ⟨Nat.zero_le _, fun r hr => by cases hr⟩ (fun s y _ => GF_name) (fun G1 e1 i ms y σ2 H2 hy pf c2 => ?_) fun ms σ2 H2 pf c2 => ?_
  · obtain ⟨hl, hr⟩ := pf
    have hi : i < k := by have := (List.getElem?_eq_some_iff.mp hy).1; simpa using this
    refine q_asg c2 (E_nat 0) fun σ3 H3 c3 => ?_
    refine q_app c3 rfl (E_var rfl) (by rw [List.length_map]; omega) fun H4 c4 => ?_
    refine s_forLst (PL := fun ds => ∃ l : List Nat, ds = l.map nI ∧ l.Perm (List.range n)) c4 ((XE_shuf (xs := (List.range n).map nI) U rfl (E_lstRg (E_var rfl) (by omega)) (by simp; omega)).imp fun d ⟨ys, e, hp⟩ => ?_) fun ds ⟨l, el, hp⟩ J F5 H5 c5 W => ?_
    · obtain ⟨l, e1, e2⟩ := perm_ints hp
      exact ⟨_, e, l, e1, e2⟩
    · subst el
      have hln : l.length = n := by rw [hp.length_eq, List.length_range]
      have hll : ∀ x ∈ l, x < n := fun x hx => List.mem_range.mp (hp.mem_iff.mp hx)
      have hnd : l.Nodup := hp.nodup_iff.mpr List.nodup_range
      refine for_coreE (β := Nat × List Nat) (ys := l) (enc := nI) (fun s => [.at_ u, .da (nI n), .da (nI k), .ow (s.2.map nI), .un, .da (nI s.1), .un]) (fun j s => s.1 = (l.take j).foldl (fun b t => b ||| 1 <<< t) 0 ∧ s.2.length ≤ 6 * i + 1 + j ∧ ∀ m ∈ s.2, m < 2 ^ n) (0, ms ++ [0]) c5 W ?_ ⟨rfl, by rw [List.length_append, List.length_singleton]; omega, low_snoc hr (pow_pos2 n)⟩ (fun s y _ => GF_name) (fun G2 e2 j s x σ6 H6 hx pf c6 => ?_) fun s σ6 H6 pf c6 => ⟨s.2, ⟨by have := pf.2.1; omega, pf.2.2⟩, ?_⟩
      · rw [List.map_append]
        exact .cons (.cons (.cons (.cons (.un (.cons (.cons .nil))))))
      · obtain ⟨p1, p2, p3⟩ := pf
        have hj : j < l.length := (List.getElem?_eq_some_iff.mp hx).1
        have hxn : x < n := hll x (List.mem_of_getElem? hx)
        have hbit : s.1.testBit x = false := by
          rw [p1, fold_or_bit, Nat.zero_testBit, Bool.false_or]
          refine decide_eq_false fun hmem => ?_
          have e3 : x = l[j] := (List.getElem?_eq_some_iff.mp hx).2.symm
          obtain ⟨k', hk', e4⟩ := List.mem_take_iff_getElem.mp hmem
          have := (List.getElem_inj hnd).mp (e4.trans e3)
          omega
        have e5 : s.1 + 1 <<< x = (l.take (j + 1)).foldl (fun b t => b ||| 1 <<< t) 0 := by
          rw [foldl_take hx, ← p1, or_add hbit, shl1]
        have hlow : s.1 + 1 <<< x < 2 ^ n := by
          rw [e5]
          refine lt_of_bits fun t ht => ?_
          rw [fold_or_bit, Nat.zero_testBit, Bool.false_or, decide_eq_true_iff] at ht
          exact hll t (List.mem_of_mem_take ht)
        refine q_asg c6 (E_op (E_var rfl) (E_op (E_nat 1) (E_var rfl) (rd_shl (by decide) (by omega))) rd_addN) fun σ7 H7 c7 => ?_
        refine s_app c7 rfl (E_var rfl) (by rw [List.length_map]; omega) fun H8 c8 => ⟨(s.1 + 1 <<< x, s.2 ++ [s.1 + 1 <<< x]), ⟨e5, by show (s.2 ++ [s.1 + 1 <<< x]).length ≤ _; rw [List.length_append, List.length_singleton]; omega, low_snoc p3 hlow⟩, ?_⟩
        show Con _ G2 [.at_ u, .da (nI n), .da (nI k), .ow ((s.2 ++ [s.1 + 1 <<< x]).map nI), .un, .da (nI (s.1 + 1 <<< x)), .un] _ _
        rw [List.map_append]
        exact c8.lss (.cons (.cons (.cons (.cons (.un (.cons (.un .nil)))))))
      · exact c6.lss (.cons (.cons (.cons (.cons (.un (.un (.un .nil)))))))
  · have hl := pf.1
    rw [List.length_range] at hl
    exact s_ret (c2.frz 3 rfl) (E_var rfl) fun v H' r => kR v _ H' ⟨n, k, hn, hk, rfl, ms, by omega, pf.2, rfl⟩ r
def R_law_singles (ds : List PyData) (d : PyData) : Prop := ∃ (n : Nat) (x : Bool), n ≤ 5 ∧ ds = [nI n, .bool x] ∧ ∃ rs, rs.length ≤ 10 ∧ Low n rs ∧ d = .tuple (rs.map ruleD)
theorem sc_law_singles : FnScope ["_law_urn_here", "_law_wide", "_law_is_ranked", "_law_found", "_law_low", "_law_x", "_law_behind"] ["_law_urn_here", "_law_wide", "_law_is_ranked"] (defScope s_law_singles) := ⟨rfl, rfl, rfl, by decide +kernel, rfl, by decide +kernel, by decide +kernel⟩
theorem ok_law_singles (B : Bl mg) (h_law_draw : Has P w K mg base 1 "_law_draw" ["_law_urn_here", "_law_many"] (spU R_law_draw)) (h_law_lot : Has P w K mg base 1 "_law_lot" ["_law_mask_here"] (spD R_law_lot)) (h_law_some : Has P w K mg base 2 "_law_some" ["_law_urn_here", "_law_wide"] (spU R_law_some)) (h_law_shuffled : Has P w K mg base 2 "_law_shuffled" ["_law_urn_here", "_law_items"] (spU R_law_shuffled)) (F : FnP K "_law_singles" s_law_singles f fd) : FnOk P w K mg base CX0 3 f fd ["_law_urn_here", "_law_wide", "_law_is_ranked"] (spU R_law_singles) := by
  refine urn_ok F sc_law_singles (by rintro _ _ ⟨n, x, hn, rfl, rs0, hl0, hr0, rfl⟩; rfl) (by decide) fun cdv A outer s H Q X hr => ⟨_,
    (pss_cons (ps_par (i := 3) (j := 4) rfl sc_law_singles.nd rfl rfl (by decide) rfl rfl (pa_cons (pe_lst pa_nil) (pa_cons pe_int pa_nil)) (by rfl))
      (pss_cons (ps_for PassesOwn.never rfl (pi_listK (K := K) rfl (pe_fn h_law_shuffled (hr.mono (by decide)) rfl (pa_cons (pv 0) (pa_cons (pe_listRg rfl rfl B.list_ (prg_1 rfl B.range_ (pv 1))) pa_nil)))) (pg_name (i := 5) sc_law_singles.nd rfl (Or.inl rfl)) (pss_cons (ps_set (i := 6) sc_law_singles.nd rfl (Or.inl rfl) (pe_op op_and (pe_fn h_law_some (hr.mono (by decide)) rfl (pa_cons (pv 0) (pa_cons (pv 1) pa_nil))) (pe_ifExp (pt_val (pv 2)) (pv 4) (pe_fn h_law_some (hr.mono (by decide)) rfl (pa_cons (pv 0) (pa_cons (pv 1) pa_nil))))))
      (pss_cons (ps_expr (pe_bm PySem.F.plainAttrs_list PySem.F.slot_list_append PySem.F.type_list_append mt_append (pv 3) (pa_cons (pe_tup (pa_cons (pe_tup (pa_cons (pv 5) pa_nil)) (pa_cons (pe_fn h_law_lot (hr.mono (by decide)) rfl (pa_cons (pv 6) pa_nil)) pa_nil))) pa_nil)))
      (pss_one (ps_set (i := 4) sc_law_singles.nd rfl (Or.inl rfl) (pe_op op_add (pv 4) (pe_op op_shl pe_int (pv 5))))))))
      (pss_cons (ps_if (PW.pt (pw_and (pt_not (pt_val (pv 2))) (pw_and1 (pt_cmpR op_eq (pe_fn h_law_draw (hr.mono (by decide)) rfl (pa_cons (pv 0) (pa_cons pe_int pa_nil))) pe_int (nomark _))))) (pss_one (ps_expr (pe_bm PySem.F.plainAttrs_list PySem.F.slot_list_append PySem.F.type_list_append mt_append (pv 3) (pa_cons (pe_tup (pa_cons (pe_tup pa_nil) (pa_cons (pe_fn h_law_lot (hr.mono (by decide)) rfl (pa_cons (pe_op op_and (pe_fn h_law_some (hr.mono (by decide)) rfl (pa_cons (pv 0) (pa_cons (pv 1) pa_nil))) (pe_fn h_law_some (hr.mono (by decide)) rfl (pa_cons (pv 0) (pa_cons (pv 1) pa_nil)))) pa_nil)) pa_nil))) pa_nil)))) pss_nil)
      (pss_one (ps_ret (pe_callTy (call_tupK (K := K) rfl) rfl B.tuple_ (by decide +kernel) (pa_cons (pv 3) pa_nil))))))), ?_⟩
  rintro F0 u g _ _ ⟨n, x, hn, rfl, rs0, hl0, hr0, rfl⟩ hu σ c kR
  have h5 := pow5 hn
  have U := bsU_in u g F0 H
  refine q_parOwn c fun σ1 H1 c1 => ?_
  refine q_forLst (PL := fun ds => ∃ l : List Nat, ds = l.map nI ∧ l.Perm (List.range n)) c1 ((XE_shuf (xs := (List.range n).map nI) U rfl (E_lstRg (E_var rfl) (by omega)) (by simp; omega)).imp fun d ⟨ys, e, hp⟩ => ?_) fun ds ⟨l, el, hp⟩ J F2 H2 c2 W => ?_
  · obtain ⟨l, e1, e2⟩ := perm_ints hp
    exact ⟨_, e, l, e1, e2⟩
  · subst el
    have hln : l.length = n := by rw [hp.length_eq, List.length_range]
    have hll : ∀ x ∈ l, x < n := fun x hx => List.mem_range.mp (hp.mem_iff.mp hx)
    refine for_coreE (β := Nat × List (Nat × Nat)) (ys := l) (enc := nI) (fun s => [.at_ u, .da (nI n), .da (.bool x), .ow (s.2.map ruleD), .da (nI s.1), .un, .un]) (fun j s => s.2.length ≤ j ∧ Low n s.2) (0, []) c2 W (.of rfl) ⟨Nat.zero_le _, fun r hr => by cases hr⟩ (fun s y _ => GF_name) (fun G2 e2 j s y σ3 H3 hy pf c3 => ?_) fun s σ3 H3 pf c3 => ?_
    · obtain ⟨p1, p2⟩ := pf
      have hj : j < l.length := (List.getElem?_eq_some_iff.mp hy).1
      have hyn : y < n := hll y (List.mem_of_getElem? hy)
      refine q_asgX c3 (XE_rdN (PA := fun z => z < 2 ^ n) (PB := fun _ => True) (PC := fun z => z < 2 ^ n) (XE_some U rfl (E_var rfl) hn) (XE_if (ET_test (E_var rfl)).x (fun _ => (E_var rfl).xn trivial) fun _ => (XE_some U rfl (E_var rfl) hn).imp fun d ⟨m, _, e⟩ => ⟨m, trivial, e⟩) (fun a b _ _ => rd_and) fun a b ha' _ => lt_of_sub (and_sub_left a b) ha') fun d ⟨m, hm, ed⟩ σ4 H4 c4 => ?_
      subst ed
      refine q_app c4 rfl (d := ruleD (1 <<< y, m)) ((E_tup (EA_2 (E_tup (EA_1 (E_var rfl))) (E_call (EA_1 (E_var rfl)) ⟨m, rfl, rfl⟩))).to (by show _ = PyData.tuple [lotD (1 <<< y), lotD m]; rw [lotD_one (by omega)])) (by rw [List.length_map]; omega) fun H5 c5 => ?_
      refine s_asg c5 (E_op (E_var rfl) (E_op (E_nat 1) (E_var rfl) (rd_shl (by decide) (by omega))) rd_addN) fun σ6 H6 c6 => ⟨(s.1 + 1 <<< y, s.2 ++ [(1 <<< y, m)]), ⟨by show (s.2 ++ [(1 <<< y, m)]).length ≤ _; rw [List.length_append, List.length_singleton]; omega, p2.snoc (by rw [shl1]; exact Nat.pow_lt_pow_right (by decide) hyn) hm⟩, ?_⟩
      show Con _ G2 [.at_ u, .da (nI n), .da (.bool x), .ow ((s.2 ++ [(1 <<< y, m)]).map ruleD), .da (nI (s.1 + 1 <<< y)), .un, .un] _ _
      rw [List.map_append]
      exact c6.lss (.cons (.cons (.cons (.cons (.cons (.un (.un .nil)))))))
    · obtain ⟨p1, p2⟩ := pf
      have hp0 := pow_pos2 n
      refine q_whenJX (fun rs : List (Nat × Nat) => [.at_ u, .da (nI n), .da (.bool x), .ow (rs.map ruleD), .da (nI s.1), .un, .un]) (fun rs => rs.length ≤ 10 ∧ Low n rs) c3 (XT_and (XT_not (ET_test (E_var rfl)).x) fun _ => XT_eqN (XE_draw U rfl (E_nat 4) (by decide) (by decide)) (E_nat 0)) (fun _ H5 c5 N hN => ?_) (fun _ => ⟨s.2, ⟨by omega, p2⟩, Lss.refl _⟩) fun rs σ5 H5 pf c5 => ?_
      · refine s_appX (P := fun d => ∃ m, m < 2 ^ n ∧ d = ruleD (0, m)) c5 rfl (XE_tup ((XA_2 (E_tup EA_nil).x (XE_call (P := fun d => ∃ b2, b2 < 2 ^ n ∧ d = lotD b2) (XA_1 (XE_rdN (PA := fun z => z < 2 ^ n) (PB := fun z => z < 2 ^ n) (PC := fun z => z < 2 ^ n) (XE_some U rfl (E_var rfl) hn) (XE_some U rfl (E_var rfl) hn) (fun a b _ _ => rd_and) fun a b ha' _ => lt_of_sub (and_sub_left a b) ha')) fun ds ⟨x, e, b2, hb2, ex⟩ => ⟨lotD b2, ⟨b2, by rw [e, ex], rfl⟩, b2, hb2, rfl⟩)).imp fun ds ⟨x, z, e, ex, b2, hb2, ez⟩ => ?_)) (by rw [List.length_map]; omega) fun d ⟨m, hm, e⟩ H6 c6 => hN (s.2 ++ [(0, m)]) _ H6 ⟨by rw [List.length_append, List.length_singleton]; omega, p2.snoc hp0 hm⟩ ?_
        · subst e ex ez
          exact ⟨by simp, b2, hb2, by show PyData.tuple [.tuple [], lotD b2] = .tuple [lotD 0, lotD b2]; rw [lotD_zero]⟩
        · subst e
          rw [List.map_append]
          exact c6
      · exact s_ret (c5.frz 3 rfl) (E_cb (EA_1 (E_var rfl)) rc_tuple) fun v H' r => kR v _ H' ⟨n, x, hn, rfl, rs, pf.1, pf.2, rfl⟩ r
def R_law_bag (ds : List PyData) (d : PyData) : Prop := ∃ n k : Nat, n ≤ 5 ∧ ds = [nI n, nI k] ∧ ∃ rs, Bk n rs ∧ d = bookD n rs
section
variable {b : Bs} [Stb b.I b.N] {ρ : List Sl} {te tf tb : TE} {i : Nat} {u : Addr} {X : XK} {n : Nat}
theorem spelt_ok {ta : TA} (U : UrnIn b u) (hi : ρ[i]? = some (.at_ u)) (h : XA b ta ρ (fun ds => ∃ cl, Fm n cl ∧ cl.Pairwise (· < ·) ∧ ds = [nI n, .list (cl.map nI)])) (hn : n ≤ 5) : XE b (tCall (spU R_law_spelt) [] X (tCons (tVar i) ta)) ρ (fun d => ∃ rs, Bk n rs ∧ d = bookD n rs) :=
  (XE_urn U hi h fun ds ⟨cl, hF, ha, e⟩ => ⟨bookD n [], n, cl, hF, ha, e, [], ⟨hn, Nat.zero_le _, fun r hr => by cases hr⟩, rfl⟩).imp fun d ⟨ds, ⟨cl, hF, ha, e⟩, n', cl', _, _, e2, rs, hb, ed⟩ => by
    subst e
    injection e2 with e2
    rw [nI_inj e2]
    exact ⟨rs, hb, ed⟩
theorem XE_tails {k : Nat} {P : Nat → Prop} (U : UrnIn b u) (hi : ρ[i]? = some (.at_ u)) (h : E te ρ (nI n)) (hn : n ≤ 5) (h2 : XE b tf ρ (fun d => ∃ k, k ≤ 5 ∧ d = nI k)) : XE b (tCall (spU R_law_tails) [] X (tCons (tVar i) (tCons te (tCons tf tNil)))) ρ (fun d => ∃ ms : List Nat, (∀ m ∈ ms, m < 2 ^ n) ∧ d = .list (ms.map nI)) :=
  (XE_urn U hi (XA_2 h.x h2) fun ds ⟨x, y, e, ex, k, hk, ey⟩ => by
    subst e ex ey
    exact ⟨.list [], n, k, hn, hk, rfl, [], by simp, fun m hm => (by cases hm), rfl⟩).imp fun d ⟨ds, ⟨x, y, e, ex, k, hk, ey⟩, n', k', _, _, e2, ms, _, hm, ed⟩ => by
    subst e ex ey
    injection e2 with e2
    have e3 := nI_inj e2
    subst e3
    exact ⟨ms, hm, ed⟩
theorem XE_rules (U : UrnIn b u) (hi : ρ[i]? = some (.at_ u)) (h : E te ρ (nI n)) (hn : n ≤ 5) : XE b (tCall (spU R_law_rules) [] X (tCons (tVar i) (tCons te tNil))) ρ (fun d => ∃ rs : List (Nat × Nat), rs.length ≤ 10 ∧ Low n rs ∧ d = .tuple (rs.map ruleD)) :=
  (XE_urn U hi (EA_1 h).x fun ds e => by subst e; exact ⟨.tuple [], n, hn, rfl, [], by simp, fun r hr => (by cases hr), rfl⟩).imp fun d ⟨ds, e, m', a, e2, r, hr, hr2, e3⟩ => by
    subst e
    injection e2 with e2
    rw [nI_inj e2]
    exact ⟨r, hr, hr2, e3⟩
theorem XE_singles {x : Bool} (U : UrnIn b u) (hi : ρ[i]? = some (.at_ u)) (h : E te ρ (nI n)) (hn : n ≤ 5) (h2 : E tf ρ (.bool x)) : XE b (tCall (spU R_law_singles) [] X (tCons (tVar i) (tCons te (tCons tf tNil)))) ρ (fun d => ∃ rs : List (Nat × Nat), rs.length ≤ 10 ∧ Low n rs ∧ d = .tuple (rs.map ruleD)) :=
  (XE_urn U hi (EA_2 h h2).x fun ds e => by subst e; exact ⟨.tuple [], n, x, hn, rfl, [], by simp, fun r hr => (by cases hr), rfl⟩).imp fun d ⟨ds, e, m', x', a, e2, r, hr, hr2, e3⟩ => by
    subst e
    injection e2 with e2
    rw [nI_inj e2]
    exact ⟨r, hr, hr2, e3⟩
theorem all_nats {ds : List PyData} {Q : Nat → Prop} : (∀ x ∈ ds, ∃ m, Q m ∧ x = nI m) → ∃ ms : List Nat, ds = ms.map nI ∧ ∀ m ∈ ms, Q m := by
  induction ds with
  | nil => exact fun _ => ⟨[], rfl, fun m hm => by cases hm⟩
  | cons x ds ih =>
    intro h
    obtain ⟨ms, e1, e2⟩ := ih fun z hz => h z (List.mem_cons_of_mem _ hz)
    obtain ⟨m, hm, e3⟩ := h x List.mem_cons_self
    refine ⟨m :: ms, by rw [List.map_cons, ← e1, e3], fun q hq => ?_⟩
    rcases List.mem_cons.mp hq with rfl | hq
    · exact hm
    · exact e2 q hq
end
theorem sc_law_bag : FnScope ["_law_urn_here", "_law_wide", "_law_kind", "_law_masks", "_law_how", "_law_turn"] ["_law_urn_here", "_law_wide", "_law_kind"] (defScope s_law_bag) := ⟨rfl, rfl, rfl, by decide +kernel, rfl, by decide +kernel, by decide +kernel⟩
theorem ok_law_bag (B : Bl mg) (h_law_singles : Has P w K mg base 3 "_law_singles" ["_law_urn_here", "_law_wide", "_law_is_ranked"] (spU R_law_singles)) (h_law_spelt : Has P w K mg base 6 "_law_spelt" ["_law_urn_here", "_law_wide", "_law_closed"] (spU R_law_spelt)) (h_law_meets : Has P w K mg base 1 "_law_meets" ["_law_wide", "_law_masks"] (spD R_law_meets)) (h_law_tails : Has P w K mg base 3 "_law_tails" ["_law_urn_here", "_law_wide", "_law_many"] (spU R_law_tails)) (h_law_draw : Has P w K mg base 1 "_law_draw" ["_law_urn_here", "_law_many"] (spU R_law_draw)) (h_law_some : Has P w K mg base 2 "_law_some" ["_law_urn_here", "_law_wide"] (spU R_law_some)) (h_law_rules : Has P w K mg base 3 "_law_rules" ["_law_urn_here", "_law_wide"] (spU R_law_rules)) (F : FnP K "_law_bag" s_law_bag f fd) : FnOk P w K mg base CX0 7 f fd ["_law_urn_here", "_law_wide", "_law_kind"] (spU R_law_bag) := by
  refine urn_ok F sc_law_bag (by rintro _ _ ⟨n, k, hn, rfl, rs0, hb0, rfl⟩; rfl) (by decide) fun cdv A outer s H Q X hr => ⟨_,
    (pss_cons (ps_if (pt_cmpR op_eq (pv 2) pe_int (nomark _)) (pss_one (ps_ret (pe_tup (pa_cons (pv 1) (pa_cons (pe_fn h_law_rules (hr.mono (by decide)) rfl (pa_cons (pv 0) (pa_cons (pv 1) pa_nil))) pa_nil))))) pss_nil)
      (pss_cons (ps_if (pt_cmpR op_eq (pv 2) pe_int (nomark _)) (pss_cons (ps_setLc (i := 3) (own := [("_law_turn", 5)]) rfl sc_law_bag.nd rfl rfl (sw_true rfl rfl rfl (by decide +kernel)) (pi_range1 rfl B.range_ (pa_cons (pe_fn h_law_draw (hr.mono (by decide)) rfl (pa_cons (pv 0) (pa_cons pe_int pa_nil))) pa_nil)) (blkOk_by (by kernel_rfl)) (fun _ _ _ _ _ => (pg_name (i := 5) sc_law_bag.nd rfl (Or.inl rfl))) (fun _ _ _ _ _ => pts_nil) (fun _ _ _ _ _ => (pe_fn h_law_some (hr.mono (by decide)) rfl (pa_cons (pv 0) (pa_cons (pv 1) pa_nil)))))
      (pss_one (ps_ret (pe_fn h_law_spelt (hr.mono (by decide)) rfl (pa_cons (pv 0) (pa_cons (pv 1) (pa_cons (pe_fn h_law_meets (hr.mono (by decide)) rfl (pa_cons (pv 1) (pa_cons (pv 3) pa_nil))) pa_nil))))))) pss_nil)
      (pss_cons (ps_set (i := 4) sc_law_bag.nd rfl (Or.inl rfl) (pe_fn h_law_draw (hr.mono (by decide)) rfl (pa_cons (pv 0) (pa_cons pe_int pa_nil))))
      (pss_cons (ps_if (pt_cmpR op_lt (pv 4) pe_int (nomark _)) (pss_one (ps_ret (pe_fn h_law_spelt (hr.mono (by decide)) rfl (pa_cons (pv 0) (pa_cons (pv 1) (pa_cons (pe_fn h_law_meets (hr.mono (by decide)) rfl (pa_cons (pv 1) (pa_cons (pe_fn h_law_tails (hr.mono (by decide)) rfl (pa_cons (pv 0) (pa_cons (pv 1) (pa_cons (pe_op op_add pe_int (pe_fn h_law_draw (hr.mono (by decide)) rfl (pa_cons (pv 0) (pa_cons pe_int pa_nil)))) pa_nil)))) pa_nil))) pa_nil)))))) pss_nil)
      (pss_one (ps_ret (pe_tup (pa_cons (pv 1) (pa_cons (pe_fn h_law_singles (hr.mono (by decide)) rfl (pa_cons (pv 0) (pa_cons (pv 1) (pa_cons (pe_cmpR op_eq (pv 4) pe_int (nomark _)) pa_nil)))) pa_nil))))))))), ?_⟩
  rintro F0 u g _ _ ⟨n, k, hn, rfl, rs0, hb0, rfl⟩ hu σ c kR
  have U := bsU_in u g F0 H
  refine q_when c (ET_test (E_op (E_var rfl) (E_nat 0) rd_eqN)) (fun _ H1 c1 => ?_) fun _ H1 c1 => ?_
  · refine s_retX (P := fun d => ∃ rs, Bk n rs ∧ d = bookD n rs) c1 (XE_tup ((XA_2 (E_var rfl).x (XE_rules U rfl (E_var rfl) hn)).imp fun ds ⟨x, y, e, ex, rs, hl, hr, ey⟩ => ?_)) fun d hd v H' r => kR v d H' ⟨n, k, hn, rfl, hd⟩ r
    subst e ex ey
    exact ⟨by simp, rs, ⟨hn, by omega, hr⟩, rfl⟩
  · refine q_when c1 (ET_test (E_op (E_var rfl) (E_nat 1) rd_eqN)) (fun _ H2 c2 => ?_) fun _ H2 c2 => ?_
    · refine q_asgX (P := fun d => ∃ ms : List Nat, (∀ m ∈ ms, m < 2 ^ n) ∧ d = .list (ms.map nI)) c2 ((XE_lcRngX (PN := fun z => z ≤ 5) (P := fun d => ∃ m, m < 2 ^ n ∧ d = nI m) U (XA_1 (XE_draw U rfl (E_nat 6) (by decide) (by decide)) |>.imp fun ds ⟨d, e, r, hr, ed⟩ => ⟨r, by rw [e, ed], by omega⟩) (fun z hz => by omega) rfl rfl (by decide) fun b' _ U' y => XE_some U' rfl (E_var rfl) hn).imp fun d ⟨ds, e, _, hp⟩ => ?_) fun d ⟨ms, hm, e⟩ σ3 H3 c3 => ?_
      · obtain ⟨ms, e1, e2⟩ := all_nats hp
        exact ⟨ms, e2, by rw [e, e1]⟩
      · subst e
        exact s_retX c3 (spelt_ok U rfl ((EA_2 (E_var rfl) (E_call (EA_2 (E_var rfl) (E_var rfl)) ⟨n, ms, hn, hm, rfl, rfl⟩)).x.imp fun ds e => ⟨_, meetsL_fm hn hm, meetsL_lt n ms, e⟩) hn) fun d hd v H' r => kR v d H' ⟨n, k, hn, rfl, hd⟩ r
    · refine q_asgX c2 (XE_draw U rfl (E_nat 4) (by decide) (by decide)) fun d ⟨how, _, e⟩ σ3 H3 c3 => ?_
      subst e
      refine q_when c3 (ET_test (E_op (E_var rfl) (E_nat 2) rd_lt)) (fun _ H4 c4 => ?_) fun _ H4 c4 => ?_
      · refine s_retX c4 (spelt_ok U rfl ((XA_2 (E_var rfl).x (XE_call (P := fun d => ∃ cl : List Nat, Fm n cl ∧ cl.Pairwise (· < ·) ∧ d = .list (cl.map nI)) (XA_2 (E_var rfl).x (XE_tails (k := 0) (P := fun _ => True) U rfl (E_var rfl) hn (XE_rdN (PA := fun z => z = 1) (PB := fun z => z < 3) (PC := fun z => z ≤ 5) ((E_nat 1).xn rfl) (XE_draw U rfl (E_nat 3) (by decide) (by decide)) (fun a b _ _ => rd_addN) fun a b ha hb => by omega))) fun ds ⟨x, y, e, ex, ms, hm, ey⟩ => ?_)).imp fun ds ⟨x, y, e, ex, cl, hF, ha, ey⟩ => ?_) hn) fun d hd v H' r => kR v d H' ⟨n, k, hn, rfl, hd⟩ r
        · subst e ex ey
          exact ⟨cl, hF, ha, rfl⟩
        · subst e ex ey
          exact ⟨_, ⟨n, ms, hn, hm, rfl, rfl⟩, _, meetsL_fm hn hm, meetsL_lt n ms, rfl⟩
      · refine s_retX (P := fun d => ∃ rs, Bk n rs ∧ d = bookD n rs) c4 (XE_tup ((XA_2 (E_var rfl).x (XE_singles U rfl (E_var rfl) hn (E_op (E_var rfl) (E_nat 2) rd_eqN))).imp fun ds ⟨x, y, e, ex, rs, hl, hr, ey⟩ => ?_)) fun d hd v H' r => kR v d H' ⟨n, k, hn, rfl, hd⟩ r
        subst e ex ey
        exact ⟨by simp, rs, ⟨hn, by omega, hr⟩, rfl⟩
def R_law_map (ds : List PyData) (d : PyData) : Prop := ∃ m k : Nat, m ≤ 5 ∧ k ≤ 5 ∧ (0 < m → 0 < k) ∧ ds = [nI m, nI k] ∧ ∃ ws : List Nat, ws.length = m ∧ (∀ w ∈ ws, w < k) ∧ d = mapD ws
theorem sc_law_map : FnScope ["_law_urn_here", "_law_many", "_law_wide", "_law_how", "_law_mixed", "_law_k"] ["_law_urn_here", "_law_many", "_law_wide"] (defScope s_law_map) := ⟨rfl, rfl, rfl, by decide +kernel, rfl, by decide +kernel, by decide +kernel⟩
theorem ok_law_map (B : Bl mg) (h_law_draw : Has P w K mg base 1 "_law_draw" ["_law_urn_here", "_law_many"] (spU R_law_draw)) (h_law_shuffled : Has P w K mg base 2 "_law_shuffled" ["_law_urn_here", "_law_items"] (spU R_law_shuffled)) (F : FnP K "_law_map" s_law_map f fd) : FnOk P w K mg base CX0 3 f fd ["_law_urn_here", "_law_many", "_law_wide"] (spU R_law_map) := by
  refine urn_ok F sc_law_map (by rintro _ _ ⟨m, k, hm, hk, hmk, rfl, ws0, hl0, hw0, rfl⟩; rfl) (by decide) fun cdv A outer s H Q X hr => ⟨_,
    (pss_cons (ps_if (pt_cmpR op_eq (pv 1) pe_int (nomark _)) (pss_one (ps_ret (pe_tup pa_nil))) pss_nil)
      (pss_cons (ps_asg (pe_tup (pa_cons (pe_fn h_law_draw (hr.mono (by decide)) rfl (pa_cons (pv 0) (pa_cons pe_int pa_nil))) (pa_cons (pe_fn h_law_shuffled (hr.mono (by decide)) rfl (pa_cons (pv 0) (pa_cons (pe_listRg rfl rfl B.list_ (prg_1 rfl B.range_ (pv 2))) pa_nil))) pa_nil))) (pg_tup rfl (pgs_cons (pg_name (i := 3) sc_law_map.nd rfl (Or.inl rfl)) (pgs_cons (pg_name (i := 4) sc_law_map.nd rfl (Or.inr rfl)) pgs_nil))))
      (pss_cons (ps_if (pt_cmpR op_lt (pv 3) pe_int (nomark _)) (pss_one (ps_ret (pe_callTy (call_tupK (K := K) rfl) rfl B.tuple_ (by decide +kernel) (pa_cons (pe_lc (own := [("_law_k", 5)]) rfl sc_law_map.nd (pi_range1 rfl B.range_ (pa_cons (pv 1) pa_nil)) (blkOk_by (by kernel_rfl)) (fun _ _ _ _ _ => (pg_name (i := 5) sc_law_map.nd rfl (Or.inl rfl))) (fun _ _ _ _ _ => pts_nil) (fun _ _ _ _ _ => (pe_ix (ix_listK (K := K) rfl) (pv 4) (pe_op op_modN (pe_callTy call_int1 rfl B.int_ (by decide +kernel) (pa_cons (pv 5) pa_nil)) (pv 2)) (fun _ _ => rfl)))) pa_nil)))) pss_nil)
      (pss_cons (ps_if (pt_cmpR op_eq (pv 3) pe_int (nomark _)) (pss_one (ps_ret (pe_op (op_rep1K (K := K) rfl) (pe_tup (pa_cons (pe_ix (ix_listK (K := K) rfl) (pv 4) pe_int (fun _ _ => rfl)) pa_nil)) (pv 1)))) pss_nil)
      (pss_one (ps_ret (pe_callTy (call_tupK (K := K) rfl) rfl B.tuple_ (by decide +kernel) (pa_cons (pe_lc (own := [("_law_k", 5)]) rfl sc_law_map.nd (pi_range1 rfl B.range_ (pa_cons (pv 1) pa_nil)) (blkOk_by (by kernel_rfl)) (fun _ _ _ _ _ => (pg_name (i := 5) sc_law_map.nd rfl (Or.inl rfl))) (fun _ _ _ _ _ => pts_nil) (fun _ _ _ _ _ => (pe_fn h_law_draw (hr.mono (by decide)) rfl (pa_cons (pv 0) (pa_cons (pv 2) pa_nil))))) pa_nil)))))))), ?_⟩
  rintro F0 u g _ _ ⟨m, k, hm, hk, hmk, rfl, ws0, hl0, hw0, rfl⟩ hu σ c kR
  have U := bsU_in u g F0 H
  have fin : ∀ ws : List Nat, ws.length = m → (∀ w ∈ ws, w < k) → ∀ v H', Ret (bsU u g F0 H) F0 (mapD ws) v H' → Q v H' := fun ws h1 h2 v H' r => kR v _ H' ⟨m, k, hm, hk, hmk, rfl, ws, h1, h2, rfl⟩ r
  have hz0 : decide (m = 0) = true → ([] : List Nat).length = m := fun h => by
    have : m = 0 := by simpa using h
    rw [this]; rfl
  refine q_when c (ET_test (E_op (E_var rfl) (E_nat 0) rd_eqN)) (fun h0 H1 c1 => ?_) fun h0 H1 c1 => ?_
  · exact s_ret c1 (E_tup EA_nil) fun v H' r => fin [] (hz0 h0) (fun w hw => by cases hw) v H' r
  · have hm0 : 0 < m := by have : m ≠ 0 := by simpa using h0
                           omega
    have hk0 := hmk hm0
    refine q_asgG (P := fun d => ∃ (how : Nat) (l : List Nat), l.Perm (List.range k) ∧ d = .tuple [nI how, .list (l.map nI)]) (ρ' := fun d => match d with
      | .tuple [x, y] => [.at_ u, .da (nI m), .da (nI k), .da x, .da y, .un]
      | _ => []) c1 (XE_tup ((XA_2 (XE_draw U rfl (E_nat 5) (by decide) (by decide)) (XE_shuf (xs := (List.range k).map nI) U rfl (E_lstRg (E_var rfl) (by omega)) (by simp; omega))).imp fun ds ⟨x, y, e, ⟨how, _, ex⟩, ys, ey, hp⟩ => ?_)) (fun d ⟨how, l, _, e⟩ => by subst e; exact GF_pair) fun d ⟨how, l, hp, e⟩ σ2 H2 c2 => ?_
    · obtain ⟨l, e1, e2⟩ := perm_ints hp
      subst e ex ey e1
      exact ⟨by simp, how, l, e2, rfl⟩
    · subst e
      replace c2 : Con (bsU u g F0 H) F0 [.at_ u, .da (nI m), .da (nI k), .da (nI how), .da (.list (l.map nI)), .un] σ2 H2 := c2
      have hll : l.length = k := by rw [hp.length_eq, List.length_range]
      have hlt : ∀ x ∈ l, x < k := fun x hx => List.mem_range.mp (hp.mem_iff.mp hx)
      have hat : ∀ j, j < k → (l.map nI)[j]? = some (nI (l.getD j 0)) := fun j hj => by
        rw [List.getElem?_map, List.getElem?_eq_getElem (by omega), List.getD_eq_getElem?_getD, List.getElem?_eq_getElem (by omega)]; rfl
      have hlo : ∀ j, j < k → l.getD j 0 < k := fun j hj => by
        rw [List.getD_eq_getElem?_getD, List.getElem?_eq_getElem (by omega)]
        exact hlt _ (List.getElem_mem _)
      refine q_when c2 (ET_test (E_op (E_var rfl) (E_nat 2) rd_lt)) (fun _ H3 c3 => ?_) fun _ H3 c3 => ?_
      · refine s_ret c3 (E_cb (EA_1 (E_lc1 (ys := List.range m) (enc := nI) (f := fun j => nI (l.getD (j % k) 0)) (WI_rng (EA_1 (E_var rfl)) (by omega)) (by rw [List.length_range]; omega) (fun y _ => GB_name (by decide)) (fun y _ => E_op (E_var rfl) (E_op (E_cb (EA_1 (E_var rfl)) rc_int) (E_var rfl) (rd_modN hk0)) (rd_ixL (hat _ (Nat.mod_lt _ hk0)))))) rc_tuple) fun v H' r => fin ((List.range m).map fun j => l.getD (j % k) 0) (by simp) (fun w hw => ?_) v H' ?_
        · obtain ⟨j, _, rfl⟩ := List.mem_map.mp hw
          exact hlo _ (Nat.mod_lt _ hk0)
        · unfold mapD
          rw [List.map_map]
          exact r
      · refine q_when c3 (ET_test (E_op (E_var rfl) (E_nat 2) rd_eqN)) (fun _ H4 c4 => ?_) fun _ H4 c4 => ?_
        · refine s_ret c4 (E_op (E_tup (EA_1 (E_op (E_var rfl) (E_nat 0) (rd_ixL (hat 0 hk0))))) (E_var rfl) (rd_rep1 hm0 (by omega))) fun v H' r => fin (List.replicate m (l.getD 0 0)) (by simp) (fun w hw => ?_) v H' ?_
          · rw [(List.mem_replicate.mp hw).2]
            exact hlo 0 hk0
          · unfold mapD
            rw [List.map_replicate]
            exact r
        · refine s_retX (P := fun d => ∃ ws : List Nat, ws.length = m ∧ (∀ w ∈ ws, w < k) ∧ d = mapD ws) c4 (XE_cb (XA_1 (XE_lcRngX (PN := fun z => z = m) (P := fun d => ∃ w, w < k ∧ d = nI w) U ((EA_1 (E_var rfl)).x.imp fun ds e => ⟨m, e, rfl⟩) (fun z hz => by omega) rfl rfl (by decide) fun b' _ U' y => XE_draw U' rfl (E_var rfl) hk0 (by omega))) fun ds ⟨x, e, xs, ex, hl, hp⟩ => ?_) fun d ⟨ws, h1, h2, e⟩ v H' r => fin ws h1 h2 v H' (by rw [← e]; exact r)
          obtain ⟨ws, e1, e2⟩ := all_nats hp
          subst e ex e1
          exact ⟨_, rc_tuple, ws, by rw [← hl, List.length_map], e2, rfl⟩
end
end ML
set_option Elab.async false
set_option linter.all false
set_option maxRecDepth 100000
set_option maxHeartbeats 2000000
/-! defs that need their caller's guards told: those that call repr of lists -/
namespace ML
open PySem PySem.Spec PyProof.Rows L2
open Evl (Ex fresh_back)

structure FnG (P : Program) (w : World) (K : PySem.W.Frag) (mg : Str → Option Value) (base : Heap) (k : Nat) (f : Addr) (fd : FuncData) (ps : List Str) (sp : Sp) : Prop where
  len : ∀ vs H Q E, sp vs H Q E → vs.length = ps.length
  run : ∀ (A : Around) (outer : List Env) (s : Shared) (H : Hp) (args : Args) (us : List Value) (vs : List V) (Q : VK) (E : XK), A.guards = some [] → Room k A → Env0 P w K mg base A outer s H → BindsTo s fd args (ps.zip us) → Vals vs us → sp vs H Q E →
    codeAny (model P w) A (.call (.ref f) args) (CR CX0 outer P w H s Q E) s
section
variable {P : Program} {w : World} {K : PySem.W.Frag} {mg : Str → Option Value} {base : Heap} {k : Nat} {f : Addr} {x : Str} {st : Stmt} {fd : FuncData} {N ps : List Str} {sp : Sp}
/-- such a def by its body -/
theorem fng_of (F : FnP K x st f fd) (S : FnScope N ps (defScope st)) (len : ∀ vs H Q E, sp vs H Q E → vs.length = ps.length)
    (hbody : ∀ (cdv : Value) (A : Around) (outer : List Env) (s : Shared) (H : Hp) (vs : List V) (Q : VK) (E : XK), (A.deeper (envOfC x (defScope st) s.heap.objs.size f cdv)).guards = some [] → Room k (A.deeper (envOfC x (defScope st) s.heap.objs.size f cdv)) → sp vs H Q E →
      ∃ t, PSs (cxOf CX0 P w K mg base N x (defScope st) f cdv A outer s H E) (defBody st) t ∧ t { nx := fun _ H' => Q .non H', rt := Q } (L2.start N vs) H) : FnG P w K mg base (k + 1) f fd ps sp := by
  obtain ⟨cOf, dOf, vD, vK, dc, pm, an, cd, ct, sl, rfl, hlk, hc, _, _⟩ := F.ex
  refine ⟨len, fun A outer s H args us vs Q E hg hr e0 hb r hsp => ?_⟩
  have hcount := len vs H Q E hsp
  have inK := e0.mod.kin.keeps fun b o e => (e0.bs b o e).left
  have noLim := e0.mod.nolimit.keeps fun b o e => (e0.bs b o e).left
  refine codeAny_call_function hr.depth (inK f _ hlk) rfl S.co S.gen rfl (PySem.W.codeRec_of inK hc) (hb _ _ _ _ (wpAny_newFunctionEnv_cells S.kind ?_ fun env he s1 y => ?_))
  · intro p hp
    cases S.par p.1 (List.of_mem_zip hp).left with
    | inl q => exact Or.inl q
    | inr q => exact Or.inr ⟨q, PySem.W.cellsFrom_some _ _ _ (Or.inl q)⟩
  · subst he
    refine ⟨noLim.keeps y.toInCall.keep, codeAny_func ?_⟩
    have hg2 : (A.deeper (envOfC x (defScope st) s.heap.objs.size f cd)).guards = some [] := hg
    obtain ⟨t, ht, hq⟩ := hbody cd A outer s H vs Q E hg2 (hr.deeper _) hsp
    refine wpAny_mono (ht.run [] s1 _ H _ (inv_start S hr.hd e0 hcount r y) hq) (fun fl s' hs => ?_) fun _ _ hs => hs
    cases fl with
    | ret u =>
      obtain ⟨v, _, H', J, rv, q⟩ := hs
      exact ⟨v, H', J.os, J.bare, J.base, J.hok, rv, q⟩
    | next =>
      obtain ⟨_, H', J, q⟩ := hs
      exact ⟨V.non, H', J.os, J.bare, J.base, J.hok, rfl, q⟩
    | brk =>
      obtain ⟨_, _, _, q⟩ := hs
      exact q.elim
    | cont =>
      obtain ⟨_, _, _, q⟩ := hs
      exact q.elim
end
structure HasG (P : Program) (w : World) (K : PySem.W.Frag) (mg : Str → Option Value) (base : Heap) (k : Nat) (x : Str) (ps : List Str) (sp : Sp) : Prop where
  ex : ∃ (f : Addr) (fd : FuncData), FnG P w K mg base k f fd ps sp ∧ mg x = some (.ref f) ∧ PySem.W.keepIn K (.ref f) = true ∧ Binds K fd ps []
section
variable {X : Cx} {k : Nat} {x : Str} {ps : List Str} {sp : Sp} {p pos : Pos} {e : Expr} {es : List Expr} {t : TA}
/-- a call of such a def -/
theorem pe_fnG (h : HasG X.prog X.w X.K X.mg X.base k x ps sp) (hgd : X.A.guards = some []) (hr : Room k X.A) (hg : Gl X x) (ha : PA X (e :: es) t) (hdb : (x == ("__debug__" : Str)) = false := by decide)
    (he : starEach (e :: es) X.env = (false, eval e X.env) :: starEach es X.env := by rfl) (hpl : (backTo pos (starEach es X.env)).any (·.1) = false := by rfl) :
    PE X (.Call (.Name x p) (e :: es) [] pos) (tCall sp [] E0 t) := by
  obtain ⟨f, fd, F, hm, hk, hb⟩ := h.ex
  constructor
  intro pins s σ H Q I q
  refine wpAny_Call_Name_kw (ld_glob I hg hm (PySem.W.callWith_K (h₀ := X.base) I.ok.mod.kin hk (thn (ha.run pos pins s σ H _ I q) fun us s1 hq => ?_) he hpl) hdb)
  obtain ⟨vs, H1, I1, r, q1⟩ := hq
  refine ⟨I1.kIn, wpAny_call ?_⟩
  have q2 : sp vs H1 Q E0 := by
    have := q1
    rwa [List.append_nil] at this
  have hl : us.length = ps.length := r.length.symm.trans (F.len _ _ _ _ q2)
  have hb2 := hb s1 us I1.kIn (by rw [List.append_nil]; exact hl)
  rw [List.append_nil] at hb2
  refine codeAny_mono (F.run X.A X.stack s1 H1 ⟨us, []⟩ us vs Q E0 hgd hr I1.env0 hb2 r q2) fun res s' hres => ?_
  cases res with
  | error er => exact pass0 pins σ H1 s1 er s' I1 hres
  | ok fl =>
    cases fl with
    | ret u => exact I1.after hres
    | next => exact hres.elim
    | brk => exact hres.elim
    | cont => exact hres.elim
/-- repr of a list or tuple -/
def rRepr (K : PySem.W.Frag) : List V → Hp → VK → Prop := fun xs H Q => ∃ (a : Addr) (d : PyData), xs = [.ref a] ∧ Dp K H (.ref a) d ∧ d.showable = true ∧ d.hasDict = false ∧ d.depth ≤ 60 ∧ d.shown.length ≤ sizeLine ∧ Q (.str d.shown) H
theorem call_reprG {K : PySem.W.Frag} (h : X.K = K) (hgd : X.A.guards = some []) (hu : X.A.units + 64 < cLine) : CallR X (.builtin "repr") (rRepr K) := by
  subst h
  rintro pins s σ H xs us Q I r ⟨a, d, rfl, hd, h1, h2, h3, h4, q⟩
  rw [Vals.ref1 r]
  obtain ⟨as, hr⟩ := Dp.reads I d (.ref a) (.ref a) hd rfl
  refine repr_of_reads' hr h1 (PyData.noDict_hsm h2) hgd (by omega) (fun b o e => e) (fun h' u tk hk => ?_) h4
  exact ⟨.str d.shown, H, I.kept (t' := tk) hk, ⟨_, rfl⟩, q⟩
end
/-! ### data whose repr is short -/
structure Nice (k W : Nat) (d : PyData) : Prop where
  sh : d.showable = true
  nd : d.hasDict = false
  ls : d.leavesShort 13 = true
  dep : d.depth ≤ k
  wt : d.weight ≤ W
theorem Nice.mono {k k' W W' : Nat} {d : PyData} (h : Nice k W d) (hk : k ≤ k') (hw : W ≤ W') : Nice k' W' d := ⟨h.sh, h.nd, h.ls, Nat.le_trans h.dep hk, Nat.le_trans h.wt hw⟩
theorem Nice.fits {k W : Nat} {d : PyData} (h : Nice k W d) (hw : W ≤ 1048576) : d.shown.length ≤ sizeLine := PyData.shown_fits (B := 13) (by decide) (by decide) h.ls (Nat.le_trans h.wt hw)
theorem nice_int {n : Nat} (h : n < 1024) : Nice 0 10 (nI n) := by
  have hl : Nat.log2 n < 10 := by
    by_cases h0 : n = 0
    · subst h0; decide
    · exact (Nat.log2_lt h0).mpr h
  have hs : (PyData.shown (nI n)).length ≤ 13 := PyData.shown_int_le (by rw [Int.natAbs_natCast]; omega)
  have hb : (PyData.showable (nI n)) = true := by
    show decide (((n : Nat) : Int).natAbs.log2 < 1920) = true
    rw [Int.natAbs_natCast]
    exact decide_eq_true (by omega)
  have hw : (PyData.weight (nI n)) ≤ 10 := by
    show (if ((n : Nat) : Int) == 0 then 0 else ((n : Nat) : Int).natAbs.log2 + 1) ≤ 10
    rw [Int.natAbs_natCast]
    split <;> omega
  exact ⟨hb, rfl, decide_eq_true hs, Nat.le_refl _, hw⟩
theorem nice_bool (b : Bool) : Nice 0 0 (.bool b) := ⟨rfl, rfl, rfl, Nat.le_refl _, Nat.le_refl _⟩
theorem nice_none : Nice 0 0 .none := ⟨rfl, rfl, rfl, Nat.le_refl _, Nat.le_refl _⟩
theorem nice_all {k W : Nat} : ∀ ds : List PyData, (∀ d ∈ ds, Nice k W d) → PyData.showableAll ds = true ∧ PyData.hasDictAll ds = false ∧ PyData.leavesShortAll 13 ds = true ∧ PyData.depthAll ds ≤ k ∧ PyData.weightAll ds ≤ (W + 1) * ds.length
  | [], _ => ⟨rfl, rfl, rfl, Nat.zero_le _, Nat.le_refl _⟩
  | d :: ds, h => by
    obtain ⟨a1, a2, a3, a4, a5⟩ := nice_all ds fun e he => h e (List.mem_cons_of_mem _ he)
    have hd := h d List.mem_cons_self
    refine ⟨?_, ?_, ?_, ?_, ?_⟩
    · show (PyData.showable d && PyData.showableAll ds) = true
      rw [hd.sh, a1]; rfl
    · show (PyData.hasDict d || PyData.hasDictAll ds) = false
      rw [hd.nd, a2]; rfl
    · show (PyData.leavesShort 13 d && PyData.leavesShortAll 13 ds) = true
      rw [hd.ls, a3]; rfl
    · show max (PyData.depth d) (PyData.depthAll ds) ≤ k
      have := hd.dep
      omega
    · show PyData.weight d + 1 + PyData.weightAll ds ≤ _
      have := hd.wt
      rw [List.length_cons, Nat.mul_succ]
      omega
theorem nice_list {k W L : Nat} {ds : List PyData} (h : ∀ d ∈ ds, Nice k W d) (hl : ds.length ≤ L) : Nice (k + 1) ((W + 1) * L) (.list ds) := by
  obtain ⟨a1, a2, a3, a4, a5⟩ := nice_all ds h
  exact ⟨a1, a2, a3, Nat.succ_le_succ a4, Nat.le_trans a5 (Nat.mul_le_mul_left _ hl)⟩
theorem nice_tup {k W L : Nat} {ds : List PyData} (h : ∀ d ∈ ds, Nice k W d) (hl : ds.length ≤ L) : Nice (k + 1) ((W + 1) * L) (.tuple ds) := by
  obtain ⟨a1, a2, a3, a4, a5⟩ := nice_all ds h
  exact ⟨a1, a2, a3, Nat.succ_le_succ a4, Nat.le_trans a5 (Nat.mul_le_mul_left _ hl)⟩
theorem nice_lot (m : Nat) : Nice 1 110 (lotD m) := by
  refine nice_tup (W := 10) (L := 10) (fun d hd => ?_) (by rw [List.length_map]; exact lotM_len m)
  obtain ⟨i, hi, rfl⟩ := List.mem_map.mp hd
  exact nice_int (by have := (mem_lotM.mp hi).1; omega)
theorem nice_rule (r : Nat × Nat) : Nice 2 222 (ruleD r) := nice_tup (W := 110) (L := 2) (fun d hd => by
  simp only [List.mem_cons, List.not_mem_nil, or_false] at hd
  rcases hd with rfl | rfl <;> exact nice_lot _) (by simp)
theorem nice_book {n : Nat} {rs : List (Nat × Nat)} (hn : n ≤ 1000) (h : rs.length ≤ 100) : Nice 4 44602 (bookD n rs) := by
  have h1 : Nice 3 22300 (.tuple (rs.map ruleD)) := nice_tup (W := 222) (L := 100) (fun d hd => by
    obtain ⟨r, _, rfl⟩ := List.mem_map.mp hd
    exact nice_rule r) (by rw [List.length_map]; exact h)
  refine nice_tup (W := 22300) (L := 2) (fun d hd => ?_) (by simp)
  simp only [List.mem_cons, List.not_mem_nil, or_false] at hd
  rcases hd with rfl | rfl
  · exact (nice_int (by omega)).mono (by decide) (by decide)
  · exact h1
theorem nice_map {ws : List Nat} (h : ∀ w ∈ ws, w < 1000) (hl : ws.length ≤ 10) : Nice 1 110 (mapD ws) := nice_tup (W := 10) (L := 10) (fun d hd => by
  obtain ⟨i, hi, rfl⟩ := List.mem_map.mp hd
  exact nice_int (by have := h i hi; omega)) (by rw [List.length_map]; exact hl)
theorem nice_lots {ms : List Nat} (h : ms.length ≤ 32) : Nice 2 3552 (.tuple (ms.map lotD)) := nice_tup (W := 110) (L := 32) (fun d hd => by
  obtain ⟨i, _, rfl⟩ := List.mem_map.mp hd
  exact nice_lot i) (by rw [List.length_map]; exact h)
section
variable {K : PySem.W.Frag} {ρ : List Sl} {te : TE} {ds : List PyData}
theorem E_repr {k W : Nat} {d : PyData} (h : E te ρ d) (hr : (∃ ds, d = .list ds) ∨ ∃ ds, d = .tuple ds) (hn : Nice k W d) (hk : k ≤ 60 := by decide) (hW : W ≤ 1048576 := by decide) : E (tCB (rRepr K) (tCons te tNil)) ρ (.str d.shown) := fun σ F H e o Q q =>
  h σ F H e o _ fun v F1 H1 s1 dv => by
    have hv : ∃ a, v = .ref a := by
      rcases hr with ⟨ds, rfl⟩ | ⟨ds, rfl⟩ <;> cases dv <;> exact ⟨_, rfl⟩
    obtain ⟨a, rfl⟩ := hv
    exact ⟨a, d, rfl, dv.dp s1.fh, hn.sh, hn.nd, Nat.le_trans hn.dep hk, hn.fits hW, q _ F1 H1 s1 (.str _)⟩
end
end ML
set_option Elab.async false
set_option linter.all false
set_option maxRecDepth 100000
set_option maxHeartbeats 2000000
/-! what is asked, of masks -/
namespace ML
open PySem L2

/-- the lots that keep the stem's rules are the family -/
theorem fold_mono {cl : List Nat} {f : Nat → Nat} : ∀ (ls : List Nat) (acc : List (Nat × Nat)) (p : Nat × Nat), p ∈ acc → p ∈ ls.foldl (nstep cl f) acc
  | [], _, _, h => h
  | m :: ls, acc, p, h => by
    rw [List.foldl_cons]
    refine fold_mono ls _ p ?_
    unfold nstep
    split
    · exact List.mem_append_left _ h
    · exact h
theorem kept_sub {rs rs' : List (Nat × Nat)} {m : Nat} (h : ∀ r ∈ rs', r ∈ rs) (k : kept rs m = true) : kept rs' m = true := kept_iff.mpr fun r hr => kept_iff.mp k r (h r hr)
theorem fold_new {cl : List Nat} {f : Nat → Nat} {m : Nat} (hc : cl.contains m = false) : ∀ (ls : List Nat) (acc : List (Nat × Nat)), m ∈ ls → kept (ls.foldl (nstep cl f) acc) m = true → (m, f m) ∈ ls.foldl (nstep cl f) acc
  | x :: ls, acc, hm, hk => by
    rw [List.foldl_cons] at hk ⊢
    by_cases e : x = m
    · subst e
      have hk2 : kept acc x = true := kept_sub (fun r hr => fold_mono ls _ r (by unfold nstep; split; exact List.mem_append_left _ hr; exact hr)) hk
      have hst : nstep cl f acc x = acc ++ [(x, f x)] := by unfold nstep; rw [hc, hk2]; rfl
      rw [hst]
      exact fold_mono ls _ _ (by simp)
    · rcases List.mem_cons.mp hm with h | h
      · exact absurd h.symm e
      · exact fold_new hc ls _ h hk
theorem kept_pairs {ps : List (Nat × Nat)} {m : Nat} : kept (ps.map fun p => (p.1, diff p.2 p.1)) m = true ↔ kept ps m = true := by
  rw [kept_iff, kept_iff]
  constructor
  · intro h p hp hs
    have := h _ (List.mem_map.mpr ⟨p, hp, rfl⟩) hs
    refine sub_iff.mpr fun i hi => ?_
    by_cases q : p.1.testBit i = true
    · exact sub_iff.mp hs i q
    · exact sub_iff.mp this i (by rw [diff_bit, hi]; simpa using q)
  · intro h r hr hs
    obtain ⟨p, hp, rfl⟩ := List.mem_map.mp hr
    exact sub_trans (diff_sub _ _) (h p hp hs)
theorem fam_stem {n : Nat} {cl : List Nat} (hF : Fm n cl) (ha : cl.Pairwise (· < ·)) : fam n (stemL n cl) = cl := by
  refine nats_unique (fam_lt n _) ha fun m => ?_
  rw [mem_fam]
  unfold stemL
  rw [kept_pairs]
  have hord : ∀ x, x ∈ ord (List.range (1 <<< n)) ↔ x < 2 ^ n := fun x => by rw [mem_ord, List.mem_range, shl1]
  constructor
  · rintro ⟨h1, h2⟩
    by_cases hc : cl.contains m = true
    · exact List.contains_iff_mem.mp hc
    · have h3 := fold_new (by simpa using hc) (ord (List.range (1 <<< n))) [] ((hord m).mpr h1) h2
      have h4 := kept_iff.mp h2 _ h3 (sub_refl m)
      have hs := hF.shut ha h1
      have e : shut cl m = m := sub_anti h4 hs.has
      have := hs.mem
      rwa [e] at this
  · intro hm
    refine ⟨hF.low m hm, kept_iff.mpr fun p hp hs => ?_⟩
    rcases nearL_mem _ _ _ _ p hp with h | ⟨h1, h2⟩
    · cases h
    · rw [h2]
      exact (hF.shut ha ((hord _).mp h1)).least m hm hs
theorem stemL_bk {n : Nat} {cl : List Nat} (hF : Fm n cl) (ha : cl.Pairwise (· < ·)) : Bk n (stemL n cl) :=
  ⟨hF.n5, Nat.le_trans (stemL_len hF.n5) (by decide), fun r hr => ⟨(stemL_mem hF ha hr).1, (stemL_mem hF ha hr).2.1⟩⟩
/-- the program's stem of a family in any order -/
theorem stem_of_fam {n : Nat} {cl ls : List Nat} (hF : Fm n cl) (ha : cl.Pairwise (· < ·)) (e : ∀ x, x ∈ ls ↔ x ∈ cl) : stemR n (ord ls) = stemL n cl := stem_eq hF ha (ord_len_pair ls) fun x => by rw [mem_ord, e]
theorem asc_fm {n : Nat} {ls : List Nat} (h : Fm n ls) : Fm n (asc ls) := h.same fun x => (mem_asc fun m hm => lt1024 h.n5 (h.low m hm)).symm
theorem mem_asc_fm {n x : Nat} {ls : List Nat} (h : Fm n ls) : x ∈ asc ls ↔ x ∈ ls := mem_asc fun m hm => lt1024 h.n5 (h.low m hm)

/-! ### pulled -/
section
variable {k : Nat} {rs : List (Nat × Nat)} {ws : List Nat}
/-- the sources, ascending -/
def lowL (cl ws : List Nat) : List Nat := asc (cl.map (backM ws))
theorem low_fm {cl : List Nat} (h : Fm k cl) (hw : IsMap ws k) : Fm ws.length (lowL cl ws) := asc_fm (h.pull hw.2 hw.1)
theorem low_lt (cl ws : List Nat) : (lowL cl ws).Pairwise (· < ·) := asc_lt _
theorem mem_low {cl : List Nat} (h : Fm k cl) (hw : IsMap ws k) {x : Nat} : x ∈ lowL cl ws ↔ ∃ c ∈ cl, backM ws c = x := by
  unfold lowL
  rw [mem_asc_fm (h.pull hw.2 hw.1), List.mem_map]
theorem pull_eq (hb : Bk k rs) (hw : IsMap ws k) : pullR k rs ws = stemL ws.length (lowL (fam k rs) ws) := by
  unfold pullR
  refine stem_of_fam (low_fm hb.fm hw) (low_lt _ _) fun x => ?_
  rw [mem_ddp, mem_low hb.fm hw, List.mem_map]
  constructor
  · rintro ⟨c, h1, h2⟩; exact ⟨c, mem_ord.mp h1, h2⟩
  · rintro ⟨c, h1, h2⟩; exact ⟨c, mem_ord.mpr h1, h2⟩
theorem pull_bk (hb : Bk k rs) (hw : IsMap ws k) : Bk ws.length (pullR k rs ws) := by rw [pull_eq hb hw]; exact stemL_bk (low_fm hb.fm hw) (low_lt _ _)
theorem pull_fam (hb : Bk k rs) (hw : IsMap ws k) : fam ws.length (pullR k rs ws) = lowL (fam k rs) ws := by rw [pull_eq hb hw]; exact fam_stem (low_fm hb.fm hw) (low_lt _ _)
/-- the closure in the book pulled -/
theorem pull_lst (hb : Bk k rs) (hw : IsMap ws k) {m : Nat} (hm : m < 2 ^ ws.length) : Lst (fam ws.length (pullR k rs ws)) m (backM ws (shut (fam k rs) (onM ws m))) := by
  have hs := hb.fm.shut (fam_lt k rs) (on_lt (m := m) hw.2)
  rw [pull_fam hb hw]
  refine ⟨(mem_low hb.fm hw).mpr ⟨_, hs.mem, rfl⟩, by rw [sub_back (k := k) hm]; exact hs.has, fun x hx h => ?_⟩
  obtain ⟨c, h1, rfl⟩ := (mem_low hb.fm hw).mp hx
  rw [sub_back (k := k) hm] at h
  have h2 := hs.least c h1 h
  refine sub_iff.mpr fun i hi => ?_
  obtain ⟨y, h3, h4⟩ := back_bit.mp hi
  exact back_bit.mpr ⟨y, h3, sub_iff.mp h2 y h4⟩
theorem pull_clo (hb : Bk k rs) (hw : IsMap ws k) {m : Nat} (hm : m < 2 ^ ws.length) : clo ws.length (pullR k rs ws) m = backM ws (shut (fam k rs) (onM ws m)) := ((pull_bk hb hw).lst hm).one (pull_lst hb hw hm)
/-- the first closed lot that breaks a rule -/
theorem break_eq {n a b c : Nat} {cl ls : List Nat} (hF : Fm n cl) (hp : ls.Pairwise fun x y => (lotM x).length ≤ (lotM y).length) (e : ∀ x, x ∈ ls ↔ x ∈ cl) (hc : Lst cl a c) : ls.find? (fun m => !kept [(a, b)] m) = if sub b c = true then none else some c := by
  have hk : ∀ m, kept [(a, b)] m = (!sub a m || sub b m) := fun m => by unfold kept; simp
  split
  · rename_i hs
    rw [List.find?_eq_none]
    intro x hx
    rw [hk]
    cases h1 : sub a x with
    | false => simp
    | true => simp [sub_trans hs (hc.least x ((e x).mp hx) h1)]
  · rename_i hs
    cases q : ls.find? (fun m => !kept [(a, b)] m) with
    | none =>
      have := List.find?_eq_none.mp q c ((e c).mpr hc.mem)
      rw [hk, hc.has] at this
      simp [hs] at this
    | some f =>
      obtain ⟨h1, as, bs, h2, h3⟩ := List.find?_eq_some_iff_append.mp q
      have hf : f ∈ cl := (e f).mp (by rw [h2]; simp)
      rw [hk] at h1
      have hsf : sub a f = true := by
        cases w : sub a f with
        | true => rfl
        | false => rw [w] at h1; simp at h1
      have hs2 := hc.least f hf hsf
      have hl : (lotM f).length ≤ (lotM c).length := by
        have hcm : c ∈ ls := (e c).mpr hc.mem
        rw [h2] at hcm hp
        rw [List.pairwise_append, List.pairwise_cons] at hp
        rcases List.mem_append.mp hcm with h4 | h4
        · have := h3 c h4
          rw [hk, hc.has] at this
          simp [hs] at this
        · rcases List.mem_cons.mp h4 with rfl | h4
          · exact Nat.le_refl _
          · exact hp.2.1.1 c h4
      rw [sub_len (lt1024 hF.n5 (hF.low c hc.mem)) (lt1024 hF.n5 (hF.low f hf)) hs2 hl]
/-- the keys -/
theorem onM_mono {a b : Nat} (h : sub a b = true) : sub (onM ws a) (onM ws b) = true := sub_iff.mpr fun x hx => by
  obtain ⟨i, h1, h2⟩ := on_bit.mp hx
  exact on_bit.mpr ⟨i, sub_iff.mp h i h1, h2⟩
end
end ML
set_option Elab.async false
set_option linter.all false
set_option maxRecDepth 100000
set_option maxHeartbeats 2000000
/-! keys, pushed books, maps behind maps -/
namespace ML
open PySem L2
section
variable {k : Nat} {rs : List (Nat × Nat)} {ws vs : List Nat}
theorem spare_none {g : Nat → Nat} {m : Nat} (hm : m < 1024) : (spareF g m).isNone = true ↔ ∀ t, m.testBit t = true → (g (diff m (1 <<< t))).testBit t = false := by
  unfold spareF
  rw [Option.isNone_iff_eq_none, List.find?_eq_none]
  constructor
  · intro h t ht
    have := h t (mem_lotM.mpr ⟨bit_lt (n := 10) hm ht, ht⟩)
    simpa using this
  · intro h t ht
    have := h t (mem_lotM.mp ht).2
    simp [this]
theorem diff_one_bit {m t i : Nat} : (diff m (1 <<< t)).testBit i = (m.testBit i && !decide (t = i)) := by rw [diff_bit, shl1, Nat.testBit_two_pow]
theorem keys_eq (hb : Bk k rs) (hw : IsMap ws k) : mkL (clo ws.length (pullR k rs ws)) (2 ^ ws.length - 1) = keysL (fam k rs) ws := by
  have hn := hw.1
  have hB := pull_bk hb hw
  have hT := top_lt ws.length
  have hg : ∀ m, m < 2 ^ ws.length → Lst (fam ws.length (pullR k rs ws)) m (clo ws.length (pullR k rs ws) m) := fun m hm => hB.lst hm
  have hlt : ∀ m, m < 2 ^ ws.length → clo ws.length (pullR k rs ws) m < 2 ^ ws.length := fun m hm => hB.clo_lt hm
  have hgv : ∀ m, m < 2 ^ ws.length → clo ws.length (pullR k rs ws) m = backM ws (shut (fam k rs) (onM ws m)) := fun m hm => pull_clo hb hw hm
  generalize hG : clo ws.length (pullR k rs ws) = g at hg hlt hgv ⊢
  generalize fam ws.length (pullR k rs ws) = cl at hg
  have gtop : g (2 ^ ws.length - 1) = 2 ^ ws.length - 1 := sub_anti (sub_top (hlt _ hT)) (hg _ hT).has
  have gmono : ∀ a b, b < 2 ^ ws.length → sub a b = true → sub (g a) (g b) = true := fun a b hb' h => (hg a (lt_of_sub h hb')).least _ (hg b hb').mem (sub_trans h (hg b hb').has)
  have hS : ∀ m, m ∈ keysS (fam k rs) ws ↔ m < 2 ^ ws.length ∧ g m = 2 ^ ws.length - 1 := fun m => by
    unfold keysS
    rw [List.mem_filter, List.mem_range, shl1]
    refine and_congr_right fun hm => ?_
    rw [← sub_back (k := k) hT, ← hgv m hm]
    exact ⟨fun h => sub_anti (sub_top (hlt m hm)) h, fun h => by rw [h]; exact sub_refl _⟩
  obtain ⟨w1, w2⟩ := lotsW_all (lt1024 hn (by rw [gtop]; exact hT) : g (2 ^ ws.length - 1) < 1024)
  refine nats_unique ((w1.filter _).filter _) (((pw_range _).filter _).filter _) fun x => ?_
  unfold mkL keysL
  rw [List.mem_filter, List.mem_filter, w2, gtop, decide_eq_true_iff, List.mem_filter, hS, Bool.not_eq_true', ← Bool.not_eq_true, List.any_eq_true]
  constructor
  · rintro ⟨⟨h1, h2⟩, h3⟩
    have hx := lt_of_sub h1 hT
    refine ⟨⟨hx, h2⟩, ?_⟩
    rintro ⟨o, ho, h4⟩
    rw [Bool.and_eq_true, Bool.not_eq_true', decide_eq_false_iff_not] at h4
    obtain ⟨ho1, ho2⟩ := (hS o).mp ho
    have hne : ∃ t, x.testBit t = true ∧ o.testBit t = false := by
      apply Classical.byContradiction
      intro hno
      refine h4.2 (sub_anti h4.1 (sub_iff.mpr fun i hi => ?_))
      cases q : o.testBit i with
      | true => rfl
      | false => exact absurd ⟨i, hi, q⟩ hno
    obtain ⟨t, t1, t2⟩ := hne
    have h5 := (spare_none (lt1024 hn hx)).mp h3 t t1
    have h6 : sub o (diff x (1 <<< t)) = true := sub_iff.mpr fun i hi => by
      rw [diff_one_bit, sub_iff.mp h4.1 i hi]
      have : ¬ t = i := fun e => by rw [e, hi] at t2; cases t2
      simp [this]
    have h7 := gmono o _ (lt_of_sub (diff_sub x (1 <<< t)) hx) h6
    rw [ho2] at h7
    have h8 := sub_iff.mp h7 t (by rw [top_bit]; exact decide_eq_true (bit_lt hx t1))
    rw [h5] at h8
    cases h8
  · rintro ⟨⟨hx, h2⟩, h3⟩
    refine ⟨⟨sub_top hx, h2⟩, (spare_none (lt1024 hn hx)).mpr fun t ht => ?_⟩
    cases q : (g (diff x (1 <<< t))).testBit t with
    | false => rfl
    | true =>
      exfalso
      have hd := lt_of_sub (diff_sub x (1 <<< t)) hx
      have hs : sub x (g (diff x (1 <<< t))) = true := sub_iff.mpr fun i hi => by
        by_cases e : t = i
        · rw [← e]; exact q
        · exact sub_iff.mp (hg _ hd).has i (by rw [diff_one_bit, hi]; simp [e])
      have hgg : sub (g x) (g (diff x (1 <<< t))) = true := (hg x hx).least _ (hg _ hd).mem hs
      rw [h2] at hgg
      have e2 : g (diff x (1 <<< t)) = 2 ^ ws.length - 1 := sub_anti (sub_top (hlt _ hd)) hgg
      refine h3 ⟨diff x (1 <<< t), (hS _).mpr ⟨hd, e2⟩, ?_⟩
      rw [diff_sub, Bool.true_and, Bool.not_eq_true', decide_eq_false_iff_not]
      intro e3
      have h9 : (diff x (1 <<< t)).testBit t = true := by rw [e3]; exact ht
      rw [diff_one_bit] at h9
      simp at h9

/-! ### pushed -/
theorem push_lt (k : Nat) (cl ws : List Nat) : (pushL k cl ws).Pairwise (· < ·) := (pw_range _).filter _
theorem push_fm (hb : Bk ws.length rs) (hw : IsMap ws k) (hk : k ≤ 5) : Fm k (pushL k (fam ws.length rs) ws) := hb.fm.push hw.2 hk
theorem push_eq (hb : Bk ws.length rs) (hw : IsMap ws k) (hk : k ≤ 5) : pushR rs k ws = stemL k (pushL k (fam ws.length rs) ws) := by
  unfold pushR
  exact stem_of_fam (push_fm hb hw hk) (push_lt _ _ _) fun x => mem_ddp
theorem push_bk (hb : Bk ws.length rs) (hw : IsMap ws k) (hk : k ≤ 5) : Bk k (pushR rs k ws) := by rw [push_eq hb hw hk]; exact stemL_bk (push_fm hb hw hk) (push_lt _ _ _)
theorem push_fam (hb : Bk ws.length rs) (hw : IsMap ws k) (hk : k ≤ 5) : fam k (pushR rs k ws) = pushL k (fam ws.length rs) ws := by rw [push_eq hb hw hk]; exact fam_stem (push_fm hb hw hk) (push_lt _ _ _)
theorem kept_on (hb : Bk ws.length rs) (m : Nat) : kept (rs.map fun r => (onM ws r.1, onM ws r.2)) m = kept rs (backM ws m) := by
  unfold kept
  rw [List.all_map]
  refine Bool.eq_iff_iff.mpr ?_
  rw [List.all_eq_true, List.all_eq_true]
  refine forall_congr' fun r => forall_congr' fun hr => ?_
  obtain ⟨h1, h2⟩ := hb.low r hr
  show (!sub (onM ws r.1) m || sub (onM ws r.2) m) = true ↔ _
  rw [sub_back (k := 0) h1, sub_back (k := 0) h2]
theorem fam_on (hb : Bk ws.length rs) (hw : IsMap ws k) : fam k (rs.map fun r => (onM ws r.1, onM ws r.2)) = pushL k (fam ws.length rs) ws := by
  unfold pushL
  conv => lhs; unfold fam
  refine List.filter_congr fun m _ => ?_
  rw [kept_on hb, Bool.eq_iff_iff, List.contains_iff_mem, mem_fam]
  exact ⟨fun h => ⟨back_lt, h⟩, fun h => h.2⟩
theorem on_bk (hb : Bk ws.length rs) (hw : IsMap ws k) (hk : k ≤ 5) : Bk k (rs.map fun r => (onM ws r.1, onM ws r.2)) := by
  refine ⟨hk, by rw [List.length_map]; exact hb.len, fun r hr => ?_⟩
  obtain ⟨p, _, rfl⟩ := List.mem_map.mp hr
  exact ⟨on_lt hw.2, on_lt hw.2⟩
theorem push_kept (hb : Bk ws.length rs) (hw : IsMap ws k) (hk : k ≤ 5) {m : Nat} (hm : m < 2 ^ k) : kept (pushR rs k ws) m = (pushL k (fam ws.length rs) ws).contains m := by
  rw [Bool.eq_iff_iff, List.contains_iff_mem, ← push_fam hb hw hk, mem_fam]
  exact ⟨fun h => ⟨hm, h⟩, fun h => h.2⟩
theorem back_kept (hb : Bk ws.length rs) {m : Nat} (hm : m < 2 ^ k) : kept rs (backM ws m) = (pushL k (fam ws.length rs) ws).contains m := by
  rw [Bool.eq_iff_iff, List.contains_iff_mem, mem_push, mem_fam]
  exact ⟨fun h => ⟨hm, back_lt, h⟩, fun h => h.2.2⟩
theorem push_clo (hb : Bk ws.length rs) (hw : IsMap ws k) (hk : k ≤ 5) {m : Nat} (hm : m < 2 ^ k) : IsClo (pushR rs k ws) m (shut (pushL k (fam ws.length rs) ws) m) := by
  have := (push_bk hb hw hk).clo hm
  unfold clo at this
  rwa [push_fam hb hw hk] at this

/-! ### a map behind a map -/
theorem after_len : (afterM ws vs).length = ws.length := by unfold afterM; rw [List.length_map]
theorem after_map {j : Nat} (hw : IsMap ws vs.length) (hv : ∀ w ∈ vs, w < j) : IsMap (afterM ws vs) j := by
  refine ⟨by rw [after_len]; exact hw.1, fun w h => ?_⟩
  obtain ⟨x, hx, rfl⟩ := List.mem_map.mp h
  have := hw.2 x hx
  rw [List.getD_eq_getElem?_getD, List.getElem?_eq_getElem this]
  exact hv _ (List.getElem_mem _)
theorem after_back (hw : IsMap ws vs.length) (m : Nat) : backM (afterM ws vs) m = backM ws (backM vs m) := by
  apply Nat.eq_of_testBit_eq
  intro i
  rw [Bool.eq_iff_iff, back_bit, back_bit]
  unfold afterM
  constructor
  · rintro ⟨x, h1, h2⟩
    rw [List.getElem?_map] at h1
    cases q : ws[i]? with
    | none => rw [q] at h1; cases h1
    | some y =>
      rw [q] at h1
      have hy := hw.2 y (List.mem_of_getElem? q)
      have e : vs[y]? = some x := by
        have h3 : some (vs.getD y 0) = some x := h1
        rw [List.getD_eq_getElem?_getD, List.getElem?_eq_getElem hy] at h3
        rw [List.getElem?_eq_getElem hy]
        exact h3
      exact ⟨y, rfl, back_bit.mpr ⟨x, e, h2⟩⟩
  · rintro ⟨y, h1, h2⟩
    obtain ⟨x, h3, h4⟩ := back_bit.mp h2
    refine ⟨x, ?_, h4⟩
    rw [List.getElem?_map, h1]
    show some (vs.getD y 0) = some x
    rw [List.getD_eq_getElem?_getD, h3]
    rfl
theorem low_low {cl : List Nat} (h : Fm k cl) (hv : IsMap vs k) (hw : IsMap ws vs.length) : lowL (lowL cl vs) ws = lowL cl (afterM ws vs) := by
  refine nats_unique (low_lt _ _) (low_lt _ _) fun x => ?_
  rw [mem_low (low_fm h hv) hw, mem_low h (after_map hw hv.2)]
  constructor
  · rintro ⟨c, h1, h2⟩
    obtain ⟨c', h3, rfl⟩ := (mem_low h hv).mp h1
    exact ⟨c', h3, by rw [after_back hw]; exact h2⟩
  · rintro ⟨c, h1, h2⟩
    rw [after_back hw] at h2
    exact ⟨_, (mem_low h hv).mpr ⟨c, h1, rfl⟩, h2⟩
theorem push_push {cl : List Nat} (hw : IsMap ws vs.length) : pushL k (pushL vs.length cl ws) vs = pushL k cl (afterM ws vs) := by
  unfold pushL
  refine List.filter_congr fun m _ => ?_
  rw [Bool.eq_iff_iff, List.contains_iff_mem, List.contains_iff_mem, after_back hw]
  exact ⟨fun h => (mem_push.mp h).2, fun h => mem_push.mpr ⟨back_lt, h⟩⟩
end
end ML
set_option Elab.async false
set_option linter.all false
set_option maxRecDepth 100000
set_option maxHeartbeats 2000000
/-! the law's greater defs: how they are called, what they know -/
namespace ML
open PySem PySem.Spec PyProof.Rows L2
open Evl (Ex fresh_back)

theorem DVs.rev {F : Hp} : ∀ {vs : List V} {ds : List PyData}, DVs F vs ds → DVs F vs.reverse ds.reverse
  | _, [], h => by cases h; exact .nil
  | _, d :: ds, h => by
    cases h with
    | cons h1 h2 =>
      rw [List.reverse_cons, List.reverse_cons]
      exact (DVs.rev h2).app (.cons h1 .nil)
section
variable {ρ : List Sl} {tk : TA} {ds : List PyData} {d : PyData} {R : List PyData → PyData → Prop}
theorem E_callR (h : EA tk ρ ds) (hr : R ds.reverse d) : E (tCallK (spD R) (fun _ zs => List.reverse zs) E0 tNil tk) ρ d := fun σ F H e o Q q =>
  h σ F H e o _ fun vs F1 H1 s1 dvs => ⟨F1, ds.reverse, s1.fh, dvs.rev, d, hr, fun v F2 H2 s2 dv => q v F2 H2 (Stq.trans s1 s2) dv⟩
theorem E_callI (h : EA tk ρ ds) (hr : R ds d) : E (tCallK (spD R) (fun _ zs => id zs) E0 tNil tk) ρ d := fun σ F H e o Q q =>
  h σ F H e o _ fun vs F1 H1 s1 dvs => ⟨F1, ds, s1.fh, dvs, d, hr, fun v F2 H2 s2 dv => q v F2 H2 (Stq.trans s1 s2) dv⟩
end
section
variable {P : Program} {w : World} {K : PySem.W.Frag} {mg : Str → Option Value} {base : Heap} {x : Str} {st : Stmt} {f : Addr} {fd : FuncData} {N ps : List Str} {k : Nat} {R : List PyData → PyData → Prop}
theorem pureG_ok (F : FnP K x st f fd) (S : FnScope N ps (defScope st))
    (hl : ∀ ds d, R ds d → ds.length = ps.length) (hN : ps.length ≤ N.length)
    (hb : ∀ (cdv : Value) (A : Around) (outer : List Env) (s : Shared) (H : Hp) (Q : VK) (X : XK), (A.deeper (envOfC x (defScope st) s.heap.objs.size f cdv)).guards = some [] → Room k (A.deeper (envOfC x (defScope st) s.heap.objs.size f cdv)) →
      ∃ t, PSs (cxOf CX0 P w K mg base N x (defScope st) f cdv A outer s H X).nox (defBody st) t ∧ ∀ (F0 : Hp) (ds : List PyData) (d : PyData), R ds d → ∀ σ, Con (bs0 F0 H) F0 (ds.map Sl.da ++ List.replicate (N.length - ds.length) Sl.un) σ H →
        (∀ v H', Ret (bs0 F0 H) F0 d v H' → Q v H') → t { nx := fun _ H' => Q .non H', rt := Q } σ H) : FnG P w K mg base (k + 1) f fd ps (spD R) := by
  refine fng_of F S (fun vs H Q X h => ?_) (fun cdv A outer s H vs Q X hg hr h => ?_)
  · obtain ⟨F0, ds, _, dv, d, hR, _⟩ := h
    rw [dv.len]
    exact hl ds d hR
  · obtain ⟨F0, ds, e, dv, d, hR, q⟩ := h
    obtain ⟨t, ht, hq⟩ := hb cdv A outer s H Q X hg hr
    refine ⟨t, PSs.nox ht, hq F0 ds d hR _ ⟨F0, Stp.refl e, Ex.refl F0, trivial, fun _ z => z.elim, EnvOk_start dv (by rw [hl ds d hR]; exact hN)⟩ fun v H' r => ?_⟩
    obtain ⟨F', s', _, _, _, o'⟩ := r
    obtain ⟨v', e', dv'⟩ := o'.2 0 _ rfl
    obtain rfl := Option.some.inj (Option.some.inj e')
    exact q v F' H' s' dv'
theorem urnG_ok (F : FnP K x st f fd) (S : FnScope N ps (defScope st))
    (hl : ∀ ds d, R ds d → ds.length + 1 = ps.length) (hN : ps.length ≤ N.length)
    (hb : ∀ (cdv : Value) (A : Around) (outer : List Env) (s : Shared) (H : Hp) (Q : VK) (X : XK), (A.deeper (envOfC x (defScope st) s.heap.objs.size f cdv)).guards = some [] → Room k (A.deeper (envOfC x (defScope st) s.heap.objs.size f cdv)) →
      ∃ t, PSs (cxOf CX0 P w K mg base N x (defScope st) f cdv A outer s H X).nox (defBody st) t ∧ ∀ (F0 : Hp) (u g : Addr) (ds : List PyData) (d : PyData), R ds d → UrnOk u g F0 H → ∀ σ, Con (bsU u g F0 H) F0 (.at_ u :: ds.map Sl.da ++ List.replicate (N.length - (ds.length + 1)) Sl.un) σ H →
        (∀ v d H', R ds d → Ret (bsU u g F0 H) F0 d v H' → Q v H') → t { nx := fun _ H' => Q .non H', rt := Q } σ H) : FnG P w K mg base (k + 1) f fd ps (spU R) := by
  refine fng_of F S (fun vs H Q X h => ?_) (fun cdv A outer s H vs Q X hg hr h => ?_)
  · obtain ⟨F0, u, g, ws, ds, rfl, _, _, dv, ⟨d, hR⟩, _⟩ := h
    rw [List.length_cons, dv.len]
    exact hl ds d hR
  · obtain ⟨F0, u, g, ws, ds, rfl, e, hu, dv, ⟨d, hR⟩, q⟩ := h
    obtain ⟨t, ht, hq⟩ := hb cdv A outer s H Q X hg hr
    refine ⟨t, PSs.nox ht, hq F0 u g ds d hR hu _ ⟨F0, Stp.refl e, Ex.refl F0, ⟨g, hu, .inl rfl⟩, fun a ha => ?_, EnvOk_startU dv (by rw [hl ds d hR]; exact hN)⟩ fun v d' H' hR' r => ?_⟩
    · rcases ha with rfl | rfl
      · exact hu.hu
      · exact hu.hg
    · obtain ⟨F', s', _, ⟨g', h1, h2⟩, m', o'⟩ := r
      obtain ⟨v', e', dv'⟩ := o'.2 0 _ rfl
      obtain rfl := Option.some.inj (Option.some.inj e')
      exact q v d' F' H' g' hR' s' h1 h2 (m' g (.inr rfl)) dv'
end

/-! ### what is kept to be asked again -/
structure Kn where
  k : Nat
  rs : List (Nat × Nat)
  ws : List Nat
def Kn.text (q : Kn) : Str := (bookD q.ws.length (pullR q.k q.rs q.ws)).shown
def Kn.D (q : Kn) : PyData := .list [bookD q.k q.rs, mapD q.ws, .str q.text]
def Kn.ok (q : Kn) : Prop := Bk q.k q.rs ∧ IsMap q.ws q.k
/-- the list at l holds c of these at most -/
structure KnOk (l : Addr) (c : Nat) (F H : Hp) : Prop where
  fl : F l = none
  st : ∃ (vs : List V) (ks : List Kn), H l = some (.lst vs) ∧ DVs F vs (ks.map Kn.D) ∧ (∀ q ∈ ks, q.ok) ∧ ks.length ≤ c
theorem KnOk.hl {l : Addr} {c : Nat} {F H : Hp} (h : KnOk l c F H) : H l ≠ none := by
  obtain ⟨vs, ks, h1, _⟩ := h.st
  rw [h1]; simp
theorem KnOk.up {l : Addr} {c : Nat} {F H F' H' : Hp} (h : KnOk l c F H) (e : Ex F F') (hl : H' l = H l) (fl : F' l = none) : KnOk l c F' H' := by
  obtain ⟨vs, ks, h1, h2, h3, h4⟩ := h.st
  exact ⟨fl, vs, ks, by rw [hl]; exact h1, h2.up e, h3, h4⟩
theorem KnOk.pure {l : Addr} {c : Nat} {F H F' H' : Hp} (h : KnOk l c F H) (s : Stq F H F' H') : KnOk l c F' H' := by
  obtain ⟨vs, ks, h1, h2, h3, h4⟩ := h.st
  exact ⟨s.nw l h.fl (by rw [h1]; simp), vs, ks, s.ex l _ h1, h2.up s.ff, h3, h4⟩
theorem KnOk.mono {l : Addr} {c c' : Nat} {F H : Hp} (h : KnOk l c F H) (e : c ≤ c') : KnOk l c' F H := by
  obtain ⟨vs, ks, h1, h2, h3, h4⟩ := h.st
  exact ⟨h.fl, vs, ks, h1, h2, h3, Nat.le_trans h4 e⟩
def VG (u g l : Addr) : Addr → Prop := fun a => a = u ∨ a = g ∨ a = l
def VI (u g l : Addr) (c : Nat) (H0 : Hp) : Hp → Hp → Prop := fun F H => ∃ g', UrnOk u g' F H ∧ (g' = g ∨ H0 g' = none) ∧ KnOk l c F H ∧ l ≠ u ∧ l ≠ g'
def VN (u l : Addr) : Hp → Addr → Prop := fun H a => UN u H a ∨ a = l
instance vStb (u g l : Addr) (c : Nat) (H0 : Hp) : Stb (VI u g l c H0) (VN u l) where
  st := fun s ⟨g', h, e, k, n1, n2⟩ => ⟨g', h.pure s, e, k.pure s, n1, n2⟩
  sn := fun {F H F' H' a} s ⟨g', h, e, k, n1, n2⟩ n => n.elim (fun n => .inl (by
    rcases (h.pure s).n n with rfl | rfl
    · exact .inl rfl
    · exact h.ng)) .inr
  nn := fun {F H a} ⟨g', h, e, k, n1, n2⟩ n => by
    rcases n with n | rfl
    · rcases h.n n with rfl | rfl
      · exact h.hu
      · exact h.hg
    · exact k.hl
  ow := fun {F H p o} ⟨g', h, e, k, n1, n2⟩ n f _ => ⟨g', h.up (upd_ne fun z => n (.inl (.inl z.symm))) (upd_ne fun z => n (.inl (by rw [← z]; exact h.ng))) h.fu h.fg, e, k.up (Ex.refl F) (upd_ne fun z => n (.inr z.symm)) k.fl, n1, n2⟩
  on := fun {F H p o a} ⟨g', h, e, k, n1, n2⟩ n _ m => by
    rcases m with m | rfl
    · rcases m with rfl | ⟨mx, q⟩
      · exact .inl (.inl rfl)
      · rw [upd_ne fun z => n (.inl (.inl z.symm))] at q
        exact .inl (.inr ⟨mx, q⟩)
    · exact .inr rfl
  fz := fun {F H p o} ⟨g', h, e, k, n1, n2⟩ n f _ => ⟨g', h.up rfl rfl (by rw [upd_ne fun z => n (.inl (.inl z.symm))]; exact h.fu) (by rw [upd_ne fun z => n (.inl (by rw [← z]; exact h.ng))]; exact h.fg), e, k.up (Ex.new f) rfl (by rw [upd_ne fun z => n (.inr z.symm)]; exact k.fl), n1, n2⟩
abbrev bsV (u g l : Addr) (c : Nat) (F H : Hp) : Bs := ⟨VG u g l, VI u g l c H, VN u l, F, H⟩
theorem bsV_in (u g l : Addr) (c : Nat) (F0 H0 : Hp) : UrnIn (bsV u g l c F0 H0) u where
  get := fun ⟨g', h, e, k, n1, n2⟩ => ⟨g', h, e.elim (fun e => .inl (.inr (.inl e))) .inr, .inl (.inl rfl), .inl (.inl rfl), .inl h.ng⟩
  put := fun {F H F' H' g1 g2} ⟨g', h, e, k, n1, n2⟩ h1 s h2 e2 hn => by
    have eg : g1 = g' := by
      rcases h.n h1.ng with q | q
      · exact absurd q.symm h1.ne
      · exact q
    subst eg
    have nl : ¬ UG u g1 l := fun z => z.elim n1 n2
    have hl : H' l = H l := by
      cases q : H l with
      | none => exact absurd q k.hl
      | some o => exact s.hh l o q nl
    refine ⟨⟨g2, h2, ?_, k.up s.ff hl (s.nw l k.fl k.hl), n1, fun z => ?_⟩, fun a n => ?_⟩
    · rcases e2 with rfl | e2
      · exact e
      · right
        cases q : H0 g2 with
        | none => rfl
        | some o => exact absurd e2 (hn g2 (by show H0 g2 ≠ none; rw [q]; simp))
    · rcases e2 with e2 | e2
      · exact n2 (z.trans e2)
      · exact k.hl (by rw [z]; exact e2)
    · rcases n with n | rfl
      · rcases h2.n n with rfl | rfl
        · exact .inl (.inl (.inl rfl))
        · rcases e2 with rfl | e2
          · exact .inl (.inl h1.ng)
          · exact .inr e2
      · exact .inl (.inr rfl)
/-- the promise of a def with the urn and what is kept -/
def spV (R : List PyData → PyData → Prop) : Sp := fun vs H Q _ => ∃ (F : Hp) (u g l : Addr) (c : Nat) (v0 : V) (d0 : PyData), vs = [.ref u, v0, .ref l] ∧ Ex F H ∧ UrnOk u g F H ∧ KnOk l c F H ∧ l ≠ u ∧ l ≠ g ∧ c < 1000 ∧ DV F v0 d0 ∧ (∃ d, R [d0] d) ∧
  ∀ v d F' H' g', R [d0] d → Stp (VG u g l) F H F' H' → UrnOk u g' F' H' → (g' = g ∨ H g' = none) → H' g ≠ none → KnOk l (c + 1) F' H' → l ≠ g' → DV F' v d → Q v H'
end ML
set_option Elab.async false
set_option linter.all false
set_option maxRecDepth 100000
set_option maxHeartbeats 4000000
/-! the law's questions -/
namespace ML
open PySem PySem.Spec PyProof.Rows L2
open Evl (Ex fresh_back)

section
variable {K : PySem.W.Frag} {b : Bs} [Stb b.I b.N] {G : Hp} {ρ : List Sl} {σ : L2.St} {H : Hp} {D : Ends} {tz tu : TS} {ta tb : TE} {tt : TT} {x y : Str}
theorem ET_eqR (h : E ta ρ (.str x)) (h' : E tb ρ (.str y)) (e : x = y) : ET (tTest (tOp rEq ta tb)) ρ true := (ET_test (E_op h h' rd_eqStr)).to (decide_eq_true e)
theorem ET_neR (h : E ta ρ (.str x)) (h' : E tb ρ (.str y)) (e : x = y) : ET (tTest (tOp rNe ta tb)) ρ false := (ET_test (E_op h h' rd_neStr)).to (by rw [decide_eq_true e]; rfl)
theorem E_eqR (h : E ta ρ (.str x)) (h' : E tb ρ (.str y)) (e : x = y) : E (tOp rEq ta tb) ρ (.bool true) := (E_op h h' rd_eqStr).to (by rw [decide_eq_true e])
theorem q_whenF (c : Con b G ρ σ H) (h : ET tt ρ false) (k : ∀ H', Con b G ρ σ H' → tz D σ H') : tSeq (tIfS tt tu tNext) tz D σ H := q_when c h (fun e => by cases e) fun _ H' c' => k H' c'
theorem s_whenF (c : Con b G ρ σ H) (h : ET tt ρ false) (k : ∀ H', Con b G ρ σ H' → D.nx σ H') : tIfS tt tu tNext D σ H := s_when c h (fun e => by cases e) fun _ H' c' => k H' c'
end
theorem GF_lst2 {K : PySem.W.Frag} {ρ : List Sl} {d1 d2 : PyData} {i j : Nat} : GF (gLst K 2 (gCons (gName i) (gCons (gName j) gNil))) ρ (.list [d1, d2]) ((ρ.set i (.da d1)).set j (.da d2)) := fun Z σ F H v e o dv Q q => by
  cases dv with
  | lst h1 h2 =>
    cases h2 with
    | cons a1 a2 =>
      cases a2 with
      | cons a3 a4 =>
        cases a4
        exact ⟨_, _, rfl, SqL.of (e _ _ h1), rfl, _, _, rfl, _, _, rfl, rfl, q _ ((o.da a1).da a3)⟩
theorem GF_lst4 {K : PySem.W.Frag} {ρ : List Sl} {d1 d2 d3 d4 : PyData} {i j k l : Nat} : GF (gLst K 4 (gCons (gName i) (gCons (gName j) (gCons (gName k) (gCons (gName l) gNil))))) ρ (.list [d1, d2, d3, d4]) ((((ρ.set i (.da d1)).set j (.da d2)).set k (.da d3)).set l (.da d4)) := fun Z σ F H v e o dv Q q => by
  cases dv with
  | lst h1 h2 =>
    cases h2 with
    | cons a1 a2 =>
      cases a2 with
      | cons a3 a4 =>
        cases a4 with
        | cons a5 a6 =>
          cases a6 with
          | cons a7 a8 =>
            cases a8
            exact ⟨_, _, rfl, SqL.of (e _ _ h1), rfl, _, _, rfl, _, _, rfl, _, _, rfl, _, _, rfl, rfl, q _ ((((o.da a1).da a3).da a5).da a7)⟩
theorem nice_lotsL {ds : List PyData} {W L : Nat} (h : ∀ d ∈ ds, Nice 4 W d) (hl : ds.length ≤ L) : Nice 5 ((W + 1) * L) (.list ds) := nice_list h hl
theorem inl2 {ds : List PyData} : (∃ e, PyData.list ds = .list e) ∨ ∃ e, PyData.list ds = .tuple e := .inl ⟨_, rfl⟩
theorem inr2 {ds : List PyData} : (∃ e, PyData.tuple ds = .list e) ∨ ∃ e, PyData.tuple ds = .tuple e := .inr ⟨_, rfl⟩
theorem of2 {P : PyData → Prop} {a b : PyData} (ha : P a) (hb : P b) : ∀ d ∈ [a, b], P d := fun d hd => by
  simp only [List.mem_cons, List.not_mem_nil, or_false] at hd
  rcases hd with rfl | rfl
  · exact ha
  · exact hb
theorem of3 {P : PyData → Prop} {a b c : PyData} (ha : P a) (hb : P b) (hc : P c) : ∀ d ∈ [a, b, c], P d := fun d hd => by
  rcases List.mem_cons.mp hd with rfl | hd
  · exact ha
  · exact of2 hb hc d hd
theorem of4 {P : PyData → Prop} {a b c e : PyData} (ha : P a) (hb : P b) (hc : P c) (he : P e) : ∀ d ∈ [a, b, c, e], P d := fun d hd => by
  rcases List.mem_cons.mp hd with rfl | hd
  · exact ha
  · exact of3 hb hc he d hd
theorem of5 {P : PyData → Prop} {a b c e f : PyData} (ha : P a) (hb : P b) (hc : P c) (he : P e) (hf : P f) : ∀ d ∈ [a, b, c, e, f], P d := fun d hd => by
  rcases List.mem_cons.mp hd with rfl | hd
  · exact ha
  · exact of4 hb hc he hf d hd
theorem n_lot (m : Nat) : Nice 4 44602 (lotD m) := (nice_lot m).mono (by decide) (by decide)
theorem n_bool (x : Bool) : Nice 4 44602 (.bool x) := (nice_bool x).mono (by decide) (by decide)
theorem n_opt (o : Option Nat) : Nice 4 44602 (optL o) := by
  cases o with
  | none => exact nice_none.mono (by decide) (by decide)
  | some m => exact n_lot m
theorem n_lots {ms : List Nat} (h : ms.length ≤ 32) : Nice 4 44602 (.tuple (ms.map lotD)) := (nice_lots h).mono (by decide) (by decide)
theorem n_book {n : Nat} {rs : List (Nat × Nat)} (h : Bk n rs) : Nice 4 44602 (bookD n rs) := nice_book (by have := h.n5; omega) h.len
theorem n_map {ws : List Nat} {k : Nat} (hk : k ≤ 5) (h : IsMap ws k) : Nice 4 44602 (mapD ws) := (nice_map (fun w hw => by have := h.2 w hw; omega) (by have := h.1; omega)).mono (by decide) (by decide)
section
variable {P : Program} {w : World} {K : PySem.W.Frag} {mg : Str → Option Value} {base : Heap} {f : Addr} {fd : FuncData}
def R_law_along (ds : List PyData) (d : PyData) : Prop := ∃ (k : Nat) (ws vs : List Nat), IsMap ws vs.length ∧ k ≤ 5 ∧ (∀ x ∈ vs, x < k) ∧ ds = [mapD ws, mapD vs] ∧ d = mapD (afterM ws vs)
theorem sc_law_along : FnScope ["_law_way", "_law_far", "_law_due", "_law_x"] ["_law_way", "_law_far"] (defScope s_law_along) := ⟨rfl, rfl, rfl, by decide +kernel, rfl, by decide +kernel, by decide +kernel⟩
theorem ok_law_along (B : Bl mg) (hk_after : HasK P w K mg base 1 "after" ["lead", "further"] ["further", "lead"] List.reverse (spD R_after)) (h_after : Has P w K mg base 1 "after" ["lead", "further"] (spD R_after)) (F : FnP K "_law_along" s_law_along f fd) : FnG P w K mg base 2 f fd ["_law_way", "_law_far"] (spD R_law_along) := by
  refine pureG_ok F sc_law_along (by rintro _ _ ⟨k, ws, vs, hw, hk5, hv, rfl, rfl⟩; rfl) (by decide) fun cdv A outer s H Q X hgd hr => ⟨_,
    (pss_cons (ps_set (i := 2) sc_law_along.nd rfl (Or.inl rfl) (pe_callTy (call_tupK (K := K) rfl) rfl B.tuple_ (by decide +kernel) (pa_cons (pe_lc (own := [("_law_x", 3)]) rfl sc_law_along.nd (pi_tupK (K := K) rfl (pv 0)) (blkOk_by (by kernel_rfl)) (fun _ _ _ _ _ => (pg_name (i := 3) sc_law_along.nd rfl (Or.inl rfl))) (fun _ _ _ _ _ => pts_nil) (fun _ _ _ _ _ => (pe_ix (ix_tupK (K := K) rfl) (pv 1) (pv 3) (fun _ _ => rfl)))) pa_nil)))
      (pss_one (ps_ret (pe_ifExp (pt_cmpR op_eq (pe_callB (call_reprG (K := K) rfl hgd hr.units) rfl B.repr_ (by decide +kernel) (pa_cons (pe_lst (pa_cons (pe_fn h_after (hr.mono (by decide)) rfl (pa_cons (pv 0) (pa_cons (pv 1) pa_nil))) (pa_cons (pe_fnK hk_after (hr.mono (by decide)) (by rfl) rfl (pk_cons (pv 1) (pk_cons (pv 0) pk_nil))) pa_nil))) pa_nil)) (pe_callB (call_reprG (K := K) rfl hgd hr.units) rfl B.repr_ (by decide +kernel) (pa_cons (pe_lst (pa_cons (pv 2) (pa_cons (pv 2) pa_nil))) pa_nil)) (nomark _)) (pv 2) (pe_lst pa_nil))))), ?_⟩
  rintro F0 _ _ ⟨k, ws, vs, hw, hk5, hv, rfl, rfl⟩ σ c kR
  have hA : IsMap (afterM ws vs) k := after_map hw hv
  refine q_asg c ((E_cb (EA_1 (E_lc1 (ys := ws) (enc := nI) (f := fun x => nI (vs.getD x 0)) (WI_tup (E_var rfl)) (by have := hw.1; omega) (fun y _ => GB_name (by decide)) (fun y hy => E_op (E_var rfl) (E_var rfl) (rd_ixT (by
      have := hw.2 y hy
      rw [List.getElem?_map, List.getElem?_eq_getElem this, List.getD_eq_getElem?_getD, List.getElem?_eq_getElem this]; rfl))))) rc_tuple).to (d' := mapD (afterM ws vs)) (by unfold mapD afterM; rw [List.map_map]; rfl)) fun σ1 H1 c1 => ?_
  refine s_ret c1 (E_if (ET_eqR (E_repr (E_lst (EA_2 (E_call (EA_2 (E_var rfl) (E_var rfl)) ⟨ws, vs, hw, rfl, rfl⟩) (E_callR (EA_2 (E_var rfl) (E_var rfl)) ⟨ws, vs, hw, rfl, rfl⟩))) inl2 (nice_list (of2 (n_map hk5 hA) (n_map hk5 hA)) (Nat.le_refl 2))) (E_repr (E_lst (EA_2 (E_var rfl) (E_var rfl))) inl2 (nice_list (of2 (n_map hk5 hA) (n_map hk5 hA)) (Nat.le_refl 2))) rfl) (fun _ => E_var rfl) (fun e => by cases e)) kR
def R_law_is_ruled (ds : List PyData) (d : PyData) : Prop := ∃ (k : Nat) (rs : List (Nat × Nat)) (ws : List Nat) (m : Nat), Bk k rs ∧ IsMap ws k ∧ m < 2 ^ ws.length ∧
  ds = [.list [bookD k rs, bookD ws.length (pullR k rs ws)], mapD ws, .list [nI m, nI (onM ws m), nI (shut (fam k rs) (onM ws m)), nI (backM ws (shut (fam k rs) (onM ws m)))]] ∧ d = .bool true
theorem sc_law_is_ruled : FnScope ["_law_urn_here", "_law_bags", "_law_way", "_law_marks", "_law_bag_here", "_law_found", "_law_mask_here", "_law_on_here", "_law_high", "_law_back_here", "_law_behind", "_law_is_due", "_law_pair", "_law_goal", "_law_told", "_law_due"] ["_law_urn_here", "_law_bags", "_law_way", "_law_marks"] (defScope s_law_is_ruled) := ⟨rfl, rfl, rfl, by decide +kernel, rfl, by decide +kernel, by decide +kernel⟩
theorem ok_law_is_ruled (B : Bl mg) (h_law_lot : Has P w K mg base 1 "_law_lot" ["_law_mask_here"] (spD R_law_lot)) (h_breaking : Has P w K mg base 7 "breaking" ["book", "rule"] (spD R_breaking)) (hk_follows : HasK P w K mg base 3 "follows" ["book", "rule"] ["rule", "book"] List.reverse (spD R_follows)) (h_follows : Has P w K mg base 3 "follows" ["book", "rule"] (spD R_follows)) (h_led : Has P w K mg base 2 "led" ["lead", "lot"] (spD R_led)) (h_law_on : Has P w K mg base 2 "_law_on" ["_law_way", "_law_mask_here"] (spD R_law_on)) (h_law_some : Has P w K mg base 2 "_law_some" ["_law_urn_here", "_law_wide"] (spU R_law_some)) (h_law_draw : Has P w K mg base 1 "_law_draw" ["_law_urn_here", "_law_many"] (spU R_law_draw)) (F : FnP K "_law_is_ruled" s_law_is_ruled f fd) : FnG P w K mg base 8 f fd ["_law_urn_here", "_law_bags", "_law_way", "_law_marks"] (spU R_law_is_ruled) := by
  refine urnG_ok F sc_law_is_ruled (by rintro _ _ ⟨k, rs, ws, m, hb, hw, hm, rfl, rfl⟩; rfl) (by decide) fun cdv A outer s H Q X hgd hr => ⟨_,
    (pss_cons (ps_asg (pv 1) (pg_lst rfl (pgs_cons (pg_name (i := 4) sc_law_is_ruled.nd rfl (Or.inl rfl)) (pgs_cons (pg_name (i := 5) sc_law_is_ruled.nd rfl (Or.inl rfl)) pgs_nil))))
      (pss_cons (ps_asg (pv 3) (pg_lst rfl (pgs_cons (pg_name (i := 6) sc_law_is_ruled.nd rfl (Or.inl rfl)) (pgs_cons (pg_name (i := 7) sc_law_is_ruled.nd rfl (Or.inl rfl)) (pgs_cons (pg_name (i := 8) sc_law_is_ruled.nd rfl (Or.inl rfl)) (pgs_cons (pg_name (i := 9) sc_law_is_ruled.nd rfl (Or.inl rfl)) pgs_nil))))))
      (pss_cons (ps_set (i := 10) sc_law_is_ruled.nd rfl (Or.inl rfl) (pe_op op_and (pe_fn h_law_some (hr.mono (by decide)) rfl (pa_cons (pv 0) (pa_cons (pe_callB (call_lenK (K := K) rfl) rfl B.len_ (by decide +kernel) (pa_cons (pv 2) pa_nil)) pa_nil))) (pe_ifExp (pt_cmpR op_eq (pe_fn h_law_draw (hr.mono (by decide)) rfl (pa_cons (pv 0) (pa_cons pe_int pa_nil))) pe_int (nomark _)) (pv 9) (pe_op op_sub (pe_op op_shl pe_int (pe_callB (call_lenK (K := K) rfl) rfl B.len_ (by decide +kernel) (pa_cons (pv 2) pa_nil))) pe_int))))
      (pss_cons (ps_par (i := 11) (j := 12) rfl sc_law_is_ruled.nd rfl rfl (by decide) rfl rfl (pa_cons (pe_cmpR op_eq (pe_op op_and (pv 10) (pv 9)) (pv 10) (nomark _)) (pa_cons (pe_tup (pa_cons (pe_fn h_law_lot (hr.mono (by decide)) rfl (pa_cons (pv 6) pa_nil)) (pa_cons (pe_fn h_law_lot (hr.mono (by decide)) rfl (pa_cons (pv 10) pa_nil)) pa_nil))) pa_nil)) (by rfl))
      (pss_cons (ps_set (i := 13) sc_law_is_ruled.nd rfl (Or.inl rfl) (pe_tup (pa_cons (pe_fn h_law_lot (hr.mono (by decide)) rfl (pa_cons (pv 7) pa_nil)) (pa_cons (pe_fn h_law_lot (hr.mono (by decide)) rfl (pa_cons (pe_fn h_law_on (hr.mono (by decide)) rfl (pa_cons (pv 2) (pa_cons (pv 10) pa_nil))) pa_nil)) pa_nil))))
      (pss_cons (ps_set (i := 14) sc_law_is_ruled.nd rfl (Or.inl rfl) (pe_lst (pa_cons (pe_fn h_led (hr.mono (by decide)) rfl (pa_cons (pv 2) (pa_cons (pe_ix (ix_tupK (K := K) rfl) (pv 12) pe_int (fun _ _ => rfl)) pa_nil))) (pa_cons (pe_fn h_follows (hr.mono (by decide)) rfl (pa_cons (pv 5) (pa_cons (pv 12) pa_nil))) (pa_cons (pe_fnK hk_follows (hr.mono (by decide)) (by rfl) rfl (pk_cons (pv 13) (pk_cons (pv 4) pk_nil))) pa_nil)))))
      (pss_cons (ps_set (i := 14) sc_law_is_ruled.nd rfl (Or.inl rfl) (pe_op op_cat (pv 14) (pe_lst (pa_cons (pe_fn h_breaking (hr.mono (by decide)) rfl (pa_cons (pv 5) (pa_cons (pv 12) pa_nil))) (pa_cons (pe_fn h_breaking (hr.mono (by decide)) rfl (pa_cons (pv 4) (pa_cons (pv 13) pa_nil))) pa_nil)))))
      (pss_cons (ps_set (i := 15) sc_law_is_ruled.nd rfl (Or.inl rfl) (pe_lst (pa_cons (pe_ix (ix_tupK (K := K) rfl) (pv 13) pe_int (fun _ _ => rfl)) (pa_cons (pv 11) (pa_cons (pv 11) pa_nil)))))
      (pss_cons (ps_set (i := 15) sc_law_is_ruled.nd rfl (Or.inl rfl) (pe_op op_cat (pv 15) (pe_ifExp (pt_val (pv 11)) (pe_lst (pa_cons pe_non (pa_cons pe_non pa_nil))) (pe_lst (pa_cons (pe_fn h_law_lot (hr.mono (by decide)) rfl (pa_cons (pv 9) pa_nil)) (pa_cons (pe_fn h_law_lot (hr.mono (by decide)) rfl (pa_cons (pv 8) pa_nil)) pa_nil))))))
      (pss_one (ps_ret (pe_cmpR op_eq (pe_callB (call_reprG (K := K) rfl hgd hr.units) rfl B.repr_ (by decide +kernel) (pa_cons (pv 14) pa_nil)) (pe_callB (call_reprG (K := K) rfl hgd hr.units) rfl B.repr_ (by decide +kernel) (pa_cons (pv 15) pa_nil)) (nomark _))))))))))))), ?_⟩
  rintro F0 u g _ _ ⟨k, rs, ws, m, hb, hw, hm, rfl, rfl⟩ hu σ c kR
  have U := bsU_in u g F0 H
  have hB := pull_bk hb hw
  have hon := on_lt (m := m) hw.2
  have hL := hb.fm.shut (fam_lt k rs) hon
  have hP := pull_lst hb hw hm
  generalize hhi : shut (fam k rs) (onM ws m) = hi at c hL hP ⊢
  have hk5 := hb.n5
  have hw5 := hw.1
  refine q_asgG (ρ' := fun _ => [.at_ u, .da (.list [bookD k rs, bookD ws.length (pullR k rs ws)]), .da (mapD ws), .da (.list [nI m, nI (onM ws m), nI hi, nI (backM ws hi)]), .da (bookD k rs), .da (bookD ws.length (pullR k rs ws)), .un, .un, .un, .un, .un, .un, .un, .un, .un, .un]) c (E_var rfl).x (fun d e => by subst e; exact GF_lst2) fun d _ σ1 H1 c1 => ?_
  refine q_asgG (ρ' := fun _ => [.at_ u, .da (.list [bookD k rs, bookD ws.length (pullR k rs ws)]), .da (mapD ws), .da (.list [nI m, nI (onM ws m), nI hi, nI (backM ws hi)]), .da (bookD k rs), .da (bookD ws.length (pullR k rs ws)), .da (nI m), .da (nI (onM ws m)), .da (nI hi), .da (nI (backM ws hi)), .un, .un, .un, .un, .un, .un]) c1 (E_var rfl).x (fun d e => by subst e; exact GF_lst4) fun d _ σ2 H2 c2 => ?_
  have hlen : ∀ ρ : List Sl, ρ[2]? = some (.da (mapD ws)) → E (tCB (fun xs H Q => ∃ x n, xs = [x] ∧ LenV K x H n ∧ Q (.int n) H) (tCons (tVar 2) tNil)) ρ (nI ws.length) := fun ρ h => (E_cb (EA_1 (E_var h)) rc_lenT).to (by rw [List.length_map])
  refine q_asgX c2 (XE_rdN (PA := fun z => z < 2 ^ ws.length) (PB := fun _ => True) (PC := fun z => z < 2 ^ ws.length) (XE_some U rfl (hlen _ rfl) hw5) (XE_if (XT_eqN (XE_draw U rfl (E_nat 3) (by decide) (by decide)) (E_nat 0)) (fun _ => (E_var rfl).xn trivial) fun _ => (topE (hlen _ rfl) (by omega)).xn trivial) (fun a b _ _ => rd_and) fun a b ha' _ => lt_of_sub (and_sub_left a b) ha') fun d ⟨b', hb', ed⟩ σ3 H3 c3 => ?_
  subst ed
  have hob := on_lt (m := b') hw.2
  have hsb : sub (onM ws b') hi = sub b' (backM ws hi) := (sub_back (k := k) hb').symm
  have h1 : IsClo (pullR k rs ws) m (backM ws hi) := hP.clo
  have h2 : IsClo rs (onM ws m) hi := hL.clo
  have l1 := lt1024 hw5 hm
  have l2 := lt1024 hw5 hb'
  have l3 := lt1024 hk5 hon
  have l4 := lt1024 hk5 hob
  have br1 := break_eq (b := b') hB.fm (ord_len_pair _) (fun x => mem_ord) hP
  have br2 := break_eq (b := onM ws b') hb.fm (ord_len_pair _) (fun x => mem_ord) hL
  rw [hsb] at br2
  refine q_parX c3 (EA_2 (E_op (E_op (E_var rfl) (E_var rfl) rd_and) (E_var rfl) rd_subE) (E_tup (EA_2 (E_call (EA_1 (E_var rfl)) ⟨m, rfl, rfl⟩) (E_call (EA_1 (E_var rfl)) ⟨b', rfl, rfl⟩)))).x (fun ds e => ⟨_, _, e⟩) fun d e eq σ4 H4 c4 => ?_
  injection eq with e1 e2
  injection e2 with e2 _
  subst e1 e2
  refine q_asg c4 (E_tup (EA_2 (E_call (EA_1 (E_var rfl)) ⟨_, rfl, rfl⟩) (E_call (EA_1 (E_call (EA_2 (E_var rfl) (E_var rfl)) ⟨k, ws, b', hk5, hw, rfl, rfl⟩)) ⟨_, rfl, rfl⟩))) fun σ5 H5 c5 => ?_
  refine q_asg c5 (E_lst (EA_3 (E_call (EA_2 (E_var rfl) (E_op (E_var rfl) (E_nat 1) (rd_ixT rfl))) ⟨k, ws, b', hk5, hw, l2, rfl, rfl⟩) (E_call (EA_2 (E_var rfl) (E_var rfl)) ⟨ws.length, pullR k rs ws, m, b', _, hB, l1, l2, h1, rfl, rfl⟩) (E_callR (EA_2 (E_var rfl) (E_var rfl)) ⟨k, rs, _, _, _, hb, l3, l4, h2, rfl, rfl⟩))) fun σ6 H6 c6 => ?_
  refine q_asg c6 (E_op (E_var rfl) (E_lst (EA_2 (E_call (EA_2 (E_var rfl) (E_var rfl)) ⟨ws.length, pullR k rs ws, m, b', hB, l1, l2, rfl, rfl⟩) (E_call (EA_2 (E_var rfl) (E_var rfl)) ⟨k, rs, _, _, hb, l3, l4, rfl, rfl⟩))) (rd_cat (by simp))) fun σ7 H7 c7 => ?_
  rw [br1, br2, hsb] at c7
  refine q_asg c7 (E_lst (EA_3 (E_op (E_var rfl) (E_nat 1) (rd_ixT rfl)) (E_var rfl) (E_var rfl))) fun σ8 H8 c8 => ?_
  cases hs : sub b' (backM ws hi) with
  | true =>
    rw [hs] at c8
    refine q_asg c8 (E_op (E_var rfl) (E_if (ET_test (E_var rfl)) (fun _ => E_lst (EA_2 E_non E_non)) (fun e => by cases e)) (rd_cat (by simp))) fun σ9 H9 c9 => ?_
    exact s_ret c9 (E_eqR (E_repr (E_var rfl) inl2 (nice_list (of5 (n_lot _) (n_bool _) (n_bool _) (n_opt none) (n_opt none)) (Nat.le_refl 5))) (E_repr (E_var rfl) inl2 (nice_list (of5 (n_lot _) (n_bool _) (n_bool _) (n_opt none) (n_opt none)) (Nat.le_refl 5))) rfl) fun v H' r => kR v _ H' ⟨k, rs, ws, m, hb, hw, hm, by rw [hhi], rfl⟩ r
  | false =>
    rw [hs] at c8
    refine q_asg c8 (E_op (E_var rfl) (E_if (ET_test (E_var rfl)) (fun e => by cases e) (fun _ => E_lst (EA_2 (E_call (EA_1 (E_var rfl)) ⟨_, rfl, rfl⟩) (E_call (EA_1 (E_var rfl)) ⟨_, rfl, rfl⟩)))) (rd_cat (by simp))) fun σ9 H9 c9 => ?_
    exact s_ret c9 (E_eqR (E_repr (E_var rfl) inl2 (nice_list (of5 (n_lot _) (n_bool _) (n_bool _) (n_opt (some _)) (n_opt (some _))) (Nat.le_refl 5))) (E_repr (E_var rfl) inl2 (nice_list (of5 (n_lot _) (n_bool _) (n_bool _) (n_lot _) (n_lot _)) (Nat.le_refl 5))) rfl) fun v H' r => kR v _ H' ⟨k, rs, ws, m, hb, hw, hm, by rw [hhi], rfl⟩ r
end
end ML
set_option Elab.async false
set_option linter.all false
set_option maxRecDepth 100000
set_option maxHeartbeats 4000000
/-! a book pulled, a book pushed -/
namespace ML
open PySem PySem.Spec PyProof.Rows L2
open Evl (Ex fresh_back)
section
variable {b : Bs} [Stb b.I b.N] {ρ : List Sl} {te : TE} {ta : TA} {i : Nat} {u : Addr} {X : XK}
theorem XE_urnB {R : List PyData → PyData → Prop} {ds : List PyData} (U : UrnIn b u) (hi : ρ[i]? = some (.at_ u)) (h : EA ta ρ ds) (hR : R ds (.bool true)) (h1 : ∀ d, R ds d → d = .bool true) : XT b (tTest (tCall (spU R) [] X (tCons (tVar i) ta))) ρ (fun x => x = true) :=
  XT_test ((XE_urn U hi h.x fun ds' e => by subst e; exact ⟨_, hR⟩).imp fun d ⟨ds', e, hr⟩ => by
    subst e
    exact ⟨true, h1 d hr, rfl⟩)
end
theorem low_len {n : Nat} {cl ws : List Nat} (h : Fm n (lowL cl ws)) : (lowL cl ws).length ≤ 32 := by
  have h5 := pow5 h.n5
  have := asc_bound (ms := lowL cl ws) fun m hm => Nat.lt_of_lt_of_le (h.low m hm) h5
  have e : asc (lowL cl ws) = lowL cl ws := nats_unique (asc_lt _) (asc_lt _) fun x => mem_asc_fm h
  rwa [e] at this
theorem keysL_len {cl ws : List Nat} (h : ws.length ≤ 5) : (keysL cl ws).length ≤ 32 := by
  unfold keysL keysS
  refine Nat.le_trans (List.length_filter_le _ _) (Nat.le_trans (List.length_filter_le _ _) ?_)
  rw [List.length_range, shl1]
  exact pow5 h
section
variable {P : Program} {w : World} {K : PySem.W.Frag} {mg : Str → Option Value} {base : Heap} {f : Addr} {fd : FuncData}
def R_law_is_pulled (ds : List PyData) (d : PyData) : Prop := ∃ (k : Nat) (rs : List (Nat × Nat)) (ws : List Nat), Bk k rs ∧ IsMap ws k ∧ ds = [bookD k rs, .list ((fam k rs).map nI), mapD ws] ∧ d = .bool true
theorem sc_law_is_pulled : FnScope ["_law_urn_here", "_law_bag_here", "_law_closed", "_law_way", "_law_many", "_law_found", "_law_low", "_law_due", "_law_mask_here", "_law_own", "_law_on_here", "_law_high", "_law_back_here", "_law_told"] ["_law_urn_here", "_law_bag_here", "_law_closed", "_law_way"] (defScope s_law_is_pulled) := ⟨rfl, rfl, rfl, by decide +kernel, rfl, by decide +kernel, by decide +kernel⟩
theorem ok_law_is_pulled (B : Bl mg) (h_law_is_ruled : HasG P w K mg base 8 "_law_is_ruled" ["_law_urn_here", "_law_bags", "_law_way", "_law_marks"] (spU R_law_is_ruled)) (h_law_lot : Has P w K mg base 1 "_law_lot" ["_law_mask_here"] (spD R_law_lot)) (h_closure : Has P w K mg base 3 "closure" ["book", "lot"] (spD R_closure)) (h_source : Has P w K mg base 2 "source" ["lead", "lot"] (spD R_source)) (h_led : Has P w K mg base 2 "led" ["lead", "lot"] (spD R_led)) (h_law_back : Has P w K mg base 1 "_law_back" ["_law_way", "_law_mask_here"] (spD R_law_back)) (h_law_shut : Has P w K mg base 1 "_law_shut" ["_law_closed", "_law_mask_here"] (spD R_law_shut)) (h_law_on : Has P w K mg base 2 "_law_on" ["_law_way", "_law_mask_here"] (spD R_law_on)) (h_keys : Has P w K mg base 9 "keys" ["book"] (spD R_keys)) (h_closed_lots : Has P w K mg base 7 "closed_lots" ["book"] (spD R_closed_lots)) (h_stem : Has P w K mg base 8 "stem" ["book"] (spD R_stem)) (h_law_keys : Has P w K mg base 5 "_law_keys" ["_law_closed", "_law_way"] (spD R_law_keys)) (h_law_in_order : Has P w K mg base 4 "_law_in_order" ["_law_masks"] (spD R_law_in_order)) (hk_pulled : HasK P w K mg base 9 "pulled" ["other", "lead"] ["lead", "other"] List.reverse (spD R_pulled)) (h_law_stem : Has P w K mg base 5 "_law_stem" ["_law_wide", "_law_closed"] (spD R_law_stem)) (h_pulled : Has P w K mg base 9 "pulled" ["other", "lead"] (spD R_pulled)) (F : FnP K "_law_is_pulled" s_law_is_pulled f fd) : FnG P w K mg base 10 f fd ["_law_urn_here", "_law_bag_here", "_law_closed", "_law_way"] (spU R_law_is_pulled) := by
  refine urnG_ok F sc_law_is_pulled (by rintro _ _ ⟨k, rs, ws, hb, hw, rfl, rfl⟩; rfl) (by decide) fun cdv A outer s H Q X hgd hr => ⟨_,
    (pss_cons (ps_par (i := 4) (j := 5) rfl sc_law_is_pulled.nd rfl rfl (by decide) rfl rfl (pa_cons (pe_callB (call_lenK (K := K) rfl) rfl B.len_ (by decide +kernel) (pa_cons (pv 3) pa_nil)) (pa_cons (pe_fn h_pulled (hr.mono (by decide)) rfl (pa_cons (pv 1) (pa_cons (pv 3) pa_nil))) pa_nil)) (by rfl))
      (pss_cons (ps_set (i := 6) sc_law_is_pulled.nd rfl (Or.inl rfl) (pe_callB (cr_sortedSet rfl) rfl B.sorted_ (by decide +kernel) (pa_cons (pe_callTy (cr_setI rfl) rfl B.set_ (by decide +kernel) (pa_cons (pe_lc (own := [("_law_mask_here", 8)]) rfl sc_law_is_pulled.nd (pi_listK (K := K) rfl (pv 2)) (blkOk_by (by kernel_rfl)) (fun _ _ _ _ _ => (pg_name (i := 8) sc_law_is_pulled.nd rfl (Or.inl rfl))) (fun _ _ _ _ _ => pts_nil) (fun _ _ _ _ _ => (pe_fn h_law_back (hr.mono (by decide)) rfl (pa_cons (pv 3) (pa_cons (pv 8) pa_nil))))) pa_nil)) pa_nil)))
      (pss_cons (ps_set (i := 7) sc_law_is_pulled.nd rfl (Or.inl rfl) (pe_fn h_law_stem (hr.mono (by decide)) rfl (pa_cons (pv 4) (pa_cons (pv 6) pa_nil))))
      (pss_cons (ps_if (pt_cmpR op_ne (pe_callB (call_reprG (K := K) rfl hgd hr.units) rfl B.repr_ (by decide +kernel) (pa_cons (pe_lst (pa_cons (pv 5) (pa_cons (pe_fnK hk_pulled (hr.mono (by decide)) (by rfl) rfl (pk_cons (pv 3) (pk_cons (pv 1) pk_nil))) pa_nil))) pa_nil)) (pe_callB (call_reprG (K := K) rfl hgd hr.units) rfl B.repr_ (by decide +kernel) (pa_cons (pe_lst (pa_cons (pv 7) (pa_cons (pv 7) pa_nil))) pa_nil)) (nomark _)) (pss_one (ps_ret pe_bl)) pss_nil)
      (pss_cons (ps_if (pt_cmpR op_ne (pe_callB (call_reprG (K := K) rfl hgd hr.units) rfl B.repr_ (by decide +kernel) (pa_cons (pe_lst (pa_cons (pe_fn h_stem (hr.mono (by decide)) rfl (pa_cons (pv 5) pa_nil)) (pa_cons (pe_fn h_closed_lots (hr.mono (by decide)) rfl (pa_cons (pv 5) pa_nil)) (pa_cons (pe_fn h_keys (hr.mono (by decide)) rfl (pa_cons (pv 5) pa_nil)) pa_nil)))) pa_nil)) (pe_callB (call_reprG (K := K) rfl hgd hr.units) rfl B.repr_ (by decide +kernel) (pa_cons (pe_lst (pa_cons (pv 7) (pa_cons (pe_fn h_law_in_order (hr.mono (by decide)) rfl (pa_cons (pv 6) pa_nil)) (pa_cons (pe_fn h_law_keys (hr.mono (by decide)) rfl (pa_cons (pv 2) (pa_cons (pv 3) pa_nil))) pa_nil)))) pa_nil)) (nomark _)) (pss_one (ps_ret pe_bl)) pss_nil)
      (pss_cons (ps_for PassesOwn.never rfl (pi_range1 rfl B.range_ (pa_cons (pe_op op_shl pe_int (pv 4)) pa_nil)) (pg_name (i := 8) sc_law_is_pulled.nd rfl (Or.inl rfl)) (pss_cons (ps_par (i := 9) (j := 10) rfl sc_law_is_pulled.nd rfl rfl (by decide) rfl rfl (pa_cons (pe_fn h_law_lot (hr.mono (by decide)) rfl (pa_cons (pv 8) pa_nil)) (pa_cons (pe_fn h_law_on (hr.mono (by decide)) rfl (pa_cons (pv 3) (pa_cons (pv 8) pa_nil))) pa_nil)) (by rfl))
      (pss_cons (ps_set (i := 11) sc_law_is_pulled.nd rfl (Or.inl rfl) (pe_fn h_law_shut (hr.mono (by decide)) rfl (pa_cons (pv 2) (pa_cons (pv 10) pa_nil))))
      (pss_cons (ps_set (i := 12) sc_law_is_pulled.nd rfl (Or.inl rfl) (pe_fn h_law_back (hr.mono (by decide)) rfl (pa_cons (pv 3) (pa_cons (pv 11) pa_nil))))
      (pss_cons (ps_set (i := 13) sc_law_is_pulled.nd rfl (Or.inl rfl) (pe_lst (pa_cons (pe_fn h_led (hr.mono (by decide)) rfl (pa_cons (pv 3) (pa_cons (pv 9) pa_nil))) (pa_cons (pe_fn h_closure (hr.mono (by decide)) rfl (pa_cons (pv 1) (pa_cons (pe_fn h_law_lot (hr.mono (by decide)) rfl (pa_cons (pv 10) pa_nil)) pa_nil))) (pa_cons (pe_fn h_source (hr.mono (by decide)) rfl (pa_cons (pv 3) (pa_cons (pe_fn h_law_lot (hr.mono (by decide)) rfl (pa_cons (pv 11) pa_nil)) pa_nil))) (pa_cons (pe_fn h_closure (hr.mono (by decide)) rfl (pa_cons (pv 5) (pa_cons (pv 9) pa_nil))) pa_nil))))))
      (pss_cons (ps_if (pt_cmpR op_ne (pe_callB (call_reprG (K := K) rfl hgd hr.units) rfl B.repr_ (by decide +kernel) (pa_cons (pv 13) pa_nil)) (pe_callB (call_reprG (K := K) rfl hgd hr.units) rfl B.repr_ (by decide +kernel) (pa_cons (pe_lst (pa_cons (pe_fn h_law_lot (hr.mono (by decide)) rfl (pa_cons (pv 10) pa_nil)) (pa_cons (pe_fn h_law_lot (hr.mono (by decide)) rfl (pa_cons (pv 11) pa_nil)) (pa_cons (pe_fn h_law_lot (hr.mono (by decide)) rfl (pa_cons (pv 12) pa_nil)) (pa_cons (pe_fn h_law_lot (hr.mono (by decide)) rfl (pa_cons (pv 12) pa_nil)) pa_nil))))) pa_nil)) (nomark _)) (pss_one (ps_ret pe_bl)) pss_nil)
      (pss_one (ps_if (pt_not (pt_val (pe_fnG h_law_is_ruled hgd (hr.mono (by decide)) rfl (pa_cons (pv 0) (pa_cons (pe_lst (pa_cons (pv 1) (pa_cons (pv 5) pa_nil))) (pa_cons (pv 3) (pa_cons (pe_lst (pa_cons (pv 8) (pa_cons (pv 10) (pa_cons (pv 11) (pa_cons (pv 12) pa_nil))))) pa_nil))))))) (pss_one (ps_ret pe_bl)) pss_nil))))))))
      (pss_one (ps_ret pe_bl)))))))), ?_⟩
  rintro F0 u g _ _ ⟨k, rs, ws, hb, hw, rfl, rfl⟩ hu σ c kR
  have U := bsU_in u g F0 H
  have hB := pull_bk hb hw
  have hF := low_fm hb.fm hw
  have hfl := fam_len rs hb.n5
  have hk5 := hb.n5
  have hw5 := hw.1
  have h5 := pow5 hw5
  have hpe := pull_eq hb hw
  have hpf := pull_fam hb hw
  have hll := low_len hF
  have hkl := keysL_len (cl := fam k rs) hw5
  have hke := keys_eq hb hw
  have hlen : ∀ ρ : List Sl, ρ[3]? = some (.da (mapD ws)) → E (tCB (fun xs H Q => ∃ x n, xs = [x] ∧ LenV K x H n ∧ Q (.int n) H) (tCons (tVar 3) tNil)) ρ (nI ws.length) := fun ρ h => (E_cb (EA_1 (E_var h)) rc_lenT).to (by rw [List.length_map])
  refine q_parX c (EA_2 (hlen _ rfl) (E_call (EA_2 (E_var rfl) (E_var rfl)) ⟨k, rs, ws, hb, hw, rfl, rfl⟩)).x (fun ds e => ⟨_, _, e⟩) fun d e eq σ1 H1 c1 => ?_
  injection eq with e1 e2
  injection e2 with e2 _
  subst e1 e2
  refine q_asg c1 (E_sortedSet (ms := (fam k rs).map (backM ws)) ((E_lc1 (ys := fam k rs) (enc := nI) (f := fun o => nI (backM ws o)) (WI_list (E_var rfl)) (by omega) (fun o _ => GB_name (by decide)) (fun o _ => E_call (EA_2 (E_var rfl) (E_var rfl)) ⟨ws, o, hw5, rfl, rfl⟩)).to (by rw [List.map_map]; rfl)) (fun x hx => by
    obtain ⟨y, _, rfl⟩ := List.mem_map.mp hx
    have := back_lt (ws := ws) (m := y)
    omega) (by rw [List.length_map]; omega)) fun σ2 H2 c2 => ?_
  replace c2 : Con (bsU u g F0 H) F0 [.at_ u, .da (bookD k rs), .da (.list ((fam k rs).map nI)), .da (mapD ws), .da (nI ws.length), .da (bookD ws.length (pullR k rs ws)), .da (.list ((lowL (fam k rs) ws).map nI)), .un, .un, .un, .un, .un, .un, .un] σ2 H2 := c2
  refine q_asg c2 ((E_call (EA_2 (E_var rfl) (E_var rfl)) ⟨ws.length, _, hF, low_lt _ _, rfl, rfl⟩).to (d' := bookD ws.length (pullR k rs ws)) (by rw [hpe])) fun σ3 H3 c3 => ?_
  refine q_whenF c3 (ET_neR (E_repr (E_lst (EA_2 (E_var rfl) (E_callR (EA_2 (E_var rfl) (E_var rfl)) ⟨k, rs, ws, hb, hw, rfl, rfl⟩))) inl2 (nice_list (of2 (n_book hB) (n_book hB)) (Nat.le_refl 2))) (E_repr (E_lst (EA_2 (E_var rfl) (E_var rfl))) inl2 (nice_list (of2 (n_book hB) (n_book hB)) (Nat.le_refl 2))) rfl) fun H4 c4 => ?_
  have e1 : stemR ws.length (ord (fam ws.length (pullR k rs ws))) = pullR k rs ws := by
    rw [hpf, hpe]
    exact stem_of_fam hF (low_lt _ _) fun x => Iff.rfl
  refine q_whenF c4 (ET_neR (E_repr (E_lst (EA_3 ((E_call (EA_1 (E_var rfl)) ⟨ws.length, pullR k rs ws, hB, rfl, rfl⟩).to (d' := bookD ws.length (pullR k rs ws)) (by rw [e1])) ((E_call (EA_1 (E_var rfl)) ⟨ws.length, pullR k rs ws, hB, rfl, rfl⟩).to (d' := .tuple ((ord (lowL (fam k rs) ws)).map lotD)) (by rw [hpf])) ((E_call (EA_1 (E_var rfl)) ⟨ws.length, pullR k rs ws, hB, rfl, rfl⟩).to (d' := .tuple ((ord (keysL (fam k rs) ws)).map lotD)) (by rw [hke])))) inl2 (nice_list (of3 (n_book hB) (n_lots (by rw [ord_len]; exact hll)) (n_lots (by rw [ord_len]; exact hkl))) (Nat.le_refl 3)))
    (E_repr (E_lst (EA_3 (E_var rfl) (E_call (EA_1 (E_var rfl)) ⟨lowL (fam k rs) ws, by omega, rfl, rfl⟩) (E_call (EA_2 (E_var rfl) (E_var rfl)) ⟨k, fam k rs, ws, hk5, hw, hb.fm.ne, rfl, rfl⟩))) inl2 (nice_list (of3 (n_book hB) (n_lots (by rw [ord_len]; exact hll)) (n_lots (by rw [ord_len]; exact hkl))) (Nat.le_refl 3))) rfl) fun H5 c5 => ?_
  refine q_for (ys := List.range (1 <<< ws.length)) (enc := nI) (fun i => [.at_ u, .da (bookD k rs), .da (.list ((fam k rs).map nI)), .da (mapD ws), .da (nI ws.length), .da (bookD ws.length (pullR k rs ws)), .un, .un, .un, .un, .un, .un, .un, .un]) c5 (WI_rng (EA_1 (E_op (E_nat 1) (E_var rfl) (rd_shl (by decide) (by omega)))) (by rw [shl1]; omega)) (.cons (.cons (.cons (.cons (.cons (.cons (.un (.un (.un (.un (.un (.un (.un (.un .nil)))))))))))))) (fun i y hy => GF_name) (fun G1 g1 i m σ6 H6 hy c6 => ?_) fun σ6 H6 c6 => s_ret c6 E_bl fun v H' r => kR v _ H' ⟨k, rs, ws, hb, hw, rfl, rfl⟩ r
  have hm : m < 2 ^ ws.length := by
    have := List.mem_of_getElem? hy
    rwa [List.mem_range, shl1] at this
  have hon := on_lt (m := m) hw.2
  have hL := hb.fm.shut (fam_lt k rs) hon
  have hP := pull_lst hb hw hm
  have l1 := lt1024 hw5 hm
  have l3 := lt1024 hk5 hon
  have l4 := lt1024 hk5 (hb.fm.low _ hL.mem)
  refine q_parX c6 (EA_2 (E_call (EA_1 (E_var rfl)) ⟨m, rfl, rfl⟩) (E_call (EA_2 (E_var rfl) (E_var rfl)) ⟨k, ws, m, hk5, hw, rfl, rfl⟩)).x (fun ds e => ⟨_, _, e⟩) fun d e eq σ7 H7 c7 => ?_
  injection eq with e3 e4
  injection e4 with e4 _
  subst e3 e4
  refine q_asg c7 (E_call (EA_2 (E_var rfl) (E_var rfl)) ⟨fam k rs, onM ws m, hb.fm.ne, rfl, rfl⟩) fun σ8 H8 c8 => ?_
  refine q_asg c8 (E_call (EA_2 (E_var rfl) (E_var rfl)) ⟨ws, _, hw5, rfl, rfl⟩) fun σ9 H9 c9 => ?_
  refine q_asg c9 (E_lst (EA_cons (E_call (EA_2 (E_var rfl) (E_var rfl)) ⟨k, ws, m, hk5, hw, l1, rfl, rfl⟩) (EA_3 (E_call (EA_2 (E_var rfl) (E_call (EA_1 (E_var rfl)) ⟨_, rfl, rfl⟩)) ⟨k, rs, onM ws m, _, hb, l3, hL.clo, rfl, rfl⟩) (E_call (EA_2 (E_var rfl) (E_call (EA_1 (E_var rfl)) ⟨_, rfl, rfl⟩)) ⟨ws, _, hw5, l4, rfl, rfl⟩) (E_call (EA_2 (E_var rfl) (E_var rfl)) ⟨ws.length, pullR k rs ws, m, _, hB, l1, hP.clo, rfl, rfl⟩)))) fun σ10 H10 c10 => ?_
  refine q_whenF c10 (ET_neR (E_repr (E_var rfl) inl2 (nice_list (of4 (n_lot _) (n_lot _) (n_lot _) (n_lot _)) (Nat.le_refl 4))) (E_repr (E_lst (EA_cons (E_call (EA_1 (E_var rfl)) ⟨_, rfl, rfl⟩) (EA_3 (E_call (EA_1 (E_var rfl)) ⟨_, rfl, rfl⟩) (E_call (EA_1 (E_var rfl)) ⟨_, rfl, rfl⟩) (E_call (EA_1 (E_var rfl)) ⟨_, rfl, rfl⟩)))) inl2 (nice_list (of4 (n_lot _) (n_lot _) (n_lot _) (n_lot _)) (Nat.le_refl 4))) rfl) fun H11 c11 => ?_
  refine s_ifX c11 (XT_not (XE_urnB U rfl (EA_3 (E_lst (EA_2 (E_var rfl) (E_var rfl))) (E_var rfl) (E_lst (EA_cons (E_var rfl) (EA_3 (E_var rfl) (E_var rfl) (E_var rfl))))) ⟨k, rs, ws, m, hb, hw, hm, rfl, rfl⟩ (fun d ⟨_, _, _, _, _, _, _, _, e⟩ => e))) (fun ⟨y, e, e'⟩ => by subst e; cases e') fun _ H12 c12 => ?_
  exact c12.lss (.cons (.cons (.cons (.cons (.cons (.cons (.un (.un (.un (.un (.un (.un (.un (.un .nil))))))))))))))
def R_law_is_pushed (ds : List PyData) (d : PyData) : Prop := ∃ (rs : List (Nat × Nat)) (k : Nat) (ws : List Nat), Bk ws.length rs ∧ k ≤ 5 ∧ IsMap ws k ∧ ds = [bookD ws.length rs, .list ((fam ws.length rs).map nI), nI k, mapD ws] ∧ d = .bool true
theorem cast_contains (cl : List Nat) (y : Nat) : (cl.map fun m : Nat => (m : Int)).contains (y : Int) = cl.contains y := by
  rw [Bool.eq_iff_iff, List.contains_iff_mem, List.contains_iff_mem, List.mem_map]
  constructor
  · rintro ⟨x, h1, h2⟩
    have : x = y := by omega
    rw [← this]
    exact h1
  · exact fun h => ⟨y, h, rfl⟩
theorem rd_inN {K : PySem.W.Frag} {cl : List Nat} {y : Nat} : RD (rIn K false) (nI y) (.list (cl.map nI)) (.bool (cl.contains y)) := by
  rw [nats_ints]
  exact rd_in.to (by rw [cast_contains])
theorem push_len {k : Nat} {cl ws : List Nat} (h : k ≤ 5) : (pushL k cl ws).length ≤ 32 := by
  unfold pushL
  refine Nat.le_trans (List.length_filter_le _ _) ?_
  rw [List.length_range, shl1]
  exact pow5 h
theorem sc_law_is_pushed : FnScope ["_law_bag_here", "_law_closed", "_law_large", "_law_way", "_law_found", "_law_high", "_law_due", "_law_rules_here", "_law_marks", "_law_mask_here", "_law_own", "_law_back_here", "_law_told", "_law_ahead", "_law_behind", "_law_a", "_law_b"] ["_law_bag_here", "_law_closed", "_law_large", "_law_way"] (defScope s_law_is_pushed) := ⟨rfl, rfl, rfl, by decide +kernel, rfl, by decide +kernel, by decide +kernel⟩
theorem ok_law_is_pushed (B : Bl mg) (h_law_lot : Has P w K mg base 1 "_law_lot" ["_law_mask_here"] (spD R_law_lot)) (h_law_shut : Has P w K mg base 1 "_law_shut" ["_law_closed", "_law_mask_here"] (spD R_law_shut)) (hk_closure : HasK P w K mg base 3 "closure" ["book", "lot"] ["lot", "book"] List.reverse (spD R_closure)) (h_is_closed : Has P w K mg base 3 "is_closed" ["book", "lot"] (spD R_is_closed)) (hk_source : HasK P w K mg base 2 "source" ["lead", "lot"] ["lead", "lot"] id (spD R_source)) (h_law_back : Has P w K mg base 1 "_law_back" ["_law_way", "_law_mask_here"] (spD R_law_back)) (h_closed_lots : Has P w K mg base 7 "closed_lots" ["book"] (spD R_closed_lots)) (h_stem : Has P w K mg base 8 "stem" ["book"] (spD R_stem)) (h_law_in_order : Has P w K mg base 4 "_law_in_order" ["_law_masks"] (spD R_law_in_order)) (h_law_on : Has P w K mg base 2 "_law_on" ["_law_way", "_law_mask_here"] (spD R_law_on)) (h_law_mask : Has P w K mg base 1 "_law_mask" ["_law_own"] (spD R_law_mask)) (h_led : Has P w K mg base 2 "led" ["lead", "lot"] (spD R_led)) (hk_pushed : HasK P w K mg base 9 "pushed" ["book", "other_size", "lead"] ["lead", "other_size", "book"] List.reverse (spD R_pushed)) (h_law_stem : Has P w K mg base 5 "_law_stem" ["_law_wide", "_law_closed"] (spD R_law_stem)) (h_pushed : Has P w K mg base 9 "pushed" ["book", "other_size", "lead"] (spD R_pushed)) (F : FnP K "_law_is_pushed" s_law_is_pushed f fd) : FnG P w K mg base 10 f fd ["_law_bag_here", "_law_closed", "_law_large", "_law_way"] (spD R_law_is_pushed) := by
  refine pureG_ok F sc_law_is_pushed (by rintro _ _ ⟨rs, k, ws, hb, hk, hw, rfl, rfl⟩; rfl) (by decide) fun cdv A outer s H Q X hgd hr => ⟨_,
    (pss_cons (ps_set (i := 4) sc_law_is_pushed.nd rfl (Or.inl rfl) (pe_fn h_pushed (hr.mono (by decide)) rfl (pa_cons (pv 0) (pa_cons (pv 2) (pa_cons (pv 3) pa_nil)))))
      (pss_cons (ps_setLc (i := 5) (own := [("_law_mask_here", 9)]) rfl sc_law_is_pushed.nd rfl rfl (sw_true rfl rfl rfl (by decide +kernel)) (pi_range1 rfl B.range_ (pa_cons (pe_op op_shl pe_int (pv 2)) pa_nil)) (blkOk_by (by kernel_rfl)) (fun _ _ _ _ _ => (pg_name (i := 9) sc_law_is_pushed.nd rfl (Or.inl rfl))) (fun _ _ _ _ _ => (pts_one (pt_cmpR (op_inK (K := K) rfl) (pe_fn h_law_back (hr.mono (by decide)) rfl (pa_cons (pv 3) (pa_cons (pv 9) pa_nil))) (pv 1) (by rfl)))) (fun _ _ _ _ _ => (pv 9)))
      (pss_cons (ps_set (i := 6) sc_law_is_pushed.nd rfl (Or.inl rfl) (pe_fn h_law_stem (hr.mono (by decide)) rfl (pa_cons (pv 2) (pa_cons (pv 5) pa_nil))))
      (pss_cons (ps_if (pt_cmpR op_ne (pe_callB (call_reprG (K := K) rfl hgd hr.units) rfl B.repr_ (by decide +kernel) (pa_cons (pe_lst (pa_cons (pv 4) (pa_cons (pe_fnK hk_pushed (hr.mono (by decide)) (by rfl) rfl (pk_cons (pv 3) (pk_cons (pv 2) (pk_cons (pv 0) pk_nil)))) pa_nil))) pa_nil)) (pe_callB (call_reprG (K := K) rfl hgd hr.units) rfl B.repr_ (by decide +kernel) (pa_cons (pe_lst (pa_cons (pv 6) (pa_cons (pv 6) pa_nil))) pa_nil)) (nomark _)) (pss_one (ps_ret pe_bl)) pss_nil)
      (pss_cons (ps_set (i := 7) sc_law_is_pushed.nd rfl (Or.inl rfl) (pe_callTy (call_tupK (K := K) rfl) rfl B.tuple_ (by decide +kernel) (pa_cons (pe_lc (own := [("_law_ahead", 13), ("_law_behind", 14)]) (g := gTup K 2 (gCons (gName 13) (gCons (gName 14) gNil))) rfl sc_law_is_pushed.nd (pi_tupK (K := K) rfl (pe_ix (ix_tupK (K := K) rfl) (pv 0) pe_int (fun _ _ => rfl))) (blkOk_by (by kernel_rfl)) (fun _ _ _ _ _ => (pg_tup rfl (pgs_cons (pg_name (i := 13) sc_law_is_pushed.nd rfl (Or.inl rfl)) (pgs_cons (pg_name (i := 14) sc_law_is_pushed.nd rfl (Or.inl rfl)) pgs_nil)))) (fun _ _ _ _ _ => pts_nil) (fun _ _ _ _ _ => (pe_tup (pa_cons (pe_fn h_led (hr.mono (by decide)) rfl (pa_cons (pv 3) (pa_cons (pv 13) pa_nil))) (pa_cons (pe_fn h_led (hr.mono (by decide)) rfl (pa_cons (pv 3) (pa_cons (pv 14) pa_nil))) pa_nil))))) pa_nil)))
      (pss_cons (ps_setLc (i := 8) (own := [("_law_ahead", 13), ("_law_behind", 14)]) (g := gTup K 2 (gCons (gName 13) (gCons (gName 14) gNil))) rfl sc_law_is_pushed.nd rfl rfl (sw_true rfl rfl rfl (by decide +kernel)) (pi_tupK (K := K) rfl (pe_ix (ix_tupK (K := K) rfl) (pv 0) pe_int (fun _ _ => rfl))) (blkOk_by (by kernel_rfl)) (fun _ _ _ _ _ => (pg_tup rfl (pgs_cons (pg_name (i := 13) sc_law_is_pushed.nd rfl (Or.inl rfl)) (pgs_cons (pg_name (i := 14) sc_law_is_pushed.nd rfl (Or.inl rfl)) pgs_nil)))) (fun _ _ _ _ _ => pts_nil) (fun _ _ _ _ _ => (pe_tup (pa_cons (pe_fn h_law_on (hr.mono (by decide)) rfl (pa_cons (pv 3) (pa_cons (pe_fn h_law_mask (hr.mono (by decide)) rfl (pa_cons (pv 13) pa_nil)) pa_nil))) (pa_cons (pe_fn h_law_on (hr.mono (by decide)) rfl (pa_cons (pv 3) (pa_cons (pe_fn h_law_mask (hr.mono (by decide)) rfl (pa_cons (pv 14) pa_nil)) pa_nil))) pa_nil)))))
      (pss_cons (ps_if (pt_cmpR op_ne (pe_callB (call_reprG (K := K) rfl hgd hr.units) rfl B.repr_ (by decide +kernel) (pa_cons (pv 7) pa_nil)) (pe_callB (call_reprG (K := K) rfl hgd hr.units) rfl B.repr_ (by decide +kernel) (pa_cons (pe_callTy (call_tupK (K := K) rfl) rfl B.tuple_ (by decide +kernel) (pa_cons (pe_lc (own := [("_law_a", 15), ("_law_b", 16)]) (g := gTup K 2 (gCons (gName 15) (gCons (gName 16) gNil))) rfl sc_law_is_pushed.nd (pi_listK (K := K) rfl (pv 8)) (blkOk_by (by kernel_rfl)) (fun _ _ _ _ _ => (pg_tup rfl (pgs_cons (pg_name (i := 15) sc_law_is_pushed.nd rfl (Or.inl rfl)) (pgs_cons (pg_name (i := 16) sc_law_is_pushed.nd rfl (Or.inl rfl)) pgs_nil)))) (fun _ _ _ _ _ => pts_nil) (fun _ _ _ _ _ => (pe_tup (pa_cons (pe_fn h_law_lot (hr.mono (by decide)) rfl (pa_cons (pv 15) pa_nil)) (pa_cons (pe_fn h_law_lot (hr.mono (by decide)) rfl (pa_cons (pv 16) pa_nil)) pa_nil))))) pa_nil)) pa_nil)) (nomark _)) (pss_one (ps_ret pe_bl)) pss_nil)
      (pss_cons (ps_if (pt_cmpR op_ne (pe_callB (call_reprG (K := K) rfl hgd hr.units) rfl B.repr_ (by decide +kernel) (pa_cons (pe_lst (pa_cons (pe_fn h_stem (hr.mono (by decide)) rfl (pa_cons (pe_tup (pa_cons (pv 2) (pa_cons (pv 7) pa_nil))) pa_nil)) (pa_cons (pe_fn h_closed_lots (hr.mono (by decide)) rfl (pa_cons (pv 4) pa_nil)) pa_nil))) pa_nil)) (pe_callB (call_reprG (K := K) rfl hgd hr.units) rfl B.repr_ (by decide +kernel) (pa_cons (pe_lst (pa_cons (pv 6) (pa_cons (pe_fn h_law_in_order (hr.mono (by decide)) rfl (pa_cons (pv 5) pa_nil)) pa_nil))) pa_nil)) (nomark _)) (pss_one (ps_ret pe_bl)) pss_nil)
      (pss_cons (ps_for PassesOwn.never rfl (pi_range1 rfl B.range_ (pa_cons (pe_op op_shl pe_int (pv 2)) pa_nil)) (pg_name (i := 9) sc_law_is_pushed.nd rfl (Or.inl rfl)) (pss_cons (ps_par (i := 10) (j := 11) rfl sc_law_is_pushed.nd rfl rfl (by decide) rfl rfl (pa_cons (pe_fn h_law_lot (hr.mono (by decide)) rfl (pa_cons (pv 9) pa_nil)) (pa_cons (pe_fn h_law_lot (hr.mono (by decide)) rfl (pa_cons (pe_fn h_law_back (hr.mono (by decide)) rfl (pa_cons (pv 3) (pa_cons (pv 9) pa_nil))) pa_nil)) pa_nil)) (by rfl))
      (pss_cons (ps_set (i := 12) sc_law_is_pushed.nd rfl (Or.inl rfl) (pe_lst (pa_cons (pe_fnK hk_source (hr.mono (by decide)) (by rfl) rfl (pk_cons (pv 3) (pk_cons (pv 10) pk_nil))) (pa_cons (pe_fn h_is_closed (hr.mono (by decide)) rfl (pa_cons (pv 4) (pa_cons (pv 10) pa_nil))) (pa_cons (pe_fn h_is_closed (hr.mono (by decide)) rfl (pa_cons (pv 0) (pa_cons (pv 11) pa_nil))) (pa_cons (pe_fnK hk_closure (hr.mono (by decide)) (by rfl) rfl (pk_cons (pv 10) (pk_cons (pv 4) pk_nil))) pa_nil))))))
      (pss_one (ps_if (pt_cmpR op_ne (pe_callB (call_reprG (K := K) rfl hgd hr.units) rfl B.repr_ (by decide +kernel) (pa_cons (pv 12) pa_nil)) (pe_callB (call_reprG (K := K) rfl hgd hr.units) rfl B.repr_ (by decide +kernel) (pa_cons (pe_lst (pa_cons (pv 11) (pa_cons (pe_cmpR (op_inK (K := K) rfl) (pv 9) (pv 5) (by rfl)) (pa_cons (pe_cmpR (op_inK (K := K) rfl) (pv 9) (pv 5) (by rfl)) (pa_cons (pe_fn h_law_lot (hr.mono (by decide)) rfl (pa_cons (pe_fn h_law_shut (hr.mono (by decide)) rfl (pa_cons (pv 5) (pa_cons (pv 9) pa_nil))) pa_nil)) pa_nil))))) pa_nil)) (nomark _)) (pss_one (ps_ret pe_bl)) pss_nil)))))
      (pss_one (ps_ret pe_bl))))))))))), ?_⟩
  rintro F0 _ _ ⟨rs, k, ws, hb, hk, hw, rfl, rfl⟩ σ c kR
  have hB := push_bk hb hw hk
  have hF := push_fm hb hw hk
  have hw5 := hw.1
  have h5 := pow5 hk
  have hpe := push_eq hb hw hk
  have hpf := push_fam hb hw hk
  have hpl := push_len (cl := fam ws.length rs) (ws := ws) hk
  have hbl := hb.len
  have hOn := on_bk hb hw hk
  have hof := fam_on hb hw
  refine q_asg c (E_call (EA_3 (E_var rfl) (E_var rfl) (E_var rfl)) ⟨rs, k, ws, hb, hk, hw, rfl, rfl⟩) fun σ1 H1 c1 => ?_
  refine q_asg c1 ((E_lc (ys := List.range (1 <<< k)) (enc := nI) (f := nI) (p := fun m => (fam ws.length rs).contains (backM ws m)) (WI_rng (EA_1 (E_op (E_nat 1) (E_var rfl) (rd_shl (by decide) (by omega)))) (by rw [shl1]; omega)) (by rw [List.length_range, shl1]; omega) (fun y _ => GB_name (by decide)) (fun y _ => ET_test (E_op (E_call (EA_2 (E_var rfl) (E_var rfl)) ⟨ws, y, hw5, rfl, rfl⟩) (E_var rfl) rd_inN)) (fun y _ _ => E_var rfl)).to (d' := .list ((pushL k (fam ws.length rs) ws).map nI)) rfl) fun σ2 H2 c2 => ?_
  refine q_asg c2 ((E_call (EA_2 (E_var rfl) (E_var rfl)) ⟨k, _, hF, push_lt _ _ _, rfl, rfl⟩).to (d' := bookD k (pushR rs k ws)) (by rw [hpe])) fun σ3 H3 c3 => ?_
  refine q_whenF c3 (ET_neR (E_repr (E_lst (EA_2 (E_var rfl) (E_callR (EA_3 (E_var rfl) (E_var rfl) (E_var rfl)) ⟨rs, k, ws, hb, hk, hw, rfl, rfl⟩))) inl2 (nice_list (of2 (n_book hB) (n_book hB)) (Nat.le_refl 2))) (E_repr (E_lst (EA_2 (E_var rfl) (E_var rfl))) inl2 (nice_list (of2 (n_book hB) (n_book hB)) (Nat.le_refl 2))) rfl) fun H4 c4 => ?_
  have hlow : ∀ r ∈ rs, r.1 < 1024 ∧ r.2 < 1024 := hb.small
  refine q_asg c4 ((E_cb (EA_1 (E_lc1 (ys := rs) (enc := ruleD) (f := fun r => ruleD (onM ws r.1, onM ws r.2)) (WI_tup (E_op (E_var rfl) (E_nat 1) (rd_ixT rfl))) (by omega) (fun y _ => GB_pair (by decide) (by decide)) (fun y hy => E_tup (EA_2 (E_call (EA_2 (E_var rfl) (E_var rfl)) ⟨k, ws, _, hk, hw, (hlow y hy).1, rfl, rfl⟩) (E_call (EA_2 (E_var rfl) (E_var rfl)) ⟨k, ws, _, hk, hw, (hlow y hy).2, rfl, rfl⟩))))) rc_tuple).to (d' := .tuple ((rs.map fun r => (onM ws r.1, onM ws r.2)).map ruleD)) (by rw [List.map_map]; rfl)) fun σ5 H5 c5 => ?_
  refine q_asg c5 ((E_lc1 (ys := rs) (enc := ruleD) (f := fun r => pairD (onM ws r.1, onM ws r.2)) (WI_tup (E_op (E_var rfl) (E_nat 1) (rd_ixT rfl))) (by omega) (fun y _ => GB_pair (by decide) (by decide)) (fun y hy => E_tup (EA_2 (E_call (EA_2 (E_var rfl) (E_call (EA_1 (E_var rfl)) ⟨_, (hlow y hy).1, rfl, rfl⟩)) ⟨k, ws, _, hk, hw, rfl, rfl⟩) (E_call (EA_2 (E_var rfl) (E_call (EA_1 (E_var rfl)) ⟨_, (hlow y hy).2, rfl, rfl⟩)) ⟨k, ws, _, hk, hw, rfl, rfl⟩)))).to (d' := .list ((rs.map fun r => (onM ws r.1, onM ws r.2)).map pairD)) (by rw [List.map_map]; rfl)) fun σ6 H6 c6 => ?_
  generalize hrs : (rs.map fun r => (onM ws r.1, onM ws r.2)) = rs' at c6 hOn hof
  have hnr : Nice 4 44602 (.tuple (rs'.map ruleD)) := (nice_tup (W := 222) (L := 100) (fun d hd => by
    obtain ⟨r, _, rfl⟩ := List.mem_map.mp hd
    exact nice_rule r) (by rw [List.length_map]; exact hOn.len)).mono (by decide) (by decide)
  have hol := hOn.len
  refine q_whenF c6 (ET_neR (E_repr (E_var rfl) inr2 hnr) (E_repr (E_cb (EA_1 (E_lc1 (ys := rs') (enc := pairD) (f := ruleD) (WI_list (E_var rfl)) (by omega) (fun y _ => GB_pair (by decide) (by decide)) (fun y hy => E_tup (EA_2 (E_call (EA_1 (E_var rfl)) ⟨_, rfl, rfl⟩) (E_call (EA_1 (E_var rfl)) ⟨_, rfl, rfl⟩))))) rc_tuple) inr2 hnr) rfl) fun H7 c7 => ?_
  have e1 : stemR k (ord (fam k rs')) = pushR rs k ws := by
    rw [hof, hpe]
    exact stem_of_fam hF (push_lt _ _ _) fun x => Iff.rfl
  refine q_whenF c7 (ET_neR (E_repr (E_lst (EA_2 ((E_call (EA_1 (E_tup (EA_2 (E_var rfl) (E_var rfl)))) ⟨k, rs', hOn, rfl, rfl⟩).to (d' := bookD k (pushR rs k ws)) (by rw [e1])) ((E_call (EA_1 (E_var rfl)) ⟨k, pushR rs k ws, hB, rfl, rfl⟩).to (d' := .tuple ((ord (pushL k (fam ws.length rs) ws)).map lotD)) (by rw [hpf])))) inl2 (nice_list (of2 (n_book hB) (n_lots (by rw [ord_len]; exact hpl))) (Nat.le_refl 2)))
    (E_repr (E_lst (EA_2 (E_var rfl) (E_call (EA_1 (E_var rfl)) ⟨_, by omega, rfl, rfl⟩))) inl2 (nice_list (of2 (n_book hB) (n_lots (by rw [ord_len]; exact hpl))) (Nat.le_refl 2))) rfl) fun H8 c8 => ?_
  refine q_for (ys := List.range (1 <<< k)) (enc := nI) (fun i => [.da (bookD ws.length rs), .un, .da (nI k), .da (mapD ws), .da (bookD k (pushR rs k ws)), .da (.list ((pushL k (fam ws.length rs) ws).map nI)), .un, .un, .un, .un, .un, .un, .un, .un, .un, .un, .un]) c8 (WI_rng (EA_1 (E_op (E_nat 1) (E_var rfl) (rd_shl (by decide) (by omega)))) (by rw [shl1]; omega)) (.cons (.un (.cons (.cons (.cons (.cons (.un (.un (.un (.un (.un (.un (.un (.un (.un (.un (.un .nil))))))))))))))))) (fun i y hy => GF_name) (fun G1 g1 i m σ9 H9 hy c9 => ?_) fun σ9 H9 c9 => s_ret c9 E_bl kR
  have hm : m < 2 ^ k := by
    have := List.mem_of_getElem? hy
    rwa [List.mem_range, shl1] at this
  have l1 := lt1024 hk hm
  have l2 := lt1024 hw5 (back_lt (ws := ws) (m := m))
  have k1 := push_kept hb hw hk hm
  have k2 := back_kept (k := k) hb hm
  have hC := push_clo hb hw hk hm
  refine q_parX c9 (EA_2 (E_call (EA_1 (E_var rfl)) ⟨m, rfl, rfl⟩) (E_call (EA_1 (E_call (EA_2 (E_var rfl) (E_var rfl)) ⟨ws, m, hw5, rfl, rfl⟩)) ⟨_, rfl, rfl⟩)).x (fun ds e => ⟨_, _, e⟩) fun d e eq σ10 H10 c10 => ?_
  injection eq with e3 e4
  injection e4 with e4 _
  subst e3 e4
  refine q_asg c10 (E_lst (EA_cons (E_callI (EA_2 (E_var rfl) (E_var rfl)) ⟨ws, m, hw5, l1, rfl, rfl⟩) (EA_3 ((E_call (EA_2 (E_var rfl) (E_var rfl)) ⟨k, _, m, hB, l1, rfl, rfl⟩).to (by rw [k1])) ((E_call (EA_2 (E_var rfl) (E_var rfl)) ⟨ws.length, _, _, hb, l2, rfl, rfl⟩).to (by rw [k2])) (E_callR (EA_2 (E_var rfl) (E_var rfl)) ⟨k, _, m, _, hB, l1, hC, rfl, rfl⟩)))) fun σ11 H11 c11 => ?_
  refine s_whenF c11 (ET_neR (E_repr (E_var rfl) inl2 (nice_list (of4 (n_lot _) (n_bool _) (n_bool _) (n_lot _)) (Nat.le_refl 4))) (E_repr (E_lst (EA_cons (E_var rfl) (EA_3 (E_op (E_var rfl) (E_var rfl) rd_inN) (E_op (E_var rfl) (E_var rfl) rd_inN) (E_call (EA_1 (E_call (EA_2 (E_var rfl) (E_var rfl)) ⟨_, m, hF.ne, rfl, rfl⟩)) ⟨_, rfl, rfl⟩)))) inl2 (nice_list (of4 (n_lot _) (n_bool _) (n_bool _) (n_lot _)) (Nat.le_refl 4))) rfl) fun H12 c12 => ?_
  exact c12.lss (.cons (.un (.cons (.cons (.cons (.cons (.un (.un (.un (.un (.un (.un (.un (.un (.un (.un (.un .nil)))))))))))))))))
end
end ML
set_option Elab.async false
set_option linter.all false
set_option maxRecDepth 100000
set_option maxHeartbeats 4000000
/-! with what is kept -/
namespace ML
open PySem PySem.Spec PyProof.Rows L2
open Evl (Ex fresh_back)
theorem EnvOk_startV {Z : Addr → Prop} {F H : Hp} {N : List Str} {u l : Addr} {v : V} {d : PyData} (h : DV F v d) (hl : 3 ≤ N.length) : EnvOk Z F H (L2.start N [.ref u, v, .ref l]) ([.at_ u, .da d, .at_ l] ++ List.replicate (N.length - 3) Sl.un) := by
  refine ⟨by unfold L2.start; simp, fun i s hi => ?_⟩
  match i, hi with
  | 0, hi =>
    have e : s = .at_ u := by simpa using hi.symm
    subst e
    show (L2.start N _)[0]? = _
    unfold L2.start
    simp
  | 1, hi =>
    have e : s = .da d := by simpa using hi.symm
    subst e
    refine ⟨v, ?_, h⟩
    unfold L2.start
    simp
  | 2, hi =>
    have e : s = .at_ l := by simpa using hi.symm
    subst e
    show (L2.start N _)[2]? = _
    unfold L2.start
    simp
  | i + 3, hi =>
    have h2 : (List.replicate (N.length - 3) Sl.un)[i]? = some s := by simpa using hi
    rw [List.getElem?_replicate] at h2
    split at h2
    · simp only [Option.some.injEq] at h2
      subst h2
      trivial
    · cases h2
theorem vG_ok {P : Program} {w : World} {K : PySem.W.Frag} {mg : Str → Option Value} {base : Heap} {x : Str} {st : Stmt} {f : Addr} {fd : FuncData} {N ps : List Str} {k : Nat} {R : List PyData → PyData → Prop} (F : FnP K x st f fd) (S : FnScope N ps (defScope st))
    (hl : ∀ ds d, R ds d → ds.length + 2 = ps.length) (hN : ps.length ≤ N.length)
    (hb : ∀ (cdv : Value) (A : Around) (outer : List Env) (s : Shared) (H : Hp) (Q : VK) (X : XK), (A.deeper (envOfC x (defScope st) s.heap.objs.size f cdv)).guards = some [] → Room k (A.deeper (envOfC x (defScope st) s.heap.objs.size f cdv)) →
      ∃ t, PSs (cxOf CX0 P w K mg base N x (defScope st) f cdv A outer s H X).nox (defBody st) t ∧ ∀ (F0 : Hp) (u g l : Addr) (cn : Nat) (ds : List PyData) (d : PyData), R ds d → UrnOk u g F0 H → KnOk l cn F0 H → cn < 1000 → ∀ σ, Con (bsV u g l cn F0 H) F0 (.at_ u :: ds.map Sl.da ++ [.at_ l] ++ List.replicate (N.length - (ds.length + 2)) Sl.un) σ H →
        (∀ v d H', R ds d → Ret (bsV u g l (cn + 1) F0 H) F0 d v H' → Q v H') → t { nx := fun _ H' => Q .non H', rt := Q } σ H) : FnG P w K mg base (k + 1) f fd ps (spV R) := by
  refine fng_of F S (fun vs H Q X h => ?_) (fun cdv A outer s H vs Q X hg hr h => ?_)
  · obtain ⟨F0, u, g, l, c, v0, d0, rfl, _, _, _, _, _, _, _, ⟨d, hR⟩, _⟩ := h
    exact hl [d0] d hR
  · obtain ⟨F0, u, g, l, c, v0, d0, rfl, e, hu, hk, n1, n2, hc, dv, ⟨d, hR⟩, q⟩ := h
    obtain ⟨t, ht, hq⟩ := hb cdv A outer s H Q X hg hr
    have h3 : ps.length = 3 := (hl [d0] d hR).symm
    refine ⟨t, PSs.nox ht, hq F0 u g l c [d0] d hR hu hk hc _ ⟨F0, Stp.refl e, Ex.refl F0, ⟨g, hu, .inl rfl, hk, n1, n2⟩, fun a ha => ?_, EnvOk_startV dv (by omega)⟩ fun v d' H' hR' r => ?_⟩
    · rcases ha with rfl | rfl | rfl
      · exact hu.hu
      · exact hu.hg
      · exact hk.hl
    · obtain ⟨F', s', _, ⟨g', h1, h2, hk', m1, m2⟩, m', o'⟩ := r
      obtain ⟨v', e', dv'⟩ := o'.2 0 _ rfl
      obtain rfl := Option.some.inj (Option.some.inj e')
      exact q v d' F' H' g' hR' s' h1 h2 (m' g (.inr (.inl rfl))) hk' m2 dv'
section
variable {K : PySem.W.Frag} {u g l : Addr} {cn : Nat} {F0 H0 G : Hp} {ρ : List Sl} {σ : L2.St} {H : Hp} {D : Ends} {tz : TS} {te : TE} {i : Nat} {q : Kn}
theorem q_appK (c : Con (bsV u g l cn F0 H0) G ρ σ H) (hi : ρ[i]? = some (.at_ l)) (he : E te ρ q.D) (hq : q.ok) (hl : cn < 1000) (k : ∀ H', Con (bsV u g l (cn + 1) F0 H0) G ρ σ H' → tz D σ H') : tSeq (tDrop (tBM K "list" rAppend (tVar i) (tCons te tNil))) tz D σ H := by
  obtain ⟨F, c⟩ := c
  have e1 : σ[i]? = some (some (.ref l)) := c.2.2.2.2.2 i _ hi
  obtain ⟨_, _, _, hk0, _⟩ := c.2.2.1
  obtain ⟨vs0, _, hl0, _⟩ := hk0.st
  refine ⟨.ref l, e1, .inl ⟨rfl, vs0, SqL.of hl0⟩, he σ F H c.fh c.env _ fun v F1 H1 s1 dv => ?_⟩
  obtain ⟨st, gx, ⟨g', hu, hg, hk, n1, n2⟩, m, o⟩ := c.pure s1
  obtain ⟨vs, ks, h1, h2, h3, h4⟩ := hk.st
  refine ⟨l, vs, v, rfl, rfl, h1, Evl.sz_lt (by rw [h2.len, List.length_map]; omega), k _ ⟨F1, ⟨fun a w ha hm => ?_, st.ff, ex_upd_new st.fh hk.fl, st.nw⟩, gx, ⟨g', hu.up (upd_ne fun z => n1 z.symm) (upd_ne fun z => n2 z.symm) hu.fu hu.fg, hg, ⟨hk.fl, vs ++ [v], ks ++ [q], upd_same, ?_, fun z hz => ?_, by rw [List.length_append, List.length_singleton]; omega⟩, n1, n2⟩, fun a ha => ?_, o.1, fun j t hj => ?_⟩⟩
  · rw [upd_ne (fun z => hm (.inr (.inr z)))]
    exact st.hh a w ha hm
  · rw [List.map_append]
    exact h2.app (.cons dv .nil)
  · rcases List.mem_append.mp hz with hz | hz
    · exact h3 z hz
    · rw [List.mem_singleton] at hz
      rw [hz]
      exact hq
  · by_cases z : a = l
    · rw [z, upd_same]; simp
    · rw [upd_ne z]; exact m a ha
  · have ht := o.2 j t hj
    have ok : ∀ p, Bs.Z (bsV u g l cn F0 H0) H1 p → p ≠ l ∧ Bs.Z (bsV u g l (cn + 1) F0 H0) (upd H1 l (.lst (vs ++ [v]))) p := fun p z => by
      have ne : p ≠ l := fun w => z.1 (.inr w)
      refine ⟨ne, fun w => ?_, z.2⟩
      rcases w with w | w
      · rcases w with rfl | ⟨mx, w⟩
        · exact z.1 (.inl (.inl rfl))
        · rw [upd_ne fun z => n1 z.symm] at w
          exact z.1 (.inl (.inr ⟨mx, w⟩))
      · exact ne w
    cases t with
    | un => trivial
    | da d => exact ht
    | at_ p => exact ht
    | ow es =>
      obtain ⟨p, ws, a1, a2, a3, a4, a5⟩ := ht
      obtain ⟨b1, b2⟩ := ok p a2
      exact ⟨p, ws, a1, b2, a3, by rw [upd_ne b1]; exact a4, a5⟩
    | dk ks =>
      obtain ⟨p, kvs, a1, a2, a3, a4, a5⟩ := ht
      obtain ⟨b1, b2⟩ := ok p a2
      exact ⟨p, kvs, a1, b2, a3, by rw [upd_ne b1]; exact a4, a5⟩
end
section
variable {K : PySem.W.Frag} {b : Bs} [Stb b.I b.N] {ρ : List Sl} {ta tb te tf : TE} {tt tu : TT} {PT PU : Bool → Prop} {i : Nat} {u : Addr} {X : XK}
theorem XT_or (h : XT b tt ρ PT) (h' : PT false → XT b tu ρ PU) : XT b (tOr tt tu) ρ (fun x => (x = true ∧ PT true) ∨ (PT false ∧ PU x)) := fun κ G σ H c Q q => h κ G σ H c _ fun x H1 p c1 => by
  cases x with
  | true =>
    show Q true H1
    exact q true H1 (.inl ⟨rfl, p⟩) c1
  | false =>
    show tu σ H1 Q
    exact h' p κ G σ H1 c1 Q fun y H2 p2 c2 => q y H2 (.inr ⟨p, p2⟩) c2
theorem XE_andT (h : XE b ta ρ (fun z => z = .bool true)) (h' : XE b tb ρ (fun z => z = .bool true)) : XE b (tAndV ta tb) ρ (fun z => z = .bool true) := fun κ G σ H c Q q => h κ G σ H c _ fun v d H1 p c1 => by
  subst p
  obtain ⟨F, c1, hk⟩ := c1
  have hv := one_dv (hk _ List.mem_cons_self)
  cases hv
  refine ⟨true, rfl, ?_⟩
  show tb σ H1 Q
  exact h' κ G σ H1 ⟨F, c1, fun p hp => hk p (List.mem_cons_of_mem _ hp)⟩ Q q
theorem XE_urnT {R : List PyData → PyData → Prop} {ta : TA} {ds : List PyData} (U : UrnIn b u) (hi : ρ[i]? = some (.at_ u)) (h : EA ta ρ ds) (hR : R ds (.bool true)) (h1 : ∀ d, R ds d → d = .bool true) : XE b (tCall (spU R) [] X (tCons (tVar i) ta)) ρ (fun z => z = .bool true) :=
  (XE_urn U hi h.x fun ds' e => by subst e; exact ⟨_, hR⟩).imp fun d ⟨ds', e, hr⟩ => by
    subst e
    exact h1 d hr
theorem XE_map {m k : Nat} (U : UrnIn b u) (hi : ρ[i]? = some (.at_ u)) (h : E te ρ (nI m)) (h' : E tf ρ (nI k)) (hm : m ≤ 5) (hk : k ≤ 5) (hmk : 0 < m → 0 < k) : XE b (tCall (spU R_law_map) [] X (tCons (tVar i) (tCons te (tCons tf tNil)))) ρ (fun d => ∃ ws : List Nat, (ws.length = m ∧ ∀ w ∈ ws, w < k) ∧ d = mapD ws) :=
  (XE_urn U hi (EA_2 h h').x fun ds e => by
    subst e
    refine ⟨mapD (List.replicate m 0), m, k, hm, hk, hmk, rfl, List.replicate m 0, by simp, fun w hw => ?_, rfl⟩
    obtain ⟨a, rfl⟩ := List.mem_replicate.mp hw
    exact hmk (by omega)).imp fun d ⟨ds, e, m', k', _, _, _, e2, ws, h1, h2, h3⟩ => by
    subst e
    injection e2 with e2 e3
    injection e3 with e3 _
    rw [nI_inj e2, nI_inj e3]
    exact ⟨ws, ⟨h1, h2⟩, h3⟩
end
theorem rd_mapNil {K : PySem.W.Frag} {ws : List Nat} : RD (rEqD K) (mapD ws) (.list []) (.bool false) := by
  refine (rd_eqD ?_ rfl).to (by unfold mapD; simp [PyData.eqv])
  unfold mapD SeqAt.shaped
  rw [nats_ints, PyData.canLay0, canLay_intsL, PyData.depth, PySem.W.depth_ints]
  decide
end ML
set_option Elab.async false
set_option linter.all false
set_option maxRecDepth 100000
set_option maxHeartbeats 4000000
/-! books pulled and pushed along maps, one behind the other -/
namespace ML
open PySem PySem.Spec PyProof.Rows L2
open Evl (Ex fresh_back)
section
variable {P : Program} {w : World} {K : PySem.W.Frag} {mg : Str → Option Value} {base : Heap} {f : Addr} {fd : FuncData}
def R_law_by_pulls (ds : List PyData) (d : PyData) : Prop := ∃ (k : Nat) (rs : List (Nat × Nat)), Bk k rs ∧ ds = [bookD k rs] ∧ d = .bool true
theorem gt0 {k : Nat} (h : decide (((0 : Nat) : Int) < ((k : Nat) : Int)) = true) : 0 < k := by
  have := of_decide_eq_true h
  omega
theorem ngt0 {k : Nat} (h : decide (((0 : Nat) : Int) < ((k : Nat) : Int)) = false) : k = 0 := by
  have := of_decide_eq_false h
  omega
theorem sc_law_by_pulls : FnScope ["_law_urn_here", "_law_bag_here", "_law_known", "_law_wide", "_law_closed", "_law_many", "_law_fewer", "_law_far", "_law_way", "_law_along_here", "_law_found", "_law_low", "_law_mask_here"] ["_law_urn_here", "_law_bag_here", "_law_known"] (defScope s_law_by_pulls) := ⟨rfl, rfl, rfl, by decide +kernel, rfl, by decide +kernel, by decide +kernel⟩
theorem ok_law_by_pulls (B : Bl mg) (h_pulled : Has P w K mg base 9 "pulled" ["other", "lead"] (spD R_pulled)) (h_law_is_pulled : HasG P w K mg base 10 "_law_is_pulled" ["_law_urn_here", "_law_bag_here", "_law_closed", "_law_way"] (spU R_law_is_pulled)) (h_law_back : Has P w K mg base 1 "_law_back" ["_law_way", "_law_mask_here"] (spD R_law_back)) (h_law_along : HasG P w K mg base 2 "_law_along" ["_law_way", "_law_far"] (spD R_law_along)) (h_law_map : Has P w K mg base 3 "_law_map" ["_law_urn_here", "_law_many", "_law_wide"] (spU R_law_map)) (h_law_draw : Has P w K mg base 1 "_law_draw" ["_law_urn_here", "_law_many"] (spU R_law_draw)) (h_law_family : Has P w K mg base 2 "_law_family" ["_law_wide", "_law_rules_here"] (spD R_law_family)) (F : FnP K "_law_by_pulls" s_law_by_pulls f fd) : FnG P w K mg base 11 f fd ["_law_urn_here", "_law_bag_here", "_law_known"] (spV R_law_by_pulls) := by
  refine vG_ok F sc_law_by_pulls (by rintro _ _ ⟨k, rs, hb, rfl, rfl⟩; rfl) (by decide) fun cdv A outer s H Q X hgd hr => ⟨_,
    (pss_cons (ps_par (i := 3) (j := 4) rfl sc_law_by_pulls.nd rfl rfl (by decide) rfl rfl (pa_cons (pe_ix (ix_tupK (K := K) rfl) (pv 1) pe_int (fun _ _ => rfl)) (pa_cons (pe_fn h_law_family (hr.mono (by decide)) rfl (pa_cons (pe_ix (ix_tupK (K := K) rfl) (pv 1) pe_int (fun _ _ => rfl)) (pa_cons (pe_ix (ix_tupK (K := K) rfl) (pv 1) pe_int (fun _ _ => rfl)) pa_nil))) pa_nil)) (by rfl))
      (pss_cons (ps_set (i := 5) sc_law_by_pulls.nd rfl (Or.inl rfl) (pe_ifExp (pt_cmpR op_gt (pv 3) pe_int (nomark _)) (pe_fn h_law_draw (hr.mono (by decide)) rfl (pa_cons (pv 0) (pa_cons pe_int pa_nil))) pe_int))
      (pss_cons (ps_set (i := 6) sc_law_by_pulls.nd rfl (Or.inl rfl) (pe_ifExp (pt_cmpR op_gt (pv 5) pe_int (nomark _)) (pe_fn h_law_draw (hr.mono (by decide)) rfl (pa_cons (pv 0) (pa_cons pe_int pa_nil))) pe_int))
      (pss_cons (ps_asg (pe_tup (pa_cons (pe_fn h_law_map (hr.mono (by decide)) rfl (pa_cons (pv 0) (pa_cons (pv 5) (pa_cons (pv 3) pa_nil)))) (pa_cons (pe_fn h_law_map (hr.mono (by decide)) rfl (pa_cons (pv 0) (pa_cons (pv 6) (pa_cons (pv 5) pa_nil)))) pa_nil))) (pg_tup rfl (pgs_cons (pg_name (i := 7) sc_law_by_pulls.nd rfl (Or.inr rfl)) (pgs_cons (pg_name (i := 8) sc_law_by_pulls.nd rfl (Or.inl rfl)) pgs_nil))))
      (pss_cons (ps_set (i := 9) sc_law_by_pulls.nd rfl (Or.inl rfl) (pe_fnG h_law_along hgd (hr.mono (by decide)) rfl (pa_cons (pv 8) (pa_cons (pv 7) pa_nil))))
      (pss_cons (ps_if (PW.pt (pw_or (pt_cmpR (op_eqDK (K := K) rfl hr.units) (pv 9) (pe_lst pa_nil) (nomark _)) (pw_or (pt_not (pt_val (pe_fnG h_law_is_pulled hgd (hr.mono (by decide)) rfl (pa_cons (pv 0) (pa_cons (pv 1) (pa_cons (pv 4) (pa_cons (pv 7) pa_nil))))))) (pw_or1 (pt_not (pt_val (pe_fnG h_law_is_pulled hgd (hr.mono (by decide)) rfl (pa_cons (pv 0) (pa_cons (pv 1) (pa_cons (pv 4) (pa_cons (pv 9) pa_nil))))))))))) (pss_one (ps_ret pe_bl)) pss_nil)
      (pss_cons (ps_par (i := 10) (j := 11) rfl sc_law_by_pulls.nd rfl rfl (by decide) rfl rfl (pa_cons (pe_fn h_pulled (hr.mono (by decide)) rfl (pa_cons (pv 1) (pa_cons (pv 7) pa_nil))) (pa_cons (pe_callB (cr_sortedSet rfl) rfl B.sorted_ (by decide +kernel) (pa_cons (pe_callTy (cr_setI rfl) rfl B.set_ (by decide +kernel) (pa_cons (pe_lc (own := [("_law_mask_here", 12)]) rfl sc_law_by_pulls.nd (pi_listK (K := K) rfl (pv 4)) (blkOk_by (by kernel_rfl)) (fun _ _ _ _ _ => (pg_name (i := 12) sc_law_by_pulls.nd rfl (Or.inl rfl))) (fun _ _ _ _ _ => pts_nil) (fun _ _ _ _ _ => (pe_fn h_law_back (hr.mono (by decide)) rfl (pa_cons (pv 7) (pa_cons (pv 12) pa_nil))))) pa_nil)) pa_nil)) pa_nil)) (by rfl))
      (pss_cons (ps_expr (pe_bm PySem.F.plainAttrs_list PySem.F.slot_list_append PySem.F.type_list_append mt_append (pv 2) (pa_cons (pe_lst (pa_cons (pv 1) (pa_cons (pv 7) (pa_cons (pe_callB (call_reprG (K := K) rfl hgd hr.units) rfl B.repr_ (by decide +kernel) (pa_cons (pv 10) pa_nil)) pa_nil)))) pa_nil)))
      (pss_one (ps_ret (pe_and (pe_fnG h_law_is_pulled hgd (hr.mono (by decide)) rfl (pa_cons (pv 0) (pa_cons (pv 10) (pa_cons (pv 11) (pa_cons (pv 8) pa_nil))))) (pe_one (pe_cmpR op_eq (pe_callB (call_reprG (K := K) rfl hgd hr.units) rfl B.repr_ (by decide +kernel) (pa_cons (pe_fn h_pulled (hr.mono (by decide)) rfl (pa_cons (pv 10) (pa_cons (pv 8) pa_nil))) pa_nil)) (pe_callB (call_reprG (K := K) rfl hgd hr.units) rfl B.repr_ (by decide +kernel) (pa_cons (pe_fn h_pulled (hr.mono (by decide)) rfl (pa_cons (pv 1) (pa_cons (pv 9) pa_nil))) pa_nil)) (nomark _)))))))))))))), ?_⟩
  rintro F0 u g l cn _ _ ⟨k, rs, hb, rfl, rfl⟩ hu hk hcn σ c kR
  have U := bsV_in u g l cn F0 H
  have hk5 := hb.n5
  have hF := hb.fm
  have hfl := fam_len rs hk5
  refine q_parX c (EA_2 (E_op (E_var rfl) (E_nat 0) (rd_ixT rfl)) (E_call (EA_2 (E_op (E_var rfl) (E_nat 0) (rd_ixT rfl)) (E_op (E_var rfl) (E_nat 1) (rd_ixT rfl))) ⟨k, rs, hb, rfl, rfl⟩)).x (fun ds e => ⟨_, _, e⟩) fun d e eq σ1 H1 c1 => ?_
  injection eq with e1 e2
  injection e2 with e2 _
  subst e1 e2
  refine q_asgX c1 (XE_if (P := fun d => ∃ m, (m ≤ 4 ∧ (0 < m → 0 < k)) ∧ d = nI m) (ET_test (E_op (E_var rfl) (E_nat 0) rd_gt)).x (fun h => (XE_draw U rfl (E_nat 5) (by decide) (by decide)).imp fun d ⟨m, hm, e⟩ => ⟨m, ⟨by omega, fun _ => gt0 h.symm⟩, e⟩) fun h => (E_nat 0).xn ⟨by decide, fun h => by cases h⟩) fun d ⟨m, hm, e⟩ σ2 H2 c2 => ?_
  subst e
  refine q_asgX c2 (XE_if (P := fun d => ∃ j, (j ≤ 3 ∧ (0 < j → 0 < m)) ∧ d = nI j) (ET_test (E_op (E_var rfl) (E_nat 0) rd_gt)).x (fun h => (XE_draw U rfl (E_nat 4) (by decide) (by decide)).imp fun d ⟨j, hj, e⟩ => ⟨j, ⟨by omega, fun _ => gt0 h.symm⟩, e⟩) fun h => (E_nat 0).xn ⟨by decide, fun h => by cases h⟩) fun d ⟨j, hj, e⟩ σ3 H3 c3 => ?_
  subst e
  refine q_asgG (P := fun d => ∃ far way : List Nat, (far.length = m ∧ ∀ w ∈ far, w < k) ∧ (way.length = j ∧ ∀ w ∈ way, w < m) ∧ d = .tuple [mapD far, mapD way]) (ρ' := fun d => match d with
      | .tuple [x, y] => [.at_ u, .da (bookD k rs), .at_ l, .da (nI k), .da (.list ((fam k rs).map nI)), .da (nI m), .da (nI j), .da x, .da y, .un, .un, .un, .un]
      | _ => []) c3 (XE_tup ((XA_2 (XE_map U rfl (E_var rfl) (E_var rfl) (by omega) hk5 hm.2) (XE_map U rfl (E_var rfl) (E_var rfl) (by omega) (by omega) hj.2)).imp fun ds ⟨x, y, e, ⟨far, hf, ex⟩, way, hw, ey⟩ => ?_)) (fun d ⟨far, way, _, _, e⟩ => by subst e; exact GF_pair) fun d ⟨far, way, hf, hw, e⟩ σ4 H4 c4 => ?_
  · subst e ex ey
    exact ⟨by simp, far, way, hf, hw, rfl⟩
  subst e
  replace c4 : Con (bsV u g l cn F0 H) F0 [.at_ u, .da (bookD k rs), .at_ l, .da (nI k), .da (.list ((fam k rs).map nI)), .da (nI m), .da (nI j), .da (mapD far), .da (mapD way), .un, .un, .un, .un] σ4 H4 := c4
  obtain ⟨hfl1, hfl2⟩ := hf
  obtain ⟨hwl1, hwl2⟩ := hw
  have hfar : IsMap far k := ⟨by omega, hfl2⟩
  have hway : IsMap way far.length := ⟨by omega, fun w hw' => by rw [hfl1]; exact hwl2 w hw'⟩
  have hal : IsMap (afterM way far) k := after_map hway hfl2
  have hB := pull_bk hb hfar
  have hpf := pull_fam hb hfar
  have hll := low_len (low_fm hF hfar)
  have hfb : Bk (afterM way far).length (pullR k rs (afterM way far)) := pull_bk hb hal
  have hB2 := pull_bk hB hway
  have heq : pullR far.length (pullR k rs far) way = pullR k rs (afterM way far) := by
    rw [pull_eq hB hway, pull_eq hb hal, hpf, low_low hF hfar hway, after_len]
  refine q_asg c4 (E_call (EA_2 (E_var rfl) (E_var rfl)) ⟨k, way, far, hway, hk5, hfl2, rfl, rfl⟩) fun σ5 H5 c5 => ?_
  refine q_whenX c5 (XT_or (ET_test (E_op (E_var rfl) (E_lst EA_nil) rd_mapNil)).x fun _ => XT_or (XT_not (XE_urnB U rfl (EA_3 (E_var rfl) (E_var rfl) (E_var rfl)) ⟨k, rs, far, hb, hfar, rfl, rfl⟩ (fun d ⟨_, _, _, _, _, _, e⟩ => e))) fun _ => XT_not (XE_urnB U rfl (EA_3 (E_var rfl) (E_var rfl) (E_var rfl)) ⟨k, rs, afterM way far, hb, hal, rfl, rfl⟩ (fun d ⟨_, _, _, _, _, _, e⟩ => e))) (fun h => ?_) fun _ H6 c6 => ?_
  · rcases h with ⟨_, h⟩ | ⟨_, h⟩
    · cases h
    · rcases h with ⟨_, y, e, e'⟩ | ⟨_, y, e, e'⟩
      · subst e; cases e'
      · subst e; cases e'
  refine q_parX c6 (EA_2 (E_call (EA_2 (E_var rfl) (E_var rfl)) ⟨k, rs, far, hb, hfar, rfl, rfl⟩) (E_sortedSet (ms := (fam k rs).map (backM far)) ((E_lc1 (ys := fam k rs) (enc := nI) (f := fun o => nI (backM far o)) (WI_list (E_var rfl)) (by omega) (fun o _ => GB_name (by decide)) (fun o _ => E_call (EA_2 (E_var rfl) (E_var rfl)) ⟨far, o, hfar.1, rfl, rfl⟩)).to (by rw [List.map_map]; rfl)) (fun x hx => by
    obtain ⟨y, _, rfl⟩ := List.mem_map.mp hx
    have h1 := back_lt (ws := far) (m := y)
    have h2 := pow5 hfar.1
    omega) (by rw [List.length_map]; omega))).x (fun ds e => ⟨_, _, e⟩) fun d e eq σ7 H7 c7 => ?_
  injection eq with e1 e2
  injection e2 with e2 _
  subst e1 e2
  replace c7 : Con (bsV u g l cn F0 H) F0 [.at_ u, .da (bookD k rs), .at_ l, .da (nI k), .da (.list ((fam k rs).map nI)), .da (nI m), .da (nI j), .da (mapD far), .da (mapD way), .da (mapD (afterM way far)), .da (bookD far.length (pullR k rs far)), .da (.list ((lowL (fam k rs) far).map nI)), .un] σ7 H7 := c7
  refine q_appK (q := ⟨k, rs, far⟩) c7 rfl (E_lst (EA_3 (E_var rfl) (E_var rfl) (E_repr (E_var rfl) inr2 (n_book hB)))) ⟨hb, hfar⟩ hcn fun H8 c8 => ?_
  have U2 := bsV_in u g l (cn + 1) F0 H
  refine s_retX c8 (XE_andT (XE_urnT U2 rfl (EA_3 (E_var rfl) ((E_var rfl).to (d' := .list ((fam far.length (pullR k rs far)).map nI)) (by rw [hpf])) (E_var rfl)) ⟨far.length, pullR k rs far, way, hB, hway, rfl, rfl⟩ (fun d ⟨_, _, _, _, _, _, e⟩ => e)) (E_eqR (E_repr (E_call (EA_2 (E_var rfl) (E_var rfl)) ⟨far.length, pullR k rs far, way, hB, hway, rfl, rfl⟩) inr2 (n_book hB2)) (E_repr (E_call (EA_2 (E_var rfl) (E_var rfl)) ⟨k, rs, afterM way far, hb, hal, rfl, rfl⟩) inr2 (n_book hfb)) (by rw [heq, after_len])).x) fun d e v H' r => kR v d H' ⟨k, rs, hb, rfl, e⟩ r
def R_law_by_pushes (ds : List PyData) (d : PyData) : Prop := ∃ (k : Nat) (rs : List (Nat × Nat)), Bk k rs ∧ ds = [bookD k rs] ∧ d = .bool true
theorem sc_law_by_pushes : FnScope ["_law_urn_here", "_law_bag_here", "_law_known", "_law_wide", "_law_closed", "_law_large", "_law_goal", "_law_way", "_law_far", "_law_along_here", "_law_found", "_law_high", "_law_due", "_law_mask_here"] ["_law_urn_here", "_law_bag_here", "_law_known"] (defScope s_law_by_pushes) := ⟨rfl, rfl, rfl, by decide +kernel, rfl, by decide +kernel, by decide +kernel⟩
theorem ok_law_by_pushes (B : Bl mg) (h_pushed : Has P w K mg base 9 "pushed" ["book", "other_size", "lead"] (spD R_pushed)) (h_law_is_pushed : HasG P w K mg base 10 "_law_is_pushed" ["_law_bag_here", "_law_closed", "_law_large", "_law_way"] (spD R_law_is_pushed)) (h_pulled : Has P w K mg base 9 "pulled" ["other", "lead"] (spD R_pulled)) (h_law_stem : Has P w K mg base 5 "_law_stem" ["_law_wide", "_law_closed"] (spD R_law_stem)) (h_law_back : Has P w K mg base 1 "_law_back" ["_law_way", "_law_mask_here"] (spD R_law_back)) (h_law_along : HasG P w K mg base 2 "_law_along" ["_law_way", "_law_far"] (spD R_law_along)) (h_law_map : Has P w K mg base 3 "_law_map" ["_law_urn_here", "_law_many", "_law_wide"] (spU R_law_map)) (h_law_draw : Has P w K mg base 1 "_law_draw" ["_law_urn_here", "_law_many"] (spU R_law_draw)) (h_law_family : Has P w K mg base 2 "_law_family" ["_law_wide", "_law_rules_here"] (spD R_law_family)) (F : FnP K "_law_by_pushes" s_law_by_pushes f fd) : FnG P w K mg base 11 f fd ["_law_urn_here", "_law_bag_here", "_law_known"] (spV R_law_by_pushes) := by
  refine vG_ok F sc_law_by_pushes (by rintro _ _ ⟨k, rs, hb, rfl, rfl⟩; rfl) (by decide) fun cdv A outer s H Q X hgd hr => ⟨_,
    (pss_cons (ps_asg (pe_tup (pa_cons (pe_ix (ix_tupK (K := K) rfl) (pv 1) pe_int (fun _ _ => rfl)) (pa_cons (pe_fn h_law_family (hr.mono (by decide)) rfl (pa_cons (pe_ix (ix_tupK (K := K) rfl) (pv 1) pe_int (fun _ _ => rfl)) (pa_cons (pe_ix (ix_tupK (K := K) rfl) (pv 1) pe_int (fun _ _ => rfl)) pa_nil))) pa_nil))) (pg_tup rfl (pgs_cons (pg_name (i := 3) sc_law_by_pushes.nd rfl (Or.inl rfl)) (pgs_cons (pg_name (i := 4) sc_law_by_pushes.nd rfl (Or.inr rfl)) pgs_nil))))
      (pss_cons (ps_set (i := 5) sc_law_by_pushes.nd rfl (Or.inl rfl) (pe_ifExp (pt_cmpR op_eq (pv 3) pe_int (nomark _)) (pe_fn h_law_draw (hr.mono (by decide)) rfl (pa_cons (pv 0) (pa_cons pe_int pa_nil))) (pe_op op_add pe_int (pe_fn h_law_draw (hr.mono (by decide)) rfl (pa_cons (pv 0) (pa_cons pe_int pa_nil))))))
      (pss_cons (ps_set (i := 6) sc_law_by_pushes.nd rfl (Or.inl rfl) (pe_ifExp (pt_cmpR op_eq (pv 5) pe_int (nomark _)) (pe_fn h_law_draw (hr.mono (by decide)) rfl (pa_cons (pv 0) (pa_cons pe_int pa_nil))) (pe_op op_add pe_int (pe_fn h_law_draw (hr.mono (by decide)) rfl (pa_cons (pv 0) (pa_cons pe_int pa_nil))))))
      (pss_cons (ps_asg (pe_tup (pa_cons (pe_fn h_law_map (hr.mono (by decide)) rfl (pa_cons (pv 0) (pa_cons (pv 3) (pa_cons (pv 5) pa_nil)))) (pa_cons (pe_fn h_law_map (hr.mono (by decide)) rfl (pa_cons (pv 0) (pa_cons (pv 5) (pa_cons (pv 6) pa_nil)))) pa_nil))) (pg_tup rfl (pgs_cons (pg_name (i := 7) sc_law_by_pushes.nd rfl (Or.inr rfl)) (pgs_cons (pg_name (i := 8) sc_law_by_pushes.nd rfl (Or.inl rfl)) pgs_nil))))
      (pss_cons (ps_set (i := 9) sc_law_by_pushes.nd rfl (Or.inl rfl) (pe_fnG h_law_along hgd (hr.mono (by decide)) rfl (pa_cons (pv 7) (pa_cons (pv 8) pa_nil))))
      (pss_cons (ps_if (PW.pt (pw_or (pt_cmpR (op_eqDK (K := K) rfl hr.units) (pv 9) (pe_lst pa_nil) (nomark _)) (pw_or (pt_not (pt_val (pe_fnG h_law_is_pushed hgd (hr.mono (by decide)) rfl (pa_cons (pv 1) (pa_cons (pv 4) (pa_cons (pv 5) (pa_cons (pv 7) pa_nil))))))) (pw_or1 (pt_not (pt_val (pe_fnG h_law_is_pushed hgd (hr.mono (by decide)) rfl (pa_cons (pv 1) (pa_cons (pv 4) (pa_cons (pv 6) (pa_cons (pv 9) pa_nil))))))))))) (pss_one (ps_ret pe_bl)) pss_nil)
      (pss_cons (ps_par (i := 10) (j := 11) rfl sc_law_by_pushes.nd rfl rfl (by decide) rfl rfl (pa_cons (pe_fn h_pushed (hr.mono (by decide)) rfl (pa_cons (pv 1) (pa_cons (pv 5) (pa_cons (pv 7) pa_nil)))) (pa_cons (pe_lc (own := [("_law_mask_here", 13)]) rfl sc_law_by_pushes.nd (pi_range1 rfl B.range_ (pa_cons (pe_op op_shl pe_int (pv 5)) pa_nil)) (blkOk_by (by kernel_rfl)) (fun _ _ _ _ _ => (pg_name (i := 13) sc_law_by_pushes.nd rfl (Or.inl rfl))) (fun _ _ _ _ _ => (pts_one (pt_cmpR (op_inK (K := K) rfl) (pe_fn h_law_back (hr.mono (by decide)) rfl (pa_cons (pv 7) (pa_cons (pv 13) pa_nil))) (pv 4) (by rfl)))) (fun _ _ _ _ _ => (pv 13))) pa_nil)) (by rfl))
      (pss_cons (ps_set (i := 12) sc_law_by_pushes.nd rfl (Or.inl rfl) (pe_callB (call_reprG (K := K) rfl hgd hr.units) rfl B.repr_ (by decide +kernel) (pa_cons (pe_fn h_law_stem (hr.mono (by decide)) rfl (pa_cons (pv 3) (pa_cons (pe_callB (cr_sortedSet rfl) rfl B.sorted_ (by decide +kernel) (pa_cons (pe_callTy (cr_setI rfl) rfl B.set_ (by decide +kernel) (pa_cons (pe_lc (own := [("_law_mask_here", 13)]) rfl sc_law_by_pushes.nd (pi_listK (K := K) rfl (pv 11)) (blkOk_by (by kernel_rfl)) (fun _ _ _ _ _ => (pg_name (i := 13) sc_law_by_pushes.nd rfl (Or.inl rfl))) (fun _ _ _ _ _ => pts_nil) (fun _ _ _ _ _ => (pe_fn h_law_back (hr.mono (by decide)) rfl (pa_cons (pv 7) (pa_cons (pv 13) pa_nil))))) pa_nil)) pa_nil)) pa_nil))) pa_nil)))
      (pss_cons (ps_expr (pe_bm PySem.F.plainAttrs_list PySem.F.slot_list_append PySem.F.type_list_append mt_append (pv 2) (pa_cons (pe_lst (pa_cons (pv 10) (pa_cons (pv 7) (pa_cons (pv 12) pa_nil)))) pa_nil)))
      (pss_cons (ps_if (pt_cmpR op_ne (pe_callB (call_reprG (K := K) rfl hgd hr.units) rfl B.repr_ (by decide +kernel) (pa_cons (pe_fn h_pulled (hr.mono (by decide)) rfl (pa_cons (pv 10) (pa_cons (pv 7) pa_nil))) pa_nil)) (pv 12) (nomark _)) (pss_one (ps_ret pe_bl)) pss_nil)
      (pss_one (ps_ret (pe_and (pe_fnG h_law_is_pushed hgd (hr.mono (by decide)) rfl (pa_cons (pv 10) (pa_cons (pv 11) (pa_cons (pv 6) (pa_cons (pv 8) pa_nil))))) (pe_one (pe_cmpR op_eq (pe_callB (call_reprG (K := K) rfl hgd hr.units) rfl B.repr_ (by decide +kernel) (pa_cons (pe_fn h_pushed (hr.mono (by decide)) rfl (pa_cons (pv 10) (pa_cons (pv 6) (pa_cons (pv 8) pa_nil)))) pa_nil)) (pe_callB (call_reprG (K := K) rfl hgd hr.units) rfl B.repr_ (by decide +kernel) (pa_cons (pe_fn h_pushed (hr.mono (by decide)) rfl (pa_cons (pv 1) (pa_cons (pv 6) (pa_cons (pv 9) pa_nil)))) pa_nil)) (nomark _)))))))))))))))), ?_⟩
  rintro F0 u g l cn _ _ ⟨k, rs, hb, rfl, rfl⟩ hu hk hcn σ c kR
  have U := bsV_in u g l cn F0 H
  have hk5 := hb.n5
  have hF := hb.fm
  have hfl := fam_len rs hk5
  refine q_asgG (ρ' := fun _ => [.at_ u, .da (bookD k rs), .at_ l, .da (nI k), .da (.list ((fam k rs).map nI)), .un, .un, .un, .un, .un, .un, .un, .un, .un]) c (E_tup (EA_2 (E_op (E_var rfl) (E_nat 0) (rd_ixT rfl)) (E_call (EA_2 (E_op (E_var rfl) (E_nat 0) (rd_ixT rfl)) (E_op (E_var rfl) (E_nat 1) (rd_ixT rfl))) ⟨k, rs, hb, rfl, rfl⟩))).x (fun d e => by subst e; exact GF_pair) fun d _ σ1 H1 c1 => ?_
  refine q_asgX c1 (XE_if (P := fun d => ∃ m, (m ≤ 5 ∧ (0 < k → 0 < m)) ∧ d = nI m) (ET_test (E_op (E_var rfl) (E_nat 0) rd_eqN)).x (fun h => (XE_draw U rfl (E_nat 6) (by decide) (by decide)).imp fun d ⟨m, hm, e⟩ => ⟨m, ⟨by omega, fun h2 => absurd h2 (by have : k = 0 := (by simpa using h.symm); omega)⟩, e⟩) fun h => XE_rdN (PA := fun z => z = 1) (PB := fun z => z < 5) (PC := fun m => m ≤ 5 ∧ (0 < k → 0 < m)) ((E_nat 1).xn rfl) (XE_draw U rfl (E_nat 5) (by decide) (by decide)) (fun a b _ _ => rd_addN) fun a b ha hb' => ⟨by omega, fun _ => by omega⟩) fun d ⟨m, hm, e⟩ σ2 H2 c2 => ?_
  subst e
  refine q_asgX c2 (XE_if (P := fun d => ∃ j, (j ≤ 4 ∧ (0 < m → 0 < j)) ∧ d = nI j) (ET_test (E_op (E_var rfl) (E_nat 0) rd_eqN)).x (fun h => (XE_draw U rfl (E_nat 5) (by decide) (by decide)).imp fun d ⟨j, hj, e⟩ => ⟨j, ⟨by omega, fun h2 => absurd h2 (by have : m = 0 := (by simpa using h.symm); omega)⟩, e⟩) fun h => XE_rdN (PA := fun z => z = 1) (PB := fun z => z < 4) (PC := fun j => j ≤ 4 ∧ (0 < m → 0 < j)) ((E_nat 1).xn rfl) (XE_draw U rfl (E_nat 4) (by decide) (by decide)) (fun a b _ _ => rd_addN) fun a b ha hb' => ⟨by omega, fun _ => by omega⟩) fun d ⟨j, hj, e⟩ σ3 H3 c3 => ?_
  subst e
  refine q_asgG (P := fun d => ∃ way far : List Nat, (way.length = k ∧ ∀ w ∈ way, w < m) ∧ (far.length = m ∧ ∀ w ∈ far, w < j) ∧ d = .tuple [mapD way, mapD far]) (ρ' := fun d => match d with
      | .tuple [x, y] => [.at_ u, .da (bookD k rs), .at_ l, .da (nI k), .da (.list ((fam k rs).map nI)), .da (nI m), .da (nI j), .da x, .da y, .un, .un, .un, .un, .un]
      | _ => []) c3 (XE_tup ((XA_2 (XE_map U rfl (E_var rfl) (E_var rfl) hk5 hm.1 hm.2) (XE_map U rfl (E_var rfl) (E_var rfl) hm.1 (by omega) hj.2)).imp fun ds ⟨x, y, e, ⟨way, hf, ex⟩, far, hw, ey⟩ => ?_)) (fun d ⟨way, far, _, _, e⟩ => by subst e; exact GF_pair) fun d ⟨way, far, hw, hf, e⟩ σ4 H4 c4 => ?_
  · subst e ex ey
    exact ⟨by simp, way, far, hf, hw, rfl⟩
  subst e
  obtain ⟨hwl1, hwl2⟩ := hw
  obtain ⟨hfl1, hfl2⟩ := hf
  subst hwl1 hfl1
  replace c4 : Con (bsV u g l cn F0 H) F0 [.at_ u, .da (bookD way.length rs), .at_ l, .da (nI way.length), .da (.list ((fam way.length rs).map nI)), .da (nI far.length), .da (nI j), .da (mapD way), .da (mapD far), .un, .un, .un, .un, .un] σ4 H4 := c4
  have hway : IsMap way far.length := ⟨hk5, hwl2⟩
  have hfar : IsMap far j := ⟨hm.1, hfl2⟩
  have hal : IsMap (afterM way far) j := after_map hway hfl2
  have hj5 : j ≤ 5 := by have := hj.1; omega
  have hlen := after_len (ws := way) (vs := far)
  have hb2 : Bk (afterM way far).length rs := by rw [hlen]; exact hb
  have hB := push_bk hb hway hm.1
  have hpf := push_fam hb hway hm.1
  have hPF := push_fm hb hway hm.1
  have hpl := push_len (cl := fam way.length rs) (ws := way) hm.1
  have h5 := pow5 hm.1
  have hB2 := push_bk hB hfar hj5
  have hB3 := push_bk hb2 hal hj5
  have hLF := low_fm hPF hway
  have heq : pushR (pushR rs far.length way) j far = pushR rs j (afterM way far) := by
    rw [push_eq hB hfar hj5, push_eq hb2 hal hj5, hpf, push_push hway, hlen]
  have hdue : pullR far.length (pushR rs far.length way) way = stemL way.length (lowL (pushL far.length (fam way.length rs) way) way) := by rw [pull_eq hB hway, hpf]
  have hB4 := pull_bk hB hway
  have hbook : bookD way.length (stemL way.length (lowL (pushL far.length (fam way.length rs) way) way)) = bookD way.length (pullR far.length (pushR rs far.length way) way) := by rw [hdue]
  refine q_asg c4 (E_call (EA_2 (E_var rfl) (E_var rfl)) ⟨j, way, far, hway, hj5, hfl2, rfl, rfl⟩) fun σ5 H5 c5 => ?_
  refine q_whenF c5 ((ET_or (ET_test (E_op (E_var rfl) (E_lst EA_nil) rd_mapNil)) fun _ => ET_or (ET_not (ET_test (E_call (EA_cons (E_var rfl) (EA_3 (E_var rfl) (E_var rfl) (E_var rfl))) ⟨rs, far.length, way, hb, hm.1, hway, rfl, rfl⟩))) fun _ => ET_not (ET_test (E_call (EA_cons (E_var rfl) (EA_3 (E_var rfl) (E_var rfl) (E_var rfl))) ⟨rs, j, afterM way far, hb2, hj5, hal, by rw [hlen], rfl⟩))).to rfl) fun H6 c6 => ?_
  refine q_parX c6 (EA_2 (E_call (EA_3 (E_var rfl) (E_var rfl) (E_var rfl)) ⟨rs, far.length, way, hb, hm.1, hway, rfl, rfl⟩) ((E_lc (ys := List.range (1 <<< far.length)) (enc := nI) (f := nI) (p := fun m => (fam way.length rs).contains (backM way m)) (WI_rng (EA_1 (E_op (E_nat 1) (E_var rfl) (rd_shl (by decide) (by omega)))) (by rw [shl1]; omega)) (by rw [List.length_range, shl1]; omega) (fun y _ => GB_name (by decide)) (fun y _ => ET_test (E_op (E_call (EA_2 (E_var rfl) (E_var rfl)) ⟨way, y, hk5, rfl, rfl⟩) (E_var rfl) rd_inN)) (fun y _ _ => E_var rfl)).to (d' := .list ((pushL far.length (fam way.length rs) way).map nI)) rfl)).x (fun ds e => ⟨_, _, e⟩) fun d e eq σ7 H7 c7 => ?_
  injection eq with e1 e2
  injection e2 with e2 _
  subst e1 e2
  refine q_asg c7 ((E_repr (E_call (EA_2 (E_var rfl) (E_sortedSet (ms := (pushL far.length (fam way.length rs) way).map (backM way)) ((E_lc1 (ys := pushL far.length (fam way.length rs) way) (enc := nI) (f := fun o => nI (backM way o)) (WI_list (E_var rfl)) (by omega) (fun o _ => GB_name (by decide)) (fun o _ => E_call (EA_2 (E_var rfl) (E_var rfl)) ⟨way, o, hk5, rfl, rfl⟩)).to (by rw [List.map_map]; rfl)) (fun x hx => by
    obtain ⟨y, _, rfl⟩ := List.mem_map.mp hx
    have h1 := back_lt (ws := way) (m := y)
    have h2 := pow5 hk5
    omega) (by rw [List.length_map]; omega))) ⟨way.length, lowL (pushL far.length (fam way.length rs) way) way, hLF, low_lt _ _, rfl, rfl⟩) inr2 (n_book (stemL_bk hLF (low_lt _ _)))).to (d' := .str (Kn.text ⟨far.length, pushR rs far.length way, way⟩)) (by show PyData.str (bookD way.length (stemL way.length (lowL (pushL far.length (fam way.length rs) way) way))).shown = .str (bookD way.length (pullR far.length (pushR rs far.length way) way)).shown; rw [hbook])) fun σ8 H8 c8 => ?_
  refine q_appK (q := ⟨far.length, pushR rs far.length way, way⟩) c8 rfl (E_lst (EA_3 (E_var rfl) (E_var rfl) (E_var rfl))) ⟨hB, hway⟩ hcn fun H9 c9 => ?_
  have U2 := bsV_in u g l (cn + 1) F0 H
  refine q_whenF c9 (ET_neR (E_repr (E_call (EA_2 (E_var rfl) (E_var rfl)) ⟨far.length, pushR rs far.length way, way, hB, hway, rfl, rfl⟩) inr2 (n_book hB4)) (E_var rfl) rfl) fun H10 c10 => ?_
  refine s_ret c10 ((E_andV (E_call (EA_cons (E_var rfl) (EA_3 ((E_var rfl).to (d' := .list ((fam far.length (pushR rs far.length way)).map nI)) (by rw [hpf])) (E_var rfl) (E_var rfl))) ⟨pushR rs far.length way, j, far, hB, hj5, hfar, rfl, rfl⟩) fun _ => E_eqR (E_repr (E_call (EA_3 (E_var rfl) (E_var rfl) (E_var rfl)) ⟨pushR rs far.length way, j, far, hB, hj5, hfar, rfl, rfl⟩) inr2 (n_book hB2)) (E_repr (E_call (EA_3 (E_var rfl) (E_var rfl) (E_var rfl)) ⟨rs, j, afterM way far, hb2, hj5, hal, by rw [hlen], rfl⟩) inr2 (n_book hB3)) (by rw [heq])).to (d' := .bool true) rfl) fun v H' r => kR v _ H' ⟨_, rs, hb, rfl, rfl⟩ r
end
end ML
set_option Elab.async false
set_option linter.all false
set_option maxRecDepth 100000
set_option maxHeartbeats 4000000
/-! the urn's making, and the law -/
namespace ML
open PySem PySem.Spec PyProof.Rows L2
open Evl (Ex fresh_back)

/-! ### the script -/
def ScI (K : PySem.W.Frag) (a : Addr) (ns : List Int) : Hp → Hp → Prop := fun F _ => SqL K F a (ns.map V.int)
theorem sq_up {K : PySem.W.Frag} {F F' : Hp} {a : Addr} {xs : List V} (e : Ex F F') (h : SqL K F a xs) : SqL K F' a xs := h.elim (fun h => .inl (Evl.ex_rd e h)) .inr
instance scStb (K : PySem.W.Frag) (a : Addr) (ns : List Int) : Stb (ScI K a ns) NoN := ⟨fun s h => sq_up s.ff h, fun _ _ z => z, fun _ z => z.elim, fun h _ _ _ => h, fun _ _ _ z => z, fun h _ f _ => sq_up (Ex.new f) h⟩
abbrev bsS (K : PySem.W.Frag) (a : Addr) (ns : List Int) (F H : Hp) : Bs := ⟨NoM, ScI K a ns, NoN, F, H⟩
theorem cut63 (ns : List Int) : cutV (ns.map V.int) none (some 63) = (ns.take 63).map V.int := by
  unfold cutV
  rw [sIx_none, List.length_map, List.drop_zero, Nat.sub_zero, List.map_take]
  by_cases hl : 63 ≤ ns.length
  · rw [show HT.sIx ns.length ns.length (some (63 : Int)) = 63 from sIx_nat (k := 63) hl]
  · have h1 : HT.sIx ns.length ns.length (some (63 : Int)) = ns.length := by
      unfold HT.sIx
      simp
      omega
    rw [h1, List.take_of_length_le (by rw [List.length_map]; omega), List.take_of_length_le (by rw [List.length_map]; omega)]
section
variable {K : PySem.W.Frag} {a : Addr} {ns : List Int} {F0 H0 : Hp} {ρ : List Sl} {i : Nat}
theorem XE_scLen (hi : ρ[i]? = some (.at_ a)) : XE (bsS K a ns F0 H0) (tCB (fun xs H Q => ∃ x n, xs = [x] ∧ LenV K x H n ∧ Q (.int n) H) (tCons (tVar i) tNil)) ρ (fun d => d = nI ns.length) := fun κ G σ H c Q q => by
  obtain ⟨F, c, hk⟩ := c
  have hs : SqL K F a (ns.map V.int) := c.2.2.1
  refine ⟨.ref a, c.2.2.2.2.2 i _ hi, _, _, rfl, .inl ⟨_, sq_up c.fh hs, rfl⟩, q _ (nI ns.length) H rfl ⟨F, c, held_cons (.cons ?_ .nil) hk⟩⟩
  rw [List.length_map]
  exact .int _
theorem XE_scSl (hi : ρ[i]? = some (.at_ a)) : XE (bsS K a ns F0 H0) (tSl (rSlL K) (tVar i) tNoPart (tPart (tC (.int 63)))) ρ (fun d => d = .list ((ns.take 63).map .int)) := fun κ G σ H c Q q => by
  obtain ⟨F, c, hk⟩ := c
  have hs : SqL K F a (ns.map V.int) := c.2.2.1
  refine ⟨.ref a, c.2.2.2.2.2 i _ hi, 63, rfl, a, _, rfl, sq_up c.fh hs, fun p hp => ?_⟩
  have s := Stq.new (o := .lst (cutV (ns.map V.int) none (some 63))) c.fh hp
  refine q _ _ _ rfl ⟨_, c.pure s, held_cons (.cons (.lst upd_same ?_) .nil) (held_up s.ff hk)⟩
  rw [cut63]
  exact DVs.ofInts _
end
def spUrn (K : PySem.W.Frag) : Sp := fun vs H Q _ => ∃ (F : Hp) (a : Addr) (ns : List Int), vs = [.ref a] ∧ Ex F H ∧ SqL K F a (ns.map V.int) ∧ ns.length ≤ 100000 ∧
  ∀ u g F' H', Stq F H F' H' → H u = none → H g = none → UrnOk u g F' H' → Q (.ref u) H'
theorem rd_mulN {m n : Nat} (h : m < 2 ^ 63 ∨ n < 2 ^ 63) : RD (rI CMul fun i j => .int (i * j)) (nI m) (nI n) (nI (m * n)) := rd_I (by
  unfold CMul
  rcases h with h | h
  · exact .inl ⟨by omega, by omega⟩
  · exact .inr ⟨by omega, by omega⟩) fun F => by
  rw [show ((m : Nat) : Int) * ((n : Nat) : Int) = ((m * n : Nat) : Int) from by simp]
  exact .int _
theorem dvs_nats {F : Hp} {vs : List V} {gs : List Nat} (h : DVs F vs (gs.map nI)) : vs = gs.map fun n => V.int ((n : Nat) : Int) := by
  rw [nats_ints] at h
  rw [h.ints, List.map_map]
  rfl
theorem tLc_list {K : PySem.W.Frag} {tl : TE} {g : TG} {tt : TT} {te : TE} {vs : List Nat} {σ : L2.St} {H : Hp} {Q : VK} (h : tl σ H fun v H1 => ∃ a, v = .ref a ∧ (∃ xs, SqL K H1 a xs) ∧ Lk (Itl K a) g tt te vs σ H1 Q) : tLc (iList K tl) g tt te vs σ H Q := h
theorem start_one {N : List Str} {v : V} {F H : Hp} {Z : Addr → Prop} {s : Sl} (hN : 1 ≤ N.length) (hs : SlOk Z F H (some (some v)) s) : EnvOk Z F H (L2.start N [v]) (s :: List.replicate (N.length - 1) Sl.un) := by
  refine ⟨by unfold L2.start; simp, fun i t hi => ?_⟩
  cases i with
  | zero =>
    have e : t = s := by simpa using hi.symm
    subst e
    have e2 : (L2.start N [v])[0]? = some (some v) := by unfold L2.start; simp
    rw [e2]
    exact hs
  | succ i =>
    have h2 : (List.replicate (N.length - 1) Sl.un)[i]? = some t := by simpa using hi
    rw [List.getElem?_replicate] at h2
    split at h2
    · simp only [Option.some.injEq] at h2
      subst h2
      trivial
    · cases h2
section
variable {P : Program} {w : World} {K : PySem.W.Frag} {mg : Str → Option Value} {base : Heap} {f : Addr} {fd : FuncData}
theorem sc_law_urn : FnScope ["_law_script", "_law_mixed", "_law_cell"] ["_law_script"] (defScope s_law_urn) := ⟨rfl, rfl, rfl, by decide +kernel, rfl, by decide +kernel, by decide +kernel⟩
theorem ok_law_urn (B : Bl mg) (F : FnP K "_law_urn" s_law_urn f fd) : FnOk P w K mg base CX0 1 f fd ["_law_script"] (spUrn K) := by
  refine F.ok sc_law_urn (fun vs H Q E h => ?_) (fun cdv A outer s H vs Q X hr h => ?_)
  · obtain ⟨_, _, _, rfl, _⟩ := h
    rfl
  · obtain ⟨F0, a, ns, rfl, e, hs, hl, q⟩ := h
    refine ⟨_, PSs.nox (
    (pss_cons (ps_set (i := 1) sc_law_urn.nd rfl (Or.inl rfl) (pe_op op_add pe_int (pe_callB (call_lenK (K := K) rfl) rfl B.len_ (by decide +kernel) (pa_cons (pv 0) pa_nil))))
      (pss_cons (ps_for PassesOwn.never rfl (pi_listK (K := K) rfl (pe_slice (sl_listK (K := K) rfl) (pv 0) po_none (po_some pe_int))) (pg_name (i := 2) sc_law_urn.nd rfl (Or.inl rfl)) (pss_cons (ps_set (i := 1) sc_law_urn.nd rfl (Or.inl rfl) (pe_op op_modN (pe_callTy call_int1 rfl B.int_ (by decide +kernel) (pa_cons (pe_op op_add (pe_op op_add (pe_op op_mul (pv 1) pe_int) (pe_op op_mul pe_int (pe_callB call_abs rfl B.abs_ (by decide +kernel) (pa_cons (pv 2) pa_nil)))) (pe_callTy call_int1 rfl B.int_ (by decide +kernel) (pa_cons (pe_cmpR op_lt (pv 2) pe_int (nomark _)) pa_nil))) pa_nil)) pe_int))
      (pss_one (ps_set (i := 1) sc_law_urn.nd rfl (Or.inl rfl) (pe_op op_modN (pe_callTy call_int1 rfl B.int_ (by decide +kernel) (pa_cons (pe_op op_add (pe_op op_mul (pv 1) (pv 1)) pe_int) pa_nil)) pe_int)))))
      (pss_one (ps_ret (pe_disp (pps_cons pe_str (pe_lc (own := [("_law_cell", 2)]) rfl sc_law_urn.nd (pi_listK (K := K) rfl (pe_slice (sl_listK (K := K) rfl) (pv 0) po_none (po_some pe_int))) (blkOk_by (by kernel_rfl)) (fun _ _ _ _ _ => (pg_name (i := 2) sc_law_urn.nd rfl (Or.inl rfl))) (fun _ _ _ _ _ => (pts_one (pt_cmpR op_ge (pe_callB call_abs rfl B.abs_ (by decide +kernel) (pa_cons (pv 2) pa_nil)) (pe_op op_pow pe_int pe_int) (nomark _)))) (fun _ _ _ _ _ => (pe_callB call_abs rfl B.abs_ (by decide +kernel) (pa_cons (pv 2) pa_nil)))) (pps_cons pe_str (pv 1) pps_nil)) rfl rfl (by simp) (by decide)))))) ), ?_⟩
    have c : Con (bsS K a ns F0 H) F0 [.at_ a, .un, .un] (L2.start ["_law_script", "_law_mixed", "_law_cell"] [.ref a]) H := ⟨F0, Stp.refl e, Ex.refl F0, hs, fun _ z => z.elim, start_one (N := ["_law_script", "_law_mixed", "_law_cell"]) (by decide) rfl⟩
    refine q_asgX c (XE_op (P3 := fun d => d = nI (1009 + ns.length)) (E_nat 1009).x (XE_scLen rfl) fun x y ex ey => by subst ex ey; exact ⟨_, rd_addN, rfl⟩) fun d ed σ1 H1 c1 => ?_
    subst ed
    refine q_forLst (PL := fun ds => ds = (ns.take 63).map PyData.int) c1 ((XE_scSl rfl).imp fun d ed => ⟨_, ed, rfl⟩) fun ds eds J F2 H2 c2 W => ?_
    subst eds
    refine for_coreE (β := Nat) (ys := ns.take 63) (enc := PyData.int) (fun m => [.at_ a, .da (nI m), .un]) (fun i m => m < 2 ^ 61) (1009 + ns.length) c2 W (.of rfl) (by omega) (fun s y _ => GF_name) (fun G1 e1 i m z σ3 H3 hy pf c3 => ?_) fun m σ3 H3 pf c3 => ?_
    · have hbl : E (tCB (fun xs H Q => (∃ i, xs = [V.int i] ∧ Q (V.int i) H) ∨ ∃ k, xs = [V.bl k] ∧ Q (V.int (if k = true then 1 else 0)) H) (tCons (tOp (rI0 fun i j => .bl (decide (i < j))) (tVar 2) (tC (.int 0))) tNil)) [.at_ a, .da (nI m), .da (.int z)] (nI (if decide (z < 0) = true then 1 else 0)) := (E_cb (EA_1 (E_op (E_var rfl) (E_int (i := 0)) rd_lt)) rc_intB).to (by split <;> rfl)
      refine q_asg c3 (E_op (E_cb (EA_1 (E_op (E_op (E_op (E_var rfl) (E_nat 16807) (rd_mulN (.inr (by decide)))) (E_op (E_nat 2) (E_cb (EA_1 (E_var rfl)) rc_abs) (rd_mulN (.inl (by decide)))) rd_addN) hbl rd_addN)) rc_int) (E_nat 2305843009213693951) (rd_modN (by decide))) fun σ4 H4 c4 => ?_
      have hm1 : (m * 16807 + 2 * z.natAbs + (if decide (z < 0) = true then 1 else 0)) % 2305843009213693951 < 2 ^ 61 := Nat.lt_of_lt_of_le (Nat.mod_lt _ (by decide)) (by decide)
      generalize (m * 16807 + 2 * z.natAbs + (if decide (z < 0) = true then 1 else 0)) % 2305843009213693951 = m1 at hm1 c4
      refine s_asg c4 (E_op (E_cb (EA_1 (E_op (E_op (E_var rfl) (E_var rfl) (rd_mulN (.inl (by omega)))) (E_nat 11) rd_addN)) rc_int) (E_nat 2305843009213693921) (rd_modN (by decide))) fun σ5 H5 c5 => ⟨_, Nat.lt_of_lt_of_le (Nat.mod_lt _ (by decide)) (by decide), c5.lss (.cons (.cons (.un .nil)))⟩
    · obtain ⟨F3, c3⟩ := c3
      intro p hp
      have fp := fresh_back c3.fh hp
      have c0 := c3.2.2.2.2.2 0 _ rfl
      obtain ⟨vm, cm, dm⟩ := c3.2.2.2.2.2 1 _ rfl
      cases dm
      have hs3 : SqL K F3 a (ns.map V.int) := c3.2.2.1
      have s4 : Stq F3 H3 F3 (upd H3 p (.dK [])) := ⟨fun b w qb _ => by rw [upd_ne (ne_of_none qb hp)]; exact qb, Ex.refl F3, ex_upd_new c3.fh fp, fun b qb _ => qb⟩
      dsimp only [tPairs, tC]
      refine tLc_list ?_
      refine ⟨.ref a, c0, 63, rfl, a, _, rfl, sq_up s4.fh hs3, fun x hx => ?_⟩
      have hxp : x ≠ p := fun z => by rw [z, upd_same] at hx; cases hx
      have hx3 : H3 x = none := by rwa [upd_ne hxp] at hx
      have s5 := Stq.new (o := .lst (cutV (ns.map V.int) none (some 63))) s4.fh hx
      have s45 := Stq.trans s4 s5
      have hdv : DVs (upd F3 x (.lst (cutV (ns.map V.int) none (some 63)))) (cutV (ns.map V.int) none (some 63)) ((ns.take 63).map PyData.int) := by
        rw [cut63]; exact DVs.ofInts _
      refine ⟨x, rfl, ⟨_, SqL.of upd_same⟩, ?_⟩
      refine lc_at (ρ := [.at_ a, .da (nI m), .un]) (ys := ns.take 63) (enc := PyData.int) (f := fun z => nI z.natAbs) (p := fun z => decide (((10 : Int) ^ (18 : Int).toNat) ≤ ((z.natAbs : Nat) : Int))) s5.fh (c3.env.up s45) (walk_list upd_same hdv) (by rw [List.length_take]; omega) (fun y _ => GB_name (by decide)) (fun y _ => ET_test (E_op (E_cb (EA_1 (E_var rfl)) rc_abs) (E_op E_int E_int (rd_I (i := 10) (j := 18) ⟨by decide, by decide, by decide⟩ fun F => .int _)) rd_ge)) (fun y _ _ => E_cb (EA_1 (E_var rfl)) rc_abs) fun D acc F6 H6 s6 hD fD hacc dacc => ?_
      refine ⟨_, cm, ?_⟩
      have hp5 : (upd (upd H3 p (.dK [])) x (.lst (cutV (ns.map V.int) none (some 63)))) p = some (.dK []) := by rw [upd_ne fun z => hxp z.symm, upd_same]
      have hp6 := s6.ex p _ hp5
      refine ⟨hp6, [(.inr "great", .ref D), (.inr "mixed", .int ((m : Nat) : Int))], rfl, by show 2 ≤ 15; decide, ?_⟩
      have hDp : p ≠ D := fun z => by subst z; rw [hD] at hp5; cases hp5
      have s36 := Stq.trans s45 s6
      have s06 : Stq F0 H F6 H6 := Stp.then c3.1 s36 fun _ z => z.elim
      have old : ∀ y, H3 y = none → H y = none := fun y hy => by
        cases w : H y with
        | none => rfl
        | some o => rw [Stq.ex c3.1 y o w] at hy; cases hy
      have hD3 : H3 D = none := by
        cases w : H3 D with
        | none => rfl
        | some o => rw [s45.ex D o w] at hD; cases hD
      have f6p : F6 p = none := s6.nw p (s5.nw p fp (by rw [upd_same]; simp)) (by rw [hp5]; simp)
      have egs : (((ns.take 63).filter fun z => decide (((10 : Int) ^ (18 : Int).toNat) ≤ ((z.natAbs : Nat) : Int))).map fun z => nI z.natAbs) = (((ns.take 63).filter fun z => decide (((10 : Int) ^ (18 : Int).toNat) ≤ ((z.natAbs : Nat) : Int))).map fun z : Int => z.natAbs).map nI := by rw [List.map_map]; rfl
      rw [egs] at dacc
      have hacc2 := dvs_nats dacc
      refine q p D F6 _ ⟨fun y o hy _ => ?_, s06.ff, ex_upd_new s06.fh f6p, s06.nw⟩ (old p hp) (old D hD3) ⟨f6p, fD, _, m, upd_same, by rw [upd_ne fun z => hDp z.symm, ← hacc2]; exact hacc, ?_, pf⟩
      · rw [upd_ne fun z => by rw [z, old p hp] at hy; cases hy]
        exact s06.ex y o hy
      · rw [List.length_map]
        refine Nat.le_trans (List.length_filter_le _ _) ?_
        rw [List.length_take]
        omega
end
end ML
set_option Elab.async false
set_option linter.all false
set_option maxRecDepth 100000
set_option maxHeartbeats 4000000
/-! the law -/
namespace ML
open PySem PySem.Spec PyProof.Rows L2
open Evl (Ex fresh_back)
section
variable {K : PySem.W.Frag} {G F F' H H' : Hp} {ρ : List Sl} {σ : L2.St} {D : Ends} {tu tz : TS} {te : TE} {tt : TT}
/-- a for over a pure walk; what is kept may grow from turn to turn -/
theorem for_coreB {α β : Type} (bs : β → Bs) [∀ s, Stb (bs s).I (bs s).N] {J : It} {g : TG} {ys : List α} {enc : α → PyData} {ρb : β → α → List Sl} {F1 H1 : Hp} (ρs : β → List Sl) (Pf : Nat → β → Prop) (s0 : β) (c1 : ConF (bs s0) G F1 ρ σ H1) (W : WalkOk J (ys.map enc) F1) (h0 : Lss ρ (ρs s0)) (p0 : Pf 0 s0) (hg : ∀ s y, y ∈ ys → GF g (ρs s) (enc y) (ρb s y))
    (hs : ∀ G1, Ex G G1 → ∀ i s y σ' H', ys[i]? = some y → Pf i s → Con (bs s) G1 (ρb s y) σ' H' → tu { D with nx := fun σ2 H2 => ∃ s', Pf (i + 1) s' ∧ Con (bs s') G1 (ρs s') σ2 H2, ct := fun σ2 H2 => ∃ s', Pf (i + 1) s' ∧ Con (bs s') G1 (ρs s') σ2 H2, bk := D.nx } σ' H')
    (hd : ∀ s σ' H', Pf ys.length s → Con (bs s) G (ρs s) σ' H' → D.nx σ' H') : Wk J g tu D σ H1 := by
  have e1 : Ex G F1 := c1.2.1
  refine ⟨fun i m' σ' H' => m' = ys.length - i ∧ i ≤ ys.length ∧ ∃ s, Pf i s ∧ Con (bs s) F1 (ρs s) σ' H', ⟨ys.length, by simp, Nat.zero_le _, s0, p0, F1, c1.1, Ex.refl F1, c1.2.2.1, c1.2.2.2.1, c1.2.2.2.2.less h0⟩, ?_⟩
  rintro i m' σ' H' ⟨rfl, hi, s, pf, c'⟩
  obtain ⟨F2, c2⟩ := id c'
  have g2 := c2.2.1
  by_cases hlt : i < ys.length
  · refine .inr ⟨W.go i H' (by rw [List.length_map]; exact hlt) (g2.trans c2.fh), fun σ2 H2 => ∃ s', Pf (i + 1) s' ∧ Con (bs s') F1 (ρs s') σ2 H2, fun σ3 H3 h3 => ⟨ys.length - (i + 1), by omega, rfl, hlt, h3⟩, fun x H3 y => ?_⟩
    have hy : ys[i]? = some ys[i] := List.getElem?_eq_getElem hlt
    obtain ⟨F3, s3, dx⟩ := W.yld i H' x H3 (enc ys[i]) F2 (by rw [List.getElem?_map, hy]; rfl) g2 c2.fh y
    exact (c2.pure s3).tgt (hg s _ (List.mem_of_getElem? hy)) dx fun σ3 c3 => hs F1 e1 i s _ σ3 H3 hy pf ⟨F3, c3⟩
  · refine .inl ⟨W.stop i H' (by rw [List.length_map]; omega) (g2.trans c2.fh), ?_⟩
    have : i = ys.length := by omega
    subst this
    exact hd s σ' H' pf (c'.less e1)
theorem q_forB {α β : Type} (bs : β → Bs) [∀ s, Stb (bs s).I (bs s).N] {wi : TI} {g : TG} {ys : List α} {enc : α → PyData} {ρb : β → α → List Sl} (ρs : β → List Sl) (Pf : Nat → β → Prop) (s0 : β) (c : Con (bs s0) G ρ σ H) (hW : WI wi ρ (ys.map enc)) (h0 : Lss ρ (ρs s0)) (p0 : Pf 0 s0) (hg : ∀ s y, y ∈ ys → GF g (ρs s) (enc y) (ρb s y))
    (hs : ∀ G1, Ex G G1 → ∀ i s y σ' H', ys[i]? = some y → Pf i s → Con (bs s) G1 (ρb s y) σ' H' → tu { D with nx := fun σ2 H2 => ∃ s', Pf (i + 1) s' ∧ Con (bs s') G1 (ρs s') σ2 H2, ct := fun σ2 H2 => ∃ s', Pf (i + 1) s' ∧ Con (bs s') G1 (ρs s') σ2 H2, bk := tz D } σ' H')
    (hd : ∀ s σ' H', Pf ys.length s → Con (bs s) G (ρs s) σ' H' → tz D σ' H') : tSeq (tFor wi g tu) tz D σ H := by
  obtain ⟨F, c⟩ := c
  exact hW σ F H c.fh c.env _ fun J F1 H1 s1 W => for_coreB (D := { D with nx := tz D }) bs ρs Pf s0 (c.pure s1) W h0 p0 hg hs hd
variable {u g l : Addr} {cn : Nat} {F0 H0 : Hp} {v : V} {d0 : PyData} {R : List PyData → PyData → Prop} {P : PyData → Prop} {X : XK}
theorem kn_more (c : Con (bsV u g l cn F0 H0) G ρ σ H) : Con (bsV u g l (cn + 1) F0 H0) G ρ σ H := by
  obtain ⟨F, st, gx, ⟨g', hu, hg, hk, n1, n2⟩, m, o⟩ := c
  exact ⟨F, st, gx, ⟨g', hu, hg, hk.mono (Nat.le_succ cn), n1, n2⟩, m, o⟩
theorem v_call (c : ConF (bsV u g l cn F0 H0) G F ρ σ H) (hpl : plainR ρ = true) (hcn : cn < 1000) (dv : DV F v d0) (hR : ∃ d, R [d0] d) {Q : VK} (q : ∀ v' d F' H', R [d0] d → ConF (bsV u g l (cn + 1) F0 H0) G F' ρ σ H' → DV F' v' d → Q v' H') : spV R [.ref u, v, .ref l] H Q X := by
  obtain ⟨st, gx, ⟨g', hu, hg, hk, n1, n2⟩, m, o⟩ := id c
  refine ⟨F, u, g', l, cn, v, d0, rfl, c.fh, hu, hk, n1, n2, hcn, dv, hR, fun v' d F' H' g2 hr s h2 e2 h3 hk' n3 dv' => ?_⟩
  have hn : ∀ a, H0 a ≠ none → H a ≠ none := fun a ha => by
    by_cases hm : VG u g l a
    · exact m a hm
    · exact st.sets ha hm
  have keep : ∀ a, H a ≠ none → H' a ≠ none := fun a ha => by
    by_cases hm : VG u g' l a
    · rcases hm with rfl | rfl | rfl
      · exact h2.hu
      · exact h3
      · exact hk'.hl
    · exact s.sets ha hm
  refine q v' d F' H' hr ⟨⟨fun a w ha hm => ?_, st.ff.trans s.ff, s.fh, fun a ha h0 => s.nw a (st.nw a ha h0) (hn a h0)⟩, gx.trans s.ff, ⟨g2, h2, ?_, hk', n1, n3⟩, fun a ha => keep a (m a ha), o.plain s.ff hpl⟩ dv'
  · refine s.hh a w (st.hh a w ha hm) fun z => ?_
    rcases z with rfl | rfl | rfl
    · exact hm (.inl rfl)
    · rcases hg with hg | hg
      · exact hm (.inr (.inl hg))
      · exact absurd (hg.symm.trans ha) (by simp)
    · exact hm (.inr (.inr rfl))
  · rcases e2 with rfl | e2
    · exact hg
    · right
      cases q3 : H0 g2 with
      | none => rfl
      | some w => exact absurd e2 (hn g2 (by rw [q3]; simp))
/-- if .. and not f(urn, a book, what is kept): return False -/
theorem s_known {i j : Nat} {x : Bool} (c : Con (bsV u g l cn F0 H0) G ρ σ H) (ht : ET tt ρ x) (hi : ρ[i]? = some (.at_ u)) (hj : ρ[j]? = some (.at_ l)) (h : XE (bsV u g l cn F0 H0) te ρ P) (hR : ∀ d, P d → R [d] (.bool true)) (hR1 : ∀ d e, R [d] e → e = .bool true) (hpl : plainR ρ = true) (hcn : cn < 1000)
    (k : ∀ H', Con (bsV u g l (cn + 1) F0 H0) G ρ σ H' → D.nx σ H') : tIfS (tAnd tt (tNot (tTest (tCall (spV R) [] X (tCons (tVar i) (tCons te (tCons (tVar j) tNil))))))) tu tNext D σ H := by
  obtain ⟨F1, c⟩ := c
  refine ht σ F1 H c.fh c.env _ fun F2 H2 s2 => ?_
  have c2 := c.pure s2
  cases x with
  | false =>
    show D.nx σ H2
    exact k H2 (kn_more ⟨F2, c2⟩)
  | true =>
    refine ⟨.ref u, c2.2.2.2.2.2 i _ hi, h [] G σ H2 ⟨F2, c2, fun p hp => by cases hp⟩ _ fun v d H3 pd c3 => ?_⟩
    obtain ⟨F3, c3, hk3⟩ := c3
    refine ⟨.ref l, c3.2.2.2.2.2 j _ hj, ?_⟩
    refine v_call (X := X) c3 hpl hcn (one_dv (hk3 _ List.mem_cons_self)) ⟨_, hR d pd⟩ fun v' d' F' H' hr c4 dv' => ?_
    have e := hR1 d d' hr
    subst e
    cases dv'
    exact ⟨true, rfl, k H' ⟨F', c4⟩⟩
theorem q_known {i j : Nat} {x : Bool} (c : Con (bsV u g l cn F0 H0) G ρ σ H) (ht : ET tt ρ x) (hi : ρ[i]? = some (.at_ u)) (hj : ρ[j]? = some (.at_ l)) (h : XE (bsV u g l cn F0 H0) te ρ P) (hR : ∀ d, P d → R [d] (.bool true)) (hR1 : ∀ d e, R [d] e → e = .bool true) (hpl : plainR ρ = true) (hcn : cn < 1000)
    (k : ∀ H', Con (bsV u g l (cn + 1) F0 H0) G ρ σ H' → tz D σ H') : tSeq (tIfS (tAnd tt (tNot (tTest (tCall (spV R) [] X (tCons (tVar i) (tCons te (tCons (tVar j) tNil))))))) tu tNext) tz D σ H := s_known (D := { D with nx := tz D }) c ht hi hj h hR hR1 hpl hcn k
end
theorem GB_lst3 {K : PySem.W.Frag} {vs : List Nat} {ρ : List Sl} {d1 d2 d3 : PyData} {i j k : Nat} (hi : i ∈ vs) (hj : j ∈ vs) (hk : k ∈ vs) : GB (gLst K 3 (gCons (gName i) (gCons (gName j) (gCons (gName k) gNil)))) vs ρ (.list [d1, d2, d3]) (((ρ.set i (.da d1)).set j (.da d2)).set k (.da d3)) := fun σ F H v e o dv Q q => by
  cases dv with
  | lst h1 h2 =>
    cases h2 with
    | cons a1 a2 =>
      cases a2 with
      | cons a3 a4 =>
        cases a4 with
        | cons a5 a6 =>
          cases a6
          exact ⟨_, _, rfl, SqL.of (e _ _ h1), rfl, _, _, rfl, _, _, rfl, _, _, rfl, rfl, q _ (((o.da a1).da a3).da a5) (by rw [wipe_set _ _ _ hk, wipe_set _ _ _ hj, wipe_set _ _ _ hi])⟩
theorem XE_bag {b : Bs} [Stb b.I b.N] {ρ : List Sl} {te tf : TE} {i : Nat} {u : Addr} {X : XK} {n k : Nat} (U : UrnIn b u) (hi : ρ[i]? = some (.at_ u)) (h : E te ρ (nI n)) (hn : n ≤ 5) (h2 : E tf ρ (nI k)) : XE b (tCall (spU R_law_bag) [] X (tCons (tVar i) (tCons te (tCons tf tNil)))) ρ (fun d => ∃ rs, Bk n rs ∧ d = bookD n rs) :=
  (XE_urn U hi (EA_2 h h2).x fun ds e => by subst e; exact ⟨bookD n [], n, k, hn, rfl, [], ⟨hn, Nat.zero_le _, fun r hr => by cases hr⟩, rfl⟩).imp fun d ⟨ds, e, n', k', _, e2, rs, hb, ed⟩ => by
    subst e
    injection e2 with e2
    rw [nI_inj e2]
    exact ⟨rs, hb, ed⟩
def spLaw (K : PySem.W.Frag) : Sp := fun vs H Q _ => ∃ (a : Addr) (ns : List Int), vs = [.ref a] ∧ ns.length ≤ 63 ∧ SqL K H a (ns.map V.int) ∧ ∀ H', Q (.bl true) H'
section
variable {P : Program} {w : World} {K : PySem.W.Frag} {mg : Str → Option Value} {base : Heap} {f : Addr} {fd : FuncData}
theorem sc_law : FnScope ["_law_script", "_law_urn_here", "_law_known", "_law_first", "_law_turn", "_law_kind", "_law_wide", "_law_bag_here", "_law_way", "_law_due"] ["_law_script"] (defScope s_law) := ⟨rfl, rfl, rfl, by decide +kernel, rfl, by decide +kernel, by decide +kernel⟩
theorem ok_law (B : Bl mg) (hk_pulled : HasK P w K mg base 9 "pulled" ["other", "lead"] ["lead", "other"] List.reverse (spD R_pulled)) (h_law_by_pushes : HasG P w K mg base 11 "_law_by_pushes" ["_law_urn_here", "_law_bag_here", "_law_known"] (spV R_law_by_pushes)) (h_law_bag : Has P w K mg base 7 "_law_bag" ["_law_urn_here", "_law_wide", "_law_kind"] (spU R_law_bag)) (h_law_by_pulls : HasG P w K mg base 11 "_law_by_pulls" ["_law_urn_here", "_law_bag_here", "_law_known"] (spV R_law_by_pulls)) (h_law_pick : Has P w K mg base 2 "_law_pick" ["_law_urn_here", "_law_items"] (spU R_law_pick)) (h_law_draw : Has P w K mg base 1 "_law_draw" ["_law_urn_here", "_law_many"] (spU R_law_draw)) (h_law_urn : Has P w K mg base 1 "_law_urn" ["_law_script"] (spUrn K)) (F : FnP K "law" s_law f fd) : FnG P w K mg base 12 f fd ["_law_script"] (spLaw K) := by
  refine fng_of F sc_law (fun vs H Q E h => ?_) (fun cdv A outer s H vs Q X hgd hr h => ?_)
  · obtain ⟨_, _, rfl, _⟩ := h
    rfl
  · obtain ⟨a, ns, rfl, hlen, hs, q⟩ := h
    refine ⟨_, PSs.nox (
    (pss_cons (ps_par (i := 1) (j := 2) rfl sc_law.nd rfl rfl (by decide) rfl rfl (pa_cons (pe_fn h_law_urn (hr.mono (by decide)) rfl (pa_cons (pv 0) pa_nil)) (pa_cons (pe_lst pa_nil) pa_nil)) (by rfl))
      (pss_cons (ps_set (i := 3) sc_law.nd rfl (Or.inl rfl) (pe_fn h_law_draw (hr.mono (by decide)) rfl (pa_cons (pv 1) (pa_cons pe_int pa_nil))))
      (pss_cons (ps_for PassesOwn.never rfl (pi_range1 rfl B.range_ (pa_cons pe_int pa_nil)) (pg_name (i := 4) sc_law.nd rfl (Or.inl rfl)) (pss_cons (ps_par (i := 5) (j := 6) rfl sc_law.nd rfl rfl (by decide) rfl rfl (pa_cons (pe_op op_modN (pe_callTy call_int1 rfl B.int_ (by decide +kernel) (pa_cons (pe_op op_add (pv 3) (pv 4)) pa_nil)) pe_int) (pa_cons (pe_fn h_law_pick (hr.mono (by decide)) rfl (pa_cons (pv 1) (pa_cons (pe_lst (pa_cons pe_int (pa_cons pe_int (pa_cons pe_int (pa_cons pe_int (pa_cons pe_int (pa_cons pe_int (pa_cons pe_int pa_nil)))))))) pa_nil))) pa_nil)) (by rfl))
      (pss_cons (ps_if (PW.pt (pw_and (pt_cmpR op_ne (pv 4) pe_int (nomark _)) (pw_and1 (pt_not (pt_val (pe_fnG h_law_by_pulls hgd (hr.mono (by decide)) rfl (pa_cons (pv 1) (pa_cons (pe_fn h_law_bag (hr.mono (by decide)) rfl (pa_cons (pv 1) (pa_cons (pv 6) (pa_cons (pv 5) pa_nil)))) (pa_cons (pv 2) pa_nil))))))))) (pss_one (ps_ret pe_bl)) pss_nil)
      (pss_one (ps_if (PW.pt (pw_and (pt_cmpR op_ne (pv 4) pe_int (nomark _)) (pw_and1 (pt_not (pt_val (pe_fnG h_law_by_pushes hgd (hr.mono (by decide)) rfl (pa_cons (pv 1) (pa_cons (pe_fn h_law_bag (hr.mono (by decide)) rfl (pa_cons (pv 1) (pa_cons (pe_callB (call_min2 rfl) rfl B.min_ (by decide +kernel) (pa_cons (pv 6) (pa_cons pe_int pa_nil))) (pa_cons (pe_op op_modN (pe_callTy call_int1 rfl B.int_ (by decide +kernel) (pa_cons (pe_op op_add (pv 5) pe_int) pa_nil)) pe_int) pa_nil)))) (pa_cons (pv 2) pa_nil))))))))) (pss_one (ps_ret pe_bl)) pss_nil)))))
      (pss_one (ps_ret (pe_cmpR (op_eqDK (K := K) rfl hr.units) (pe_lc (own := [("_law_bag_here", 7), ("_law_way", 8), ("_law_due", 9)]) (g := gLst K 3 (gCons (gName 7) (gCons (gName 8) (gCons (gName 9) gNil)))) rfl sc_law.nd (pi_listK (K := K) rfl (pv 2)) (blkOk_by (by kernel_rfl)) (fun _ _ _ _ _ => (pg_lst rfl (pgs_cons (pg_name (i := 7) sc_law.nd rfl (Or.inl rfl)) (pgs_cons (pg_name (i := 8) sc_law.nd rfl (Or.inl rfl)) (pgs_cons (pg_name (i := 9) sc_law.nd rfl (Or.inl rfl)) pgs_nil))))) (fun _ _ _ _ _ => (pts_one (pt_cmpR op_ne (pe_callB (call_reprG (K := K) rfl hgd hr.units) rfl B.repr_ (by decide +kernel) (pa_cons (pe_fnK hk_pulled (hr.mono (by decide)) (by rfl) rfl (pk_cons (pv 8) (pk_cons (pv 7) pk_nil))) pa_nil)) (pv 9) (nomark _)))) (fun _ _ _ _ _ => pe_int)) (pe_lst pa_nil) (nomark _))))))) ), ?_⟩
    have hst : EnvOk (fun _ => True) H H (L2.start ["_law_script", "_law_urn_here", "_law_known", "_law_first", "_law_turn", "_law_kind", "_law_wide", "_law_bag_here", "_law_way", "_law_due"] [.ref a]) [.at_ a, .un, .un, .un, .un, .un, .un, .un, .un, .un] := start_one (N := ["_law_script", "_law_urn_here", "_law_known", "_law_first", "_law_turn", "_law_kind", "_law_wide", "_law_bag_here", "_law_way", "_law_due"]) (by decide) rfl
    generalize L2.start ["_law_script", "_law_urn_here", "_law_known", "_law_first", "_law_turn", "_law_kind", "_law_wide", "_law_bag_here", "_law_way", "_law_due"] [.ref a] = σ0 at hst ⊢
    refine ⟨.ref a, hst.2 0 _ rfl, H, a, ns, rfl, Ex.refl H, hs, by omega, fun u g F1 H1 s1 hu0 hg0 hU => ⟨Nat.zero_le _, fun l hl => ⟨_, _, rfl, ?_⟩⟩⟩
    have fl := fresh_back s1.fh hl
    have lu : l ≠ u := fun z => hU.hu (by rw [← z]; exact hl)
    have lg : l ≠ g := fun z => hU.hg (by rw [← z]; exact hl)
    have hl0 : H l = none := by
      cases z : H l with
      | none => rfl
      | some o => rw [s1.ex l o z] at hl; cases hl
    have c0 : Con (bsV u g l 0 H H) H [.at_ a, .at_ u, .at_ l, .un, .un, .un, .un, .un, .un, .un] ((σ0.set 1 (some (.ref u))).set 2 (some (.ref l))) (upd H1 l (.lst [])) := by
      refine ⟨F1, ⟨fun y o hy hm => ?_, s1.ff, ex_upd_new s1.fh fl, s1.nw⟩, s1.ff, ⟨g, hU.up (upd_ne lu.symm) (upd_ne lg.symm) hU.fu hU.fg, .inl rfl, ⟨fl, [], [], upd_same, .nil, fun q hq => (by cases hq), Nat.le_refl 0⟩, lu, lg⟩, fun y hy => ?_, ?_⟩
      · rw [upd_ne fun z => hm (.inr (.inr z))]
        exact s1.ex y o hy
      · rcases hy with rfl | rfl | rfl
        · rw [upd_ne lu.symm]; exact hU.hu
        · rw [upd_ne lg.symm]; exact hU.hg
        · rw [upd_same]; simp
      · exact (((hst.plain (F' := F1) (H' := upd H1 l (.lst [])) (Z' := Bs.Z (bsV u g l 0 H H) (upd H1 l (.lst []))) s1.ff rfl).put (i := 1) (v := .ref u) (s := .at_ u) rfl).put (i := 2) (v := .ref l) (s := .at_ l) rfl)
    refine q_asgX c0 (XE_draw (bsV_in u g l 0 H H) rfl (E_nat 3) (by decide) (by decide)) fun d ⟨fi, hfi, ed⟩ σ2 H2 c2 => ?_
    subst ed
    refine q_forB (β := Nat) (fun cn => bsV u g l cn H H) (ys := List.range 3) (enc := nI) (fun _ => [.un, .at_ u, .at_ l, .da (nI fi), .un, .un, .un, .un, .un, .un]) (fun i cn => cn = 2 * i ∧ i ≤ 3) 0 c2 (WI_rng (EA_1 (E_nat 3)) (by decide)) (.un (.cons (.cons (.cons (.cons (.cons (.cons (.cons (.cons (.cons .nil)))))))))) ⟨rfl, by decide⟩ (fun s y _ => GF_name) (fun G1 e1 i cn y σ4 H4 hy pf c4 => ?_) fun cn σ4 H4 pf c4 => ?_
    · obtain ⟨hcn, hi3⟩ := pf
      have hi : i < 3 := by have := (List.getElem?_eq_some_iff.mp hy).1; simpa using this
      have U := bsV_in u g l cn H H
      refine q_parX c4 (XA_2 (P1 := fun d => d = nI ((fi + y) % 3)) (P2 := fun d => ∃ n, n ≤ 5 ∧ d = nI n) (E_op (E_cb (EA_1 (E_op (E_var rfl) (E_var rfl) rd_addN)) rc_int) (E_nat 3) (rd_modN (by decide))).x ((XE_pick (xs := [nI 4, nI 3, nI 5, nI 2, nI 5, nI 1, nI 0]) U rfl (E_lst (EA_cons (E_nat 4) (EA_cons (E_nat 3) (EA_cons (E_nat 5) (EA_cons (E_nat 2) (EA_3 (E_nat 5) (E_nat 1) (E_nat 0))))))) (by simp) (by simp)).imp fun d hd => ?_)) (fun ds ⟨d, e, q, _, _⟩ => ⟨d, e, q⟩) fun d e ⟨d', e', eq, ed, n, hn, en⟩ σ5 H5 c5 => ?_
      · simp only [List.mem_cons, List.not_mem_nil, or_false] at hd
        rcases hd with rfl | rfl | rfl | rfl | rfl | rfl | rfl
        · exact ⟨4, by decide, rfl⟩
        · exact ⟨3, by decide, rfl⟩
        · exact ⟨5, by decide, rfl⟩
        · exact ⟨2, by decide, rfl⟩
        · exact ⟨5, by decide, rfl⟩
        · exact ⟨1, by decide, rfl⟩
        · exact ⟨0, by decide, rfl⟩
      · injection eq with q1 q2
        injection q2 with q2 _
        subst q1 q2 ed en
        refine q_known (P := fun d => ∃ rs, Bk n rs ∧ d = bookD n rs) c5 (ET_test (E_op (E_var rfl) (E_nat 1) rd_neN)) rfl rfl (XE_bag U rfl (E_var rfl) hn (E_var rfl)) (fun d ⟨rs, hb, e⟩ => ⟨n, rs, hb, by rw [e], rfl⟩) (fun d e ⟨_, _, _, _, h⟩ => h) rfl (by omega) fun H6 c6 => ?_
        have U2 := bsV_in u g l (cn + 1) H H
        have hmin : min n 4 ≤ 5 := by omega
        refine s_known (P := fun d => ∃ rs, Bk (min n 4) rs ∧ d = bookD (min n 4) rs) c6 (ET_test (E_op (E_var rfl) (E_nat 0) rd_neN)) rfl rfl (XE_bag U2 rfl (E_cb (EA_2 (E_var rfl) (E_nat 4)) rc_min) hmin (E_op (E_cb (EA_1 (E_op (E_var rfl) (E_nat 1) rd_addN)) rc_int) (E_nat 3) (rd_modN (by decide)))) (fun d ⟨rs, hb, e⟩ => ⟨_, rs, hb, by rw [e], rfl⟩) (fun d e ⟨_, _, _, _, h⟩ => h) rfl (by omega) fun H7 c7 => ?_
        exact ⟨cn + 1 + 1, ⟨by omega, by omega⟩, c7.lss (.cons (.cons (.cons (.cons (.un (.un (.un (.cons (.cons (.cons .nil))))))))))⟩
    · obtain ⟨F5, st, gx, ⟨g', hu, hg', hk, n1, n2⟩, m, o⟩ := c4
      obtain ⟨vs, ks, h1, h2, h3, h4⟩ := hk.st
      have hcn := pf.1
      rw [List.length_range] at hcn
      have ex : Ex F5 (upd F5 l (.lst vs)) := Ex.new hk.fl
      have c5 : Con ⟨VG u g l, NoI, NoN, H, H⟩ H [.un, .at_ u, .da (.list (ks.map Kn.D)), .da (nI fi), .un, .un, .un, .un, .un, .un] σ4 H4 := by
        refine ⟨upd F5 l (.lst vs), ⟨st.hh, st.ff.trans ex, ex_frz st.fh h1, fun y hy hn => ?_⟩, gx.trans ex, trivial, m, ?_⟩
        · rw [upd_ne fun z => hn (by rw [z]; exact hl0)]
          exact st.nw y hy hn
        · have o2 := o.plain (F' := upd F5 l (.lst vs)) (H' := H4) (Z' := Bs.Z ⟨VG u g l, NoI, NoN, H, H⟩ H4) ex rfl
          refine ⟨o2.1, fun j t hj => ?_⟩
          by_cases z : j = 2
          · subst z
            have e : t = .da (.list (ks.map Kn.D)) := (Option.some.inj hj).symm
            subst e
            exact ⟨.ref l, o2.2 2 (.at_ l) rfl, .lst upd_same (h2.up ex)⟩
          · refine o2.2 j t ?_
            match j, z, hj with
            | 0, _, hj => exact hj
            | 1, _, hj => exact hj
            | j + 3, _, hj => exact hj
      refine s_ret c5 ((E_op (E_lc (ys := ks) (enc := Kn.D) (p := fun _ => false) (f := fun _ => .int 1) (WI_list (E_var rfl)) (by omega) (fun y _ => GB_lst3 (by decide) (by decide) (by decide)) (fun y hy => ET_neR (E_repr (E_callR (EA_2 (E_var rfl) (E_var rfl)) ⟨y.k, y.rs, y.ws, (h3 y hy).1, (h3 y hy).2, rfl, rfl⟩) inr2 (n_book (pull_bk (h3 y hy).1 (h3 y hy).2))) (E_var rfl) rfl) (fun y _ _ => E_int)) (E_lst EA_nil) rd_none).to (d' := .bool true) (by simp)) fun v H' r => ?_
      obtain ⟨F', _, _, _, _, o'⟩ := r
      obtain ⟨v', e', dv'⟩ := o'.2 0 _ rfl
      obtain rfl := Option.some.inj (Option.some.inj e')
      cases dv'
      exact q H'
end
end ML
set_option Elab.async false
set_option linter.all false
set_option maxRecDepth 100000
set_option maxHeartbeats 2000000
/-! the end, its caller's guards told -/
namespace ML
open PySem PySem.Spec PyProof.Rows L2
abbrev LawEnd (P : Program) (w : World) (fa a : Addr) (s : Shared) : Prop := codeAny (model P w) callerA (.call (.ref fa) ⟨[.ref a], []⟩) (fun r s' => r = .ok (.ret (.bool true)) ∧ OldK s.heap s'.heap ∧ s'.os = s.os ∧ AllBare s'.gens) s
section
variable {P : Program} {w : World} {K : PySem.W.Frag} {mg mb : Str → Option Value} {k : Nat} {fa a : Addr} {fd : FuncData} {x : Str} {sp : Sp} {s : Shared} {vs : List Value} {ns : List Int} {H : Hp}
theorem end_of (KX : K.In s.heap) (hns : s.heap.Ns mainGlobals mg) (hb : s.heap.Ns builtinsNs mb) (hbb : ∀ x : Str, x ≠ "__name__" → mb x = bootBuiltins x) (hlim : s.heap.NoLimit) (hg : s.gens = #[])
    (ha : s.heap.get? a = some { cls := .type "list", data := .seq vs.toArray }) (hr : Room k callerA)
    (F : ∀ base : Heap, K.In base → base.Ns mainGlobals mg → FnG P w K mg base k fa fd [x] sp) (hbind : ∀ (s : Shared) (u : Value), BindsTo s fd ⟨[u], []⟩ [(x, u)])
    (hO : Only H) (hsp : sp [.ref a] H (fun v _ => v = .bl true) fun _ _ _ => False) (hok : HOk P w H s.heap) (hA : ∀ b, H b ≠ none → b = a ∧ K.lookup a = none) : LawEnd P w fa a s := by
  -- whatever stands untracked stands in the base, too
  have stay : ∀ (b : Addr) (o : Obj), s.heap.get? b = some o → (b = a → K.lookup a ≠ none ∨ ∃ es ep, o.data = .dict es ep) → (hidT s.heap H).get? b = some o := by
    intro b o e hne
    refine hidT_get e ?_
    apply Classical.byContradiction
    intro hb'
    obtain ⟨rfl, hk⟩ := hA b hb'
    rcases hne rfl with h1 | ⟨es, ep, h1⟩
    · exact h1 hk
    · rw [ha] at e
      have e2 := Option.some.inj e
      rw [← e2] at h1
      cases h1
  have dicts : ∀ {b : Addr} {m : Str → Option Value}, s.heap.Ns b m → (hidT s.heap H).Ns b m := by
    rintro b m ⟨o, es, ep, e, d, r⟩
    exact ⟨o, es, ep, stay b o e fun _ => .inr ⟨es, ep, d⟩, d, r⟩
  have inB : K.In (hidT s.heap H) := by
    intro b o e
    refine stay b o (KX b o e) fun hba => .inl ?_
    rw [← hba, e]
    simp
  obtain ⟨ml, hl1, hl2⟩ := hlim
  have env : Env0 P w K mg (hidT s.heap H) callerA [] s H := {
    frames := rfl
    mod := ⟨inB, dicts hns, ⟨mb, dicts hb, hbb⟩, ⟨ml, dicts hl1, hl2⟩⟩
    bs := fun _ _ e => of_hidT e
    bsz := Nat.le_of_eq (hidT_size _ _)
    funs := trivial
    frf := fun b hb => absurd hb (List.not_mem_nil)
    hok := hok
    bare := .of_eq hg }
  have run := (F _ inB (dicts hns)).run callerA [] s H ⟨[.ref a], []⟩ [.ref a] [.ref a] (fun v _ => v = .bl true) (fun _ _ _ => False) rfl hr env (hbind s (.ref a)) (.cons rfl .nil) hsp
  refine codeAny_mono run fun r s' h => ?_
  match r, h with
  | .error e, h => exact h.elim
  | .ok .next, h => exact h.elim
  | .ok .brk, h => exact h.elim
  | .ok .cont, h => exact h.elim
  | .ok (.ret u), h =>
    obtain ⟨v, H', hos, hbare, un, hok', ru, hv⟩ := h
    subst hv
    have eu : u = Value.bool true := ru
    refine ⟨by rw [eu], OldK.of_keep fun b o e => ?_, hos, hbare⟩
    rcases hO b with hn | ⟨ob, xs, hz⟩
    · exact un.keep b o e hn List.not_mem_nil List.not_mem_nil
    · have e1 := (hok b _ hz).1
      have e2 := (hok' b _ (un.frzs b ob _ hz)).1
      have eo : o = ob := Option.some.inj (e.symm.trans e1)
      rw [eo]
      exact e2
theorem law_endG (KX : K.In s.heap) (hns : s.heap.Ns mainGlobals mg) (hb : s.heap.Ns builtinsNs mb) (hbb : ∀ x : Str, x ≠ "__name__" → mb x = bootBuiltins x) (hlim : s.heap.NoLimit) (hg : s.gens = #[])
    (ha : s.heap.get? a = some { cls := .type "list", data := .seq vs.toArray }) (hi : IntsAre vs ns) (hl : ns.length ≤ sizeLine) (hr : Room k callerA)
    (F : ∀ base : Heap, K.In base → base.Ns mainGlobals mg → FnG P w K mg base k fa fd [x] sp) (hbind : ∀ (s : Shared) (u : Value), BindsTo s fd ⟨[u], []⟩ [(x, u)])
    (hsp : ∀ H : Hp, Only H → SqL K H a (ns.map V.int) → sp [.ref a] H (fun v _ => v = .bl true) fun _ _ _ => False) : LawEnd P w fa a s := by
  have rv := vals_ints hi
  have hvl := hi.length
  by_cases hk : K.lookup a = none
  · -- the script is tracked, and stays
    have hO : Only fun b => if b = a then some (.frz { cls := .type "list", data := .seq vs.toArray } (.lst (ns.map V.int))) else none := by
      intro b
      by_cases e : b = a
      · exact .inr ⟨_, _, if_pos e⟩
      · exact .inl (if_neg e)
    refine end_of (H := fun b => if b = a then some (.frz { cls := .type "list", data := .seq vs.toArray } (.lst (ns.map V.int))) else none) KX hns hb hbb hlim hg ha hr F hbind hO (hsp _ hO (.inl (.inr ⟨{ cls := .type "list", data := .seq vs.toArray }, if_pos rfl⟩))) (fun b u e => ?_) fun b hne => ?_
    · by_cases q : b = a
      · subst q
        dsimp only at e
        rw [if_pos rfl] at e
        obtain rfl := Option.some.inj e
        exact ⟨ha, by rw [List.length_map]; exact hl, vs, _, rv, ha⟩
      · dsimp only at e
        rw [if_neg q] at e
        cases e
    · by_cases q : b = a
      · exact ⟨q, hk⟩
      · exact absurd (if_neg q) hne
  · -- the script is one of the module's objects
    obtain ⟨o, ho⟩ := Option.ne_none_iff_exists'.mp hk
    have eo := (KX a o ho).symm.trans ha
    obtain rfl := Option.some.inj eo
    have hS : SqL K (fun _ => none) a (ns.map V.int) := .inr ⟨_, vs.toArray, _, ho, rfl, rfl, rfl, by rw [List.size_toArray, hvl]; exact hl, by simpa using rv⟩
    exact end_of (H := fun _ => none) KX hns hb hbb hlim hg ha hr F hbind (fun _ => .inl rfl) (hsp _ (fun _ => .inl rfl) hS) (fun b u e => by cases e) fun b hne => absurd rfl hne
end
section
variable {law : PySem.W.OpenLaw} {most k : Nat} {d : DefRec} {x : Str} {YP : World → Heap → Prop}
/-- what is asked of the law's def at a heap behind the top -/
def Told (law : PySem.W.OpenLaw) (most k : Nat) (x : Str) (w : World) (mg : Str → Option Value) (fa : Addr) (h : Heap) : Prop :=
  ∃ (K : PySem.W.Frag) (fd : FuncData) (sp : Sp), (K.In h ∧ ∀ (s : Shared) (u : Value), BindsTo s fd ⟨[u], []⟩ [(x, u)]) ∧
    (∀ (H : Hp) (a : Addr) (ns : List Int), ns.length ≤ most → Only H → SqL K H a (ns.map V.int) → sp [.ref a] H (fun v _ => v = .bl true) fun _ _ _ => False) ∧ ∀ base : Heap, K.In base → base.Ns mainGlobals mg → FnG law.prog w K mg base k fa fd [x] sp
theorem walkG {q : Program} {loose : List Str} {XP : (Str → Option Value) → Heap → Prop} (hm : law.most = some most) (hs : most ≤ sizeLine) (hd : d.params.defaults = []) (room : Room k callerA) (told : ∀ (w : World) (mg : Str → Option Value) (fa : Addr) (h : Heap), YP w h → h.Ns mainGlobals mg → mg d.name = some (.ref fa) → Told law most k x w mg fa h) :
    PySem.W.WalkO q loose XP YP law.row.toRowW d [] fun f vs => PySem.call f vs :=
  Att.attach_call hm hd fun w _ s mg _ fa _ _ _ _ a _ ns G Y _ _ _ nm ob nums ln gn => by
    obtain ⟨K, fd, sp, ⟨inK, binds⟩, asks, keeps⟩ := told w mg fa s.heap Y G.T.g nm
    exact law_endG inK G.T.g G.T.b G.T.builtins G.T.nolimit gn ob nums (Nat.le_trans ln hs) room keeps binds fun H hO hS => asks H a ns ln hO hS
end
end ML
set_option Elab.async false
set_option linter.all false
set_option maxRecDepth 100000
set_option maxHeartbeats 4000000
/-! each def by its name -/
namespace ML
open PySem PySem.Spec PyProof.Rows L2
theorem vals_rev : ∀ {vs : List V} {us : List Value}, Vals vs us → Vals vs.reverse us.reverse
  | _, _, .nil => .nil
  | v :: vs, u :: us, .cons h t => by
    rw [List.reverse_cons, List.reverse_cons]
    exact Vals.append (vals_rev t) (.cons h .nil)
theorem kb_of {K : PySem.W.Frag} {x qual : Str} {params : Arguments} {body : List Stmt} {scope : Scope} {kws : List (Str × V)} {f : Addr} {fd : FuncData} {ps ks : List Str} {p1 : List Value → List Value} {p2 : List V → List V} (F : FunD K x qual params body scope [] kws f fd) (hp : ps.length ≠ 0) (hl : ∀ ws, (p1 ws).length = ws.length)
    (h : ∀ (kV doc pm : Value) (an : Option Addr) (cdv ct : Value) (ws : List Value), ws.length = ps.length → bindArgs (PySem.W.fnOf x qual params body scope .none kV doc pm an cdv ct) ⟨[], ks.zip ws⟩ = pure (ps.zip (p1 ws))) (hr : ∀ {zs : List V} {ws : List Value}, Vals zs ws → Vals (p2 zs) (p1 ws)) : KBinds K fd ps ks (gKw p1) (gKw p2) := by
  obtain ⟨oc, od, dV, kV, doc, pm, an, cdv, ct, osl, rfl, lk, hcd, hD, hK⟩ := F.ex
  have hdv : dV = .none := by
    rcases hD with ⟨_, e⟩ | ⟨e, _⟩
    · exact e
    · exact absurd rfl e
  subst hdv
  refine ⟨fun s us ws _ hlen => ?_, fun {vs us zs ws} r rz => ?_⟩
  · cases us with
    | nil => exact .of_eq (h kV doc pm an cdv ct ws (by rw [← hl ws]; exact hlen))
    | cons u us => exact absurd hlen.symm hp
  · cases r with
    | nil => exact hr rz
    | cons _ _ => exact .nil
section
variable {P : Program} {w : World} {K : PySem.W.Frag} {mg : Str → Option Value} {base h : Heap}
theorem bl_of (X : K.In h) (G : h.Ns mainGlobals mg) (c : He.SaysD fa fn K) : Bl mg where
  len_ := He.free_ok X G (c.fact 71 (f := .free "len") rfl)
  tuple_ := He.free_ok X G (c.fact 72 (f := .free "tuple") rfl)
  list_ := He.free_ok X G (c.fact 73 (f := .free "list") rfl)
  range_ := He.free_ok X G (c.fact 74 (f := .free "range") rfl)
  sorted_ := He.free_ok X G (c.fact 75 (f := .free "sorted") rfl)
  set_ := He.free_ok X G (c.fact 76 (f := .free "set") rfl)
  dict_ := He.free_ok X G (c.fact 77 (f := .free "dict") rfl)
  sum_ := He.free_ok X G (c.fact 78 (f := .free "sum") rfl)
  all_ := He.free_ok X G (c.fact 79 (f := .free "all") rfl)
  any_ := He.free_ok X G (c.fact 80 (f := .free "any") rfl)
  int_ := He.free_ok X G (c.fact 81 (f := .free "int") rfl)
  abs_ := He.free_ok X G (c.fact 82 (f := .free "abs") rfl)
  min_ := He.free_ok X G (c.fact 83 (f := .free "min") rfl)
  isinstance_ := He.free_ok X G (c.fact 84 (f := .free "isinstance") rfl)
  repr_ := He.free_ok X G (c.fact 85 (f := .free "repr") rfl)
  enumerate_ := He.free_ok X G (c.fact 86 (f := .free "enumerate") rfl)
  bool_ := He.free_ok X G (c.fact 87 (f := .free "bool") rfl)
  mt := He.int_ok X G (c.fact 69 (f := .int "MAX_THINGS" 10) rfl)
  mr := He.int_ok X G (c.fact 70 (f := .int "MAX_RULES" 60) rfl)
theorem f_lot_of (c : He.SaysD fa fn K) : ∃ fd, FnP K "lot_of" s_lot_of (He.fAd K ("lot_of", none)) fd := c.def_ 1 (d := d_lot_of) rfl
theorem g_lot_of (X : K.In h) (G : h.Ns mainGlobals mg) (c : He.SaysD fa fn K) : mg "lot_of" = some (.ref (He.fAd K ("lot_of", none))) := He.glo_ok X G (c.fact 1 (f := .glo "lot_of") rfl)
theorem has_lot_of (X : K.In h) (G : h.Ns mainGlobals mg) (c : He.SaysD fa fn K) (B : Bl mg) : Has P w K mg base 1 "lot_of" ["bits"] (spD R_lot_of) := by
  obtain ⟨fd, F⟩ := f_lot_of c
  exact ⟨_, fd, (ok_lot_of B  F), g_lot_of X G c, F.kp, F.bindsN fun _ _ _ _ _ _ us hl => match us, hl with | [_], _ => rfl⟩
theorem f_bits_rule (c : He.SaysD fa fn K) : ∃ fd, FnP K "bits_rule" s_bits_rule (He.fAd K ("bits_rule", none)) fd := c.def_ 17 (d := d_bits_rule) rfl
theorem g_bits_rule (X : K.In h) (G : h.Ns mainGlobals mg) (c : He.SaysD fa fn K) : mg "bits_rule" = some (.ref (He.fAd K ("bits_rule", none))) := He.glo_ok X G (c.fact 17 (f := .glo "bits_rule") rfl)
theorem has_bits_rule (X : K.In h) (G : h.Ns mainGlobals mg) (c : He.SaysD fa fn K) (B : Bl mg) : Has P w K mg base 2 "bits_rule" ["ahead", "behind"] (spD R_bits_rule) := by
  obtain ⟨fd, F⟩ := f_bits_rule c
  exact ⟨_, fd, (ok_bits_rule (has_lot_of X G c B) F), g_bits_rule X G c, F.kp, F.bindsN fun _ _ _ _ _ _ us hl => match us, hl with | [_, _], _ => rfl⟩
theorem f_lot_key (c : He.SaysD fa fn K) : ∃ fd, FnP K "lot_key" s_lot_key (He.fAd K ("lot_key", none)) fd := c.def_ 2 (d := d_lot_key) rfl
theorem g_lot_key (X : K.In h) (G : h.Ns mainGlobals mg) (c : He.SaysD fa fn K) : mg "lot_key" = some (.ref (He.fAd K ("lot_key", none))) := He.glo_ok X G (c.fact 2 (f := .glo "lot_key") rfl)
theorem has_lot_key (X : K.In h) (G : h.Ns mainGlobals mg) (c : He.SaysD fa fn K) (B : Bl mg) : Has P w K mg base 1 "lot_key" ["lot"] (spD R_lot_key) := by
  obtain ⟨fd, F⟩ := f_lot_key c
  exact ⟨_, fd, (ok_lot_key B  F), g_lot_key X G c, F.kp, F.bindsN fun _ _ _ _ _ _ us hl => match us, hl with | [_], _ => rfl⟩
theorem f_bits_key (c : He.SaysD fa fn K) : ∃ fd, FnP K "bits_key" s_bits_key (He.fAd K ("bits_key", none)) fd := c.def_ 3 (d := d_bits_key) rfl
theorem g_bits_key (X : K.In h) (G : h.Ns mainGlobals mg) (c : He.SaysD fa fn K) : mg "bits_key" = some (.ref (He.fAd K ("bits_key", none))) := He.glo_ok X G (c.fact 3 (f := .glo "bits_key") rfl)
theorem has_bits_key (X : K.In h) (G : h.Ns mainGlobals mg) (c : He.SaysD fa fn K) (B : Bl mg) : Has P w K mg base 2 "bits_key" ["bits"] (spD R_bits_key) := by
  obtain ⟨fd, F⟩ := f_bits_key c
  exact ⟨_, fd, (ok_bits_key (has_lot_key X G c B) (has_lot_of X G c B) F), g_bits_key X G c, F.kp, F.bindsN fun _ _ _ _ _ _ us hl => match us, hl with | [_], _ => rfl⟩
theorem f_ordered (c : He.SaysD fa fn K) : ∃ fd, FnP K "ordered" s_ordered (He.fAd K ("ordered", none)) fd := c.def_ 4 (d := d_ordered) rfl
theorem g_ordered (X : K.In h) (G : h.Ns mainGlobals mg) (c : He.SaysD fa fn K) : mg "ordered" = some (.ref (He.fAd K ("ordered", none))) := He.glo_ok X G (c.fact 4 (f := .glo "ordered") rfl)
theorem has_ordered (X : K.In h) (G : h.Ns mainGlobals mg) (c : He.SaysD fa fn K) (B : Bl mg) : Has P w K mg base 5 "ordered" ["many_bits"] (spD R_ordered) := by
  obtain ⟨fd, F⟩ := f_ordered c
  exact ⟨_, fd, (ok_ordered B (has_bits_key X G c B) F), g_ordered X G c, F.kp, F.bindsN fun _ _ _ _ _ _ us hl => match us, hl with | [_], _ => rfl⟩
theorem f_is_within (c : He.SaysD fa fn K) : ∃ fd, FnP K "is_within" s_is_within (He.fAd K ("is_within", none)) fd := c.def_ 16 (d := d_is_within) rfl
theorem g_is_within (X : K.In h) (G : h.Ns mainGlobals mg) (c : He.SaysD fa fn K) : mg "is_within" = some (.ref (He.fAd K ("is_within", none))) := He.glo_ok X G (c.fact 16 (f := .glo "is_within") rfl)
theorem has_is_within (X : K.In h) (G : h.Ns mainGlobals mg) (c : He.SaysD fa fn K) (B : Bl mg) : Has P w K mg base 1 "is_within" ["one", "other"] (spD R_is_within) := by
  obtain ⟨fd, F⟩ := f_is_within c
  exact ⟨_, fd, (ok_is_within  F), g_is_within X G c, F.kp, F.bindsN fun _ _ _ _ _ _ us hl => match us, hl with | [_, _], _ => rfl⟩
theorem f_closure_in (c : He.SaysD fa fn K) : ∃ fd, FnP K "closure_in" s_closure_in (He.fAd K ("closure_in", none)) fd := c.def_ 10 (d := d_closure_in) rfl
theorem g_closure_in (X : K.In h) (G : h.Ns mainGlobals mg) (c : He.SaysD fa fn K) : mg "closure_in" = some (.ref (He.fAd K ("closure_in", none))) := He.glo_ok X G (c.fact 10 (f := .glo "closure_in") rfl)
theorem has_closure_in (X : K.In h) (G : h.Ns mainGlobals mg) (c : He.SaysD fa fn K) (B : Bl mg) : Has P w K mg base 1 "closure_in" ["closed", "bits"] (spD R_closure_in) := by
  obtain ⟨fd, F⟩ := f_closure_in c
  exact ⟨_, fd, (ok_closure_in  F), g_closure_in X G c, F.kp, F.bindsN fun _ _ _ _ _ _ us hl => match us, hl with | [_, _], _ => rfl⟩
theorem f_nearly_pairs (c : He.SaysD fa fn K) : ∃ fd, FnP K "nearly_pairs" s_nearly_pairs (He.fAd K ("nearly_pairs", none)) fd := c.def_ 18 (d := d_nearly_pairs) rfl
theorem g_nearly_pairs (X : K.In h) (G : h.Ns mainGlobals mg) (c : He.SaysD fa fn K) : mg "nearly_pairs" = some (.ref (He.fAd K ("nearly_pairs", none))) := He.glo_ok X G (c.fact 18 (f := .glo "nearly_pairs") rfl)
theorem has_nearly_pairs (X : K.In h) (G : h.Ns mainGlobals mg) (c : He.SaysD fa fn K) (B : Bl mg) : Has P w K mg base 6 "nearly_pairs" ["size", "closed"] (spD R_nearly_pairs) := by
  obtain ⟨fd, F⟩ := f_nearly_pairs c
  exact ⟨_, fd, (ok_nearly_pairs B (has_ordered X G c B) (has_is_within X G c B) (has_closure_in X G c B) F), g_nearly_pairs X G c, F.kp, F.bindsN fun _ _ _ _ _ _ us hl => match us, hl with | [_, _], _ => rfl⟩
theorem f_stem_of (c : He.SaysD fa fn K) : ∃ fd, FnP K "stem_of" s_stem_of (He.fAd K ("stem_of", none)) fd := c.def_ 19 (d := d_stem_of) rfl
theorem g_stem_of (X : K.In h) (G : h.Ns mainGlobals mg) (c : He.SaysD fa fn K) : mg "stem_of" = some (.ref (He.fAd K ("stem_of", none))) := He.glo_ok X G (c.fact 19 (f := .glo "stem_of") rfl)
theorem has_stem_of (X : K.In h) (G : h.Ns mainGlobals mg) (c : He.SaysD fa fn K) (B : Bl mg) : Has P w K mg base 7 "stem_of" ["size", "closed"] (spD R_stem_of) := by
  obtain ⟨fd, F⟩ := f_stem_of c
  exact ⟨_, fd, (ok_stem_of B (has_bits_rule X G c B) (has_nearly_pairs X G c B) F), g_stem_of X G c, F.kp, F.bindsN fun _ _ _ _ _ _ us hl => match us, hl with | [_, _], _ => rfl⟩
theorem f_book_of_family (c : He.SaysD fa fn K) : ∃ fd, FnP K "book_of_family" s_book_of_family (He.fAd K ("book_of_family", none)) fd := c.def_ 21 (d := d_book_of_family) rfl
theorem g_book_of_family (X : K.In h) (G : h.Ns mainGlobals mg) (c : He.SaysD fa fn K) : mg "book_of_family" = some (.ref (He.fAd K ("book_of_family", none))) := He.glo_ok X G (c.fact 21 (f := .glo "book_of_family") rfl)
theorem has_book_of_family (X : K.In h) (G : h.Ns mainGlobals mg) (c : He.SaysD fa fn K) (B : Bl mg) : Has P w K mg base 8 "book_of_family" ["size", "family"] (spD R_book_of_family) := by
  obtain ⟨fd, F⟩ := f_book_of_family c
  exact ⟨_, fd, (ok_book_of_family B (has_stem_of X G c B) (has_ordered X G c B) F), g_book_of_family X G c, F.kp, F.bindsN fun _ _ _ _ _ _ us hl => match us, hl with | [_, _], _ => rfl⟩
theorem f_is_kept (c : He.SaysD fa fn K) : ∃ fd, FnP K "is_kept" s_is_kept (He.fAd K ("is_kept", none)) fd := c.def_ 6 (d := d_is_kept) rfl
theorem g_is_kept (X : K.In h) (G : h.Ns mainGlobals mg) (c : He.SaysD fa fn K) : mg "is_kept" = some (.ref (He.fAd K ("is_kept", none))) := He.glo_ok X G (c.fact 6 (f := .glo "is_kept") rfl)
theorem has_is_kept (X : K.In h) (G : h.Ns mainGlobals mg) (c : He.SaysD fa fn K) (B : Bl mg) : Has P w K mg base 1 "is_kept" ["rules", "bits"] (spD R_is_kept) := by
  obtain ⟨fd, F⟩ := f_is_kept c
  exact ⟨_, fd, (ok_is_kept  F), g_is_kept X G c, F.kp, F.bindsN fun _ _ _ _ _ _ us hl => match us, hl with | [_, _], _ => rfl⟩
theorem f_bits_of (c : He.SaysD fa fn K) : ∃ fd, FnP K "bits_of" s_bits_of (He.fAd K ("bits_of", none)) fd := c.def_ 0 (d := d_bits_of) rfl
theorem g_bits_of (X : K.In h) (G : h.Ns mainGlobals mg) (c : He.SaysD fa fn K) : mg "bits_of" = some (.ref (He.fAd K ("bits_of", none))) := He.glo_ok X G (c.fact 0 (f := .glo "bits_of") rfl)
theorem has_bits_of (X : K.In h) (G : h.Ns mainGlobals mg) (c : He.SaysD fa fn K) (B : Bl mg) : Has P w K mg base 1 "bits_of" ["lot"] (spD R_bits_of) := by
  obtain ⟨fd, F⟩ := f_bits_of c
  exact ⟨_, fd, (ok_bits_of  F), g_bits_of X G c, F.kp, F.bindsN fun _ _ _ _ _ _ us hl => match us, hl with | [_], _ => rfl⟩
theorem f_rule_bits (c : He.SaysD fa fn K) : ∃ fd, FnP K "rule_bits" s_rule_bits (He.fAd K ("rule_bits", none)) fd := c.def_ 5 (d := d_rule_bits) rfl
theorem g_rule_bits (X : K.In h) (G : h.Ns mainGlobals mg) (c : He.SaysD fa fn K) : mg "rule_bits" = some (.ref (He.fAd K ("rule_bits", none))) := He.glo_ok X G (c.fact 5 (f := .glo "rule_bits") rfl)
theorem has_rule_bits (X : K.In h) (G : h.Ns mainGlobals mg) (c : He.SaysD fa fn K) (B : Bl mg) : Has P w K mg base 2 "rule_bits" ["book"] (spD R_rule_bits) := by
  obtain ⟨fd, F⟩ := f_rule_bits c
  exact ⟨_, fd, (ok_rule_bits (has_bits_of X G c B) F), g_rule_bits X G c, F.kp, F.bindsN fun _ _ _ _ _ _ us hl => match us, hl with | [_], _ => rfl⟩
theorem f_closed_bits (c : He.SaysD fa fn K) : ∃ fd, FnP K "closed_bits" s_closed_bits (He.fAd K ("closed_bits", none)) fd := c.def_ 9 (d := d_closed_bits) rfl
theorem g_closed_bits (X : K.In h) (G : h.Ns mainGlobals mg) (c : He.SaysD fa fn K) : mg "closed_bits" = some (.ref (He.fAd K ("closed_bits", none))) := He.glo_ok X G (c.fact 9 (f := .glo "closed_bits") rfl)
theorem has_closed_bits (X : K.In h) (G : h.Ns mainGlobals mg) (c : He.SaysD fa fn K) (B : Bl mg) : Has P w K mg base 6 "closed_bits" ["book"] (spD R_closed_bits) := by
  obtain ⟨fd, F⟩ := f_closed_bits c
  exact ⟨_, fd, (ok_closed_bits B (has_ordered X G c B) (has_is_kept X G c B) (has_rule_bits X G c B) F), g_closed_bits X G c, F.kp, F.bindsN fun _ _ _ _ _ _ us hl => match us, hl with | [_], _ => rfl⟩
theorem f_source_bits (c : He.SaysD fa fn K) : ∃ fd, FnP K "source_bits" s_source_bits (He.fAd K ("source_bits", none)) fd := c.def_ 25 (d := d_source_bits) rfl
theorem g_source_bits (X : K.In h) (G : h.Ns mainGlobals mg) (c : He.SaysD fa fn K) : mg "source_bits" = some (.ref (He.fAd K ("source_bits", none))) := He.glo_ok X G (c.fact 25 (f := .glo "source_bits") rfl)
theorem has_source_bits (X : K.In h) (G : h.Ns mainGlobals mg) (c : He.SaysD fa fn K) (B : Bl mg) : Has P w K mg base 1 "source_bits" ["lead", "bits"] (spD R_source_bits) := by
  obtain ⟨fd, F⟩ := f_source_bits c
  exact ⟨_, fd, (ok_source_bits B  F), g_source_bits X G c, F.kp, F.bindsN fun _ _ _ _ _ _ us hl => match us, hl with | [_, _], _ => rfl⟩
theorem f_is_map (c : He.SaysD fa fn K) : ∃ fd, FnP K "is_map" s_is_map (He.fAd K ("is_map", none)) fd := c.def_ 22 (d := d_is_map) rfl
theorem g_is_map (X : K.In h) (G : h.Ns mainGlobals mg) (c : He.SaysD fa fn K) : mg "is_map" = some (.ref (He.fAd K ("is_map", none))) := He.glo_ok X G (c.fact 22 (f := .glo "is_map") rfl)
theorem has_is_map (X : K.In h) (G : h.Ns mainGlobals mg) (c : He.SaysD fa fn K) (B : Bl mg) : Has P w K mg base 1 "is_map" ["size", "other_size", "value"] (spD R_is_map) := by
  obtain ⟨fd, F⟩ := f_is_map c
  exact ⟨_, fd, (ok_is_map B  F), g_is_map X G c, F.kp, F.bindsN fun _ _ _ _ _ _ us hl => match us, hl with | [_, _, _], _ => rfl⟩
theorem f_need_map (c : He.SaysD fa fn K) : ∃ fd, FnP K "need_map" s_need_map (He.fAd K ("need_map", none)) fd := c.def_ 23 (d := d_need_map) rfl
theorem g_need_map (X : K.In h) (G : h.Ns mainGlobals mg) (c : He.SaysD fa fn K) : mg "need_map" = some (.ref (He.fAd K ("need_map", none))) := He.glo_ok X G (c.fact 23 (f := .glo "need_map") rfl)
theorem has_need_map (X : K.In h) (G : h.Ns mainGlobals mg) (c : He.SaysD fa fn K) (B : Bl mg) : Has P w K mg base 2 "need_map" ["size", "other_size", "lead"] (spD R_need_map) := by
  obtain ⟨fd, F⟩ := f_need_map c
  exact ⟨_, fd, (ok_need_map (has_is_map X G c B) F), g_need_map X G c, F.kp, F.bindsN fun _ _ _ _ _ _ us hl => match us, hl with | [_, _, _], _ => rfl⟩
theorem f_pulled (c : He.SaysD fa fn K) : ∃ fd, FnP K "pulled" s_pulled (He.fAd K ("pulled", none)) fd := c.def_ 29 (d := d_pulled) rfl
theorem g_pulled (X : K.In h) (G : h.Ns mainGlobals mg) (c : He.SaysD fa fn K) : mg "pulled" = some (.ref (He.fAd K ("pulled", none))) := He.glo_ok X G (c.fact 29 (f := .glo "pulled") rfl)
theorem hask_pulled (X : K.In h) (G : h.Ns mainGlobals mg) (c : He.SaysD fa fn K) (B : Bl mg) : HasK P w K mg base 9 "pulled" ["other", "lead"] ["lead", "other"] List.reverse (spD R_pulled) := by
  obtain ⟨fd, F⟩ := f_pulled c
  exact ⟨_, fd, List.reverse, (ok_pulled B (has_book_of_family X G c B) (has_closed_bits X G c B) (has_source_bits X G c B) (has_need_map X G c B) F), g_pulled X G c, F.kp, kb_of F (by decide) (fun ws => by simp) (fun _ _ _ _ _ _ ws hl => match ws, hl with | [_, _], _ => rfl) (fun h => vals_rev h)⟩
theorem f_pushed (c : He.SaysD fa fn K) : ∃ fd, FnP K "pushed" s_pushed (He.fAd K ("pushed", none)) fd := c.def_ 30 (d := d_pushed) rfl
theorem g_pushed (X : K.In h) (G : h.Ns mainGlobals mg) (c : He.SaysD fa fn K) : mg "pushed" = some (.ref (He.fAd K ("pushed", none))) := He.glo_ok X G (c.fact 30 (f := .glo "pushed") rfl)
theorem has_pushed (X : K.In h) (G : h.Ns mainGlobals mg) (c : He.SaysD fa fn K) (B : Bl mg) : Has P w K mg base 9 "pushed" ["book", "other_size", "lead"] (spD R_pushed) := by
  obtain ⟨fd, F⟩ := f_pushed c
  exact ⟨_, fd, (ok_pushed B (has_book_of_family X G c B) (has_source_bits X G c B) (has_closed_bits X G c B) (has_need_map X G c B) F), g_pushed X G c, F.kp, F.bindsN fun _ _ _ _ _ _ us hl => match us, hl with | [_, _, _], _ => rfl⟩
theorem f_law_lot (c : He.SaysD fa fn K) : ∃ fd, FnP K "_law_lot" s_law_lot (He.fAd K ("_law_lot", none)) fd := c.def_ 44 (d := d_law_lot) rfl
theorem g_law_lot (X : K.In h) (G : h.Ns mainGlobals mg) (c : He.SaysD fa fn K) : mg "_law_lot" = some (.ref (He.fAd K ("_law_lot", none))) := He.glo_ok X G (c.fact 44 (f := .glo "_law_lot") rfl)
theorem has_law_lot (X : K.In h) (G : h.Ns mainGlobals mg) (c : He.SaysD fa fn K) (B : Bl mg) : Has P w K mg base 1 "_law_lot" ["_law_mask_here"] (spD R_law_lot) := by
  obtain ⟨fd, F⟩ := f_law_lot c
  exact ⟨_, fd, (ok_law_lot B  F), g_law_lot X G c, F.kp, F.bindsN fun _ _ _ _ _ _ us hl => match us, hl with | [_], _ => rfl⟩
theorem f_law_shut (c : He.SaysD fa fn K) : ∃ fd, FnP K "_law_shut" s_law_shut (He.fAd K ("_law_shut", none)) fd := c.def_ 49 (d := d_law_shut) rfl
theorem g_law_shut (X : K.In h) (G : h.Ns mainGlobals mg) (c : He.SaysD fa fn K) : mg "_law_shut" = some (.ref (He.fAd K ("_law_shut", none))) := He.glo_ok X G (c.fact 49 (f := .glo "_law_shut") rfl)
theorem has_law_shut (X : K.In h) (G : h.Ns mainGlobals mg) (c : He.SaysD fa fn K) (B : Bl mg) : Has P w K mg base 1 "_law_shut" ["_law_closed", "_law_mask_here"] (spD R_law_shut) := by
  obtain ⟨fd, F⟩ := f_law_shut c
  exact ⟨_, fd, (ok_law_shut  F), g_law_shut X G c, F.kp, F.bindsN fun _ _ _ _ _ _ us hl => match us, hl with | [_, _], _ => rfl⟩
theorem f_bits_round (c : He.SaysD fa fn K) : ∃ fd, FnP K "bits_round" s_bits_round (He.fAd K ("bits_round", none)) fd := c.def_ 7 (d := d_bits_round) rfl
theorem g_bits_round (X : K.In h) (G : h.Ns mainGlobals mg) (c : He.SaysD fa fn K) : mg "bits_round" = some (.ref (He.fAd K ("bits_round", none))) := He.glo_ok X G (c.fact 7 (f := .glo "bits_round") rfl)
theorem has_bits_round (X : K.In h) (G : h.Ns mainGlobals mg) (c : He.SaysD fa fn K) (B : Bl mg) : Has P w K mg base 1 "bits_round" ["rules", "bits"] (spD R_bits_round) := by
  obtain ⟨fd, F⟩ := f_bits_round c
  exact ⟨_, fd, (ok_bits_round  F), g_bits_round X G c, F.kp, F.bindsN fun _ _ _ _ _ _ us hl => match us, hl with | [_, _], _ => rfl⟩
theorem f_bits_closure (c : He.SaysD fa fn K) : ∃ fd, FnP K "bits_closure" s_bits_closure (He.fAd K ("bits_closure", none)) fd := c.def_ 8 (d := d_bits_closure) rfl
theorem g_bits_closure (X : K.In h) (G : h.Ns mainGlobals mg) (c : He.SaysD fa fn K) : mg "bits_closure" = some (.ref (He.fAd K ("bits_closure", none))) := He.glo_ok X G (c.fact 8 (f := .glo "bits_closure") rfl)
theorem has_bits_closure (X : K.In h) (G : h.Ns mainGlobals mg) (c : He.SaysD fa fn K) (B : Bl mg) : Has P w K mg base 2 "bits_closure" ["rules", "bits"] (spD R_bits_closure) := by
  obtain ⟨fd, F⟩ := f_bits_closure c
  exact ⟨_, fd, (ok_bits_closure (has_bits_round X G c B) F), g_bits_closure X G c, F.kp, F.bindsN fun _ _ _ _ _ _ us hl => match us, hl with | [_, _], _ => rfl⟩
theorem f_closure (c : He.SaysD fa fn K) : ∃ fd, FnP K "closure" s_closure (He.fAd K ("closure", none)) fd := c.def_ 11 (d := d_closure) rfl
theorem g_closure (X : K.In h) (G : h.Ns mainGlobals mg) (c : He.SaysD fa fn K) : mg "closure" = some (.ref (He.fAd K ("closure", none))) := He.glo_ok X G (c.fact 11 (f := .glo "closure") rfl)
theorem hask_closure (X : K.In h) (G : h.Ns mainGlobals mg) (c : He.SaysD fa fn K) (B : Bl mg) : HasK P w K mg base 3 "closure" ["book", "lot"] ["lot", "book"] List.reverse (spD R_closure) := by
  obtain ⟨fd, F⟩ := f_closure c
  exact ⟨_, fd, List.reverse, (ok_closure (has_lot_of X G c B) (has_bits_closure X G c B) (has_bits_of X G c B) (has_rule_bits X G c B) F), g_closure X G c, F.kp, kb_of F (by decide) (fun ws => by simp) (fun _ _ _ _ _ _ ws hl => match ws, hl with | [_, _], _ => rfl) (fun h => vals_rev h)⟩
theorem f_is_closed (c : He.SaysD fa fn K) : ∃ fd, FnP K "is_closed" s_is_closed (He.fAd K ("is_closed", none)) fd := c.def_ 12 (d := d_is_closed) rfl
theorem g_is_closed (X : K.In h) (G : h.Ns mainGlobals mg) (c : He.SaysD fa fn K) : mg "is_closed" = some (.ref (He.fAd K ("is_closed", none))) := He.glo_ok X G (c.fact 12 (f := .glo "is_closed") rfl)
theorem has_is_closed (X : K.In h) (G : h.Ns mainGlobals mg) (c : He.SaysD fa fn K) (B : Bl mg) : Has P w K mg base 3 "is_closed" ["book", "lot"] (spD R_is_closed) := by
  obtain ⟨fd, F⟩ := f_is_closed c
  exact ⟨_, fd, (ok_is_closed (has_is_kept X G c B) (has_bits_of X G c B) (has_rule_bits X G c B) F), g_is_closed X G c, F.kp, F.bindsN fun _ _ _ _ _ _ us hl => match us, hl with | [_, _], _ => rfl⟩
theorem f_source (c : He.SaysD fa fn K) : ∃ fd, FnP K "source" s_source (He.fAd K ("source", none)) fd := c.def_ 27 (d := d_source) rfl
theorem g_source (X : K.In h) (G : h.Ns mainGlobals mg) (c : He.SaysD fa fn K) : mg "source" = some (.ref (He.fAd K ("source", none))) := He.glo_ok X G (c.fact 27 (f := .glo "source") rfl)
theorem hask_source (X : K.In h) (G : h.Ns mainGlobals mg) (c : He.SaysD fa fn K) (B : Bl mg) : HasK P w K mg base 2 "source" ["lead", "lot"] ["lead", "lot"] id (spD R_source) := by
  obtain ⟨fd, F⟩ := f_source c
  exact ⟨_, fd, id, (ok_source (has_lot_of X G c B) (has_source_bits X G c B) (has_bits_of X G c B) F), g_source X G c, F.kp, kb_of F (by decide) (fun ws => by simp) (fun _ _ _ _ _ _ ws hl => match ws, hl with | [_, _], _ => rfl) (fun h => h)⟩
theorem f_law_back (c : He.SaysD fa fn K) : ∃ fd, FnP K "_law_back" s_law_back (He.fAd K ("_law_back", none)) fd := c.def_ 60 (d := d_law_back) rfl
theorem g_law_back (X : K.In h) (G : h.Ns mainGlobals mg) (c : He.SaysD fa fn K) : mg "_law_back" = some (.ref (He.fAd K ("_law_back", none))) := He.glo_ok X G (c.fact 60 (f := .glo "_law_back") rfl)
theorem has_law_back (X : K.In h) (G : h.Ns mainGlobals mg) (c : He.SaysD fa fn K) (B : Bl mg) : Has P w K mg base 1 "_law_back" ["_law_way", "_law_mask_here"] (spD R_law_back) := by
  obtain ⟨fd, F⟩ := f_law_back c
  exact ⟨_, fd, (ok_law_back B  F), g_law_back X G c, F.kp, F.bindsN fun _ _ _ _ _ _ us hl => match us, hl with | [_, _], _ => rfl⟩
theorem f_closed_lots (c : He.SaysD fa fn K) : ∃ fd, FnP K "closed_lots" s_closed_lots (He.fAd K ("closed_lots", none)) fd := c.def_ 13 (d := d_closed_lots) rfl
theorem g_closed_lots (X : K.In h) (G : h.Ns mainGlobals mg) (c : He.SaysD fa fn K) : mg "closed_lots" = some (.ref (He.fAd K ("closed_lots", none))) := He.glo_ok X G (c.fact 13 (f := .glo "closed_lots") rfl)
theorem has_closed_lots (X : K.In h) (G : h.Ns mainGlobals mg) (c : He.SaysD fa fn K) (B : Bl mg) : Has P w K mg base 7 "closed_lots" ["book"] (spD R_closed_lots) := by
  obtain ⟨fd, F⟩ := f_closed_lots c
  exact ⟨_, fd, (ok_closed_lots B (has_closed_bits X G c B) (has_lot_of X G c B) F), g_closed_lots X G c, F.kp, F.bindsN fun _ _ _ _ _ _ us hl => match us, hl with | [_], _ => rfl⟩
theorem f_stem (c : He.SaysD fa fn K) : ∃ fd, FnP K "stem" s_stem (He.fAd K ("stem", none)) fd := c.def_ 20 (d := d_stem) rfl
theorem g_stem (X : K.In h) (G : h.Ns mainGlobals mg) (c : He.SaysD fa fn K) : mg "stem" = some (.ref (He.fAd K ("stem", none))) := He.glo_ok X G (c.fact 20 (f := .glo "stem") rfl)
theorem has_stem (X : K.In h) (G : h.Ns mainGlobals mg) (c : He.SaysD fa fn K) (B : Bl mg) : Has P w K mg base 8 "stem" ["book"] (spD R_stem) := by
  obtain ⟨fd, F⟩ := f_stem c
  exact ⟨_, fd, (ok_stem (has_stem_of X G c B) (has_closed_bits X G c B) F), g_stem X G c, F.kp, F.bindsN fun _ _ _ _ _ _ us hl => match us, hl with | [_], _ => rfl⟩
theorem f_law_rank (c : He.SaysD fa fn K) : ∃ fd, FnP K "_law_rank" s_law_rank (He.fAd K ("_law_rank", none)) fd := c.def_ 46 (d := d_law_rank) rfl
theorem g_law_rank (X : K.In h) (G : h.Ns mainGlobals mg) (c : He.SaysD fa fn K) : mg "_law_rank" = some (.ref (He.fAd K ("_law_rank", none))) := He.glo_ok X G (c.fact 46 (f := .glo "_law_rank") rfl)
theorem has_law_rank (X : K.In h) (G : h.Ns mainGlobals mg) (c : He.SaysD fa fn K) (B : Bl mg) : Has P w K mg base 1 "_law_rank" ["_law_own"] (spD R_law_rank) := by
  obtain ⟨fd, F⟩ := f_law_rank c
  exact ⟨_, fd, (ok_law_rank B  F), g_law_rank X G c, F.kp, F.bindsN fun _ _ _ _ _ _ us hl => match us, hl with | [_], _ => rfl⟩
theorem f_law_in_order (c : He.SaysD fa fn K) : ∃ fd, FnP K "_law_in_order" s_law_in_order (He.fAd K ("_law_in_order", none)) fd := c.def_ 47 (d := d_law_in_order) rfl
theorem g_law_in_order (X : K.In h) (G : h.Ns mainGlobals mg) (c : He.SaysD fa fn K) : mg "_law_in_order" = some (.ref (He.fAd K ("_law_in_order", none))) := He.glo_ok X G (c.fact 47 (f := .glo "_law_in_order") rfl)
theorem has_law_in_order (X : K.In h) (G : h.Ns mainGlobals mg) (c : He.SaysD fa fn K) (B : Bl mg) : Has P w K mg base 4 "_law_in_order" ["_law_masks"] (spD R_law_in_order) := by
  obtain ⟨fd, F⟩ := f_law_in_order c
  exact ⟨_, fd, (ok_law_in_order B (has_law_rank X G c B) (has_law_lot X G c B) F), g_law_in_order X G c, F.kp, F.bindsN fun _ _ _ _ _ _ us hl => match us, hl with | [_], _ => rfl⟩
theorem f_law_mask (c : He.SaysD fa fn K) : ∃ fd, FnP K "_law_mask" s_law_mask (He.fAd K ("_law_mask", none)) fd := c.def_ 45 (d := d_law_mask) rfl
theorem g_law_mask (X : K.In h) (G : h.Ns mainGlobals mg) (c : He.SaysD fa fn K) : mg "_law_mask" = some (.ref (He.fAd K ("_law_mask", none))) := He.glo_ok X G (c.fact 45 (f := .glo "_law_mask") rfl)
theorem has_law_maskL (X : K.In h) (G : h.Ns mainGlobals mg) (c : He.SaysD fa fn K) (B : Bl mg) : Has P w K mg base 1 "_law_mask" ["_law_own"] (spD R_law_maskL) := by
  obtain ⟨fd, F⟩ := f_law_mask c
  exact ⟨_, fd, (ok_law_maskL B  F), g_law_mask X G c, F.kp, F.bindsN fun _ _ _ _ _ _ us hl => match us, hl with | [_], _ => rfl⟩
theorem f_law_on (c : He.SaysD fa fn K) : ∃ fd, FnP K "_law_on" s_law_on (He.fAd K ("_law_on", none)) fd := c.def_ 59 (d := d_law_on) rfl
theorem g_law_on (X : K.In h) (G : h.Ns mainGlobals mg) (c : He.SaysD fa fn K) : mg "_law_on" = some (.ref (He.fAd K ("_law_on", none))) := He.glo_ok X G (c.fact 59 (f := .glo "_law_on") rfl)
theorem has_law_on (X : K.In h) (G : h.Ns mainGlobals mg) (c : He.SaysD fa fn K) (B : Bl mg) : Has P w K mg base 2 "_law_on" ["_law_way", "_law_mask_here"] (spD R_law_on) := by
  obtain ⟨fd, F⟩ := f_law_on c
  exact ⟨_, fd, (ok_law_on B (has_law_maskL X G c B) F), g_law_on X G c, F.kp, F.bindsN fun _ _ _ _ _ _ us hl => match us, hl with | [_, _], _ => rfl⟩
theorem has_law_mask (X : K.In h) (G : h.Ns mainGlobals mg) (c : He.SaysD fa fn K) (B : Bl mg) : Has P w K mg base 1 "_law_mask" ["_law_own"] (spD R_law_mask) := by
  obtain ⟨fd, F⟩ := f_law_mask c
  exact ⟨_, fd, (ok_law_mask B  F), g_law_mask X G c, F.kp, F.bindsN fun _ _ _ _ _ _ us hl => match us, hl with | [_], _ => rfl⟩
theorem f_led_bits (c : He.SaysD fa fn K) : ∃ fd, FnP K "led_bits" s_led_bits (He.fAd K ("led_bits", none)) fd := c.def_ 24 (d := d_led_bits) rfl
theorem g_led_bits (X : K.In h) (G : h.Ns mainGlobals mg) (c : He.SaysD fa fn K) : mg "led_bits" = some (.ref (He.fAd K ("led_bits", none))) := He.glo_ok X G (c.fact 24 (f := .glo "led_bits") rfl)
theorem has_led_bits (X : K.In h) (G : h.Ns mainGlobals mg) (c : He.SaysD fa fn K) (B : Bl mg) : Has P w K mg base 1 "led_bits" ["lead", "bits"] (spD R_led_bits) := by
  obtain ⟨fd, F⟩ := f_led_bits c
  exact ⟨_, fd, (ok_led_bits B  F), g_led_bits X G c, F.kp, F.bindsN fun _ _ _ _ _ _ us hl => match us, hl with | [_, _], _ => rfl⟩
theorem f_led (c : He.SaysD fa fn K) : ∃ fd, FnP K "led" s_led (He.fAd K ("led", none)) fd := c.def_ 26 (d := d_led) rfl
theorem g_led (X : K.In h) (G : h.Ns mainGlobals mg) (c : He.SaysD fa fn K) : mg "led" = some (.ref (He.fAd K ("led", none))) := He.glo_ok X G (c.fact 26 (f := .glo "led") rfl)
theorem has_led (X : K.In h) (G : h.Ns mainGlobals mg) (c : He.SaysD fa fn K) (B : Bl mg) : Has P w K mg base 2 "led" ["lead", "lot"] (spD R_led) := by
  obtain ⟨fd, F⟩ := f_led c
  exact ⟨_, fd, (ok_led (has_lot_of X G c B) (has_led_bits X G c B) (has_bits_of X G c B) F), g_led X G c, F.kp, F.bindsN fun _ _ _ _ _ _ us hl => match us, hl with | [_, _], _ => rfl⟩
theorem hask_pushed (X : K.In h) (G : h.Ns mainGlobals mg) (c : He.SaysD fa fn K) (B : Bl mg) : HasK P w K mg base 9 "pushed" ["book", "other_size", "lead"] ["lead", "other_size", "book"] List.reverse (spD R_pushed) := by
  obtain ⟨fd, F⟩ := f_pushed c
  exact ⟨_, fd, List.reverse, (ok_pushed B (has_book_of_family X G c B) (has_source_bits X G c B) (has_closed_bits X G c B) (has_need_map X G c B) F), g_pushed X G c, F.kp, kb_of F (by decide) (fun ws => by simp) (fun _ _ _ _ _ _ ws hl => match ws, hl with | [_, _, _], _ => rfl) (fun h => vals_rev h)⟩
theorem f_law_stem (c : He.SaysD fa fn K) : ∃ fd, FnP K "_law_stem" s_law_stem (He.fAd K ("_law_stem", none)) fd := c.def_ 50 (d := d_law_stem) rfl
theorem g_law_stem (X : K.In h) (G : h.Ns mainGlobals mg) (c : He.SaysD fa fn K) : mg "_law_stem" = some (.ref (He.fAd K ("_law_stem", none))) := He.glo_ok X G (c.fact 50 (f := .glo "_law_stem") rfl)
theorem has_law_stem (X : K.In h) (G : h.Ns mainGlobals mg) (c : He.SaysD fa fn K) (B : Bl mg) : Has P w K mg base 5 "_law_stem" ["_law_wide", "_law_closed"] (spD R_law_stem) := by
  obtain ⟨fd, F⟩ := f_law_stem c
  exact ⟨_, fd, (ok_law_stem B (has_law_lot X G c B) (has_law_in_order X G c B) (has_law_shut X G c B) (has_law_mask X G c B) F), g_law_stem X G c, F.kp, F.bindsN fun _ _ _ _ _ _ us hl => match us, hl with | [_, _], _ => rfl⟩
theorem f_law_is_pushed (c : He.SaysD fa fn K) : ∃ fd, FnP K "_law_is_pushed" s_law_is_pushed (He.fAd K ("_law_is_pushed", none)) fd := c.def_ 64 (d := d_law_is_pushed) rfl
theorem g_law_is_pushed (X : K.In h) (G : h.Ns mainGlobals mg) (c : He.SaysD fa fn K) : mg "_law_is_pushed" = some (.ref (He.fAd K ("_law_is_pushed", none))) := He.glo_ok X G (c.fact 64 (f := .glo "_law_is_pushed") rfl)
theorem has_law_is_pushed (X : K.In h) (G : h.Ns mainGlobals mg) (c : He.SaysD fa fn K) (B : Bl mg) : HasG P w K mg base 10 "_law_is_pushed" ["_law_bag_here", "_law_closed", "_law_large", "_law_way"] (spD R_law_is_pushed) := by
  obtain ⟨fd, F⟩ := f_law_is_pushed c
  exact ⟨_, fd, (ok_law_is_pushed B (has_law_lot X G c B) (has_law_shut X G c B) (hask_closure X G c B) (has_is_closed X G c B) (hask_source X G c B) (has_law_back X G c B) (has_closed_lots X G c B) (has_stem X G c B) (has_law_in_order X G c B) (has_law_on X G c B) (has_law_mask X G c B) (has_led X G c B) (hask_pushed X G c B) (has_law_stem X G c B) (has_pushed X G c B) F), g_law_is_pushed X G c, F.kp, F.bindsN fun _ _ _ _ _ _ us hl => match us, hl with | [_, _, _, _], _ => rfl⟩
theorem has_pulled (X : K.In h) (G : h.Ns mainGlobals mg) (c : He.SaysD fa fn K) (B : Bl mg) : Has P w K mg base 9 "pulled" ["other", "lead"] (spD R_pulled) := by
  obtain ⟨fd, F⟩ := f_pulled c
  exact ⟨_, fd, (ok_pulled B (has_book_of_family X G c B) (has_closed_bits X G c B) (has_source_bits X G c B) (has_need_map X G c B) F), g_pulled X G c, F.kp, F.bindsN fun _ _ _ _ _ _ us hl => match us, hl with | [_, _], _ => rfl⟩
theorem f_after (c : He.SaysD fa fn K) : ∃ fd, FnP K "after" s_after (He.fAd K ("after", none)) fd := c.def_ 28 (d := d_after) rfl
theorem g_after (X : K.In h) (G : h.Ns mainGlobals mg) (c : He.SaysD fa fn K) : mg "after" = some (.ref (He.fAd K ("after", none))) := He.glo_ok X G (c.fact 28 (f := .glo "after") rfl)
theorem hask_after (X : K.In h) (G : h.Ns mainGlobals mg) (c : He.SaysD fa fn K) (B : Bl mg) : HasK P w K mg base 1 "after" ["lead", "further"] ["further", "lead"] List.reverse (spD R_after) := by
  obtain ⟨fd, F⟩ := f_after c
  exact ⟨_, fd, List.reverse, (ok_after B  F), g_after X G c, F.kp, kb_of F (by decide) (fun ws => by simp) (fun _ _ _ _ _ _ ws hl => match ws, hl with | [_, _], _ => rfl) (fun h => vals_rev h)⟩
theorem has_after (X : K.In h) (G : h.Ns mainGlobals mg) (c : He.SaysD fa fn K) (B : Bl mg) : Has P w K mg base 1 "after" ["lead", "further"] (spD R_after) := by
  obtain ⟨fd, F⟩ := f_after c
  exact ⟨_, fd, (ok_after B  F), g_after X G c, F.kp, F.bindsN fun _ _ _ _ _ _ us hl => match us, hl with | [_, _], _ => rfl⟩
theorem f_law_along (c : He.SaysD fa fn K) : ∃ fd, FnP K "_law_along" s_law_along (He.fAd K ("_law_along", none)) fd := c.def_ 65 (d := d_law_along) rfl
theorem g_law_along (X : K.In h) (G : h.Ns mainGlobals mg) (c : He.SaysD fa fn K) : mg "_law_along" = some (.ref (He.fAd K ("_law_along", none))) := He.glo_ok X G (c.fact 65 (f := .glo "_law_along") rfl)
theorem has_law_along (X : K.In h) (G : h.Ns mainGlobals mg) (c : He.SaysD fa fn K) (B : Bl mg) : HasG P w K mg base 2 "_law_along" ["_law_way", "_law_far"] (spD R_law_along) := by
  obtain ⟨fd, F⟩ := f_law_along c
  exact ⟨_, fd, (ok_law_along B (hask_after X G c B) (has_after X G c B) F), g_law_along X G c, F.kp, F.bindsN fun _ _ _ _ _ _ us hl => match us, hl with | [_, _], _ => rfl⟩
theorem f_law_draw (c : He.SaysD fa fn K) : ∃ fd, FnP K "_law_draw" s_law_draw (He.fAd K ("_law_draw", none)) fd := c.def_ 41 (d := d_law_draw) rfl
theorem g_law_draw (X : K.In h) (G : h.Ns mainGlobals mg) (c : He.SaysD fa fn K) : mg "_law_draw" = some (.ref (He.fAd K ("_law_draw", none))) := He.glo_ok X G (c.fact 41 (f := .glo "_law_draw") rfl)
theorem has_law_draw (X : K.In h) (G : h.Ns mainGlobals mg) (c : He.SaysD fa fn K) (B : Bl mg) : Has P w K mg base 1 "_law_draw" ["_law_urn_here", "_law_many"] (spU R_law_draw) := by
  obtain ⟨fd, F⟩ := f_law_draw c
  exact ⟨_, fd, (ok_law_draw B  F), g_law_draw X G c, F.kp, F.bindsN fun _ _ _ _ _ _ us hl => match us, hl with | [_, _], _ => rfl⟩
theorem f_law_shuffled (c : He.SaysD fa fn K) : ∃ fd, FnP K "_law_shuffled" s_law_shuffled (He.fAd K ("_law_shuffled", none)) fd := c.def_ 43 (d := d_law_shuffled) rfl
theorem g_law_shuffled (X : K.In h) (G : h.Ns mainGlobals mg) (c : He.SaysD fa fn K) : mg "_law_shuffled" = some (.ref (He.fAd K ("_law_shuffled", none))) := He.glo_ok X G (c.fact 43 (f := .glo "_law_shuffled") rfl)
theorem has_law_shuffled (X : K.In h) (G : h.Ns mainGlobals mg) (c : He.SaysD fa fn K) (B : Bl mg) : Has P w K mg base 2 "_law_shuffled" ["_law_urn_here", "_law_items"] (spU R_law_shuffled) := by
  obtain ⟨fd, F⟩ := f_law_shuffled c
  exact ⟨_, fd, (ok_law_shuffled B (has_law_draw X G c B) F), g_law_shuffled X G c, F.kp, F.bindsN fun _ _ _ _ _ _ us hl => match us, hl with | [_, _], _ => rfl⟩
theorem f_law_map (c : He.SaysD fa fn K) : ∃ fd, FnP K "_law_map" s_law_map (He.fAd K ("_law_map", none)) fd := c.def_ 58 (d := d_law_map) rfl
theorem g_law_map (X : K.In h) (G : h.Ns mainGlobals mg) (c : He.SaysD fa fn K) : mg "_law_map" = some (.ref (He.fAd K ("_law_map", none))) := He.glo_ok X G (c.fact 58 (f := .glo "_law_map") rfl)
theorem has_law_map (X : K.In h) (G : h.Ns mainGlobals mg) (c : He.SaysD fa fn K) (B : Bl mg) : Has P w K mg base 3 "_law_map" ["_law_urn_here", "_law_many", "_law_wide"] (spU R_law_map) := by
  obtain ⟨fd, F⟩ := f_law_map c
  exact ⟨_, fd, (ok_law_map B (has_law_draw X G c B) (has_law_shuffled X G c B) F), g_law_map X G c, F.kp, F.bindsN fun _ _ _ _ _ _ us hl => match us, hl with | [_, _, _], _ => rfl⟩
theorem f_law_family (c : He.SaysD fa fn K) : ∃ fd, FnP K "_law_family" s_law_family (He.fAd K ("_law_family", none)) fd := c.def_ 48 (d := d_law_family) rfl
theorem g_law_family (X : K.In h) (G : h.Ns mainGlobals mg) (c : He.SaysD fa fn K) : mg "_law_family" = some (.ref (He.fAd K ("_law_family", none))) := He.glo_ok X G (c.fact 48 (f := .glo "_law_family") rfl)
theorem has_law_family (X : K.In h) (G : h.Ns mainGlobals mg) (c : He.SaysD fa fn K) (B : Bl mg) : Has P w K mg base 2 "_law_family" ["_law_wide", "_law_rules_here"] (spD R_law_family) := by
  obtain ⟨fd, F⟩ := f_law_family c
  exact ⟨_, fd, (ok_law_family B (has_law_mask X G c B) F), g_law_family X G c, F.kp, F.bindsN fun _ _ _ _ _ _ us hl => match us, hl with | [_, _], _ => rfl⟩
theorem f_law_by_pushes (c : He.SaysD fa fn K) : ∃ fd, FnP K "_law_by_pushes" s_law_by_pushes (He.fAd K ("_law_by_pushes", none)) fd := c.def_ 67 (d := d_law_by_pushes) rfl
theorem g_law_by_pushes (X : K.In h) (G : h.Ns mainGlobals mg) (c : He.SaysD fa fn K) : mg "_law_by_pushes" = some (.ref (He.fAd K ("_law_by_pushes", none))) := He.glo_ok X G (c.fact 67 (f := .glo "_law_by_pushes") rfl)
theorem has_law_by_pushes (X : K.In h) (G : h.Ns mainGlobals mg) (c : He.SaysD fa fn K) (B : Bl mg) : HasG P w K mg base 11 "_law_by_pushes" ["_law_urn_here", "_law_bag_here", "_law_known"] (spV R_law_by_pushes) := by
  obtain ⟨fd, F⟩ := f_law_by_pushes c
  exact ⟨_, fd, (ok_law_by_pushes B (has_pushed X G c B) (has_law_is_pushed X G c B) (has_pulled X G c B) (has_law_stem X G c B) (has_law_back X G c B) (has_law_along X G c B) (has_law_map X G c B) (has_law_draw X G c B) (has_law_family X G c B) F), g_law_by_pushes X G c, F.kp, F.bindsN fun _ _ _ _ _ _ us hl => match us, hl with | [_, _, _], _ => rfl⟩
theorem f_law_some (c : He.SaysD fa fn K) : ∃ fd, FnP K "_law_some" s_law_some (He.fAd K ("_law_some", none)) fd := c.def_ 52 (d := d_law_some) rfl
theorem g_law_some (X : K.In h) (G : h.Ns mainGlobals mg) (c : He.SaysD fa fn K) : mg "_law_some" = some (.ref (He.fAd K ("_law_some", none))) := He.glo_ok X G (c.fact 52 (f := .glo "_law_some") rfl)
theorem has_law_some (X : K.In h) (G : h.Ns mainGlobals mg) (c : He.SaysD fa fn K) (B : Bl mg) : Has P w K mg base 2 "_law_some" ["_law_urn_here", "_law_wide"] (spU R_law_some) := by
  obtain ⟨fd, F⟩ := f_law_some c
  exact ⟨_, fd, (ok_law_some (has_law_draw X G c B) F), g_law_some X G c, F.kp, F.bindsN fun _ _ _ _ _ _ us hl => match us, hl with | [_, _], _ => rfl⟩
theorem f_law_singles (c : He.SaysD fa fn K) : ∃ fd, FnP K "_law_singles" s_law_singles (He.fAd K ("_law_singles", none)) fd := c.def_ 56 (d := d_law_singles) rfl
theorem g_law_singles (X : K.In h) (G : h.Ns mainGlobals mg) (c : He.SaysD fa fn K) : mg "_law_singles" = some (.ref (He.fAd K ("_law_singles", none))) := He.glo_ok X G (c.fact 56 (f := .glo "_law_singles") rfl)
theorem has_law_singles (X : K.In h) (G : h.Ns mainGlobals mg) (c : He.SaysD fa fn K) (B : Bl mg) : Has P w K mg base 3 "_law_singles" ["_law_urn_here", "_law_wide", "_law_is_ranked"] (spU R_law_singles) := by
  obtain ⟨fd, F⟩ := f_law_singles c
  exact ⟨_, fd, (ok_law_singles B (has_law_draw X G c B) (has_law_lot X G c B) (has_law_some X G c B) (has_law_shuffled X G c B) F), g_law_singles X G c, F.kp, F.bindsN fun _ _ _ _ _ _ us hl => match us, hl with | [_, _, _], _ => rfl⟩
theorem f_law_pick (c : He.SaysD fa fn K) : ∃ fd, FnP K "_law_pick" s_law_pick (He.fAd K ("_law_pick", none)) fd := c.def_ 42 (d := d_law_pick) rfl
theorem g_law_pick (X : K.In h) (G : h.Ns mainGlobals mg) (c : He.SaysD fa fn K) : mg "_law_pick" = some (.ref (He.fAd K ("_law_pick", none))) := He.glo_ok X G (c.fact 42 (f := .glo "_law_pick") rfl)
theorem has_law_pick (X : K.In h) (G : h.Ns mainGlobals mg) (c : He.SaysD fa fn K) (B : Bl mg) : Has P w K mg base 2 "_law_pick" ["_law_urn_here", "_law_items"] (spU R_law_pick) := by
  obtain ⟨fd, F⟩ := f_law_pick c
  exact ⟨_, fd, (ok_law_pick B (has_law_draw X G c B) F), g_law_pick X G c, F.kp, F.bindsN fun _ _ _ _ _ _ us hl => match us, hl with | [_, _], _ => rfl⟩
theorem f_law_spelt (c : He.SaysD fa fn K) : ∃ fd, FnP K "_law_spelt" s_law_spelt (He.fAd K ("_law_spelt", none)) fd := c.def_ 54 (d := d_law_spelt) rfl
theorem g_law_spelt (X : K.In h) (G : h.Ns mainGlobals mg) (c : He.SaysD fa fn K) : mg "_law_spelt" = some (.ref (He.fAd K ("_law_spelt", none))) := He.glo_ok X G (c.fact 54 (f := .glo "_law_spelt") rfl)
theorem has_law_spelt (X : K.In h) (G : h.Ns mainGlobals mg) (c : He.SaysD fa fn K) (B : Bl mg) : Has P w K mg base 6 "_law_spelt" ["_law_urn_here", "_law_wide", "_law_closed"] (spU R_law_spelt) := by
  obtain ⟨fd, F⟩ := f_law_spelt c
  exact ⟨_, fd, (ok_law_spelt B (has_law_shuffled X G c B) (has_law_draw X G c B) (has_law_lot X G c B) (has_law_shut X G c B) (has_law_some X G c B) (has_law_stem X G c B) (has_law_pick X G c B) (has_law_mask X G c B) F), g_law_spelt X G c, F.kp, F.bindsN fun _ _ _ _ _ _ us hl => match us, hl with | [_, _, _], _ => rfl⟩
theorem f_law_meets (c : He.SaysD fa fn K) : ∃ fd, FnP K "_law_meets" s_law_meets (He.fAd K ("_law_meets", none)) fd := c.def_ 51 (d := d_law_meets) rfl
theorem g_law_meets (X : K.In h) (G : h.Ns mainGlobals mg) (c : He.SaysD fa fn K) : mg "_law_meets" = some (.ref (He.fAd K ("_law_meets", none))) := He.glo_ok X G (c.fact 51 (f := .glo "_law_meets") rfl)
theorem has_law_meets (X : K.In h) (G : h.Ns mainGlobals mg) (c : He.SaysD fa fn K) (B : Bl mg) : Has P w K mg base 1 "_law_meets" ["_law_wide", "_law_masks"] (spD R_law_meets) := by
  obtain ⟨fd, F⟩ := f_law_meets c
  exact ⟨_, fd, (ok_law_meets B  F), g_law_meets X G c, F.kp, F.bindsN fun _ _ _ _ _ _ us hl => match us, hl with | [_, _], _ => rfl⟩
theorem f_law_tails (c : He.SaysD fa fn K) : ∃ fd, FnP K "_law_tails" s_law_tails (He.fAd K ("_law_tails", none)) fd := c.def_ 55 (d := d_law_tails) rfl
theorem g_law_tails (X : K.In h) (G : h.Ns mainGlobals mg) (c : He.SaysD fa fn K) : mg "_law_tails" = some (.ref (He.fAd K ("_law_tails", none))) := He.glo_ok X G (c.fact 55 (f := .glo "_law_tails") rfl)
theorem has_law_tails (X : K.In h) (G : h.Ns mainGlobals mg) (c : He.SaysD fa fn K) (B : Bl mg) : Has P w K mg base 3 "_law_tails" ["_law_urn_here", "_law_wide", "_law_many"] (spU R_law_tails) := by
  obtain ⟨fd, F⟩ := f_law_tails c
  exact ⟨_, fd, (ok_law_tails B (has_law_shuffled X G c B) F), g_law_tails X G c, F.kp, F.bindsN fun _ _ _ _ _ _ us hl => match us, hl with | [_, _, _], _ => rfl⟩
theorem f_law_rules (c : He.SaysD fa fn K) : ∃ fd, FnP K "_law_rules" s_law_rules (He.fAd K ("_law_rules", none)) fd := c.def_ 53 (d := d_law_rules) rfl
theorem g_law_rules (X : K.In h) (G : h.Ns mainGlobals mg) (c : He.SaysD fa fn K) : mg "_law_rules" = some (.ref (He.fAd K ("_law_rules", none))) := He.glo_ok X G (c.fact 53 (f := .glo "_law_rules") rfl)
theorem has_law_rules (X : K.In h) (G : h.Ns mainGlobals mg) (c : He.SaysD fa fn K) (B : Bl mg) : Has P w K mg base 3 "_law_rules" ["_law_urn_here", "_law_wide"] (spU R_law_rules) := by
  obtain ⟨fd, F⟩ := f_law_rules c
  exact ⟨_, fd, (ok_law_rules B (has_law_draw X G c B) (has_law_lot X G c B) (has_law_some X G c B) F), g_law_rules X G c, F.kp, F.bindsN fun _ _ _ _ _ _ us hl => match us, hl with | [_, _], _ => rfl⟩
theorem f_law_bag (c : He.SaysD fa fn K) : ∃ fd, FnP K "_law_bag" s_law_bag (He.fAd K ("_law_bag", none)) fd := c.def_ 57 (d := d_law_bag) rfl
theorem g_law_bag (X : K.In h) (G : h.Ns mainGlobals mg) (c : He.SaysD fa fn K) : mg "_law_bag" = some (.ref (He.fAd K ("_law_bag", none))) := He.glo_ok X G (c.fact 57 (f := .glo "_law_bag") rfl)
theorem has_law_bag (X : K.In h) (G : h.Ns mainGlobals mg) (c : He.SaysD fa fn K) (B : Bl mg) : Has P w K mg base 7 "_law_bag" ["_law_urn_here", "_law_wide", "_law_kind"] (spU R_law_bag) := by
  obtain ⟨fd, F⟩ := f_law_bag c
  exact ⟨_, fd, (ok_law_bag B (has_law_singles X G c B) (has_law_spelt X G c B) (has_law_meets X G c B) (has_law_tails X G c B) (has_law_draw X G c B) (has_law_some X G c B) (has_law_rules X G c B) F), g_law_bag X G c, F.kp, F.bindsN fun _ _ _ _ _ _ us hl => match us, hl with | [_, _, _], _ => rfl⟩
theorem f_breaking (c : He.SaysD fa fn K) : ∃ fd, FnP K "breaking" s_breaking (He.fAd K ("breaking", none)) fd := c.def_ 15 (d := d_breaking) rfl
theorem g_breaking (X : K.In h) (G : h.Ns mainGlobals mg) (c : He.SaysD fa fn K) : mg "breaking" = some (.ref (He.fAd K ("breaking", none))) := He.glo_ok X G (c.fact 15 (f := .glo "breaking") rfl)
theorem has_breaking (X : K.In h) (G : h.Ns mainGlobals mg) (c : He.SaysD fa fn K) (B : Bl mg) : Has P w K mg base 7 "breaking" ["book", "rule"] (spD R_breaking) := by
  obtain ⟨fd, F⟩ := f_breaking c
  exact ⟨_, fd, (ok_breaking (has_closed_bits X G c B) (has_is_kept X G c B) (has_lot_of X G c B) (has_bits_of X G c B) F), g_breaking X G c, F.kp, F.bindsN fun _ _ _ _ _ _ us hl => match us, hl with | [_, _], _ => rfl⟩
theorem f_follows (c : He.SaysD fa fn K) : ∃ fd, FnP K "follows" s_follows (He.fAd K ("follows", none)) fd := c.def_ 14 (d := d_follows) rfl
theorem g_follows (X : K.In h) (G : h.Ns mainGlobals mg) (c : He.SaysD fa fn K) : mg "follows" = some (.ref (He.fAd K ("follows", none))) := He.glo_ok X G (c.fact 14 (f := .glo "follows") rfl)
theorem hask_follows (X : K.In h) (G : h.Ns mainGlobals mg) (c : He.SaysD fa fn K) (B : Bl mg) : HasK P w K mg base 3 "follows" ["book", "rule"] ["rule", "book"] List.reverse (spD R_follows) := by
  obtain ⟨fd, F⟩ := f_follows c
  exact ⟨_, fd, List.reverse, (ok_follows (has_bits_closure X G c B) (has_bits_of X G c B) (has_rule_bits X G c B) F), g_follows X G c, F.kp, kb_of F (by decide) (fun ws => by simp) (fun _ _ _ _ _ _ ws hl => match ws, hl with | [_, _], _ => rfl) (fun h => vals_rev h)⟩
theorem has_follows (X : K.In h) (G : h.Ns mainGlobals mg) (c : He.SaysD fa fn K) (B : Bl mg) : Has P w K mg base 3 "follows" ["book", "rule"] (spD R_follows) := by
  obtain ⟨fd, F⟩ := f_follows c
  exact ⟨_, fd, (ok_follows (has_bits_closure X G c B) (has_bits_of X G c B) (has_rule_bits X G c B) F), g_follows X G c, F.kp, F.bindsN fun _ _ _ _ _ _ us hl => match us, hl with | [_, _], _ => rfl⟩
theorem f_law_is_ruled (c : He.SaysD fa fn K) : ∃ fd, FnP K "_law_is_ruled" s_law_is_ruled (He.fAd K ("_law_is_ruled", none)) fd := c.def_ 62 (d := d_law_is_ruled) rfl
theorem g_law_is_ruled (X : K.In h) (G : h.Ns mainGlobals mg) (c : He.SaysD fa fn K) : mg "_law_is_ruled" = some (.ref (He.fAd K ("_law_is_ruled", none))) := He.glo_ok X G (c.fact 62 (f := .glo "_law_is_ruled") rfl)
theorem has_law_is_ruled (X : K.In h) (G : h.Ns mainGlobals mg) (c : He.SaysD fa fn K) (B : Bl mg) : HasG P w K mg base 8 "_law_is_ruled" ["_law_urn_here", "_law_bags", "_law_way", "_law_marks"] (spU R_law_is_ruled) := by
  obtain ⟨fd, F⟩ := f_law_is_ruled c
  exact ⟨_, fd, (ok_law_is_ruled B (has_law_lot X G c B) (has_breaking X G c B) (hask_follows X G c B) (has_follows X G c B) (has_led X G c B) (has_law_on X G c B) (has_law_some X G c B) (has_law_draw X G c B) F), g_law_is_ruled X G c, F.kp, F.bindsN fun _ _ _ _ _ _ us hl => match us, hl with | [_, _, _, _], _ => rfl⟩
theorem has_closure (X : K.In h) (G : h.Ns mainGlobals mg) (c : He.SaysD fa fn K) (B : Bl mg) : Has P w K mg base 3 "closure" ["book", "lot"] (spD R_closure) := by
  obtain ⟨fd, F⟩ := f_closure c
  exact ⟨_, fd, (ok_closure (has_lot_of X G c B) (has_bits_closure X G c B) (has_bits_of X G c B) (has_rule_bits X G c B) F), g_closure X G c, F.kp, F.bindsN fun _ _ _ _ _ _ us hl => match us, hl with | [_, _], _ => rfl⟩
theorem has_source (X : K.In h) (G : h.Ns mainGlobals mg) (c : He.SaysD fa fn K) (B : Bl mg) : Has P w K mg base 2 "source" ["lead", "lot"] (spD R_source) := by
  obtain ⟨fd, F⟩ := f_source c
  exact ⟨_, fd, (ok_source (has_lot_of X G c B) (has_source_bits X G c B) (has_bits_of X G c B) F), g_source X G c, F.kp, F.bindsN fun _ _ _ _ _ _ us hl => match us, hl with | [_, _], _ => rfl⟩
theorem f_things_in (c : He.SaysD fa fn K) : ∃ fd, FnP K "things_in" s_things_in (He.fAd K ("things_in", none)) fd := c.def_ 31 (d := d_things_in) rfl
theorem g_things_in (X : K.In h) (G : h.Ns mainGlobals mg) (c : He.SaysD fa fn K) : mg "things_in" = some (.ref (He.fAd K ("things_in", none))) := He.glo_ok X G (c.fact 31 (f := .glo "things_in") rfl)
theorem has_things_in (X : K.In h) (G : h.Ns mainGlobals mg) (c : He.SaysD fa fn K) (B : Bl mg) : Has P w K mg base 1 "things_in" ["bits"] (spD R_things_in) := by
  obtain ⟨fd, F⟩ := f_things_in c
  exact ⟨_, fd, (ok_things_in B  F), g_things_in X G c, F.kp, F.bindsN fun _ _ _ _ _ _ us hl => match us, hl with | [_], _ => rfl⟩
theorem f_spare_by (c : He.SaysD fa fn K) : ∃ fd, FnP K "spare_by" s_spare_by (He.fAd K ("spare_by", none)) fd := c.def_ 34 (d := d_spare_by) rfl
theorem g_spare_by (X : K.In h) (G : h.Ns mainGlobals mg) (c : He.SaysD fa fn K) : mg "spare_by" = some (.ref (He.fAd K ("spare_by", none))) := He.glo_ok X G (c.fact 34 (f := .glo "spare_by") rfl)
theorem has_spare_by (X : K.In h) (G : h.Ns mainGlobals mg) (c : He.SaysD fa fn K) (B : Bl mg) : Has P w K mg base 2 "spare_by" ["closures", "bits"] (spD R_spare_by) := by
  obtain ⟨fd, F⟩ := f_spare_by c
  exact ⟨_, fd, (ok_spare_by (has_things_in X G c B) F), g_spare_by X G c, F.kp, F.bindsN fun _ _ _ _ _ _ us hl => match us, hl with | [_, _], _ => rfl⟩
theorem f_lots_within (c : He.SaysD fa fn K) : ∃ fd, FnP K "lots_within" s_lots_within (He.fAd K ("lots_within", none)) fd := c.def_ 32 (d := d_lots_within) rfl
theorem g_lots_within (X : K.In h) (G : h.Ns mainGlobals mg) (c : He.SaysD fa fn K) : mg "lots_within" = some (.ref (He.fAd K ("lots_within", none))) := He.glo_ok X G (c.fact 32 (f := .glo "lots_within") rfl)
theorem has_lots_within (X : K.In h) (G : h.Ns mainGlobals mg) (c : He.SaysD fa fn K) (B : Bl mg) : Has P w K mg base 2 "lots_within" ["bits"] (spD R_lots_within) := by
  obtain ⟨fd, F⟩ := f_lots_within c
  exact ⟨_, fd, (ok_lots_within (has_things_in X G c B) F), g_lots_within X G c, F.kp, F.bindsN fun _ _ _ _ _ _ us hl => match us, hl with | [_], _ => rfl⟩
theorem f_makers_by (c : He.SaysD fa fn K) : ∃ fd, FnP K "makers_by" s_makers_by (He.fAd K ("makers_by", none)) fd := c.def_ 35 (d := d_makers_by) rfl
theorem g_makers_by (X : K.In h) (G : h.Ns mainGlobals mg) (c : He.SaysD fa fn K) : mg "makers_by" = some (.ref (He.fAd K ("makers_by", none))) := He.glo_ok X G (c.fact 35 (f := .glo "makers_by") rfl)
theorem has_makers_by (X : K.In h) (G : h.Ns mainGlobals mg) (c : He.SaysD fa fn K) (B : Bl mg) : Has P w K mg base 6 "makers_by" ["closures", "bits"] (spD R_makers_by) := by
  obtain ⟨fd, F⟩ := f_makers_by c
  exact ⟨_, fd, (ok_makers_by (has_ordered X G c B) (has_spare_by X G c B) (has_lots_within X G c B) F), g_makers_by X G c, F.kp, F.bindsN fun _ _ _ _ _ _ us hl => match us, hl with | [_, _], _ => rfl⟩
theorem f_closures_of (c : He.SaysD fa fn K) : ∃ fd, FnP K "closures_of" s_closures_of (He.fAd K ("closures_of", none)) fd := c.def_ 33 (d := d_closures_of) rfl
theorem g_closures_of (X : K.In h) (G : h.Ns mainGlobals mg) (c : He.SaysD fa fn K) : mg "closures_of" = some (.ref (He.fAd K ("closures_of", none))) := He.glo_ok X G (c.fact 33 (f := .glo "closures_of") rfl)
theorem has_closures_of (X : K.In h) (G : h.Ns mainGlobals mg) (c : He.SaysD fa fn K) (B : Bl mg) : Has P w K mg base 3 "closures_of" ["book"] (spD R_closures_of) := by
  obtain ⟨fd, F⟩ := f_closures_of c
  exact ⟨_, fd, (ok_closures_of B (has_bits_closure X G c B) (has_rule_bits X G c B) F), g_closures_of X G c, F.kp, F.bindsN fun _ _ _ _ _ _ us hl => match us, hl with | [_], _ => rfl⟩
theorem f_makers_with (c : He.SaysD fa fn K) : ∃ fd, FnP K "makers_with" s_makers_with (He.fAd K ("makers_with", none)) fd := c.def_ 36 (d := d_makers_with) rfl
theorem g_makers_with (X : K.In h) (G : h.Ns mainGlobals mg) (c : He.SaysD fa fn K) : mg "makers_with" = some (.ref (He.fAd K ("makers_with", none))) := He.glo_ok X G (c.fact 36 (f := .glo "makers_with") rfl)
theorem has_makers_with (X : K.In h) (G : h.Ns mainGlobals mg) (c : He.SaysD fa fn K) (B : Bl mg) : Has P w K mg base 7 "makers_with" ["book", "lot"] (spD R_makers_with) := by
  obtain ⟨fd, F⟩ := f_makers_with c
  exact ⟨_, fd, (ok_makers_with (has_makers_by X G c B) (has_bits_of X G c B) (has_closures_of X G c B) F), g_makers_with X G c, F.kp, F.bindsN fun _ _ _ _ _ _ us hl => match us, hl with | [_, _], _ => rfl⟩
theorem f_makers (c : He.SaysD fa fn K) : ∃ fd, FnP K "makers" s_makers (He.fAd K ("makers", none)) fd := c.def_ 38 (d := d_makers) rfl
theorem g_makers (X : K.In h) (G : h.Ns mainGlobals mg) (c : He.SaysD fa fn K) : mg "makers" = some (.ref (He.fAd K ("makers", none))) := He.glo_ok X G (c.fact 38 (f := .glo "makers") rfl)
theorem has_makers (X : K.In h) (G : h.Ns mainGlobals mg) (c : He.SaysD fa fn K) (B : Bl mg) : Has P w K mg base 8 "makers" ["book", "lot"] (spD R_makers) := by
  obtain ⟨fd, F⟩ := f_makers c
  exact ⟨_, fd, (ok_makers B (has_makers_with X G c B) (has_lot_of X G c B) F), g_makers X G c, F.kp, F.bindsN fun _ _ _ _ _ _ us hl => match us, hl with | [_, _], _ => rfl⟩
theorem f_all_things (c : He.SaysD fa fn K) : ∃ fd, FnP K "all_things" s_all_things (He.fAd K ("all_things", none)) fd := c.def_ 37 (d := d_all_things) rfl
theorem g_all_things (X : K.In h) (G : h.Ns mainGlobals mg) (c : He.SaysD fa fn K) : mg "all_things" = some (.ref (He.fAd K ("all_things", none))) := He.glo_ok X G (c.fact 37 (f := .glo "all_things") rfl)
theorem has_all_things (X : K.In h) (G : h.Ns mainGlobals mg) (c : He.SaysD fa fn K) (B : Bl mg) : Has P w K mg base 1 "all_things" ["book"] (spD R_all_things) := by
  obtain ⟨fd, F⟩ := f_all_things c
  exact ⟨_, fd, (ok_all_things B  F), g_all_things X G c, F.kp, F.bindsN fun _ _ _ _ _ _ us hl => match us, hl with | [_], _ => rfl⟩
theorem f_keys (c : He.SaysD fa fn K) : ∃ fd, FnP K "keys" s_keys (He.fAd K ("keys", none)) fd := c.def_ 39 (d := d_keys) rfl
theorem g_keys (X : K.In h) (G : h.Ns mainGlobals mg) (c : He.SaysD fa fn K) : mg "keys" = some (.ref (He.fAd K ("keys", none))) := He.glo_ok X G (c.fact 39 (f := .glo "keys") rfl)
theorem has_keys (X : K.In h) (G : h.Ns mainGlobals mg) (c : He.SaysD fa fn K) (B : Bl mg) : Has P w K mg base 9 "keys" ["book"] (spD R_keys) := by
  obtain ⟨fd, F⟩ := f_keys c
  exact ⟨_, fd, (ok_keys (has_makers X G c B) (has_all_things X G c B) F), g_keys X G c, F.kp, F.bindsN fun _ _ _ _ _ _ us hl => match us, hl with | [_], _ => rfl⟩
theorem f_law_keys (c : He.SaysD fa fn K) : ∃ fd, FnP K "_law_keys" s_law_keys (He.fAd K ("_law_keys", none)) fd := c.def_ 61 (d := d_law_keys) rfl
theorem g_law_keys (X : K.In h) (G : h.Ns mainGlobals mg) (c : He.SaysD fa fn K) : mg "_law_keys" = some (.ref (He.fAd K ("_law_keys", none))) := He.glo_ok X G (c.fact 61 (f := .glo "_law_keys") rfl)
theorem has_law_keys (X : K.In h) (G : h.Ns mainGlobals mg) (c : He.SaysD fa fn K) (B : Bl mg) : Has P w K mg base 5 "_law_keys" ["_law_closed", "_law_way"] (spD R_law_keys) := by
  obtain ⟨fd, F⟩ := f_law_keys c
  exact ⟨_, fd, (ok_law_keys B (has_law_in_order X G c B) (has_law_shut X G c B) (has_law_on X G c B) F), g_law_keys X G c, F.kp, F.bindsN fun _ _ _ _ _ _ us hl => match us, hl with | [_, _], _ => rfl⟩
theorem f_law_is_pulled (c : He.SaysD fa fn K) : ∃ fd, FnP K "_law_is_pulled" s_law_is_pulled (He.fAd K ("_law_is_pulled", none)) fd := c.def_ 63 (d := d_law_is_pulled) rfl
theorem g_law_is_pulled (X : K.In h) (G : h.Ns mainGlobals mg) (c : He.SaysD fa fn K) : mg "_law_is_pulled" = some (.ref (He.fAd K ("_law_is_pulled", none))) := He.glo_ok X G (c.fact 63 (f := .glo "_law_is_pulled") rfl)
theorem has_law_is_pulled (X : K.In h) (G : h.Ns mainGlobals mg) (c : He.SaysD fa fn K) (B : Bl mg) : HasG P w K mg base 10 "_law_is_pulled" ["_law_urn_here", "_law_bag_here", "_law_closed", "_law_way"] (spU R_law_is_pulled) := by
  obtain ⟨fd, F⟩ := f_law_is_pulled c
  exact ⟨_, fd, (ok_law_is_pulled B (has_law_is_ruled X G c B) (has_law_lot X G c B) (has_closure X G c B) (has_source X G c B) (has_led X G c B) (has_law_back X G c B) (has_law_shut X G c B) (has_law_on X G c B) (has_keys X G c B) (has_closed_lots X G c B) (has_stem X G c B) (has_law_keys X G c B) (has_law_in_order X G c B) (hask_pulled X G c B) (has_law_stem X G c B) (has_pulled X G c B) F), g_law_is_pulled X G c, F.kp, F.bindsN fun _ _ _ _ _ _ us hl => match us, hl with | [_, _, _, _], _ => rfl⟩
theorem f_law_by_pulls (c : He.SaysD fa fn K) : ∃ fd, FnP K "_law_by_pulls" s_law_by_pulls (He.fAd K ("_law_by_pulls", none)) fd := c.def_ 66 (d := d_law_by_pulls) rfl
theorem g_law_by_pulls (X : K.In h) (G : h.Ns mainGlobals mg) (c : He.SaysD fa fn K) : mg "_law_by_pulls" = some (.ref (He.fAd K ("_law_by_pulls", none))) := He.glo_ok X G (c.fact 66 (f := .glo "_law_by_pulls") rfl)
theorem has_law_by_pulls (X : K.In h) (G : h.Ns mainGlobals mg) (c : He.SaysD fa fn K) (B : Bl mg) : HasG P w K mg base 11 "_law_by_pulls" ["_law_urn_here", "_law_bag_here", "_law_known"] (spV R_law_by_pulls) := by
  obtain ⟨fd, F⟩ := f_law_by_pulls c
  exact ⟨_, fd, (ok_law_by_pulls B (has_pulled X G c B) (has_law_is_pulled X G c B) (has_law_back X G c B) (has_law_along X G c B) (has_law_map X G c B) (has_law_draw X G c B) (has_law_family X G c B) F), g_law_by_pulls X G c, F.kp, F.bindsN fun _ _ _ _ _ _ us hl => match us, hl with | [_, _, _], _ => rfl⟩
theorem f_law_urn (c : He.SaysD fa fn K) : ∃ fd, FnP K "_law_urn" s_law_urn (He.fAd K ("_law_urn", none)) fd := c.def_ 40 (d := d_law_urn) rfl
theorem g_law_urn (X : K.In h) (G : h.Ns mainGlobals mg) (c : He.SaysD fa fn K) : mg "_law_urn" = some (.ref (He.fAd K ("_law_urn", none))) := He.glo_ok X G (c.fact 40 (f := .glo "_law_urn") rfl)
theorem has_law_urn (X : K.In h) (G : h.Ns mainGlobals mg) (c : He.SaysD fa fn K) (B : Bl mg) : Has P w K mg base 1 "_law_urn" ["_law_script"] (spUrn K) := by
  obtain ⟨fd, F⟩ := f_law_urn c
  exact ⟨_, fd, (ok_law_urn B  F), g_law_urn X G c, F.kp, F.bindsN fun _ _ _ _ _ _ us hl => match us, hl with | [_], _ => rfl⟩
theorem f_law (c : He.SaysD fa fn K) : ∃ fd, FnP K "law" s_law (He.fAd K ("law", none)) fd := c.def_ 68 (d := d_law) rfl
theorem g_law (X : K.In h) (G : h.Ns mainGlobals mg) (c : He.SaysD fa fn K) : mg "law" = some (.ref (He.fAd K ("law", none))) := He.glo_ok X G (c.fact 68 (f := .glo "law") rfl)
theorem law_facts (X : K.In h) (G : h.Ns mainGlobals mg) {f : Addr} (hf : mg "law" = some (.ref f)) (c : He.SaysD fa fn K) :
    ∃ fd : FuncData, (∀ (s : Shared) (v : Value), BindsTo s fd ⟨[v], []⟩ [("_law_script", v)]) ∧ ∀ base : Heap, K.In base → base.Ns mainGlobals mg → FnG P w K mg base 12 f fd ["_law_script"] (spLaw K) := by
  have B := bl_of X G c
  obtain ⟨fd, F⟩ := f_law c
  have e := hf.symm.trans (g_law X G c)
  cases e
  have b := FunD.bindsA (ps := ["_law_script"]) F fun _ _ _ _ _ _ us hl => match us, hl with | [_], _ => rfl
  exact ⟨fd, fun s v => b s [v] rfl, fun base _ _ => (ok_law B (hask_pulled X G c B) (has_law_by_pushes X G c B) (has_law_bag X G c B) (has_law_by_pulls X G c B) (has_law_pick X G c B) (has_law_draw X G c B) (has_law_urn X G c B) F)⟩
end
end ML
set_option Elab.async false
set_option linter.all false
set_option maxRecDepth 100000
set_option maxHeartbeats 0
open PySem PySem.W PySem.Calls PyProof.Rows
theorem PySem.Challenge.cw_meetlots_k02_whole_pulled_closures_and_p_holds : PySem.Challenge.rw_meetlots_k02_whole_pulled_closures_and_p.Holds := by
  w_on; o_law
  refine HandSHeadRun.head_any (r := OpenLaw.row PySem.Challenge.rw_meetlots_k02_whole_pulled_closures_and_p) (q := view (OpenLaw.row PySem.Challenge.rw_meetlots_k02_whole_pulled_closures_and_p).prog [81]) (H := ML.hk) (ob := ML.ob) (M := 3000) (loose := ML.lo) (d := HandSHeadRun.topDef (OpenLaw.row PySem.Challenge.rw_meetlots_k02_whole_pulled_closures_and_p).prog 81) (kwd := []) ML.ob_eq
    (by kernel_rfl) (fun s => by kernel_rfl) ML.run (by kernel_rfl) (by kernel_rfl) (by kernel_rfl) (by rfl) (by first | assumption | decide +kernel) (by decide +kernel) ⟨rfl, rfl, rfl, rfl, rfl, by decide +kernel⟩ ?hw ?hc
  case hw => w_witness2
  case hc =>
    refine ML.walkG (law := PySem.Challenge.rw_meetlots_k02_whole_pulled_closures_and_p) (most := 63) (k := 12) (x := "_law_script") rfl (by decide) (by kernel_rfl) ⟨rfl, by decide, by decide⟩ ?F
    intro w mg fa h Y G hmg0
    obtain ⟨K, KX, c⟩ := Y
    have hmg : mg ("law" : PySem.Str) = some (.ref fa) := by
      have e : (HandSHeadRun.topDef (OpenLaw.row PySem.Challenge.rw_meetlots_k02_whole_pulled_closures_and_p).prog 81).name = ("law" : PySem.Str) := by kernel_rfl
      rw [← e]
      exact hmg0
    obtain ⟨fd, hb, hF⟩ := ML.law_facts (P := (PySem.Challenge.rw_meetlots_k02_whole_pulled_closures_and_p).prog) (w := w) KX G hmg c
    exact ⟨K, fd, ML.spLaw K, ⟨KX, hb⟩, fun H a ns hl _ hS => ⟨a, ns, rfl, hl, hS, fun _ => rfl⟩, hF⟩

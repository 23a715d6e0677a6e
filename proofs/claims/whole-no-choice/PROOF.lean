import PyProof.Rows.All
import Wide.All
import OpenK.AllK
import Wide.FinOn
import HandS.HeadHook2
import HandS.Nested
import HandS.ClsMeth
import KE.KSuper
import KE.KStateDown
import HandS.Ends
import HandS.More
import HandS.Words
import HandS.WordsExc
import HandS.Head0
import HandS.Head1
import HandS.Head2
import HandS.HeadEnd
import HandS.HeadHook1
import HandS.Head3
import HandS.Defaults
import HandS.Walk
import HandS.Deep
import HandS.ForMost
import HandS.Codes
import HandS.Conv
import HandS.NoneIn
import HandS.Wide
import HandS.Gcd
import HandS.SortInts
import HandS.Flow
import HandS.Style
import KE.SortData
import KE.GoesEnum
import HandS.SetBool
import HandS.TupSets
import HandS.Strs
import HandS.DictTup
import KE.KDictCopyH
import PySem.Challenge.RW_moatways_k08_whole_no_choice_costs_less
/-! part Hd1 -/
set_option Elab.async false
set_option linter.all false
set_option autoImplicit false
set_option maxRecDepth 100000
set_option maxHeartbeats 4000000
namespace L2.VL
open PySem PySem.Spec PyProof.Rows L2 C8
/-! ### the text by places -/
def top (i : Nat) : Stmt := PySem.Challenge.pw_moatways_k08_whole_no_choice_costs_less.main.body.getD i (.Pass ⟨0, 0, 0, 0⟩)
abbrev s_groups : Stmt := (top 2)
theorem sc_groups : FnScope ["net", "choice", "places", "ways", "mark", "index", "a", "b", "_", "low", "high", "found", "first", "one", "place"] ["net", "choice"] (defScope (top 2)) := ⟨rfl, rfl, rfl, by decide +kernel, rfl, by decide +kernel, by decide +kernel⟩
abbrev s_all_ways : Stmt := (top 3)
theorem sc_all_ways : FnScope ["net"] ["net"] (defScope (top 3)) := ⟨rfl, rfl, rfl, by decide +kernel, rfl, by decide +kernel, by decide +kernel⟩
abbrev s_group_of : Stmt := (top 4)
theorem sc_group_of : FnScope ["parts", "place", "part"] ["parts", "place"] (defScope (top 4)) := ⟨rfl, rfl, rfl, by decide +kernel, rfl, by decide +kernel, by decide +kernel⟩
abbrev s_first_apart : Stmt := (top 5)
theorem sc_first_apart : FnScope ["net", "pairs", "choice", "parts", "index", "a", "b"] ["net", "pairs", "choice"] (defScope (top 5)) := ⟨rfl, rfl, rfl, by decide +kernel, rfl, by decide +kernel, by decide +kernel⟩
abbrev s_joins : Stmt := (top 6)
theorem sc_joins : FnScope ["net", "pairs", "choice"] ["net", "pairs", "choice"] (defScope (top 6)) := ⟨rfl, rfl, rfl, by decide +kernel, rfl, by decide +kernel, by decide +kernel⟩
abbrev s_crosses : Stmt := (top 7)
theorem sc_crosses : FnScope ["way", "places"] ["way", "places"] (defScope (top 7)) := ⟨rfl, rfl, rfl, by decide +kernel, rfl, by decide +kernel, by decide +kernel⟩
abbrev s_ratio : Stmt := (top 10)
theorem sc_ratio : FnScope ["top", "bottom", "common"] ["top", "bottom"] (defScope (top 10)) := ⟨rfl, rfl, rfl, by decide +kernel, rfl, by decide +kernel, by decide +kernel⟩
abbrev s_plus : Stmt := (top 11)
theorem sc_plus : FnScope ["a", "b"] ["a", "b"] (defScope (top 11)) := ⟨rfl, rfl, rfl, by decide +kernel, rfl, by decide +kernel, by decide +kernel⟩
abbrev s_minus : Stmt := (top 12)
theorem sc_minus : FnScope ["a", "b"] ["a", "b"] (defScope (top 12)) := ⟨rfl, rfl, rfl, by decide +kernel, rfl, by decide +kernel, by decide +kernel⟩
abbrev s_times : Stmt := (top 13)
theorem sc_times : FnScope ["a", "b"] ["a", "b"] (defScope (top 13)) := ⟨rfl, rfl, rfl, by decide +kernel, rfl, by decide +kernel, by decide +kernel⟩
abbrev s_over : Stmt := (top 14)
theorem sc_over : FnScope ["a", "b"] ["a", "b"] (defScope (top 14)) := ⟨rfl, rfl, rfl, by decide +kernel, rfl, by decide +kernel, by decide +kernel⟩
abbrev s_less : Stmt := (top 15)
theorem sc_less : FnScope ["a", "b"] ["a", "b"] (defScope (top 15)) := ⟨rfl, rfl, rfl, by decide +kernel, rfl, by decide +kernel, by decide +kernel⟩
abbrev s_total : Stmt := (top 16)
theorem sc_total : FnScope ["ratios", "found", "one"] ["ratios"] (defScope (top 16)) := ⟨rfl, rfl, rfl, by decide +kernel, rfl, by decide +kernel, by decide +kernel⟩
abbrev s_is_moat : Stmt := (top 18)
theorem sc_is_moat : FnScope ["net", "places", "width", "place"] ["net", "places", "width"] (defScope (top 18)) := ⟨rfl, rfl, rfl, by decide +kernel, rfl, by decide +kernel, by decide +kernel⟩
abbrev s_are_moats : Stmt := (top 19)
theorem sc_are_moats : FnScope ["net", "paper", "places", "width", "_"] ["net", "paper"] (defScope (top 19)) := ⟨rfl, rfl, rfl, by decide +kernel, rfl, by decide +kernel, by decide +kernel⟩
abbrev s_keeps_costs : Stmt := (top 20)
theorem sc_keeps_costs : FnScope ["net", "paper", "way", "widths", "places", "width"] ["net", "paper"] (defScope (top 20)) := ⟨rfl, rfl, rfl, by decide +kernel, rfl, by decide +kernel, by decide +kernel⟩
abbrev s_is_paper : Stmt := (top 21)
theorem sc_is_paper : FnScope ["net", "pairs", "paper", "places", "_", "a", "b"] ["net", "pairs", "paper"] (defScope (top 21)) := ⟨rfl, rfl, rfl, by decide +kernel, rfl, by decide +kernel, by decide +kernel⟩
abbrev s_worth : Stmt := (top 22)
theorem sc_worth : FnScope ["paper", "_", "width"] ["paper"] (defScope (top 22)) := ⟨rfl, rfl, rfl, by decide +kernel, rfl, by decide +kernel, by decide +kernel⟩
abbrev s_GrowthU_initU : Stmt := (inClass (top 27) 0)
theorem sc_GrowthU_initU : FnScope ["self", "net", "way"] ["self", "net"] (defScope (inClass (top 27) 0)) := ⟨rfl, rfl, rfl, by decide +kernel, rfl, by decide +kernel, by decide +kernel⟩
abbrev s_Growth_is_open : Stmt := (inClass (top 27) 1)
theorem sc_Growth_is_open : FnScope ["self", "part"] ["self", "part"] (defScope (inClass (top 27) 1)) := ⟨rfl, rfl, rfl, by decide +kernel, rfl, by decide +kernel, by decide +kernel⟩
abbrev s_Growth_came : Stmt := (inClass (top 27) 2)
theorem sc_Growth_came : FnScope ["self", "part"] ["self", "part"] (defScope (inClass (top 27) 2)) := ⟨rfl, rfl, rfl, by decide +kernel, rfl, by decide +kernel, by decide +kernel⟩
abbrev s_Growth_rested : Stmt := (inClass (top 27) 3)
theorem sc_Growth_rested : FnScope ["self"] ["self"] (defScope (inClass (top 27) 3)) := ⟨rfl, rfl, rfl, by decide +kernel, rfl, by decide +kernel, by decide +kernel⟩
abbrev s_Growth_waits : Stmt := (inClass (top 27) 4)
theorem sc_Growth_waits : FnScope ["self", "still"] ["self", "still"] (defScope (inClass (top 27) 4)) := ⟨rfl, rfl, rfl, by decide +kernel, rfl, by decide +kernel, by decide +kernel⟩
abbrev s_Growth_between : Stmt := (inClass (top 27) 5)
theorem sc_Growth_between : FnScope ["self", "index", "a", "b", "_", "found", "part"] ["self", "index"] (defScope (inClass (top 27) 5)) := ⟨rfl, rfl, rfl, by decide +kernel, rfl, by decide +kernel, by decide +kernel⟩
abbrev s_Growth_full_way : Stmt := (inClass (top 27) 6)
theorem sc_Growth_full_way : FnScope ["self", "index", "way"] ["self"] (defScope (inClass (top 27) 6)) := ⟨rfl, rfl, rfl, by decide +kernel, rfl, by decide +kernel, by decide +kernel⟩
abbrev s_Growth_take_full_ways : Stmt := (inClass (top 27) 7)
theorem sc_Growth_take_full_ways : FnScope ["self", "index", "one", "other", "joined", "part"] ["self"] (defScope (inClass (top 27) 7)) := ⟨rfl, rfl, rfl, by decide +kernel, rfl, by decide +kernel, by decide +kernel⟩
abbrev s_Growth_rates : Stmt := (inClass (top 27) 8)
theorem sc_Growth_rates : FnScope ["self", "still", "found", "index", "way", "ends", "part"] ["self", "still"] (defScope (inClass (top 27) 8)) := ⟨rfl, rfl, rfl, by decide +kernel, rfl, by decide +kernel, by decide +kernel⟩
abbrev s_Growth_step : Stmt := (inClass (top 27) 9)
theorem sc_Growth_step : FnScope ["self", "still", "times_left", "index", "rate", "lacking", "best", "one"] ["self", "still"] (defScope (inClass (top 27) 9)) := ⟨rfl, rfl, rfl, by decide +kernel, rfl, by decide +kernel, by decide +kernel⟩
abbrev s_Growth_pass_time : Stmt := (inClass (top 27) 10)
theorem sc_Growth_pass_time : FnScope ["self", "span", "still", "index", "rate", "part"] ["self", "span", "still"] (defScope (inClass (top 27) 10)) := ⟨rfl, rfl, rfl, by decide +kernel, rfl, by decide +kernel, by decide +kernel⟩
abbrev s_Growth_still_open : Stmt := (inClass (top 27) 11)
theorem sc_Growth_still_open : FnScope ["self", "part"] ["self"] (defScope (inClass (top 27) 11)) := ⟨rfl, rfl, rfl, by decide +kernel, rfl, by decide +kernel, by decide +kernel⟩
abbrev s_Growth_grow : Stmt := (inClass (top 27) 12)
theorem sc_Growth_grow : FnScope ["self", "still", "many"] ["self"] (defScope (inClass (top 27) 12)) := ⟨rfl, rfl, rfl, by decide +kernel, rfl, by decide +kernel, by decide +kernel⟩
abbrev s_Growth_paper : Stmt := (inClass (top 27) 13)
theorem sc_Growth_paper : FnScope ["self", "part"] ["self"] (defScope (inClass (top 27) 13)) := ⟨rfl, rfl, rfl, by decide +kernel, rfl, by decide +kernel, by decide +kernel⟩
abbrev s_PairGrowthU_initU : Stmt := (inClass (top 29) 0)
abbrev s_PairGrowth_is_open : Stmt := (inClass (top 29) 1)
theorem sc_PairGrowth_is_open : FnScope ["self", "part", "a", "b"] ["self", "part"] (defScope (inClass (top 29) 1)) := ⟨rfl, rfl, rfl, by decide +kernel, rfl, by decide +kernel, by decide +kernel⟩
abbrev s_told : Stmt := (top 30)
theorem sc_told : FnScope ["net", "pairs", "kept", "way", "others", "_", "index"] ["net", "pairs"] (defScope (top 30)) := ⟨rfl, rfl, rfl, by decide +kernel, rfl, by decide +kernel, by decide +kernel⟩
abbrev s_moats : Stmt := (top 31)
theorem sc_moats : FnScope ["net", "pairs"] ["net", "pairs"] (defScope (top 31)) := ⟨rfl, rfl, rfl, by decide +kernel, rfl, by decide +kernel, by decide +kernel⟩
abbrev s__law_pool : Stmt := (top 33)
theorem sc__law_pool : FnScope ["_law_script"] ["_law_script"] (defScope (top 33)) := ⟨rfl, rfl, rfl, by decide +kernel, rfl, by decide +kernel, by decide +kernel⟩
abbrev s__law_draw : Stmt := (top 34)
theorem sc__law_draw : FnScope ["_law_pool_here", "_law_many", "_law_found", "_law_cell", "_law_mixed"] ["_law_pool_here", "_law_many"] (defScope (top 34)) := ⟨rfl, rfl, rfl, by decide +kernel, rfl, by decide +kernel, by decide +kernel⟩
abbrev s__law_pick : Stmt := (top 35)
theorem sc__law_pick : FnScope ["_law_pool_here", "_law_rows"] ["_law_pool_here", "_law_rows"] (defScope (top 35)) := ⟨rfl, rfl, rfl, by decide +kernel, rfl, by decide +kernel, by decide +kernel⟩
abbrev s__law_gcd : Stmt := (top 36)
theorem sc__law_gcd : FnScope ["_law_a", "_law_b", "_law_k"] ["_law_a", "_law_b"] (defScope (top 36)) := ⟨rfl, rfl, rfl, by decide +kernel, rfl, by decide +kernel, by decide +kernel⟩
abbrev s__law_ratio : Stmt := (top 37)
theorem sc__law_ratio : FnScope ["_law_top", "_law_bottom", "_law_common"] ["_law_top", "_law_bottom"] (defScope (top 37)) := ⟨rfl, rfl, rfl, by decide +kernel, rfl, by decide +kernel, by decide +kernel⟩
abbrev s__law_plus : Stmt := (top 38)
theorem sc__law_plus : FnScope ["_law_a", "_law_b"] ["_law_a", "_law_b"] (defScope (top 38)) := ⟨rfl, rfl, rfl, by decide +kernel, rfl, by decide +kernel, by decide +kernel⟩
abbrev s__law_minus : Stmt := (top 39)
theorem sc__law_minus : FnScope ["_law_a", "_law_b"] ["_law_a", "_law_b"] (defScope (top 39)) := ⟨rfl, rfl, rfl, by decide +kernel, rfl, by decide +kernel, by decide +kernel⟩
abbrev s__law_times : Stmt := (top 40)
theorem sc__law_times : FnScope ["_law_a", "_law_b"] ["_law_a", "_law_b"] (defScope (top 40)) := ⟨rfl, rfl, rfl, by decide +kernel, rfl, by decide +kernel, by decide +kernel⟩
abbrev s__law_less : Stmt := (top 41)
theorem sc__law_less : FnScope ["_law_a", "_law_b"] ["_law_a", "_law_b"] (defScope (top 41)) := ⟨rfl, rfl, rfl, by decide +kernel, rfl, by decide +kernel, by decide +kernel⟩
abbrev s__law_sum : Stmt := (top 42)
theorem sc__law_sum : FnScope ["_law_rows", "_law_found", "_law_row"] ["_law_rows"] (defScope (top 42)) := ⟨rfl, rfl, rfl, by decide +kernel, rfl, by decide +kernel, by decide +kernel⟩
abbrev s__law_cost : Stmt := (top 43)
theorem sc__law_cost : FnScope ["_law_pool_here", "_law_pick_here"] ["_law_pool_here"] (defScope (top 43)) := ⟨rfl, rfl, rfl, by decide +kernel, rfl, by decide +kernel, by decide +kernel⟩
abbrev s__law_way : Stmt := (top 44)
theorem sc__law_way : FnScope ["_law_pool_here", "_law_places", "_law_a"] ["_law_pool_here", "_law_places"] (defScope (top 44)) := ⟨rfl, rfl, rfl, by decide +kernel, rfl, by decide +kernel, by decide +kernel⟩
abbrev s__law_net : Stmt := (top 45)
theorem sc__law_net : FnScope ["_law_pool_here", "_law_most", "_law_ways", "_law_places", "_law_found", "_law_place", "_law_k"] ["_law_pool_here", "_law_most", "_law_ways"] (defScope (top 45)) := ⟨rfl, rfl, rfl, by decide +kernel, rfl, by decide +kernel, by decide +kernel⟩
abbrev s__law_pairs : Stmt := (top 46)
theorem sc__law_pairs : FnScope ["_law_pool_here", "_law_places", "_law_most", "_law_found", "_law_k", "_law_a", "_law_pair"] ["_law_pool_here", "_law_places", "_law_most"] (defScope (top 46)) := ⟨rfl, rfl, rfl, by decide +kernel, rfl, by decide +kernel, by decide +kernel⟩
abbrev s__law_group : Stmt := (top 47)
theorem sc__law_group : FnScope ["_law_net_here", "_law_choice", "_law_place", "_law_found", "_law_turn", "_law_index", "_law_a", "_law_b", "_law_cost_here"] ["_law_net_here", "_law_choice", "_law_place"] (defScope (top 47)) := ⟨rfl, rfl, rfl, by decide +kernel, rfl, by decide +kernel, by decide +kernel⟩
abbrev s__law_joins : Stmt := (top 48)
theorem sc__law_joins : FnScope ["_law_net_here", "_law_pairs_here", "_law_choice", "_law_pair"] ["_law_net_here", "_law_pairs_here", "_law_choice"] (defScope (top 48)) := ⟨rfl, rfl, rfl, by decide +kernel, rfl, by decide +kernel, by decide +kernel⟩
abbrev s__law_price : Stmt := (top 49)
theorem sc__law_price : FnScope ["_law_net_here", "_law_choice", "_law_index"] ["_law_net_here", "_law_choice"] (defScope (top 49)) := ⟨rfl, rfl, rfl, by decide +kernel, rfl, by decide +kernel, by decide +kernel⟩
abbrev s__law_open : Stmt := (top 50)
theorem sc__law_open : FnScope ["_law_pairs_here", "_law_part", "_law_pair"] ["_law_pairs_here", "_law_part"] (defScope (top 50)) := ⟨rfl, rfl, rfl, by decide +kernel, rfl, by decide +kernel, by decide +kernel⟩
abbrev s__law_task : Stmt := (top 51)
theorem sc__law_task : FnScope ["_law_pool_here", "_law_most", "_law_ways", "_law_net_here", "_law_pairs_here", "_law_whole", "_law_k", "_law_pair"] ["_law_pool_here", "_law_most", "_law_ways"] (defScope (top 51)) := ⟨rfl, rfl, rfl, by decide +kernel, rfl, by decide +kernel, by decide +kernel⟩
abbrev s__law_any_task : Stmt := (top 52)
theorem sc__law_any_task : FnScope ["_law_pool_here"] ["_law_pool_here"] (defScope (top 52)) := ⟨rfl, rfl, rfl, by decide +kernel, rfl, by decide +kernel, by decide +kernel⟩
abbrev s__law_set : Stmt := (top 53)
theorem sc__law_set : FnScope ["_law_pool_here", "_law_places", "_law_found", "_law_place"] ["_law_pool_here", "_law_places"] (defScope (top 53)) := ⟨rfl, rfl, rfl, by decide +kernel, rfl, by decide +kernel, by decide +kernel⟩
abbrev s__law_drawn_paper : Stmt := (top 54)
theorem sc__law_drawn_paper : FnScope ["_law_pool_here", "_law_net_here", "_law_pairs_here", "_law_paper", "_law_turn", "_law_part", "_law_room", "_law_way_here", "_law_load", "_law_left", "_law_share", "_law_row"] ["_law_pool_here", "_law_net_here", "_law_pairs_here"] (defScope (top 54)) := ⟨rfl, rfl, rfl, by decide +kernel, rfl, by decide +kernel, by decide +kernel⟩
abbrev s__law_joining : Stmt := (top 55)
theorem sc__law_joining : FnScope ["_law_pool_here", "_law_net_here", "_law_pairs_here", "_law_kept", "_law_order", "_law_k", "_law_way_here", "_law_rest", "_law_other"] ["_law_pool_here", "_law_net_here", "_law_pairs_here"] (defScope (top 55)) := ⟨rfl, rfl, rfl, by decide +kernel, rfl, by decide +kernel, by decide +kernel⟩
abbrev s_law : Stmt := (top 56)
theorem sc_law : FnScope ["_law_script", "_law_pool_here", "_law_net_here", "_law_pairs_here", "_law_choices", "_law_paper", "_law_choice", "_law_k"] ["_law_script"] (defScope (top 56)) := ⟨rfl, rfl, rfl, by decide +kernel, rfl, by decide +kernel, by decide +kernel⟩
def d_groups : He.DefD := ⟨("groups", none), "groups", "groups", defArgs (top 2), defBody (top 2), defScope (top 2), [], []⟩
def d_all_ways : He.DefD := ⟨("all_ways", none), "all_ways", "all_ways", defArgs (top 3), defBody (top 3), defScope (top 3), [], []⟩
def d_group_of : He.DefD := ⟨("group_of", none), "group_of", "group_of", defArgs (top 4), defBody (top 4), defScope (top 4), [], []⟩
def d_first_apart : He.DefD := ⟨("first_apart", none), "first_apart", "first_apart", defArgs (top 5), defBody (top 5), defScope (top 5), [], []⟩
def d_joins : He.DefD := ⟨("joins", none), "joins", "joins", defArgs (top 6), defBody (top 6), defScope (top 6), [], []⟩
def d_crosses : He.DefD := ⟨("crosses", none), "crosses", "crosses", defArgs (top 7), defBody (top 7), defScope (top 7), [], []⟩
def d_ratio : He.DefD := ⟨("ratio", none), "ratio", "ratio", defArgs (top 10), defBody (top 10), defScope (top 10), [.int 1], []⟩
def d_plus : He.DefD := ⟨("plus", none), "plus", "plus", defArgs (top 11), defBody (top 11), defScope (top 11), [], []⟩
def d_minus : He.DefD := ⟨("minus", none), "minus", "minus", defArgs (top 12), defBody (top 12), defScope (top 12), [], []⟩
def d_times : He.DefD := ⟨("times", none), "times", "times", defArgs (top 13), defBody (top 13), defScope (top 13), [], []⟩
def d_over : He.DefD := ⟨("over", none), "over", "over", defArgs (top 14), defBody (top 14), defScope (top 14), [], []⟩
def d_less : He.DefD := ⟨("less", none), "less", "less", defArgs (top 15), defBody (top 15), defScope (top 15), [], []⟩
def d_total : He.DefD := ⟨("total", none), "total", "total", defArgs (top 16), defBody (top 16), defScope (top 16), [], []⟩
def d_is_moat : He.DefD := ⟨("is_moat", none), "is_moat", "is_moat", defArgs (top 18), defBody (top 18), defScope (top 18), [], []⟩
def d_are_moats : He.DefD := ⟨("are_moats", none), "are_moats", "are_moats", defArgs (top 19), defBody (top 19), defScope (top 19), [], []⟩
def d_keeps_costs : He.DefD := ⟨("keeps_costs", none), "keeps_costs", "keeps_costs", defArgs (top 20), defBody (top 20), defScope (top 20), [], []⟩
def d_is_paper : He.DefD := ⟨("is_paper", none), "is_paper", "is_paper", defArgs (top 21), defBody (top 21), defScope (top 21), [], []⟩
def d_worth : He.DefD := ⟨("worth", none), "worth", "worth", defArgs (top 22), defBody (top 22), defScope (top 22), [], []⟩
def d_GrowthU_initU : He.DefD := ⟨("Growth", some "__init__"), "__init__", "Growth.__init__", defArgs (inClass (top 27) 0), defBody (inClass (top 27) 0), defScope (inClass (top 27) 0), [], []⟩
def d_Growth_is_open : He.DefD := ⟨("Growth", some "is_open"), "is_open", "Growth.is_open", defArgs (inClass (top 27) 1), defBody (inClass (top 27) 1), defScope (inClass (top 27) 1), [], []⟩
def d_Growth_came : He.DefD := ⟨("PairGrowth", some "came"), "came", "Growth.came", defArgs (inClass (top 27) 2), defBody (inClass (top 27) 2), defScope (inClass (top 27) 2), [], []⟩
def d_Growth_rested : He.DefD := ⟨("PairGrowth", some "rested"), "rested", "Growth.rested", defArgs (inClass (top 27) 3), defBody (inClass (top 27) 3), defScope (inClass (top 27) 3), [], []⟩
def d_Growth_waits : He.DefD := ⟨("PairGrowth", some "waits"), "waits", "Growth.waits", defArgs (inClass (top 27) 4), defBody (inClass (top 27) 4), defScope (inClass (top 27) 4), [], []⟩
def d_Growth_between : He.DefD := ⟨("PairGrowth", some "between"), "between", "Growth.between", defArgs (inClass (top 27) 5), defBody (inClass (top 27) 5), defScope (inClass (top 27) 5), [], []⟩
def d_Growth_full_way : He.DefD := ⟨("PairGrowth", some "full_way"), "full_way", "Growth.full_way", defArgs (inClass (top 27) 6), defBody (inClass (top 27) 6), defScope (inClass (top 27) 6), [], []⟩
def d_Growth_take_full_ways : He.DefD := ⟨("PairGrowth", some "take_full_ways"), "take_full_ways", "Growth.take_full_ways", defArgs (inClass (top 27) 7), defBody (inClass (top 27) 7), defScope (inClass (top 27) 7), [], []⟩
def d_Growth_rates : He.DefD := ⟨("PairGrowth", some "rates"), "rates", "Growth.rates", defArgs (inClass (top 27) 8), defBody (inClass (top 27) 8), defScope (inClass (top 27) 8), [], []⟩
def d_Growth_step : He.DefD := ⟨("PairGrowth", some "step"), "step", "Growth.step", defArgs (inClass (top 27) 9), defBody (inClass (top 27) 9), defScope (inClass (top 27) 9), [], []⟩
def d_Growth_pass_time : He.DefD := ⟨("PairGrowth", some "pass_time"), "pass_time", "Growth.pass_time", defArgs (inClass (top 27) 10), defBody (inClass (top 27) 10), defScope (inClass (top 27) 10), [], []⟩
def d_Growth_still_open : He.DefD := ⟨("PairGrowth", some "still_open"), "still_open", "Growth.still_open", defArgs (inClass (top 27) 11), defBody (inClass (top 27) 11), defScope (inClass (top 27) 11), [], []⟩
def d_Growth_grow : He.DefD := ⟨("PairGrowth", some "grow"), "grow", "Growth.grow", defArgs (inClass (top 27) 12), defBody (inClass (top 27) 12), defScope (inClass (top 27) 12), [], []⟩
def d_Growth_paper : He.DefD := ⟨("PairGrowth", some "paper"), "paper", "Growth.paper", defArgs (inClass (top 27) 13), defBody (inClass (top 27) 13), defScope (inClass (top 27) 13), [], []⟩
def d_PairGrowth_is_open : He.DefD := ⟨("PairGrowth", some "is_open"), "is_open", "PairGrowth.is_open", defArgs (inClass (top 29) 1), defBody (inClass (top 29) 1), defScope (inClass (top 29) 1), [], []⟩
def d_told : He.DefD := ⟨("told", none), "told", "told", defArgs (top 30), defBody (top 30), defScope (top 30), [], []⟩
def d_moats : He.DefD := ⟨("moats", none), "moats", "moats", defArgs (top 31), defBody (top 31), defScope (top 31), [], []⟩
def d__law_pool : He.DefD := ⟨("_law_pool", none), "_law_pool", "_law_pool", defArgs (top 33), defBody (top 33), defScope (top 33), [], []⟩
def d__law_draw : He.DefD := ⟨("_law_draw", none), "_law_draw", "_law_draw", defArgs (top 34), defBody (top 34), defScope (top 34), [], []⟩
def d__law_pick : He.DefD := ⟨("_law_pick", none), "_law_pick", "_law_pick", defArgs (top 35), defBody (top 35), defScope (top 35), [], []⟩
def d__law_gcd : He.DefD := ⟨("_law_gcd", none), "_law_gcd", "_law_gcd", defArgs (top 36), defBody (top 36), defScope (top 36), [], []⟩
def d__law_ratio : He.DefD := ⟨("_law_ratio", none), "_law_ratio", "_law_ratio", defArgs (top 37), defBody (top 37), defScope (top 37), [], []⟩
def d__law_plus : He.DefD := ⟨("_law_plus", none), "_law_plus", "_law_plus", defArgs (top 38), defBody (top 38), defScope (top 38), [], []⟩
def d__law_minus : He.DefD := ⟨("_law_minus", none), "_law_minus", "_law_minus", defArgs (top 39), defBody (top 39), defScope (top 39), [], []⟩
def d__law_times : He.DefD := ⟨("_law_times", none), "_law_times", "_law_times", defArgs (top 40), defBody (top 40), defScope (top 40), [], []⟩
def d__law_less : He.DefD := ⟨("_law_less", none), "_law_less", "_law_less", defArgs (top 41), defBody (top 41), defScope (top 41), [], []⟩
def d__law_sum : He.DefD := ⟨("_law_sum", none), "_law_sum", "_law_sum", defArgs (top 42), defBody (top 42), defScope (top 42), [], []⟩
def d__law_cost : He.DefD := ⟨("_law_cost", none), "_law_cost", "_law_cost", defArgs (top 43), defBody (top 43), defScope (top 43), [], []⟩
def d__law_way : He.DefD := ⟨("_law_way", none), "_law_way", "_law_way", defArgs (top 44), defBody (top 44), defScope (top 44), [], []⟩
def d__law_net : He.DefD := ⟨("_law_net", none), "_law_net", "_law_net", defArgs (top 45), defBody (top 45), defScope (top 45), [], []⟩
def d__law_pairs : He.DefD := ⟨("_law_pairs", none), "_law_pairs", "_law_pairs", defArgs (top 46), defBody (top 46), defScope (top 46), [], []⟩
def d__law_group : He.DefD := ⟨("_law_group", none), "_law_group", "_law_group", defArgs (top 47), defBody (top 47), defScope (top 47), [], []⟩
def d__law_joins : He.DefD := ⟨("_law_joins", none), "_law_joins", "_law_joins", defArgs (top 48), defBody (top 48), defScope (top 48), [], []⟩
def d__law_price : He.DefD := ⟨("_law_price", none), "_law_price", "_law_price", defArgs (top 49), defBody (top 49), defScope (top 49), [], []⟩
def d__law_open : He.DefD := ⟨("_law_open", none), "_law_open", "_law_open", defArgs (top 50), defBody (top 50), defScope (top 50), [], []⟩
def d__law_task : He.DefD := ⟨("_law_task", none), "_law_task", "_law_task", defArgs (top 51), defBody (top 51), defScope (top 51), [], []⟩
def d__law_any_task : He.DefD := ⟨("_law_any_task", none), "_law_any_task", "_law_any_task", defArgs (top 52), defBody (top 52), defScope (top 52), [], []⟩
def d__law_set : He.DefD := ⟨("_law_set", none), "_law_set", "_law_set", defArgs (top 53), defBody (top 53), defScope (top 53), [], []⟩
def d__law_drawn_paper : He.DefD := ⟨("_law_drawn_paper", none), "_law_drawn_paper", "_law_drawn_paper", defArgs (top 54), defBody (top 54), defScope (top 54), [], []⟩
def d__law_joining : He.DefD := ⟨("_law_joining", none), "_law_joining", "_law_joining", defArgs (top 55), defBody (top 55), defScope (top 55), [], []⟩
def d_law : He.DefD := ⟨("law", none), "law", "law", defArgs (top 56), defBody (top 56), defScope (top 56), [], []⟩
def fnA : List He.DefD := [d_groups, d_all_ways, d_group_of, d_first_apart, d_joins, d_crosses, d_ratio, d_plus, d_minus, d_times, d_over, d_less, d_total, d_is_moat, d_are_moats, d_keeps_costs, d_is_paper, d_worth, d_GrowthU_initU, d_Growth_is_open, d_Growth_came, d_Growth_rested, d_Growth_waits, d_Growth_between, d_Growth_full_way, d_Growth_take_full_ways, d_Growth_rates, d_Growth_step, d_Growth_pass_time]
def fnB : List He.DefD := [d_Growth_still_open, d_Growth_grow, d_Growth_paper, d_PairGrowth_is_open, d_told, d_moats, d__law_pool, d__law_draw, d__law_pick, d__law_gcd, d__law_ratio, d__law_plus, d__law_minus, d__law_times, d__law_less, d__law_sum, d__law_cost, d__law_way, d__law_net, d__law_pairs, d__law_group, d__law_joins, d__law_price, d__law_open, d__law_task, d__law_any_task, d__law_set, d__law_drawn_paper, d__law_joining, d_law]
def fn : List He.DefD := fnA ++ fnB
def gC (K : PySem.W.Frag) : Addr := He.ga K "PairGrowth"
abbrev fA (K : PySem.W.Frag) (m : Str) : Addr := He.fAd K ("PairGrowth", some m)
abbrev f0 (K : PySem.W.Frag) : Addr := He.fAd K ("Growth", some "__init__")
abbrev bPG : List Stmt := defBody s_PairGrowthU_initU
abbrev scPG : Scope := defScope s_PairGrowthU_initU
/-! ### the facts of the top -/
def faA : List He.Fa := [.glo "groups", .glo "all_ways", .glo "group_of", .glo "first_apart", .glo "joins", .glo "crosses", .glo "ratio", .glo "plus", .glo "minus", .glo "times", .glo "over", .glo "less", .glo "total", .glo "is_moat", .glo "are_moats", .glo "keeps_costs", .glo "is_paper", .glo "worth", .glo "told", .glo "moats", .glo "_law_pool", .glo "_law_draw", .glo "_law_pick", .glo "_law_gcd", .glo "_law_ratio", .glo "_law_plus", .glo "_law_minus", .glo "_law_times", .glo "_law_less"]
def faB : List He.Fa := [.glo "_law_sum", .glo "_law_cost", .glo "_law_way", .glo "_law_net", .glo "_law_pairs", .glo "_law_group", .glo "_law_joins", .glo "_law_price", .glo "_law_open", .glo "_law_task", .glo "_law_any_task", .glo "_law_set", .glo "_law_drawn_paper", .glo "_law_joining", .glo "law", .glo "ZERO", .glo "Growth", .glo "PairGrowth", .free "len", .free "range", .free "sorted", .free "tuple", .free "list", .free "enumerate", .free "reversed", .free "any", .free "all", .free "sum", .free "min"]
def faC : List He.Fa := [.free "abs", .free "int", .free "set", .free "super", .cls "PairGrowth", .noat "PairGrowth" "net", .noat "PairGrowth" "ways", .noat "PairGrowth" "time", .noat "PairGrowth" "parts", .noat "PairGrowth" "filled", .noat "PairGrowth" "widths", .noat "PairGrowth" "taken", .noat "PairGrowth" "rows", .noat "PairGrowth" "pairs", .meth "PairGrowth" "came", .meth "PairGrowth" "rested", .meth "PairGrowth" "waits", .meth "PairGrowth" "between", .meth "PairGrowth" "full_way", .meth "PairGrowth" "take_full_ways", .meth "PairGrowth" "rates", .meth "PairGrowth" "step", .meth "PairGrowth" "pass_time", .meth "PairGrowth" "still_open", .meth "PairGrowth" "grow", .meth "PairGrowth" "paper", .meth "PairGrowth" "is_open", .mkr "PairGrowth"]
def faM : List He.Fa := faA ++ faB ++ faC
abbrev pgm : Program := PySem.Challenge.pw_moatways_k08_whole_no_choice_costs_less
abbrev FnC : Type := Option (Str × Str × Arguments × FuncBody × Scope × Addr × List Str × Addr)
def pgObs (K : PySem.W.Frag) : FnC := match K.lookup (fA K "__init__") with
  | some ⟨_, _, .func fd, _⟩ => some (fd.name, fd.qualname, fd.params, fd.body, fd.scope, fd.globals, fd.closure.map (·.1), fd.builtins)
  | _ => none
def pgVal : FnC := some ("__init__", "PairGrowth.__init__", defArgs s_PairGrowthU_initU, .stmts bPG, scPG, mainGlobals, ["__class__"], builtinsNs)
def fileB (K : PySem.W.Frag) (v : Value) : Bool := match v with
  | .ref cda => (match K.lookup cda with
    | some ⟨_, _, .fields vs, _⟩ => (match (vs[2]? : Option Value) with
      | some (Value.str f _) => (pgm.main.file : Str) == f
      | _ => false)
    | _ => false)
  | _ => false
def cellB (K : PySem.W.Frag) (cl : List (Str × Addr)) : Bool := match cl with
  | [(_, cc)] => (match K.lookup cc with
    | some ⟨_, _, .cell (some (.ref D)), _⟩ => decide (D = gC K)
    | _ => false)
  | _ => false
def noneB (v : Value) : Bool := match v with
  | .none => true
  | _ => false
def pgB (K : PySem.W.Frag) : Bool := match K.lookup (fA K "__init__") with
  | some ⟨_, _, .func fd, _⟩ => noneB fd.defaults && (PySem.W.codeIn K fd.code "PairGrowth.__init__" && (fileB K fd.code && cellB K fd.closure))
  | _ => false
def exB (K : PySem.W.Frag) : Bool := He.tupB K "ZERO" [.int 0, .int 1] && (He.eqO (PySem.W.nsIn K mainGlobals "gcd") (some (some (.builtin "math.gcd"))) && (pgB K && ((PySem.W.clsIn K (gC K)).isSome && (decide (PySem.W.mroIn K (gC K) (.ref (gC K)) = some true) &&
  (He.eqO (PySem.W.nsIn K cStatics "thirdparty.any") (some none) && (He.eqO (PySem.W.ks_superIn K (gC K) (gC K) "__init__") (some (some (.ref (f0 K)))) && (decide (PySem.W.typeIn K (.ref (f0 K)) = some (.type "function")) && PySem.W.fnIn K (f0 K))))))))
structure Sy (K : PySem.W.Frag) : Prop where
  a : He.SaysD faM fn K
  b : exB K = true
  c : pgObs K = pgVal
/-! ### the Hook -/
abbrev AlM : Type := He.AlD × Bool × FnC
def obsF (K : PySem.W.Frag) : AlM := (He.obsD faM fn K, exB K, pgObs K)
def obsM (n : Nat) (g : Addr → Option Obj) : AlM := obsF (He.frG g (cStatics :: He.asD g n))
def valM : AlM := (He.valD fn, true, pgVal)
theorem sy_of {K : PySem.W.Frag} (e : obsF K = valM) : Sy K := ⟨congrArg (fun z : AlM => z.1) e, congrArg (fun z : AlM => z.2.1) e, congrArg (fun z : AlM => z.2.2) e⟩
def hkM : PySem.W.Hook where
  α := AlM
  obs := fun s => obsM 5 s.heap.get?
  val := fun _ => valM
  says := fun _ h => ∃ K : PySem.W.Frag, K.In h ∧ Sy K
  of := fun _ _ e => ⟨_, He.frG_in, sy_of e⟩
  keeps := fun _ _ _ ⟨K, hK, c⟩ k => ⟨K, PySem.W.Frag.In.keeps hK k, c⟩
abbrev rwR : PySem.W.OpenRow := PySem.W.OpenLaw.row PySem.Challenge.rw_moatways_k08_whole_no_choice_costs_less
def obM (s : PySem.W.SharedT) : AlM := obsM 5 (HandSHeadRun.getT s)
theorem obM_eq (s : PySem.W.SharedT) : obM s = hkM.obs s.abs := by
  have e : HandSHeadRun.getT s = s.abs.heap.get? := funext (HandSHeadRun.getT_eq s)
  unfold obM
  rw [e] <;> rfl
def loose1 : List Str := ["gcd", "groups", "all_ways", "group_of", "first_apart", "joins", "crosses", "ZERO", "ratio", "plus", "minus", "times", "over", "less", "total", "is_moat", "are_moats", "keeps_costs", "is_paper", "worth", "MoatError", "Apart", "Growth", "PairGrowth", "told", "moats", "_law_pool", "_law_draw", "_law_pick", "_law_gcd"]
def loose2 : List Str := ["_law_ratio", "_law_plus", "_law_minus", "_law_times", "_law_less", "_law_sum", "_law_cost", "_law_way", "_law_net", "_law_pairs", "_law_group", "_law_joins", "_law_price", "_law_open", "_law_task", "_law_any_task", "_law_set", "_law_drawn_paper", "_law_joining"]
def looseM : List Str := loose1 ++ loose2
def looseI : List Str := loose1.drop 1 ++ loose2
theorem runM (w : World) : HandSHeadRun.RunEqI rwR (PySem.W.view rwR.prog [0, 56]) hkM obM 4000 looseI w := by
  unfold HandSHeadRun.RunEqI
  kernel_rfl
end L2.VL
/-! part VL1 -/
set_option Elab.async false
set_option linter.all false
set_option autoImplicit false
set_option maxRecDepth 100000
set_option maxHeartbeats 4000000
namespace L2.VL
open PySem PySem.Spec PyProof.Rows L2

/-! ### frozen data -/
theorem sqT_up {K : PySem.W.Frag} {F F' : Hp} {a : Addr} {xs : List V} (e : Same F F') (h : SqT K F a xs) : SqT K F' a xs := by
  rcases h with (h | ⟨o, h⟩) | h
  · exact .inl (.inl (e _ _ h))
  · exact .inl (.inr ⟨o, e _ _ h⟩)
  · exact .inr h
mutual
theorem dp_up {K : PySem.W.Frag} {F F' : Hp} (e : Same F F') : ∀ (d : PyData) (v : V), Dp K F v d → Dp K F' v d
  | .none, _, h => by cases h; exact .non
  | .bool b, _, h => by cases h; exact .bl b
  | .int i, _, h => by cases h; exact .int i
  | .str x, _, h => by cases h; exact .str x
  | .list ds, _, h => by
    cases h with
    | lst hs ha => exact .lst (e.seq hs) (dpa_up e ds _ ha)
  | .tuple ds, _, h => by
    cases h with
    | tup hs ha => exact .tup (sqT_up e hs) (dpa_up e ds _ ha)
  | .dict _, _, h => by cases h
theorem dpa_up {K : PySem.W.Frag} {F F' : Hp} (e : Same F F') : ∀ (ds : List PyData) (vs : List V), DpAll K F vs ds → DpAll K F' vs ds
  | [], _, h => by cases h; exact .nil
  | d :: ds, _, h => by
    cases h with
    | cons h1 h2 => exact .cons (dp_up e d _ h1) (dpa_up e ds _ h2)
end
section
variable {K : PySem.W.Frag} {F F' H H' : Hp} {v : V} {vs : List V} {d : PyData} {ds : List PyData}
theorem dp_mono (e : Same F F') (h : Dp K F v d) : Dp K F' v d := dp_up e d v h
theorem dpa_mono (e : Same F F') (h : DpAll K F vs ds) : DpAll K F' vs ds := dpa_up e ds vs h
theorem dpa_len : ∀ {vs : List V} {ds : List PyData}, DpAll K F vs ds → vs.length = ds.length
  | _, _, .nil => rfl
  | _, _, .cons _ t => congrArg Nat.succ (dpa_len t)
theorem dpa_get : ∀ {vs : List V} {ds : List PyData} {i : Nat} {v : V}, DpAll K F vs ds → vs[i]? = some v → ∃ d, ds[i]? = some d ∧ Dp K F v d
  | _, _, _, _, .nil, e => by simp at e
  | _, _, 0, _, .cons r _, e => by simp at e; subst e; exact ⟨_, rfl, r⟩
  | _, _, i + 1, v, .cons _ t, e => by
    obtain ⟨u, h1, h2⟩ := dpa_get (i := i) (v := v) t (by simpa using e)
    exact ⟨u, by simpa using h1, h2⟩
theorem dpa_getD : ∀ {vs : List V} {ds : List PyData} {i : Nat} {d : PyData}, DpAll K F vs ds → ds[i]? = some d → ∃ v, vs[i]? = some v ∧ Dp K F v d
  | _, _, _, _, .nil, e => by simp at e
  | _, _, 0, _, .cons r _, e => by simp at e; subst e; exact ⟨_, rfl, r⟩
  | _, _, i + 1, v, .cons _ t, e => by
    obtain ⟨u, h1, h2⟩ := dpa_getD (i := i) (d := v) t (by simpa using e)
    exact ⟨u, by simpa using h1, h2⟩
theorem dpa_app : ∀ {vs : List V} {ds : List PyData} {us : List V} {es : List PyData}, DpAll K F vs ds → DpAll K F us es → DpAll K F (vs ++ us) (ds ++ es)
  | _, _, _, _, .nil, h => h
  | _, _, _, _, .cons r t, h => .cons r (dpa_app t h)
theorem dpa_one (h : Dp K F v d) : DpAll K F [v] [d] := .cons h .nil
theorem dpa_set : ∀ {vs : List V} {ds : List PyData} (i : Nat), DpAll K F vs ds → Dp K F v d → DpAll K F (vs.set i v) (ds.set i d)
  | _, _, _, .nil, _ => .nil
  | _, _, 0, .cons _ t, h => .cons h t
  | _, _, i + 1, .cons r t, h => .cons r (dpa_set i t h)
theorem dpa_take : ∀ {vs : List V} {ds : List PyData} (n : Nat), DpAll K F vs ds → DpAll K F (vs.take n) (ds.take n)
  | _, _, 0, _ => .nil
  | _, _, _ + 1, .nil => .nil
  | _, _, n + 1, .cons r t => .cons r (dpa_take n t)
theorem dpa_drop : ∀ {vs : List V} {ds : List PyData} (n : Nat), DpAll K F vs ds → DpAll K F (vs.drop n) (ds.drop n)
  | _, _, 0, r => r
  | _, _, _ + 1, .nil => .nil
  | _, _, n + 1, .cons _ t => dpa_drop n t
theorem dpa_ints : ∀ {vs : List V} {ns : List Int}, DpAll K F vs (ns.map .int) → vs = ns.map V.int
  | _, [], h => by cases h; rfl
  | _, n :: ns, h => by
    cases h with
    | cons h1 h2 =>
      cases h1
      rw [dpa_ints h2]
      rfl
theorem ints_dpa : ∀ (ns : List Int), DpAll K F (ns.map V.int) (ns.map .int)
  | [] => .nil
  | n :: ns => .cons (.int n) (ints_dpa ns)
theorem dpa_bls : ∀ {vs : List V} {bs : List Bool}, DpAll K F vs (bs.map .bool) → vs = bs.map V.bl
  | _, [], h => by cases h; rfl
  | _, n :: ns, h => by
    cases h with
    | cons h1 h2 =>
      cases h1
      rw [dpa_bls h2]
      rfl
end

/-! ### worlds: what a call may change beside its own -/
structure Wo where
  S : Type
  fp : Addr → Prop
  R : S → Hp → Hp → Prop
  keep : ∀ {w : S} {F H F' H' : Hp}, R w F H → Same F F' → (∀ a, fp a → F' a = none) → (∀ a, fp a → H' a = H a) → R w F' H'
  dom : ∀ {w : S} {F H : Hp}, R w F H → ∀ a, fp a → F a = none ∧ H a ≠ none
def W0 : Wo := ⟨Unit, fun _ => False, fun _ _ _ => True, fun _ _ _ _ => True.intro, fun _ _ h => h.elim⟩

structure Ext (W : Wo) (F H F' H' : Hp) : Prop where
  sub : Same F' H'
  ff : Same F F'
  hh : ∀ a o, H a = some o → ¬ W.fp a → H' a = some o
  dm : ∀ a, H a ≠ none → H' a ≠ none
  nw : ∀ a, H a ≠ none → F a = none → F' a = none
section
variable {W : Wo} {F H F' H' F1 H1 : Hp}
theorem Ext.refl (h : Same F H) : Ext W F H F H := ⟨h, Same.refl _, fun _ _ e _ => e, fun _ e => e, fun _ _ e => e⟩
theorem Ext.trans (a : Ext W F H F1 H1) (b : Ext W F1 H1 F' H') : Ext W F H F' H' :=
  ⟨b.sub, a.ff.trans b.ff, fun x o e n => b.hh x o (a.hh x o e n) n, fun x e => b.dm x (a.dm x e), fun x e n => b.nw x (a.dm x e) (a.nw x e n)⟩
theorem Ext.lift (a : Ext W0 F H F' H') : Ext W F H F' H' := ⟨a.sub, a.ff, fun x o e _ => a.hh x o e id, a.dm, a.nw⟩
theorem Ext.keepR {w : W.S} (a : Ext W0 F H F' H') (r : W.R w F H) : W.R w F' H' := W.keep r a.ff (fun x hx => a.nw x (W.dom r x hx).2 (W.dom r x hx).1) fun x hx => by
  have hn := (W.dom r x hx).2
  cases e : H x with
  | none => exact absurd e hn
  | some o => exact a.hh x o e id
theorem ne_some {a : Addr} {o : HO} (h : H a = some o) : H a ≠ none := fun e => by rw [h] at e; cases e
/-- a new frozen object -/
theorem Ext.new {p : Addr} {o : HO} (h : Same F H) (hp : H p = none) : Ext W F H (upd F p o) (upd H p o) := by
  refine ⟨fun b u e => ?_, fun b u e => ?_, fun b u e _ => ?_, fun b e => ?_, fun b e n => ?_⟩
  · by_cases hb : b = p
    · subst hb; rw [upd_same] at e ⊢; exact e
    · rw [upd_ne hb] at e ⊢; exact h b u e
  · rw [upd_ne (ne_of_none (h b u e) hp)]; exact e
  · rw [upd_ne (ne_of_none e hp)]; exact e
  · by_cases hb : b = p
    · subst hb; rw [upd_same]; intro z; cases z
    · rw [upd_ne hb]; exact e
  · have hb : b ≠ p := fun z => e (z ▸ hp)
    rw [upd_ne hb]; exact n
/-- a new object that is not frozen (an own list) -/
theorem Ext.newOwn {p : Addr} {o : HO} (h : Same F H) (hp : H p = none) : Ext W F H F (upd H p o) := by
  refine ⟨fun b u e => ?_, Same.refl _, fun b u e _ => ?_, fun b e => ?_, fun b e n => n⟩
  · rw [upd_ne (ne_of_none (h b u e) hp)]; exact h b u e
  · rw [upd_ne (ne_of_none e hp)]; exact e
  · by_cases hb : b = p
    · subst hb; rw [upd_same]; intro z; cases z
    · rw [upd_ne hb]; exact e
end

/-! ### slots -/
inductive SD where
  | un
  | fz (d : PyData)
  | own (ds : List PyData)
  | adr (a : Addr)
def SlotOk (K : PySem.W.Frag) (W : Wo) (H0 F H : Hp) (o : Option (Option V)) : SD → Prop
  | .un => True
  | .fz d => ∃ v, o = some (some v) ∧ Dp K F v d
  | .own ds => ∃ p vs, o = some (some (V.ref p)) ∧ H p = some (.lst vs) ∧ DpAll K F vs ds ∧ F p = none ∧ H0 p = none ∧ ¬ W.fp p
  | .adr a => o = some (some (.ref a))
structure Rel (K : PySem.W.Frag) (W : Wo) (F0 H0 F H : Hp) (σ : St) (s : List SD) (w : W.S) : Prop where
  ext : Ext W F0 H0 F H
  wr : W.R w F H
  len : σ.length = s.length
  sl : ∀ (i : Nat) (x : SD), s[i]? = some x → SlotOk K W H0 F H σ[i]? x
  one : ∀ (i j : Nat) (ds es : List PyData), s[i]? = some (SD.own ds) → s[j]? = some (SD.own es) → i = j
section
variable {K : PySem.W.Frag} {W : Wo} {F0 H0 F H F' H' : Hp} {σ : St} {s : List SD} {w w' : W.S}
theorem Rel.sub (r : Rel K W F0 H0 F H σ s w) : Same F H := r.ext.sub
theorem SlotOk.up {o : Option (Option V)} {x : SD} (h : SlotOk K W H0 F H o x) (e : Ext W F H F' H') : SlotOk K W H0 F' H' o x := by
  cases x with
  | un => trivial
  | fz d => obtain ⟨v, h1, h2⟩ := h; exact ⟨v, h1, dp_mono e.ff h2⟩
  | own ds =>
    obtain ⟨p, vs, h1, h2, h3, h4, h5, h6⟩ := h
    exact ⟨p, vs, h1, e.hh _ _ h2 h6, dpa_mono e.ff h3, e.nw _ (ne_some h2) h4, h5, h6⟩
  | adr a => exact h
theorem Rel.up (r : Rel K W F0 H0 F H σ s w) (e : Ext W F H F' H') (hw : W.R w' F' H') : Rel K W F0 H0 F' H' σ s w' :=
  ⟨r.ext.trans e, hw, r.len, fun i x h => (r.sl i x h).up e, r.one⟩
theorem Rel.upP (r : Rel K W F0 H0 F H σ s w) (e : Ext W0 F H F' H') : Rel K W F0 H0 F' H' σ s w := r.up e.lift (e.keepR r.wr)
theorem Rel.fz (r : Rel K W F0 H0 F H σ s w) {i : Nat} {d : PyData} (h : s[i]? = some (SD.fz d)) : ∃ v, σ[i]? = some (some v) ∧ Dp K F v d := r.sl i _ h
theorem Rel.ownAt (r : Rel K W F0 H0 F H σ s w) {i : Nat} {ds : List PyData} (h : s[i]? = some (SD.own ds)) :
    ∃ p vs, σ[i]? = some (some (V.ref p)) ∧ H p = some (.lst vs) ∧ DpAll K F vs ds ∧ F p = none ∧ H0 p = none ∧ ¬ W.fp p := r.sl i _ h
/-- a slot is stored -/
theorem Rel.set (r : Rel K W F0 H0 F H σ s w) (i : Nat) {v : V} {d : PyData} (h : Dp K F v d) : Rel K W F0 H0 F H (σ.set i (some v)) (s.set i (.fz d)) w := by
  refine ⟨r.ext, r.wr, by simpa using r.len, fun j x hj => ?_, fun j k ds es hj hk => ?_⟩
  · by_cases e : i = j
    · subst e
      have hl : i < s.length := by
        have := (List.getElem?_eq_some_iff.mp hj).1
        simpa using this
      rw [List.getElem?_set_self hl] at hj
      cases hj
      exact ⟨v, List.getElem?_set_self (by rw [r.len]; exact hl), h⟩
    · rw [List.getElem?_set_ne e] at hj ⊢
      exact r.sl j x hj
  · have f : ∀ m (fs : List PyData), (s.set i (.fz d))[m]? = some (SD.own fs) → s[m]? = some (SD.own fs) := fun m fs hm => by
      by_cases e : i = m
      · subst e
        have hl : i < s.length := by
          have := (List.getElem?_eq_some_iff.mp hm).1
          simpa using this
        rw [List.getElem?_set_self hl] at hm
        cases hm
      · rwa [List.getElem?_set_ne e] at hm
    exact r.one j k ds es (f j ds hj) (f k es hk)
theorem Rel.setOwn (r : Rel K W F0 H0 F H σ s w) (i : Nat) {p : Addr} {vs : List V} {ds : List PyData} (h : H p = some (.lst vs)) (hd : DpAll K F vs ds) (hF : F p = none) (h0 : H0 p = none) (hf : ¬ W.fp p)
    (hn : ∀ (j : Nat) (es : List PyData), s[j]? = some (SD.own es) → j = i) : Rel K W F0 H0 F H (σ.set i (some (.ref p))) (s.set i (.own ds)) w := by
  refine ⟨r.ext, r.wr, by simpa using r.len, fun j x hj => ?_, fun j k fs es hj hk => ?_⟩
  · by_cases e : i = j
    · subst e
      have hl : i < s.length := by
        have := (List.getElem?_eq_some_iff.mp hj).1
        simpa using this
      rw [List.getElem?_set_self hl] at hj
      cases hj
      exact ⟨p, vs, List.getElem?_set_self (by rw [r.len]; exact hl), h, hd, hF, h0, hf⟩
    · rw [List.getElem?_set_ne e] at hj ⊢
      exact r.sl j x hj
  · have f : ∀ m (gs : List PyData), (s.set i (.own ds))[m]? = some (SD.own gs) → m = i := fun m gs hm => by
      by_cases e : i = m
      · exact e.symm
      · rw [List.getElem?_set_ne e] at hm
        exact hn m gs hm
    rw [f j fs hj, f k es hk]
/-- an own list is changed -/
theorem Rel.chg (r : Rel K W F0 H0 F H σ s w) {i : Nat} {p : Addr} {vs us : List V} {ds es : List PyData} (hi : s[i]? = some (SD.own ds)) (hp : σ[i]? = some (some (V.ref p))) (h : H p = some (.lst vs)) (hF : F p = none) (h0 : H0 p = none) (hf : ¬ W.fp p)
    (hd : DpAll K F us es) : Rel K W F0 H0 F (upd H p (.lst us)) σ (s.set i (.own es)) w := by
  have hsub : Same F (upd H p (.lst us)) := fun b u e => by
    have hb : b ≠ p := fun z => by rw [z, hF] at e; cases e
    rw [upd_ne hb]
    exact r.sub b u e
  have hdm : ∀ b, H b ≠ none → upd H p (.lst us) b ≠ none := fun b e => by
    by_cases hb : b = p
    · subst hb; rw [upd_same]; intro z; cases z
    · rw [upd_ne hb]; exact e
  refine ⟨⟨hsub, r.ext.ff, fun b o e n => ?_, fun b e => hdm b (r.ext.dm b e), r.ext.nw⟩, W.keep r.wr (Same.refl _) (fun b hb => (W.dom r.wr b hb).1) fun b hb => ?_, by simpa using r.len, fun j x hj => ?_, fun j k fs gs hj hk => ?_⟩
  · have hb : b ≠ p := fun z => by rw [z, h0] at e; cases e
    rw [upd_ne hb]
    exact r.ext.hh b o e n
  · have hne : b ≠ p := fun z => hf (z ▸ hb)
    rw [upd_ne hne]
  · by_cases e : i = j
    · subst e
      have hl : i < s.length := (List.getElem?_eq_some_iff.mp hi).1
      rw [List.getElem?_set_self hl] at hj
      cases hj
      exact ⟨p, us, hp, upd_same, hd, hF, h0, hf⟩
    · rw [List.getElem?_set_ne e] at hj
      have q := r.sl j x hj
      cases x with
      | own gs => exact absurd (r.one i j _ _ hi hj) e
      | un => trivial
      | fz d => exact q
      | adr a => exact q
  · have f : ∀ m (hs : List PyData), (s.set i (.own es))[m]? = some (SD.own hs) → m = i := fun m hs hm => by
      by_cases e : i = m
      · exact e.symm
      · rw [List.getElem?_set_ne e] at hm
        exact (r.one i m _ _ hi hm).symm
    rw [f j fs hj, f k gs hk]
/-- an own list is frozen -/
theorem Rel.freeze (r : Rel K W F0 H0 F H σ s w) {i : Nat} {ds : List PyData} (hi : s[i]? = some (SD.own ds)) :
    ∃ F', Same F F' ∧ (∀ p o, F' p = some o → F p = some o ∨ (σ[i]? = some (some (V.ref p)) ∧ ∃ vs, o = .lst vs)) ∧ Rel K W F0 H0 F' H σ (s.set i (.fz (.list ds))) w := by
  obtain ⟨p, vs, h1, h2, h3, h4, h5, h6⟩ := r.ownAt hi
  have hff : Same F (upd F p (.lst vs)) := fun b u e => by
    have hb : b ≠ p := fun z => by rw [z, h4] at e; cases e
    rw [upd_ne hb]; exact e
  have hsub : Same (upd F p (.lst vs)) H := fun b u e => by
    by_cases hb : b = p
    · subst hb; rw [upd_same] at e; rw [h2]; exact e
    · rw [upd_ne hb] at e; exact r.sub b u e
  have hl : i < s.length := (List.getElem?_eq_some_iff.mp hi).1
  refine ⟨upd F p (.lst vs), hff, fun b o e => ?_, ⟨⟨hsub, r.ext.ff.trans hff, r.ext.hh, r.ext.dm, fun b e n => ?_⟩, W.keep r.wr hff (fun b hb => (upd_ne (fun z : b = p => h6 (z ▸ hb))).trans (W.dom r.wr b hb).1) fun _ _ => rfl, by simpa using r.len, fun j x hj => ?_, fun j k fs gs hj hk => ?_⟩⟩
  · by_cases hb : b = p
    · subst hb; rw [upd_same] at e; cases e; exact .inr ⟨h1, vs, rfl⟩
    · rw [upd_ne hb] at e; exact .inl e
  · have hb : b ≠ p := fun z => e (z ▸ h5)
    rw [upd_ne hb]
    exact r.ext.nw b e n
  · by_cases e : i = j
    · subst e
      rw [List.getElem?_set_self hl] at hj
      cases hj
      exact ⟨_, h1, .lst (.inl (.inl upd_same)) (dpa_mono hff h3)⟩
    · rw [List.getElem?_set_ne e] at hj
      have q := r.sl j x hj
      cases x with
      | own gs => exact absurd (r.one i j _ _ hi hj) e
      | un => trivial
      | fz d => obtain ⟨v, q1, q2⟩ := q; exact ⟨v, q1, dp_mono hff q2⟩
      | adr a => exact q
  · have f : ∀ m (hs : List PyData), (s.set i (.fz (.list ds)))[m]? = some (SD.own hs) → False := fun m hs hm => by
      by_cases e : i = m
      · subst e
        rw [List.getElem?_set_self hl] at hm
        cases hm
      · rw [List.getElem?_set_ne e] at hm
        exact e (r.one i m _ _ hi hm)
    exact (f j fs hj).elim
end
end L2.VL
/-! part VL2 -/
set_option Elab.async false
set_option linter.all false
set_option autoImplicit false
set_option maxRecDepth 100000
set_option maxHeartbeats 4000000
namespace L2.VL
open PySem PySem.Spec PyProof.Rows L2

/-! ### readings over data -/
section
variable (W : Wo)
abbrev VE := List SD → W.S → (PyData → W.S → Prop) → Prop
abbrev VT := List SD → W.S → (Bool → W.S → Prop) → Prop
abbrev VA := List SD → W.S → (List SD → W.S → Prop) → Prop
abbrev VG := PyData → List SD → W.S → (List SD → W.S → Prop) → Prop
abbrev VGs := List PyData → List SD → W.S → (List SD → W.S → Prop) → Prop
abbrev VI := List SD → W.S → (List PyData → W.S → Prop) → Prop
structure VEnds where
  nx : List SD → W.S → Prop
  rt : PyData → W.S → Prop
  bk : List SD → W.S → Prop := fun _ _ => False
  ct : List SD → W.S → Prop := fun _ _ => False
abbrev VS := VEnds W → List SD → W.S → Prop
end
def ArgOk (K : PySem.W.Frag) (F : Hp) (v : V) : SD → Prop
  | .fz d => Dp K F v d
  | .adr a => v = .ref a
  | _ => False
abbrev ArgsOk (K : PySem.W.Frag) (F : Hp) : List V → List SD → Prop := Paired (ArgOk K F)
theorem ArgOk.up {K : PySem.W.Frag} {F F' : Hp} {v : V} {x : SD} (h : ArgOk K F v x) (e : Same F F') : ArgOk K F' v x := by
  cases x with
  | fz d => exact dp_mono e h
  | adr a => exact h
  | un => exact h
  | own ds => exact h
theorem ArgsOk.up {K : PySem.W.Frag} {F F' : Hp} (e : Same F F') : ∀ {vs : List V} {xs : List SD}, ArgsOk K F vs xs → ArgsOk K F' vs xs
  | _, _, .nil => .nil
  | _, _, .cons r t => .cons (r.up e) (ArgsOk.up e t)
theorem ArgsOk.data {K : PySem.W.Frag} {F : Hp} : ∀ {vs : List V} {ds : List PyData}, ArgsOk K F vs (ds.map SD.fz) → DpAll K F vs ds
  | _, [], h => by cases h; exact .nil
  | _, d :: ds, h => by
    cases h with
    | cons r t => exact .cons r (ArgsOk.data t)
theorem ArgsOk.of {K : PySem.W.Frag} {F : Hp} : ∀ {vs : List V} {ds : List PyData}, DpAll K F vs ds → ArgsOk K F vs (ds.map SD.fz)
  | _, _, .nil => .nil
  | _, _, .cons r t => .cons r (ArgsOk.of t)

section
variable (K : PySem.W.Frag) (W : Wo)
def SndE (te : TE) (t : VE W) : Prop := ∀ F0 H0 F H σ s w (Q' : PyData → W.S → Prop) (Q : VK), Rel K W F0 H0 F H σ s w → t s w Q' →
  (∀ v F' H' d w', Ext W F H F' H' → W.R w' F' H' → Dp K F' v d → Q' d w' → Q v H') → te σ H Q
def SndT (te : TT) (t : VT W) : Prop := ∀ F0 H0 F H σ s w (Q' : Bool → W.S → Prop) (Q : Bool → Hp → Prop), Rel K W F0 H0 F H σ s w → t s w Q' →
  (∀ b F' H' w', Ext W F H F' H' → W.R w' F' H' → Q' b w' → Q b H') → te σ H Q
def SndA (te : TA) (t : VA W) : Prop := ∀ F0 H0 F H σ s w (Q' : List SD → W.S → Prop) (Q : List V → Hp → Prop), Rel K W F0 H0 F H σ s w → t s w Q' →
  (∀ vs F' H' xs w', Ext W F H F' H' → W.R w' F' H' → ArgsOk K F' vs xs → Q' xs w' → Q vs H') → te σ H Q
def SndG (g : TG) (t : VG W) : Prop := ∀ F0 H0 F H σ s w v d (Q' : List SD → W.S → Prop) (Q : L2.St → Hp → Prop), Rel K W F0 H0 F H σ s w → Dp K F v d → t d s w Q' →
  (∀ σ' s' w', Rel K W F0 H0 F H σ' s' w' → Q' s' w' → Q σ' H) → g v σ H Q
def SndGs (g : TGs) (t : VGs W) : Prop := ∀ F0 H0 F H σ s w vs ds (Q' : List SD → W.S → Prop) (Q : L2.St → Hp → Prop), Rel K W F0 H0 F H σ s w → DpAll K F vs ds → t ds s w Q' →
  (∀ σ' s' w', Rel K W F0 H0 F H σ' s' w' → Q' s' w' → Q σ' H) → g vs σ H Q
structure EndsOk (F0 H0 F : Hp) (D' : VEnds W) (D : Ends) : Prop where
  nx : ∀ σ' s' F' H' w', Same F F' → Rel K W F0 H0 F' H' σ' s' w' → D'.nx s' w' → D.nx σ' H'
  rt : ∀ v F' H' d w', Ext W F0 H0 F' H' → W.R w' F' H' → Dp K F' v d → D'.rt d w' → D.rt v H'
  bk : ∀ σ' s' F' H' w', Same F F' → Rel K W F0 H0 F' H' σ' s' w' → D'.bk s' w' → D.bk σ' H'
  ct : ∀ σ' s' F' H' w', Same F F' → Rel K W F0 H0 F' H' σ' s' w' → D'.ct s' w' → D.ct σ' H'
def SndS (ts : TS) (t : VS W) : Prop := ∀ F0 H0 F H σ s w (D' : VEnds W) (D : Ends), Rel K W F0 H0 F H σ s w → t D' s w → EndsOk K W F0 H0 F D' D → ts D σ H
/-- what a loop walks: the data ds -/
def YD (F : Hp) (ds : List PyData) : Nat → Hp → V → Hp → Prop := fun i H x H' => ∃ d, ds[i]? = some d ∧ ((H' = H ∧ Dp K F x d) ∨ ∃ T xs es, x = .ref T ∧ H T = none ∧ H' = upd H T (.tup xs) ∧ d = .tuple es ∧ DpAll K F xs es)
def SndI (wi : TI) (t : VI W) : Prop := ∀ F0 H0 F H σ s w (Q' : List PyData → W.S → Prop) (R : It → Hp → Prop), Rel K W F0 H0 F H σ s w → t s w Q' →
  (∀ J F' H' ds w', Ext W F H F' H' → W.R w' F' H' → Walk J ds.length (fun H => Same F' H) (YD K F' ds) → Q' ds w' → R J H') → wi σ H R
end
theorem EndsOk.up {K : PySem.W.Frag} {W : Wo} {F0 H0 F F1 : Hp} {D' : VEnds W} {D : Ends} (e : EndsOk K W F0 H0 F D' D) (h : Same F F1) : EndsOk K W F0 H0 F1 D' D :=
  ⟨fun σ' s' F' H' w' a => e.nx σ' s' F' H' w' (h.trans a), e.rt, fun σ' s' F' H' w' a => e.bk σ' s' F' H' w' (h.trans a), fun σ' s' F' H' w' a => e.ct σ' s' F' H' w' (h.trans a)⟩
theorem yd_step {K : PySem.W.Frag} {F1 F H H' : Hp} {ds : List PyData} {i : Nat} {x : V} (y : YD K F1 ds i H x H') (h1 : Same F1 F) (h : Same F H) : ∃ d F', ds[i]? = some d ∧ Ext W0 F H F' H' ∧ Dp K F' x d := by
  obtain ⟨d, e, ⟨rfl, p⟩ | ⟨T, xs, es, rfl, hT, rfl, rfl, p⟩⟩ := y
  · exact ⟨d, F, e, Ext.refl h, dp_mono h1 p⟩
  · have x := Ext.new (W := W0) (o := .tup xs) h hT
    exact ⟨_, _, e, x, .tup (.inl (.inl upd_same)) (dpa_mono (h1.trans x.ff) p)⟩

/-! ### judgements: a rule and its reading over data -/
structure DE (X : Cx) (W : Wo) (e : Expr) (te : TE) (t : VE W) : Prop where
  pe : PE X e te
  sn : SndE X.K W te t
structure DT (X : Cx) (W : Wo) (e : Expr) (te : TT) (t : VT W) : Prop where
  pe : PT X e te
  sn : SndT X.K W te t
structure DTs (X : Cx) (W : Wo) (es : List Expr) (te : TT) (t : VT W) : Prop where
  pe : PTs X es te
  sn : SndT X.K W te t
structure DW (X : Cx) (W : Wo) (e : Expr) (te : TT) (t : VT W) : Prop where
  pe : PW X e te
  sn : SndT X.K W te t
structure DA (X : Cx) (W : Wo) (es : List Expr) (te : TA) (t : VA W) : Prop where
  pe : PA X es te
  sn : SndA X.K W te t
structure DG (X : Cx) (W : Wo) (e : Expr) (te : TG) (t : VG W) : Prop where
  pe : PG X e te
  sn : SndG X.K W te t
structure DGs (X : Cx) (W : Wo) (es : List Expr) (te : TGs) (t : VGs W) : Prop where
  pe : PGs X es te
  sn : SndGs X.K W te t
structure DI (X : Cx) (W : Wo) (tg e : Expr) (te : TI) (t : VI W) : Prop where
  pe : PI X tg e te
  sn : SndI X.K W te t
structure DS (X : Cx) (W : Wo) (st : Stmt) (te : TS) (t : VS W) : Prop where
  pe : PS X st te
  sn : SndS X.K W te t
structure DSs (X : Cx) (W : Wo) (st : List Stmt) (te : TS) (t : VS W) : Prop where
  pe : PSs X st te
  sn : SndS X.K W te t

section
variable {X : Cx} {W : Wo} {K : PySem.W.Frag}
/-! ### names, constants -/
def vVar (W : Wo) (i : Nat) : VE W := fun s w Q => ∃ d, s[i]? = some (SD.fz d) ∧ Q d w
theorem de_var (i : Nat) {x : Str} {pos : Pos} (hN : X.N[i]? = some x := by rfl) (hv : Vis X.env.scope x := by first | exact Or.inl rfl | exact Or.inr (Or.inl rfl) | exact Or.inr (Or.inr rfl)) (hd : (x == ("__debug__" : Str)) = false := by decide)
    (hcd : (x == ("__classdict__" : Str)) = false := by decide) : DE X W (.Name x pos) (tVar i) (vVar W i) :=
  ⟨pe_var hN hv hd hcd, fun F0 H0 F H σ s w Q' Q R h k => by
    obtain ⟨d, e, q⟩ := h
    obtain ⟨v, ev, p⟩ := R.fz e
    exact ⟨v, ev, k v F H d w (Ext.refl R.sub) R.wr p q⟩⟩
def vC (W : Wo) (d : PyData) : VE W := fun _ w Q => Q d w
theorem snd_c {v : V} {d : PyData} (h : ∀ F, Dp K F v d) : SndE K W (tC v) (vC W d) := fun F0 H0 F H σ s w Q' Q R q k => k v F H d w (Ext.refl R.sub) R.wr (h F) q
theorem de_int {i j pos} : DE X W (.Constant (.int i) j pos) (tC (.int i)) (vC W (.int i)) := ⟨pe_int, snd_c fun _ => .int i⟩
theorem de_bl {i j pos} : DE X W (.Constant (.bool i) j pos) (tC (.bl i)) (vC W (.bool i)) := ⟨pe_bl, snd_c fun _ => .bl i⟩
theorem de_non {j pos} : DE X W (.Constant .none j pos) (tC .non) (vC W .none) := ⟨pe_non, snd_c fun _ => .non⟩
theorem de_glob {x : Str} {pos : Pos} {a : Addr} {d : PyData} (hg : Gl X x) (hm : X.mg x = some (.ref a)) (h : ∀ F, Dp X.K F (.ref a) d) (hd : (x == ("__debug__" : Str)) = false := by decide) : DE X W (.Name x pos) (tC (.ref a)) (vC W d) :=
  ⟨pe_glob hg hm rfl hd, snd_c h⟩

/-! ### operations on values that change nothing that stands -/
abbrev PO2 := PyData → PyData → (PyData → Prop) → Prop
abbrev PO1 := PyData → (PyData → Prop) → Prop
abbrev POn := List PyData → (PyData → Prop) → Prop
def SndO2 (K : PySem.W.Frag) (r : R2) (q : PO2) : Prop := ∀ F H x y d e (Q' : PyData → Prop) (Q : VK), Same F H → Dp K F x d → Dp K F y e → q d e Q' →
  (∀ v F' H' z, Ext W0 F H F' H' → Dp K F' v z → Q' z → Q v H') → r x y H Q
def SndO1 (K : PySem.W.Frag) (r : V → Hp → VK → Prop) (q : PO1) : Prop := ∀ F H x d (Q' : PyData → Prop) (Q : VK), Same F H → Dp K F x d → q d Q' →
  (∀ v F' H' z, Ext W0 F H F' H' → Dp K F' v z → Q' z → Q v H') → r x H Q
def SndC (K : PySem.W.Frag) (r : List V → Hp → VK → Prop) (q : POn) : Prop := ∀ F H xs ds (Q' : PyData → Prop) (Q : VK), Same F H → DpAll K F xs ds → q ds Q' →
  (∀ v F' H' z, Ext W0 F H F' H' → Dp K F' v z → Q' z → Q v H') → r xs H Q
def vOp (q : PO2) (t1 t2 : VE W) : VE W := fun s w Q => t1 s w fun d w1 => t2 s w1 fun e w2 => q d e fun z => Q z w2
def vUn (q : PO1) (t1 : VE W) : VE W := fun s w Q => t1 s w fun d w1 => q d fun z => Q z w1
theorem snd_op {r : R2} {q : PO2} {ta tb : TE} {t1 t2 : VE W} (hq : SndO2 K r q) (h1 : SndE K W ta t1) (h2 : SndE K W tb t2) : SndE K W (tOp r ta tb) (vOp q t1 t2) := by
  intro F0 H0 F H σ s w Q' Q R h k
  refine h1 _ _ _ _ _ _ _ _ _ R h fun v1 F1 H1 d1 w1 e1 r1 p1 q1 => ?_
  refine h2 _ _ _ _ _ _ _ _ _ (R.up e1 r1) q1 fun v2 F2 H2 d2 w2 e2 r2 p2 q2 => ?_
  exact hq F2 H2 v1 v2 d1 d2 _ Q e2.sub (dp_mono e2.ff p1) p2 q2 fun v F' H' z e p q => k v F' H' z w2 ((e1.trans e2).trans e.lift) (e.keepR r2) p q
theorem snd_un {r : V → Hp → VK → Prop} {q : PO1} {ta : TE} {t1 : VE W} (hq : SndO1 K r q) (h1 : SndE K W ta t1) : SndE K W (tUn r ta) (vUn q t1) := by
  intro F0 H0 F H σ s w Q' Q R h k
  refine h1 _ _ _ _ _ _ _ _ _ R h fun v1 F1 H1 d1 w1 e1 r1 p1 q1 => ?_
  exact hq F1 H1 v1 d1 _ Q e1.sub p1 q1 fun v F' H' z e p q => k v F' H' z w1 (e1.trans e.lift) (e.keepR r1) p q
variable {a b c : Expr} {ta tb tc : TE} {t1 t2 t3 : VE W} {pos : Pos}
theorem de_op {op : Operator} {r : R2} {q : PO2} (ho : OpR X (binaryOp op) r) (hq : SndO2 X.K r q) (h1 : DE X W a ta t1) (h2 : DE X W b tb t2) : DE X W (.BinOp a op b pos) (tOp r ta tb) (vOp q t1 t2) := ⟨pe_op ho h1.pe h2.pe, snd_op hq h1.sn h2.sn⟩
theorem de_un {op : UnaryOp} {r : V → Hp → VK → Prop} {q : PO1} (ho : UnR X (unaryOp op) r) (hq : SndO1 X.K r q) (h1 : DE X W a ta t1) : DE X W (.UnaryOp op a pos) (tUn r ta) (vUn q t1) := ⟨pe_un ho h1.pe, snd_un hq h1.sn⟩
theorem de_cmp {op : CmpOp} {r : R2} {q : PO2} (ho : OpR X (compareOp op) r) (hq : SndO2 X.K r q) (h1 : DE X W a ta t1) (h2 : DE X W b tb t2) (hm : behindInMarks op b = false) : DE X W (.Compare a [op] [b] pos) (tOp r ta tb) (vOp q t1 t2) := ⟨pe_cmpR ho h1.pe h2.pe hm, snd_op hq h1.sn h2.sn⟩
def vTest (t : VE W) : VT W := fun s w Q => t s w fun d w1 => ∃ b, d = .bool b ∧ Q b w1
theorem snd_test {te : TE} {t : VE W} (h : SndE K W te t) : SndT K W (tTest te) (vTest t) := by
  intro F0 H0 F H σ s w Q' Q R hq k
  refine h _ _ _ _ _ _ _ _ _ R hq fun v1 F1 H1 d1 w1 e1 r1 p1 q1 => ?_
  obtain ⟨b, rfl, q⟩ := q1
  cases p1
  exact ⟨b, rfl, k b F1 H1 w1 e1 r1 q⟩
theorem dt_cmp {op : CmpOp} {r : R2} {q : PO2} (ho : OpR X (compareOp op) r) (hq : SndO2 X.K r q) (h1 : DE X W a ta t1) (h2 : DE X W b tb t2) (hm : behindInMarks op b = false) : DT X W (.Compare a [op] [b] pos) (tTest (tOp r ta tb)) (vTest (vOp q t1 t2)) := ⟨pt_cmpR ho h1.pe h2.pe hm, snd_test (snd_op hq h1.sn h2.sn)⟩
theorem snd_b {te : TE} {t : VE W} (h : SndE K W te t) : SndT K W (tB te) (vTest t) := snd_test h
/-- an expression that gives a bool, as a test -/
theorem dt_val {e : Expr} (h : DE X W e ta t1) (he : ∀ whole, isTrue e X.env whole = (do let v ← whole; standAt e.pos; holding [v] (truthy v)) := by intro _; rfl) : DT X W e (tB ta) (vTest t1) := ⟨pt_val h.pe he, snd_b h.sn⟩
/-- chains -/
def vChain (q q' : PO2) (t1 t2 t3 : VE W) : VE W := fun s w Q => t1 s w fun d w1 => t2 s w1 fun e w2 => q d e fun z => ∃ k, z = .bool k ∧ if k = true then t3 s w2 fun f w3 => q' e f fun z' => Q z' w3 else Q (.bool false) w2
theorem snd_chain {r r' : R2} {q q' : PO2} (hq : SndO2 K r q) (hq' : SndO2 K r' q') (h1 : SndE K W ta t1) (h2 : SndE K W tb t2) (h3 : SndE K W tc t3) : SndE K W (tChain r r' ta tb tc) (vChain q q' t1 t2 t3) := by
  intro F0 H0 F H σ s w Q' Q R h k
  refine h1 _ _ _ _ _ _ _ _ _ R h fun v1 F1 H1 d1 w1 e1 r1 p1 q1 => ?_
  have R1 := R.up e1 r1
  refine h2 _ _ _ _ _ _ _ _ _ R1 q1 fun v2 F2 H2 d2 w2 e2 r2 p2 q2 => ?_
  refine hq F2 H2 v1 v2 d1 d2 _ _ e2.sub (dp_mono e2.ff p1) p2 q2 fun v F' H' z e p q => ?_
  obtain ⟨b, rfl, q⟩ := q
  cases p
  refine ⟨b, rfl, ?_⟩
  have R2 := (R1.up e2 r2).upP e
  cases b with
  | true =>
    refine h3 _ _ _ _ _ _ _ _ _ R2 q fun v3 F3 H3 d3 w3 e3 r3 p3 q3 => ?_
    exact hq' F3 H3 v2 v3 d2 d3 _ Q e3.sub (dp_mono (e.ff.trans e3.ff) p2) p3 q3 fun v F4 H4 z e4 p q => k v F4 H4 z w3 ((((e1.trans e2).trans e.lift).trans e3).trans e4.lift) (e4.keepR r3) p q
  | false => exact k (.bl false) F' H' (.bool false) w2 ((e1.trans e2).trans e.lift) (e.keepR r2) (.bl false) q
theorem de_chain {op op' : CmpOp} {r r' : R2} {q q' : PO2} (ho : OpR X (compareOp op) r) (ho' : OpR X (compareOp op') r') (hq : SndO2 X.K r q) (hq' : SndO2 X.K r' q') (h1 : DE X W a ta t1) (h2 : DE X W b tb t2) (h3 : DE X W c tc t3)
    (hm : lastMarks [op, op'] [b, c] = false := by with_unfolding_all rfl) : DE X W (.Compare a [op, op'] [b, c] pos) (tChain r r' ta tb tc) (vChain q q' t1 t2 t3) := ⟨pe_chain ho ho' h1.pe h2.pe h3.pe hm, snd_chain hq hq' h1.sn h2.sn h3.sn⟩
/-! ### is None -/
def isNon : PyData → Bool
  | .none => true
  | _ => false
theorem isNon_ok {F : Hp} {v : V} {d : PyData} (h : Dp K F v d) : decide (v = .non) = isNon d := by
  cases h <;> rfl
def vIsN (t : VE W) : VE W := fun s w Q => t s w fun d w1 => Q (.bool (isNon d)) w1
def vNotN (t : VE W) : VE W := fun s w Q => t s w fun d w1 => Q (.bool (!isNon d)) w1
theorem snd_isN (h : SndE K W ta t1) : SndE K W (tIsN ta) (vIsN t1) := by
  intro F0 H0 F H σ s w Q' Q R hq k
  refine h _ _ _ _ _ _ _ _ _ R hq fun v1 F1 H1 d1 w1 e1 r1 p1 q1 => ?_
  rw [isNon_ok p1]
  exact k _ F1 H1 _ w1 e1 r1 (.bl _) q1
theorem snd_notN (h : SndE K W ta t1) : SndE K W (tNotN ta) (vNotN t1) := by
  intro F0 H0 F H σ s w Q' Q R hq k
  refine h _ _ _ _ _ _ _ _ _ R hq fun v1 F1 H1 d1 w1 e1 r1 p1 q1 => ?_
  rw [isNon_ok p1]
  exact k _ F1 H1 _ w1 e1 r1 (.bl _) q1
theorem de_isN {j pos'} (h : DE X W a ta t1) : DE X W (.Compare a [.Is] [.Constant .none j pos'] pos) (tIsN ta) (vIsN t1) := ⟨pe_cmp (pc_isN h.pe) rfl, snd_isN h.sn⟩
theorem de_notN {j pos'} (h : DE X W a ta t1) : DE X W (.Compare a [.IsNot] [.Constant .none j pos'] pos) (tNotN ta) (vNotN t1) := ⟨pe_cmp (pc_notN h.pe) rfl, snd_notN h.sn⟩
theorem dt_isN {j pos'} (h : DE X W a ta t1) : DT X W (.Compare a [.Is] [.Constant .none j pos'] pos) (tB (tIsN ta)) (vTest (vIsN t1)) := ⟨pt_cmp (pc_isN h.pe) rfl, snd_b (snd_isN h.sn)⟩
theorem dt_notN {j pos'} (h : DE X W a ta t1) : DT X W (.Compare a [.IsNot] [.Constant .none j pos'] pos) (tB (tNotN ta)) (vTest (vNotN t1)) := ⟨pt_cmp (pc_notN h.pe) rfl, snd_b (snd_notN h.sn)⟩
/-! ### and, or, not -/
variable {tA tB' : TT} {u1 u2 : VT W} {rest : List Expr}
def vAnd (t u : VT W) : VT W := fun s w Q => t s w fun c w1 => if c = true then u s w1 Q else Q false w1
def vOr (t u : VT W) : VT W := fun s w Q => t s w fun c w1 => if c = true then Q true w1 else u s w1 Q
def vNot (t : VT W) : VT W := fun s w Q => t s w fun c w1 => Q (!c) w1
theorem dw_and1 (h : DT X W a tA u1) : DW X W (.BoolOp .And [a] pos) tA u1 := ⟨pw_and1 h.pe, h.sn⟩
theorem dw_or1 (h : DT X W a tA u1) : DW X W (.BoolOp .Or [a] pos) tA u1 := ⟨pw_or1 h.pe, h.sn⟩
theorem DW.dt {e : Expr} (h : DW X W e tA u1) : DT X W e tA u1 := ⟨h.pe.pt, h.sn⟩
theorem snd_and (h1 : SndT K W tA u1) (h2 : SndT K W tB' u2) : SndT K W (tAnd tA tB') (vAnd u1 u2) := by
  intro F0 H0 F H σ s w Q' Q R h k
  refine h1 _ _ _ _ _ _ _ _ _ R h fun b F1 H1 w1 e1 r1 q1 => ?_
  cases b with
  | true => exact h2 _ _ _ _ _ _ _ _ _ (R.up e1 r1) q1 fun b F2 H2 w2 e2 r2 q2 => k b F2 H2 w2 (e1.trans e2) r2 q2
  | false => exact k false F1 H1 w1 e1 r1 q1
theorem snd_or (h1 : SndT K W tA u1) (h2 : SndT K W tB' u2) : SndT K W (tOr tA tB') (vOr u1 u2) := by
  intro F0 H0 F H σ s w Q' Q R h k
  refine h1 _ _ _ _ _ _ _ _ _ R h fun b F1 H1 w1 e1 r1 q1 => ?_
  cases b with
  | false => exact h2 _ _ _ _ _ _ _ _ _ (R.up e1 r1) q1 fun b F2 H2 w2 e2 r2 q2 => k b F2 H2 w2 (e1.trans e2) r2 q2
  | true => exact k true F1 H1 w1 e1 r1 q1
theorem snd_not (h1 : SndT K W tA u1) : SndT K W (tNot tA) (vNot u1) := by
  intro F0 H0 F H σ s w Q' Q R h k
  exact h1 _ _ _ _ _ _ _ _ _ R h fun b F1 H1 w1 e1 r1 q1 => k (!b) F1 H1 w1 e1 r1 q1
theorem dw_and (h1 : DT X W a tA u1) (h2 : DW X W (.BoolOp .And (b :: rest) pos) tB' u2) : DW X W (.BoolOp .And (a :: b :: rest) pos) (tAnd tA tB') (vAnd u1 u2) := ⟨pw_and h1.pe h2.pe, snd_and h1.sn h2.sn⟩
theorem dw_or (h1 : DT X W a tA u1) (h2 : DW X W (.BoolOp .Or (b :: rest) pos) tB' u2) : DW X W (.BoolOp .Or (a :: b :: rest) pos) (tOr tA tB') (vOr u1 u2) := ⟨pw_or h1.pe h2.pe, snd_or h1.sn h2.sn⟩
theorem dt_not (h : DT X W a tA u1) : DT X W (.UnaryOp .Not a pos) (tNot tA) (vNot u1) := ⟨pt_not h.pe, snd_not h.sn⟩
/-- .. as values -/
def vAndV (t u : VE W) : VE W := fun s w Q => t s w fun d w1 => ∃ c, d = .bool c ∧ if c = true then u s w1 Q else Q (.bool false) w1
theorem snd_andV (h1 : SndE K W ta t1) (h2 : SndE K W tb t2) : SndE K W (tAndV ta tb) (vAndV t1 t2) := by
  intro F0 H0 F H σ s w Q' Q R h k
  refine h1 _ _ _ _ _ _ _ _ _ R h fun v F1 H1 d w1 e1 r1 p1 q1 => ?_
  obtain ⟨b, rfl, q⟩ := q1
  cases p1
  refine ⟨b, rfl, ?_⟩
  cases b with
  | true => exact h2 _ _ _ _ _ _ _ _ _ (R.up e1 r1) q fun v F2 H2 d w2 e2 r2 p2 q2 => k v F2 H2 d w2 (e1.trans e2) r2 p2 q2
  | false => exact k _ F1 H1 _ w1 e1 r1 (.bl false) q
theorem de_one {op} (h : DE X W a ta t1) : DE X W (.BoolOp op [a] pos) ta t1 := ⟨pe_one h.pe, h.sn⟩
theorem de_and (h1 : DE X W a ta t1) (h2 : DE X W (.BoolOp .And (b :: rest) pos) tb t2) : DE X W (.BoolOp .And (a :: b :: rest) pos) (tAndV ta tb) (vAndV t1 t2) := ⟨pe_and h1.pe h2.pe, snd_andV h1.sn h2.sn⟩
/-- a if t else b -/
def vIf (t : VT W) (a b : VE W) : VE W := fun s w Q => t s w fun c w1 => if c = true then a s w1 Q else b s w1 Q
theorem snd_if (h1 : SndT K W tA u1) (h2 : SndE K W ta t1) (h3 : SndE K W tb t2) : SndE K W (tIf tA ta tb) (vIf u1 t1 t2) := by
  intro F0 H0 F H σ s w Q' Q R h k
  refine h1 _ _ _ _ _ _ _ _ _ R h fun c F1 H1 w1 e1 r1 q1 => ?_
  cases c with
  | true => exact h2 _ _ _ _ _ _ _ _ _ (R.up e1 r1) q1 fun v F2 H2 d w2 e2 r2 p2 q2 => k v F2 H2 d w2 (e1.trans e2) r2 p2 q2
  | false => exact h3 _ _ _ _ _ _ _ _ _ (R.up e1 r1) q1 fun v F2 H2 d w2 e2 r2 p2 q2 => k v F2 H2 d w2 (e1.trans e2) r2 p2 q2
theorem de_if {e : Expr} (h1 : DT X W e tA u1) (h2 : DE X W a ta t1) (h3 : DE X W b tb t2) : DE X W (.IfExp e a b pos) (tIf tA ta tb) (vIf u1 t1 t2) := ⟨pe_ifExp h1.pe h2.pe h3.pe, snd_if h1.sn h2.sn h3.sn⟩

/-! ### arguments, displays, calls -/
variable {es : List Expr} {tas : TA} {us : VA W}
def vaNil (W : Wo) : VA W := fun _ w Q => Q [] w
def vaCons (t : VE W) (u : VA W) : VA W := fun s w Q => t s w fun d w1 => u s w1 fun xs w2 => Q (.fz d :: xs) w2
def vaAdr (i : Nat) (u : VA W) : VA W := fun s w Q => ∃ a, s[i]? = some (SD.adr a) ∧ u s w fun xs w2 => Q (.adr a :: xs) w2
theorem da_nil : DA X W [] tNil (vaNil W) := ⟨pa_nil, fun F0 H0 F H σ s w Q' Q R q k => k [] F H [] w (Ext.refl R.sub) R.wr .nil q⟩
theorem da_cons {e : Expr} (h1 : DE X W e ta t1) (h2 : DA X W es tas us) (hs : starEach (e :: es) X.env = (false, eval e X.env) :: starEach es X.env := by rfl) : DA X W (e :: es) (tCons ta tas) (vaCons t1 us) :=
  ⟨pa_cons h1.pe h2.pe hs, fun F0 H0 F H σ s w Q' Q R h k => by
    refine h1.sn _ _ _ _ _ _ _ _ _ R h fun v1 F1 H1 d1 w1 e1 r1 p1 q1 => ?_
    exact h2.sn _ _ _ _ _ _ _ _ _ (R.up e1 r1) q1 fun vs F2 H2 xs w2 e2 r2 p2 q2 => k (v1 :: vs) F2 H2 (.fz d1 :: xs) w2 (e1.trans e2) r2 (.cons (dp_mono e2.ff p1) p2) q2⟩
theorem da_adr (i : Nat) {x : Str} {pos : Pos} (h2 : DA X W es tas us) (hN : X.N[i]? = some x := by rfl) (hv : Vis X.env.scope x := by first | exact Or.inl rfl | exact Or.inr (Or.inl rfl) | exact Or.inr (Or.inr rfl)) (hd : (x == ("__debug__" : Str)) = false := by decide)
    (hcd : (x == ("__classdict__" : Str)) = false := by decide) (hs : starEach (.Name x pos :: es) X.env = (false, eval (.Name x pos) X.env) :: starEach es X.env := by rfl) : DA X W (.Name x pos :: es) (tCons (tVar i) tas) (vaAdr i us) :=
  ⟨pa_cons (pe_var hN hv hd hcd) h2.pe hs, fun F0 H0 F H σ s w Q' Q R h k => by
    obtain ⟨a, e, h⟩ := h
    have e2 : σ[i]? = some (some (V.ref a)) := R.sl i _ e
    refine ⟨.ref a, e2, ?_⟩
    exact h2.sn _ _ _ _ _ _ _ _ _ R h fun vs F2 H2 xs w2 e2 r2 p2 q2 => k (V.ref a :: vs) F2 H2 (SD.adr a :: xs) w2 e2 r2 (.cons (show ArgOk X.K F2 (V.ref a) (SD.adr a) from rfl) p2) q2⟩
def unfz : List SD → Option (List PyData)
  | [] => some []
  | .fz d :: r => (unfz r).map (d :: ·)
  | _ => none
theorem unfz_eq : ∀ {xs : List SD} {ds : List PyData}, unfz xs = some ds → xs = ds.map SD.fz
  | [], _, h => by cases h; rfl
  | .fz d :: r, ds, h => by
    have h2 : (unfz r).map (d :: ·) = some ds := h
    cases e : unfz r with
    | none => rw [e] at h2; cases h2
    | some es =>
      rw [e] at h2
      cases h2
      rw [unfz_eq e]
      rfl
  | .un :: _, _, h => by cases h
  | .own _ :: _, _, h => by cases h
  | .adr _ :: _, _, h => by cases h
def vTup (t : VA W) : VE W := fun s w Q => t s w fun xs w1 => ∃ ds : List PyData, unfz xs = some ds ∧ ds.length ≤ 1000 ∧ Q (.tuple ds) w1
def vLst (t : VA W) : VE W := fun s w Q => t s w fun xs w1 => ∃ ds : List PyData, unfz xs = some ds ∧ ds.length ≤ 1000 ∧ Q (.list ds) w1
theorem le1000 {n : Nat} (h : n ≤ 1000) : n ≤ sizeLine := Nat.le_of_lt (small1000 h)
theorem snd_tup (h : SndA K W tas us) : SndE K W (tTup tas) (vTup us) := by
  intro F0 H0 F H σ s w Q' Q R hq k
  refine h _ _ _ _ _ _ _ _ _ R hq fun vs F1 H1 xs w1 e1 r1 p1 q1 => ?_
  obtain ⟨ds, e0, hz, q⟩ := q1
  obtain rfl := unfz_eq e0
  have p := p1.data
  refine ⟨by rw [dpa_len p]; exact le1000 hz, fun b hb => ?_⟩
  have x := Ext.new (W := W0) (o := .tup vs) e1.sub hb
  exact k _ _ _ _ w1 (e1.trans x.lift) (x.keepR r1) (.tup (.inl (.inl upd_same)) (dpa_mono x.ff p)) q
theorem snd_lst (h : SndA K W tas us) : SndE K W (tLst tas) (vLst us) := by
  intro F0 H0 F H σ s w Q' Q R hq k
  refine h _ _ _ _ _ _ _ _ _ R hq fun vs F1 H1 xs w1 e1 r1 p1 q1 => ?_
  obtain ⟨ds, e0, hz, q⟩ := q1
  obtain rfl := unfz_eq e0
  have p := p1.data
  refine ⟨by rw [dpa_len p]; exact le1000 hz, fun b hb => ?_⟩
  have x := Ext.new (W := W0) (o := .lst vs) e1.sub hb
  exact k _ _ _ _ w1 (e1.trans x.lift) (x.keepR r1) (.lst (.inl (.inl upd_same)) (dpa_mono x.ff p)) q
theorem de_tup {x1} (h : DA X W es tas us) : DE X W (.Tuple es x1 pos) (tTup tas) (vTup us) := ⟨pe_tup h.pe, snd_tup h.sn⟩
theorem de_lst (h : DA X W es tas us) : DE X W (.List es pos) (tLst tas) (vLst us) := ⟨pe_lst h.pe, snd_lst h.sn⟩
/-- a built-in by values -/
def vCB (q : POn) (t : VA W) : VE W := fun s w Q => t s w fun xs w1 => ∃ ds : List PyData, unfz xs = some ds ∧ q ds fun z => Q z w1
theorem snd_cb {r : List V → Hp → VK → Prop} {q : POn} (hq : SndC K r q) (h : SndA K W tas us) : SndE K W (tCB r tas) (vCB q us) := by
  intro F0 H0 F H σ s w Q' Q R hw k
  refine h _ _ _ _ _ _ _ _ _ R hw fun vs F1 H1 xs w1 e1 r1 p1 q1 => ?_
  obtain ⟨ds, e0, q2⟩ := q1
  obtain rfl := unfz_eq e0
  exact hq F1 H1 vs ds _ Q e1.sub p1.data q2 fun v F' H' z e p q => k v F' H' z w1 (e1.trans e.lift) (e.keepR r1) p q
variable {x : Str} {p : Pos} {e : Expr}
theorem de_cb {id : String} {r : List V → Hp → VK → Prop} {q : POn} (hc : CallR X (.builtin id) r) (hq : SndC X.K r q) (hg : Gl X x) (hm : X.mg x = none) (hv : bootBuiltins x = some (.builtin id)) (h : DA X W (e :: es) tas us)
    (hn : x ≠ "__name__" := by decide) (hdb : (x == ("__debug__" : Str)) = false := by decide) (he : starEach (e :: es) X.env = (false, eval e X.env) :: starEach es X.env := by rfl) (hpl : (backTo pos (starEach es X.env)).any (·.1) = false := by rfl) :
    DE X W (.Call (.Name x p) (e :: es) [] pos) (tCB r tas) (vCB q us) := ⟨pe_callB hc hg hm hv h.pe (hn := hn) (hdb := hdb) (he := he) (hpl := hpl), snd_cb hq h.sn⟩
theorem de_cty {T : String} {r : List V → Hp → VK → Prop} {q : POn} (hc : CallR X (.type T) r) (hq : SndC X.K r q) (hg : Gl X x) (hm : X.mg x = none) (hv : bootBuiltins x = some (.type T)) (h : DA X W (e :: es) tas us)
    (hn : x ≠ "__name__" := by decide) (hdb : (x == ("__debug__" : Str)) = false := by decide) (he : starEach (e :: es) X.env = (false, eval e X.env) :: starEach es X.env := by rfl) (hpl : (backTo pos (starEach es X.env)).any (·.1) = false := by rfl) :
    DE X W (.Call (.Name x p) (e :: es) [] pos) (tCB r tas) (vCB q us) := ⟨pe_callTy hc hg hm hv h.pe (hn := hn) (hdb := hdb) (he := he) (hpl := hpl), snd_cb hq h.sn⟩
end
end L2.VL
/-! part VL3 -/
set_option Elab.async false
set_option linter.all false
set_option autoImplicit false
set_option maxRecDepth 100000
set_option maxHeartbeats 4000000
namespace L2.VL
open PySem PySem.Spec PyProof.Rows L2 C8

theorem args_app {K : PySem.W.Frag} {F : Hp} : ∀ {vs us : List V} {xs ys : List SD}, ArgsOk K F vs xs → ArgsOk K F us ys → ArgsOk K F (vs ++ us) (xs ++ ys)
  | _, _, _, _, .nil, h => h
  | _, _, _, _, .cons r t, h => .cons r (args_app t h)
/-! ### what a def promises, over data -/
abbrev Spec (W : Wo) := List SD → W.S → (PyData → W.S → Prop) → Prop
def spW (K : PySem.W.Frag) (W : Wo) (S : Spec W) : Sp := fun vs H Q _ => ∃ F xs w Q', Same F H ∧ W.R w F H ∧ ArgsOk K F vs xs ∧ S xs w Q' ∧ ∀ v F' H' d w', Ext W F H F' H' → W.R w' F' H' → Dp K F' v d → Q' d w' → Q v H'
section
variable {X : Cx} {W : Wo} {K : PySem.W.Frag} {es : List Expr} {tas : TA} {us : VA W} {e o : Expr} {te ta : TE} {t t1 : VE W} {pos p apos : Pos} {x m : Str} {k j : Nat}
def vCall (S : Spec W) (t : VA W) : VE W := fun s w Q => t s w fun xs w1 => S xs w1 Q
/-- a def that changes nothing that stands -/
def vCall0 (S : Spec W0) (t : VA W) : VE W := fun s w Q => t s w fun xs w1 => S xs () fun d _ => Q d w1
theorem snd_call {S : Spec W} {dvs : List V} {ds : List PyData} {E : XK} (hd : ∀ F, DpAll K F dvs ds) (h : SndA K W tas us) : SndE K W (tCall (spW K W S) dvs E tas) (vCall (fun xs w Q => S (xs ++ ds.map SD.fz) w Q) us) := by
  intro F0 H0 F H σ s w Q' Q R hq k
  refine h _ _ _ _ _ _ _ _ _ R hq fun vs F1 H1 xs w1 e1 r1 p1 q1 => ?_
  exact ⟨F1, _, w1, Q', e1.sub, r1, args_app p1 (ArgsOk.of (hd F1)), q1, fun v F' H' d w' e r p q => k v F' H' d w' (e1.trans e) r p q⟩
theorem snd_call0 {S : Spec W0} {dvs : List V} {ds : List PyData} {E : XK} (hd : ∀ F, DpAll K F dvs ds) (h : SndA K W tas us) : SndE K W (tCall (spW K W0 S) dvs E tas) (vCall0 (fun xs w Q => S (xs ++ ds.map SD.fz) w Q) us) := by
  intro F0 H0 F H σ s w Q' Q R hq k
  refine h _ _ _ _ _ _ _ _ _ R hq fun vs F1 H1 xs w1 e1 r1 p1 q1 => ?_
  exact ⟨F1, _, (), _, e1.sub, trivial, args_app p1 (ArgsOk.of (hd F1)), q1, fun v F' H' d w' e r p q => k v F' H' d w1 (e1.trans e.lift) (e.keepR r1) p q⟩
theorem de_call {S : Spec W} {dvs : List V} {ds : List PyData} (c : Cal X.prog X.w X.K X.mg X.base k x (spW X.K W S) dvs) (hd : ∀ F, DpAll X.K F dvs ds) (hr : Room j X.A) (hk : k ≤ j) (hg : Gl X x) (h : DA X W (e :: es) tas us)
    (hdb : (x == ("__debug__" : Str)) = false := by decide) (he : starEach (e :: es) X.env = (false, eval e X.env) :: starEach es X.env := by rfl) (hpl : (backTo pos (starEach es X.env)).any (·.1) = false := by rfl) :
    DE X W (.Call (.Name x p) (e :: es) [] pos) (tCall (spW X.K W S) dvs E0 tas) (vCall (fun xs w Q => S (xs ++ ds.map SD.fz) w Q) us) := ⟨pe_c c hr hk hg h.pe hdb he hpl, snd_call hd h.sn⟩
theorem de_call0 {S : Spec W0} {dvs : List V} {ds : List PyData} (c : Cal X.prog X.w X.K X.mg X.base k x (spW X.K W0 S) dvs) (hd : ∀ F, DpAll X.K F dvs ds) (hr : Room j X.A) (hk : k ≤ j) (hg : Gl X x) (h : DA X W (e :: es) tas us)
    (hdb : (x == ("__debug__" : Str)) = false := by decide) (he : starEach (e :: es) X.env = (false, eval e X.env) :: starEach es X.env := by rfl) (hpl : (backTo pos (starEach es X.env)).any (·.1) = false := by rfl) :
    DE X W (.Call (.Name x p) (e :: es) [] pos) (tCall (spW X.K W0 S) dvs E0 tas) (vCall0 (fun xs w Q => S (xs ++ ds.map SD.fz) w Q) us) := ⟨pe_c c hr hk hg h.pe hdb he hpl, snd_call0 hd h.sn⟩
/-- no defaults -/
def vCl (S : Spec W) (t : VA W) : VE W := fun s w Q => t s w fun xs w1 => S xs w1 Q
def vCl0 (S : Spec W0) (t : VA W) : VE W := fun s w Q => t s w fun xs w1 => S xs () fun d _ => Q d w1
theorem de_cl {S : Spec W} (c : Cal X.prog X.w X.K X.mg X.base k x (spW X.K W S) []) (hr : Room j X.A) (hk : k ≤ j) (hg : Gl X x) (h : DA X W (e :: es) tas us)
    (hdb : (x == ("__debug__" : Str)) = false := by decide) (he : starEach (e :: es) X.env = (false, eval e X.env) :: starEach es X.env := by rfl) (hpl : (backTo pos (starEach es X.env)).any (·.1) = false := by rfl) :
    DE X W (.Call (.Name x p) (e :: es) [] pos) (tCall (spW X.K W S) [] E0 tas) (vCl S us) := ⟨pe_c c hr hk hg h.pe hdb he hpl, by
      intro F0 H0 F H σ s w Q' Q R hq k
      refine h.sn _ _ _ _ _ _ _ _ _ R hq fun vs F1 H1 xs w1 e1 r1 p1 q1 => ?_
      exact ⟨F1, _, w1, Q', e1.sub, r1, by rw [List.append_nil]; exact p1, q1, fun v F' H' d w' e r p q => k v F' H' d w' (e1.trans e) r p q⟩⟩
theorem de_cl0 {S : Spec W0} (c : Cal X.prog X.w X.K X.mg X.base k x (spW X.K W0 S) []) (hr : Room j X.A) (hk : k ≤ j) (hg : Gl X x) (h : DA X W (e :: es) tas us)
    (hdb : (x == ("__debug__" : Str)) = false := by decide) (he : starEach (e :: es) X.env = (false, eval e X.env) :: starEach es X.env := by rfl) (hpl : (backTo pos (starEach es X.env)).any (·.1) = false := by rfl) :
    DE X W (.Call (.Name x p) (e :: es) [] pos) (tCall (spW X.K W0 S) [] E0 tas) (vCl0 S us) := ⟨pe_c c hr hk hg h.pe hdb he hpl, by
      intro F0 H0 F H σ s w Q' Q R hq k
      refine h.sn _ _ _ _ _ _ _ _ _ R hq fun vs F1 H1 xs w1 e1 r1 p1 q1 => ?_
      exact ⟨F1, _, (), _, e1.sub, trivial, by rw [List.append_nil]; exact p1, q1, fun v F' H' d w' e r p q => k v F' H' d w1 (e1.trans e.lift) (e.keepR r1) p q⟩⟩

/-! ### targets -/
variable {tg : Expr} {g : TG} {vg : VG W} {gs : TGs} {vgs : VGs W} {tgs : List Expr} {kk n i : Nat}
def vgName (W : Wo) (i : Nat) : VG W := fun d s w Q => Q (s.set i (.fz d)) w
theorem snd_name (i : Nat) : SndG K W (gName i) (vgName W i) := fun F0 H0 F H σ s w v d Q' Q R p q k => k _ _ w (R.set i p) q
theorem dg_name (hN : X.N.Nodup) (hi : X.N[i]? = some x) (hx : Loc X.env.scope x) (hf : X.fn x = true ∨ X.env.scope.names.lookup x = some .local := by first | exact .inl rfl | exact .inr rfl | assumption) : DG X W (.Name x pos) (gName i) (vgName W i) := ⟨pg_name hN hi hx hf, snd_name i⟩
def vgNil (W : Wo) : VGs W := fun ds s w Q => ds = [] ∧ Q s w
def vgCons (t : VG W) (u : VGs W) : VGs W := fun ds s w Q => ∃ d r, ds = d :: r ∧ t d s w fun s' w' => u r s' w' Q
theorem dgs_nil : DGs X W [] gNil (vgNil W) := ⟨pgs_nil, fun F0 H0 F H σ s w vs ds Q' Q R p q k => by
  obtain ⟨rfl, q⟩ := q
  cases p
  exact ⟨rfl, k σ s w R q⟩⟩
theorem dgs_cons (h1 : DG X W tg g vg) (h2 : DGs X W tgs gs vgs) (hs : (assignEach (tg :: tgs) X.env).map (·.2) = assign tg X.env :: (assignEach tgs X.env).map (·.2) := by rfl) : DGs X W (tg :: tgs) (gCons g gs) (vgCons vg vgs) :=
  ⟨pgs_cons h1.pe h2.pe hs, fun F0 H0 F H σ s w vs ds Q' Q R p q k => by
    obtain ⟨d, r, rfl, q⟩ := q
    cases p with
    | cons p1 p2 =>
      refine ⟨_, _, rfl, h1.sn _ _ _ _ _ _ _ _ _ _ _ R p1 q fun σ' s' w' R' q' => ?_⟩
      exact h2.sn _ _ _ _ _ _ _ _ _ _ _ R' p2 q' k⟩
def vgTup (n : Nat) (t : VGs W) : VG W := fun d s w Q => ∃ ds, d = .tuple ds ∧ ds.length = n ∧ t ds s w Q
theorem dg_tup (hc : X.calm = true) (h : DGs X W tgs gs vgs) (hn : (assignEach tgs X.env).length = n := by rfl) (hst : (assignEach tgs X.env).findIdx? (·.1) = none := by rfl) : DG X W (.Tuple tgs kk pos) (gTup X.K n gs) (vgTup n vgs) :=
  ⟨pg_tup hc h.pe hn hst, fun F0 H0 F H σ s w v d Q' Q R p q k => by
    obtain ⟨ds, rfl, hl, q⟩ := q
    cases p with
    | tup hs ha => exact ⟨_, _, rfl, sqT_up R.sub hs, by rw [dpa_len ha]; exact hl, h.sn _ _ _ _ _ _ _ _ _ _ _ R ha q k⟩⟩
def vgLst (n : Nat) (t : VGs W) : VG W := fun d s w Q => ∃ ds, d = .list ds ∧ ds.length = n ∧ t ds s w Q
theorem dg_lst (hc : X.calm = true) (h : DGs X W tgs gs vgs) (hn : (assignEach tgs X.env).length = n := by rfl) (hst : (assignEach tgs X.env).findIdx? (·.1) = none := by rfl) : DG X W (.Tuple tgs kk pos) (gUnl X.K n gs) (vgLst n vgs) :=
  ⟨pg_unl hc h.pe hn hst, fun F0 H0 F H σ s w v d Q' Q R p q k => by
    obtain ⟨ds, rfl, hl, q⟩ := q
    cases p with
    | lst hs ha => exact ⟨_, _, rfl, R.sub.seq hs, by rw [dpa_len ha]; exact hl, h.sn _ _ _ _ _ _ _ _ _ _ _ R ha q k⟩⟩

/-! ### statements -/
variable {st : Stmt} {sts : List Stmt} {ts tu : TS} {vs vu : VS W} {tt : TT} {vt : VT W}
def vNext (W : Wo) : VS W := fun D s w => D.nx s w
def vSeq (t u : VS W) : VS W := fun D s w => t { D with nx := u D } s w
theorem dss_nil : DSs X W [] tNext (vNext W) := ⟨pss_nil, fun F0 H0 F H σ s w D' D R h k => k.nx _ _ F H w (Same.refl _) R h⟩
theorem dss_one (h : DS X W st ts vs) : DSs X W [st] ts vs := ⟨pss_one h.pe, h.sn⟩
theorem dss_cons (h1 : DS X W st ts vs) (h2 : DSs X W sts tu vu) : DSs X W (st :: sts) (tSeq ts tu) (vSeq vs vu) :=
  ⟨pss_cons h1.pe h2.pe, fun F0 H0 F H σ s w D' D R h k => by
    refine h1.sn _ _ _ _ _ _ _ _ _ R h ⟨fun σ' s' F' H' w' sf R' q => ?_, k.rt, k.bk, k.ct⟩
    exact h2.sn _ _ _ _ _ _ _ D' D R' q (k.up sf)⟩
theorem ds_pass : DS X W (.Pass pos) tNext (vNext W) := ⟨ps_pass, fun F0 H0 F H σ s w D' D R h k => k.nx _ _ F H w (Same.refl _) R h⟩
def vDrop (t : VE W) : VS W := fun D s w => t s w fun _ w1 => D.nx s w1
theorem ds_expr (h : DE X W e te t) (hs : swapsWith e none pos.line X.env = pure false := by rfl) : DS X W (.Expr e pos) (tDrop te) (vDrop t) :=
  ⟨ps_expr h.pe hs, fun F0 H0 F H σ s w D' D R q k => h.sn _ _ _ _ _ _ _ _ _ R q fun v F' H' d w' e r p q => k.nx _ _ F' H' w' e.ff (R.up e r) q⟩
def vRet (t : VE W) : VS W := fun D s w => t s w D.rt
theorem ds_ret (h : DE X W e te t) : DS X W (.Return (some e) pos) (tRet te) (vRet t) :=
  ⟨ps_ret h.pe, fun F0 H0 F H σ s w D' D R q k => h.sn _ _ _ _ _ _ _ _ _ R q fun v F' H' d w' e r p q => k.rt v F' H' d w' (R.ext.trans e) r p q⟩
def vRetN (W : Wo) : VS W := fun D _ w => D.rt .none w
theorem ds_retN : DS X W (.Return none pos) tRetN (vRetN W) := ⟨ps_retN, fun F0 H0 F H σ s w D' D R q k => k.rt .non F H .none w R.ext R.wr .non q⟩
/-- return of an own list -/
def vRetO (W : Wo) (i : Nat) : VS W := fun D s w => ∃ ds, s[i]? = some (SD.own ds) ∧ D.rt (.list ds) w
theorem ds_retO (i : Nat) {y : Str} {p' : Pos} (hN : X.N[i]? = some y := by rfl) (hv : Vis X.env.scope y := by first | exact Or.inl rfl | exact Or.inr (Or.inl rfl) | exact Or.inr (Or.inr rfl)) (hd : (y == ("__debug__" : Str)) = false := by decide)
    (hcd : (y == ("__classdict__" : Str)) = false := by decide) : DS X W (.Return (some (.Name y p')) pos) (tRet (tVar i)) (vRetO W i) :=
  ⟨ps_ret (pe_var hN hv hd hcd), fun F0 H0 F H σ s w D' D R q k => by
    obtain ⟨ds, e, q⟩ := q
    obtain ⟨F', sf, _, R'⟩ := R.freeze e
    have hl : i < s.length := (List.getElem?_eq_some_iff.mp e).1
    obtain ⟨v, ev, pv⟩ := R'.fz (i := i) (d := .list ds) (List.getElem?_set_self hl)
    exact ⟨v, ev, k.rt v F' H _ w R'.ext R'.wr pv q⟩⟩
def vIfS (c : VT W) (t u : VS W) : VS W := fun D s w => c s w fun b w1 => if b = true then t D s w1 else u D s w1
theorem ds_if {c : Expr} {xs ys : List Stmt} (hc : DT X W c tt vt) (h1 : DSs X W xs ts vs) (h2 : DSs X W ys tu vu) : DS X W (.If c xs ys pos) (tIfS tt ts tu) (vIfS vt vs vu) :=
  ⟨ps_if hc.pe h1.pe h2.pe, fun F0 H0 F H σ s w D' D R q k => by
    refine hc.sn _ _ _ _ _ _ _ _ _ R q fun b F' H' w' e r q => ?_
    cases b with
    | true => exact h1.sn _ _ _ _ _ _ _ D' D (R.up e r) q (k.up e.ff)
    | false => exact h2.sn _ _ _ _ _ _ _ D' D (R.up e r) q (k.up e.ff)⟩
def vNever (W : Wo) : VS W := fun _ _ _ => False
theorem dss_never : DSs X W sts tNever (vNever W) := ⟨pss_never, fun _ _ _ _ _ _ _ _ _ _ q _ => q⟩
theorem ds_never : DS X W st tNever (vNever W) := ⟨ps_never, fun _ _ _ _ _ _ _ _ _ _ q _ => q⟩
def vAsg (t : VE W) (g : VG W) : VS W := fun D s w => t s w fun d w1 => g d s w1 D.nx
theorem snd_asg (h : SndE K W te t) (hg : SndG K W g vg) : SndS K W (tAsg te g) (vAsg t vg) := fun F0 H0 F H σ s w D' D R q k =>
  h _ _ _ _ _ _ _ _ _ R q fun v F' H' d w' e r p q => hg _ _ _ _ _ _ _ _ _ _ _ (R.up e r) p q fun σ2 s2 w2 R2 q2 => k.nx _ _ F' H' w2 e.ff R2 q2
theorem ds_asg (h : DE X W e te t) (hg : DG X W tg g vg) (hs : swapsWithSole [tg] e pos.line X.env = pure false := by rfl) (hw : swappedStores [tg] e X.env = pure none := by rfl)
    (h1 : (assignEach [tg] X.env).map (·.2) = [assign tg X.env] := by rfl) : DS X W (.Assign [tg] e pos) (tAsg te g) (vAsg t vg) := ⟨ps_asg h.pe hg.pe hs hw h1, snd_asg h.sn hg.sn⟩
theorem ds_set {pos' : Pos} (hN : X.N.Nodup) (hi : X.N[i]? = some x) (hx : Loc X.env.scope x) (h : DE X W e te t) (hs : swapsWith e (some (.Name x pos')) pos.line X.env = pure false := by rfl)
    (hf : X.fn x = true ∨ X.env.scope.names.lookup x = some .local := by first | exact .inl rfl | exact .inr rfl | assumption) : DS X W (.Assign [.Name x pos'] e pos) (tAsg te (gName i)) (vAsg t (vgName W i)) :=
  ⟨ps_set hN hi hx h.pe hs hf, snd_asg h.sn (snd_name i)⟩
/-- x = [], x an own list from here on -/
def vSetO (t : VA W) (i : Nat) : VS W := fun D s w => t s w fun xs w1 => ∃ ds : List PyData, unfz xs = some ds ∧ ds.length ≤ 1000 ∧ (∀ (j : Nat) es, s[j]? = some (SD.own es) → j = i) ∧ D.nx (s.set i (.own ds)) w1
theorem ds_setO {pos' lpos : Pos} (hN : X.N.Nodup) (hi : X.N[i]? = some x) (hx : Loc X.env.scope x) (h : DA X W es tas us) (hs : swapsWith (.List es lpos) (some (.Name x pos')) pos.line X.env = pure false := by rfl)
    (hf : X.fn x = true ∨ X.env.scope.names.lookup x = some .local := by first | exact .inl rfl | exact .inr rfl | assumption) : DS X W (.Assign [.Name x pos'] (.List es lpos) pos) (tAsg (tLst tas) (gName i)) (vSetO us i) :=
  ⟨ps_set hN hi hx (pe_lst h.pe) hs hf, fun F0 H0 F H σ s w D' D R q k => by
    refine h.sn _ _ _ _ _ _ _ _ _ R q fun vs F' H' xs w' e r p q => ?_
    obtain ⟨ds, e0, hz, ho, q⟩ := q
    obtain rfl := unfz_eq e0
    have p := p.data
    refine ⟨by rw [dpa_len p]; exact le1000 hz, fun b hb => ?_⟩
    have x := Ext.newOwn (W := W0) (o := .lst vs) e.sub hb
    have R2 := (R.up e r).upP x
    have hF : F' b = none := e.sub.free hb
    have h0 : H0 b = none := by
      cases q0 : H0 b with
      | none => rfl
      | some o => exact absurd hb ((R.up e r).ext.dm b (ne_some q0))
    exact k.nx _ _ F' _ w' e.ff (R2.setOwn i upd_same p hF h0 (fun z => (W.dom r b z).2 hb) ho) q⟩

/-! ### for, while -/
variable {iter : Expr} {wi : TI} {vi : VI W} {body : List Stmt}
def vFor (ti : VI W) (g : VG W) (tb : VS W) : VS W := fun D s w => ti s w fun ds w1 => ∃ I : Nat → List SD → W.S → Prop, I 0 s w1 ∧
  (∀ (i : Nat) s w d, ds[i]? = some d → I i s w → g d s w fun s2 w2 => tb { D with nx := I (i + 1), ct := I (i + 1), bk := D.nx } s2 w2) ∧ ∀ s w, I ds.length s w → D.nx s w
theorem snd_for (hi : SndI K W wi vi) (hg : SndG K W g vg) (hb : SndS K W ts vs) : SndS K W (tFor wi g ts) (vFor vi vg vs) := by
  intro F0 H0 F H σ s w D' D R q k
  refine hi _ _ _ _ _ _ _ _ _ R q fun J F1 H1 ds w1 e1 r1 wk q1 => ?_
  obtain ⟨I, i0, step, last⟩ := q1
  refine for_it wk (fun i σ H => ∃ F s w, Same F1 F ∧ Rel K W F0 H0 F H σ s w ∧ I i s w) ⟨F1, s, w1, Same.refl _, R.up e1 r1, i0⟩ (fun i σ H _ ⟨F, s, w, a, R, _⟩ => a.trans R.sub) (fun i x σ H H' hi ⟨F, s, w, a, R, q⟩ y => ?_) (fun σ H ⟨F, s, w, a, R, q⟩ => k.nx _ _ F H w (e1.ff.trans a) R (last s w q))
  obtain ⟨d, F2, ed, e2, p2⟩ := yd_step y a R.sub
  have R2 := R.upP e2
  refine hg _ _ _ _ _ _ _ _ _ _ _ R2 p2 (step i s w d ed q) fun σ3 s3 w3 R3 q3 => ?_
  refine hb _ _ _ _ _ _ _ _ _ R3 q3 ⟨fun σ4 s4 F4 H4 w4 sf4 R4 q4 => ⟨F4, s4, w4, (a.trans e2.ff).trans sf4, R4, q4⟩, k.rt, fun σ4 s4 F4 H4 w4 sf4 R4 q4 => k.nx _ _ F4 H4 w4 (((e1.ff.trans a).trans e2.ff).trans sf4) R4 q4, fun σ4 s4 F4 H4 w4 sf4 R4 q4 => ⟨F4, s4, w4, (a.trans e2.ff).trans sf4, R4, q4⟩⟩
theorem ds_for (hp : PassesOwn (model X.prog X.w) X.A X.env X.xe) (hc : X.calm = true) (hi : DI X W tg iter wi vi) (hg : DG X W tg g vg) (hb : DSs X W body ts vs) (hs : ∀ x, foldedSetIterable iter X.env x = pure x := by intro _; rfl) :
    DS X W (.For tg iter body [] pos) (tFor wi g ts) (vFor vi vg vs) := ⟨ps_for hp hc hi.pe hg.pe hb.pe hs, snd_for hi.sn hg.sn hb.sn⟩
def vWhile (c : VT W) (tb : VS W) : VS W := fun D s w => ∃ I : Nat → List SD → W.S → Prop, (∃ m, I m s w) ∧ ∀ m s w, I m s w → c s w fun b w1 => if b = true then tb { D with nx := fun s w => ∃ m', m' < m ∧ I m' s w, ct := fun s w => ∃ m', m' < m ∧ I m' s w, bk := D.nx } s w1 else D.nx s w1
theorem snd_while (hc : SndT K W tt vt) (hb : SndS K W ts vs) : SndS K W (tWhile tt ts) (vWhile vt vs) := by
  intro F0 H0 F1 H1 σ s w D' D R q k
  obtain ⟨I, ⟨m0, i0⟩, turn⟩ := q
  refine ⟨fun m σ H => ∃ F s w, Same F1 F ∧ Rel K W F0 H0 F H σ s w ∧ I m s w, ⟨m0, F1, s, w, Same.refl _, R, i0⟩, fun m σ H ⟨F, s, w, a, R, q⟩ => ?_⟩
  refine hc _ _ _ _ _ _ _ _ _ R (turn m s w q) fun b F2 H2 w2 e2 r2 q2 => ?_
  cases b with
  | false => exact k.nx _ _ F2 H2 w2 (a.trans e2.ff) (R.up e2 r2) q2
  | true =>
    refine ⟨fun σ' H' => ∃ m', m' < m ∧ ∃ F s w, Same F1 F ∧ Rel K W F0 H0 F H' σ' s w ∧ I m' s w, fun σ' H' h => h, ?_⟩
    refine hb _ _ _ _ _ _ _ _ _ (R.up e2 r2) q2 ⟨fun σ4 s4 F4 H4 w4 sf4 R4 ⟨m', hm, q4⟩ => ⟨m', hm, F4, s4, w4, (a.trans e2.ff).trans sf4, R4, q4⟩, k.rt, fun σ4 s4 F4 H4 w4 sf4 R4 q4 => k.nx _ _ F4 H4 w4 ((a.trans e2.ff).trans sf4) R4 q4, fun σ4 s4 F4 H4 w4 sf4 R4 ⟨m', hm, q4⟩ => ⟨m', hm, F4, s4, w4, (a.trans e2.ff).trans sf4, R4, q4⟩⟩
theorem ds_while {c : Expr} (hp : PassesOwn (model X.prog X.w) X.A X.env X.xe) (hc : DT X W c tt vt) (hb : DSs X W body ts vs) : DS X W (.While c body [] pos) (tWhile tt ts) (vWhile vt vs) := ⟨ps_while hp hc.pe hb.pe, snd_while hc.sn hb.sn⟩

/-! ### an own list becomes frozen, between two statements -/
def vFrz (i : Nat) (t : VS W) : VS W := fun D s w => ∃ ds, s[i]? = some (SD.own ds) ∧ t D (s.set i (.fz (.list ds))) w
theorem dss_frz (i : Nat) (h : DSs X W sts ts vs) : DSs X W sts ts (vFrz i vs) := ⟨h.pe, fun F0 H0 F H σ s w D' D R q k => by
  obtain ⟨ds, e, q⟩ := q
  obtain ⟨F', sf, _, R'⟩ := R.freeze e
  exact h.sn _ _ _ _ _ _ _ D' D R' q (k.up sf)⟩

/-! ### walked things -/
def viSeq (t : VE W) : VI W := fun s w Q => t s w fun d w1 => ∃ ds, d = .list ds ∧ Q ds w1
def viTup (t : VE W) : VI W := fun s w Q => t s w fun d w1 => ∃ ds, d = .tuple ds ∧ Q ds w1
theorem walk_up {J : It} {n : Nat} {G G' : Hp → Prop} {Y Y' : Nat → Hp → V → Hp → Prop} (w : Walk J n G Y) (hg : ∀ H, G' H → G H) (hy : ∀ i H x H', i < n → G' H → Y i H x H' → Y' i H x H') : Walk J n G' Y' := w.mono hg hy
theorem di_list {l : Expr} (h : DE X W l te t) : DI X W tg l (iList X.K te) (viSeq t) := ⟨pi_list h.pe, fun F0 H0 F H σ s w Q' R' R q k => by
  refine h.sn _ _ _ _ _ _ _ _ _ R q fun v F1 H1 d w1 e1 r1 p1 q1 => ?_
  obtain ⟨ds, rfl, q1⟩ := q1
  cases p1 with
  | lst hs ha =>
    refine ⟨_, rfl, ⟨_, e1.sub.seq hs⟩, k _ F1 H1 ds w1 e1 r1 ?_ q1⟩
    rw [← dpa_len ha]
    refine walk_list.mono (fun H sf => sf.seq hs) fun i H x H' hi sf y => ?_
    obtain ⟨rfl, y⟩ := y
    obtain ⟨d, e, p⟩ := dpa_get ha y
    exact ⟨d, e, .inl ⟨rfl, p⟩⟩⟩
theorem di_tup {l : Expr} (h : DE X W l te t) : DI X W tg l (iTup X.K te) (viTup t) := ⟨pi_tup h.pe, fun F0 H0 F H σ s w Q' R' R q k => by
  refine h.sn _ _ _ _ _ _ _ _ _ R q fun v F1 H1 d w1 e1 r1 p1 q1 => ?_
  obtain ⟨ds, rfl, q1⟩ := q1
  cases p1 with
  | tup hs ha =>
    refine ⟨_, rfl, ⟨_, sqT_up e1.sub hs⟩, k _ F1 H1 ds w1 e1 r1 ?_ q1⟩
    rw [← dpa_len ha]
    refine walk_tup.mono (fun H sf => sqT_up sf hs) fun i H x H' hi sf y => ?_
    obtain ⟨rfl, y⟩ := y
    obtain ⟨d, e, p⟩ := dpa_get ha y
    exact ⟨d, e, .inl ⟨rfl, p⟩⟩⟩
/-- the ints lo, lo + 1, .. (n of them) -/
def rng (lo : Int) (n : Nat) : List PyData := (List.range n).map fun i : Nat => .int (lo + i)
theorem rng_len (lo : Int) (n : Nat) : (rng lo n).length = n := by simp [rng]
theorem rng_get {lo : Int} {n i : Nat} (h : i < n) : (rng lo n)[i]? = some (.int (lo + i)) := by simp [rng, h]
def viRng1 (t : VA W) : VI W := fun s w Q => t s w fun xs w1 => ∃ j : Int, xs = [SD.fz (.int j)] ∧ j ≤ 1000000 ∧ -1000000 ≤ j ∧ Q (rng 0 j.toNat) w1
def viRng2 (t : VA W) : VI W := fun s w Q => t s w fun xs w1 => ∃ i j : Int, xs = [SD.fz (.int i), SD.fz (.int j)] ∧ (j ≤ 1000000 ∧ -1000000 ≤ j ∧ i ≤ 1000000 ∧ -1000000 ≤ i) ∧ Q (rng i (j - i).toNat) w1
theorem walk_rng {F : Hp} {lo : Int} {n : Nat} : Walk (Itr lo n) (rng lo n).length (fun H => Same F H) (YD K F (rng lo n)) := by
  rw [rng_len]
  exact walk_range.mono (fun _ _ => trivial) fun i H x H' hi _ y => ⟨_, rng_get hi, .inl ⟨y.1, y.2 ▸ .int _⟩⟩
theorem di_rng1 {a : Expr} (hg : Gl X "range") (hm : X.mg "range" = none) (h : DA X W [a] tas us) (hs : starEach [a] X.env = [(false, eval a X.env)] := by rfl) : DI X W tg (.Call (.Name "range" p) [a] [] pos) (iRng1 tas) (viRng1 us) :=
  ⟨pi_range1 hg hm h.pe hs, fun F0 H0 F H σ s w Q' R' R q k => by
    refine h.sn _ _ _ _ _ _ _ _ _ R q fun vs F1 H1 xs w1 e1 r1 p1 q1 => ?_
    obtain ⟨j, rfl, h1, h2, q1⟩ := q1
    have e := dpa_ints (ns := [j]) p1.data
    exact ⟨j, e, by omega, by omega, k _ F1 H1 _ w1 e1 r1 walk_rng q1⟩⟩
theorem di_rng2 {a b : Expr} (hg : Gl X "range") (hm : X.mg "range" = none) (h : DA X W [a, b] tas us) (hs : starEach [a, b] X.env = [(false, eval a X.env), (false, eval b X.env)] := by rfl) (hs2 : starEach [b] X.env = [(false, eval b X.env)] := by rfl) :
    DI X W tg (.Call (.Name "range" p) [a, b] [] pos) (iRng2 tas) (viRng2 us) :=
  ⟨pi_range2 hg hm h.pe hs hs2, fun F0 H0 F H σ s w Q' R' R q k => by
    refine h.sn _ _ _ _ _ _ _ _ _ R q fun vs F1 H1 xs w1 e1 r1 p1 q1 => ?_
    obtain ⟨i, j, rfl, ⟨h1, h2, h3, h4⟩, q1⟩ := q1
    have e := dpa_ints (ns := [i, j]) p1.data
    exact ⟨i, j, e, ⟨by omega, by omega, by omega, by omega⟩, k _ F1 H1 _ w1 e1 r1 walk_rng q1⟩⟩

/-! ### list comprehensions -/
def wipeS (s : List SD) : List Nat → List SD
  | [] => s
  | v :: vs => (wipeS s vs).set v .un
theorem wipeS_len (s : List SD) : ∀ vs : List Nat, (wipeS s vs).length = s.length
  | [] => rfl
  | v :: vs => by unfold wipeS; rw [List.length_set, wipeS_len s vs]
theorem wipe_key : ∀ (vs : List Nat) (σ : L2.St) (i : Nat), (wipe σ vs)[i]? = if i ∈ vs ∧ i < σ.length then some none else σ[i]? := by
  intro vs
  induction vs with
  | nil => intro σ i; simp [wipe]
  | cons v vs ih =>
    intro σ i
    unfold wipe
    by_cases h : v = i
    · subst h
      by_cases hl : v < σ.length
      · rw [List.getElem?_set_self (by rw [wipe_length]; exact hl), if_pos ⟨List.mem_cons_self, hl⟩]
      · rw [List.getElem?_eq_none (by rw [List.length_set, wipe_length]; omega), if_neg (fun z => hl z.2), List.getElem?_eq_none (by omega)]
    · rw [List.getElem?_set_ne h, ih]
      have e : (i ∈ v :: vs) ↔ (i ∈ vs) := by simp [Ne.symm h]
      by_cases h2 : i ∈ vs ∧ i < σ.length
      · rw [if_pos h2, if_pos ⟨e.mpr h2.1, h2.2⟩]
      · rw [if_neg h2, if_neg fun z => h2 ⟨e.mp z.1, z.2⟩]
theorem wipe_wipe (σ : L2.St) : ∀ vs : List Nat, wipe (wipe σ vs) vs = wipe σ vs := by
  intro vs
  apply List.ext_getElem?
  intro i
  rw [wipe_key, wipe_key, wipe_length]
  by_cases h : i ∈ vs ∧ i < σ.length
  · rw [if_pos h, if_pos h]
  · rw [if_neg h, if_neg h]
theorem Rel.wipe {F0 H0 F H : Hp} {σ : L2.St} {s : List SD} {w : W.S} (R : Rel K W F0 H0 F H σ s w) : ∀ vs : List Nat, Rel K W F0 H0 F H (L2.wipe σ vs) (wipeS s vs) w
  | [] => R
  | v :: vs => by
    have R1 := Rel.wipe R vs
    have hl1 : (L2.wipe σ vs).length = (wipeS s vs).length := R1.len
    have f : ∀ (j : Nat) x, ((wipeS s vs).set v .un)[j]? = some x → (x = .un ∨ ((wipeS s vs)[j]? = some x ∧ v ≠ j)) := fun j x hj => by
      by_cases e : v = j
      · subst e
        have hl : v < (wipeS s vs).length := by
          have := (List.getElem?_eq_some_iff.mp hj).1
          simpa using this
        rw [List.getElem?_set_self hl] at hj
        cases hj
        exact .inl rfl
      · rw [List.getElem?_set_ne e] at hj
        exact .inr ⟨hj, e⟩
    refine ⟨R1.ext, R1.wr, by show ((L2.wipe σ vs).set v none).length = ((wipeS s vs).set v .un).length; simpa using hl1, fun j x hj => ?_, fun j k fs gs hj hk => ?_⟩
    · rcases f j x hj with rfl | ⟨h, e⟩
      · trivial
      · show SlotOk K W H0 F H ((L2.wipe σ vs).set v none)[j]? x
        rw [List.getElem?_set_ne e]
        exact R1.sl j x h
    · rcases f j _ hj with e | ⟨h, _⟩
      · cases e
      · rcases f k _ hk with e | ⟨h', _⟩
        · cases e
        · exact R1.one j k fs gs h h'
/-- the target stores at the places vs alone -/
def GOnly (g : TG) (vs : List Nat) : Prop := ∀ v (σ : L2.St) H (Q : L2.St → Hp → Prop), g v σ H Q → g v σ H fun σ2 H2 => wipe σ2 vs = wipe σ vs ∧ Q σ2 H2
def GsOnly (g : TGs) (vs : List Nat) : Prop := ∀ us (σ : L2.St) H (Q : L2.St → Hp → Prop), g us σ H Q → g us σ H fun σ2 H2 => wipe σ2 vs = wipe σ vs ∧ Q σ2 H2
theorem wipe_set {i : Nat} {v : Option V} : ∀ {vs : List Nat} {σ : L2.St}, i ∈ vs → wipe (σ.set i v) vs = wipe σ vs := by
  intro vs σ hi
  apply List.ext_getElem?
  intro j
  rw [wipe_key, wipe_key, List.length_set]
  by_cases h : j ∈ vs ∧ j < σ.length
  · rw [if_pos h, if_pos h]
  · rw [if_neg h, if_neg h]
    by_cases e : i = j
    · subst e
      have hl : ¬ i < σ.length := fun z => h ⟨hi, z⟩
      rw [List.getElem?_eq_none (by rw [List.length_set]; omega), List.getElem?_eq_none (by omega)]
    · rw [List.getElem?_set_ne e]
theorem go_name {i : Nat} {vs : List Nat} (h : i ∈ vs := by decide) : GOnly (gName i) vs := fun v σ H Q q => ⟨wipe_set h, q⟩
theorem gos_nil {vs : List Nat} : GsOnly gNil vs := fun us σ H Q ⟨e, q⟩ => ⟨e, rfl, q⟩
theorem gMono (h : PG X tg g) : True := trivial
theorem go_tup {vs : List Nat} {t : TGs} (h : GsOnly t vs) : GOnly (gTup K n t) vs := fun v σ H Q ⟨a, xs, e, s, l, q⟩ => ⟨a, xs, e, s, l, h _ _ _ _ q⟩
/-- names in a row -/
theorem gos_name {i : Nat} {vs : List Nat} {u : TGs} (h : i ∈ vs := by decide) (hu : GsOnly u vs) : GsOnly (gCons (gName i) u) vs := fun us σ H Q ⟨v, r, e, q⟩ => by
  refine ⟨v, r, e, ?_⟩
  have q2 := hu r (σ.set i (some v)) H Q q
  rw [wipe_set h] at q2
  exact q2
def vLc (ti : VI W) (g : VG W) (tt : VT W) (te : VE W) (vs : List Nat) : VE W := fun s w Q => ti s w fun ds w1 => ds.length ≤ 1000 ∧ ∃ I : Nat → List PyData → W.S → Prop, I 0 [] w1 ∧
  (∀ (i : Nat) d acc w, ds[i]? = some d → I i acc w → g d (wipeS s vs) w fun s2 w2 => tt s2 w2 fun b w3 => if b = true then te s2 w3 fun y w4 => I (i + 1) (acc ++ [y]) w4 else I (i + 1) acc w3) ∧ ∀ acc w, I ds.length acc w → acc.length ≤ ds.length → Q (.list acc) w
theorem Ext.mut {F H F' H' : Hp} {D : Addr} {o : HO} (e : Ext W F H F' H') (h1 : H D = none) (h2 : F' D = none) : Ext W F H F' (upd H' D o) := by
  refine ⟨fun b u q => ?_, e.ff, fun b u q n => ?_, fun b q => ?_, e.nw⟩
  · rw [upd_ne (fun z => by rw [z, h2] at q; cases q)]; exact e.sub b u q
  · rw [upd_ne (fun z => by rw [z, h1] at q; cases q)]; exact e.hh b u q n
  · by_cases hb : b = D
    · subst hb; rw [upd_same]; intro z; cases z
    · rw [upd_ne hb]; exact e.dm b q
theorem snd_lc {own : List Nat} (hi : SndI K W wi vi) (hg : SndG K W g vg) (ht : SndT K W tt vt) (he : SndE K W te t) (go : GOnly g own) : SndE K W (tLc wi g tt te own) (vLc vi vg vt t own) := by
  intro F0 H0 F H σ s w Q' Q R q k
  refine hi _ _ _ _ _ _ _ _ _ R q fun J F1 H1 ds w1 e1 r1 wk q1 => ?_
  obtain ⟨hz, I, i0, step, last⟩ := q1
  have R1 := R.up e1 r1
  intro D hD
  have nfp : ¬ W.fp D := fun z => (W.dom r1 D z).2 hD
  have fD : F1 D = none := e1.sub.free hD
  have x0 := Ext.newOwn (W := W0) (o := .lst []) e1.sub hD
  refine lc_it wk (fun i H => ∃ F acc us w, Ext W F1 H1 F H ∧ W.R w F H ∧ H D = some (.lst us) ∧ DpAll K F us acc ∧ acc.length ≤ i ∧ F D = none ∧ I i acc w) ⟨F1, [], [], w1, x0.lift, x0.keepR r1, upd_same, .nil, Nat.le_refl _, fD, i0⟩
    (fun i H _ ⟨F, acc, us, w, e, _⟩ => e.ff.trans e.sub) (fun i x H H' hi ⟨F, acc, us, w, e, r, hd, ha, hl, fd, q⟩ y => ?_) (fun H ⟨F, acc, us, w, e, r, hd, ha, hl, fd, q⟩ => ?_)
  · have R2 := R1.up e r
    obtain ⟨d, F2, ed, e2, p2⟩ := yd_step y e.ff R2.sub
    have R3 := (R2.upP e2).wipe own
    have q2 := step i d acc w ed q
    have key := hg _ _ _ _ _ _ _ _ _ _ (fun σ2 H2 => tt σ2 H2 fun b H3 => if b = true then te σ2 H3 fun y H4 => ∃ acc, H4 D = some (.lst acc) ∧ acc.length < sizeLine ∧ ∃ F acc_1 us w, Ext W F1 H1 F (upd H4 D (.lst (acc ++ [y]))) ∧ W.R w F (upd H4 D (.lst (acc ++ [y]))) ∧ upd H4 D (.lst (acc ++ [y])) D = some (.lst us) ∧ DpAll K F us acc_1 ∧ acc_1.length ≤ i + 1 ∧ F D = none ∧ I (i + 1) acc_1 w else ∃ F acc us w, Ext W F1 H1 F H3 ∧ W.R w F H3 ∧ H3 D = some (.lst us) ∧ DpAll K F us acc ∧ acc.length ≤ i + 1 ∧ F D = none ∧ I (i + 1) acc w) R3 p2 q2 fun σ3 s3 w3 R4 q3 => ?_
    · have z := go _ _ _ _ key
      rw [wipe_wipe] at z
      exact z
    · have e02 := e.trans e2.lift
      have hd2 := e2.hh _ _ hd id
      have fd2 := e2.nw _ (ne_some hd) fd
      refine ht _ _ _ _ _ _ _ _ _ R4 q3 fun b F5 H5 w5 e5 r5 q5 => ?_
      have hd5 := e5.hh _ _ hd2 nfp
      have fd5 := e5.nw _ (ne_some hd2) fd2
      cases b with
      | false => exact ⟨F5, acc, us, w5, e02.trans e5, r5, hd5, dpa_mono (e2.ff.trans e5.ff) ha, by omega, fd5, q5⟩
      | true =>
        refine he _ _ _ _ _ _ _ _ _ (R4.up e5 r5) q5 fun v F6 H6 d6 w6 e6 r6 p6 q6 => ?_
        have hd6 := e6.hh _ _ hd5 nfp
        have fd6 := e6.nw _ (ne_some hd5) fd5
        have e06 := (e02.trans e5).trans e6
        refine ⟨us, hd6, by rw [dpa_len ha]; exact small1000 (by omega), F6, acc ++ [d6], us ++ [v], w6, e06.mut hD fd6, W.keep r6 (Same.refl _) (fun b hb => (W.dom r6 b hb).1) fun b hb => upd_ne (fun z => nfp (z ▸ hb)), upd_same, dpa_app (dpa_mono ((e2.ff.trans e5.ff).trans e6.ff) ha) (dpa_one p6), by rw [List.length_append, List.length_singleton]; omega, fd6, q6⟩
  · have hDd : (D : Addr) ≠ D → False := fun z => z rfl
    have hff : Same F (upd F D (.lst us)) := fun b u z => by rw [upd_ne (fun y => by rw [y, fd] at z; cases z)]; exact z
    have hsub : Same (upd F D (.lst us)) H := fun b u z => by
      by_cases hb : b = D
      · subst hb; rw [upd_same] at z; rw [hd]; exact z
      · rw [upd_ne hb] at z; exact e.sub b u z
    have x2 : Ext W F1 H1 (upd F D (.lst us)) H := ⟨hsub, e.ff.trans hff, e.hh, e.dm, fun b z n => by rw [upd_ne (fun (y : b = D) => z (by rw [y]; exact hD))]; exact e.nw b z n⟩
    exact k (.ref D) _ H (.list acc) w (e1.trans x2) (W.keep r hff (fun b hb => (upd_ne (fun z : b = D => nfp (z ▸ hb))).trans (W.dom r b hb).1) fun _ _ => rfl) (.lst (.inl (.inl upd_same)) (dpa_mono hff ha)) (last acc w q hl)
theorem de_lc {elt : Expr} {ifs : List Expr} {scope : Scope} {own : List (Str × Nat)} (hc : X.calm = true) (hN : X.N.Nodup) (hi : DI X W tg iter wi vi) (ok : BlkOk X.N X.env.scope scope own)
    (hg : ∀ (s : Shared) (H : Hp) (C : Addr) (cl : List (Str × Addr)) (fp : List Addr), DG (X.blk s H scope (compEnvC scope cl C X.env) fp) W tg g vg) (ht : ∀ (s : Shared) (H : Hp) (C : Addr) (cl : List (Str × Addr)) (fp : List Addr), DTs (X.blk s H scope (compEnvC scope cl C X.env) fp) W ifs tt vt)
    (he : ∀ (s : Shared) (H : Hp) (C : Addr) (cl : List (Str × Addr)) (fp : List Addr), DE (X.blk s H scope (compEnvC scope cl C X.env) fp) W elt te t) (go : GOnly g (own.map (·.2))) (hs : ∀ x, foldedSetIterable iter X.env x = pure x := by intro _; rfl) :
    DE X W (.ListComp elt [⟨tg, iter, ifs, 0⟩] scope pos) (tLc wi g tt te (own.map (·.2))) (vLc vi vg vt t (own.map (·.2))) :=
  ⟨pe_lc hc hN hi.pe ok (fun s H C cl fp => (hg s H C cl fp).pe) (fun s H C cl fp => (ht s H C cl fp).pe) (fun s H C cl fp => (he s H C cl fp).pe) hs,
    snd_lc hi.sn (hg X.s_0 X.H_0 0 [] []).sn (ht X.s_0 X.H_0 0 [] []).sn (he X.s_0 X.H_0 0 [] []).sn go⟩
theorem ds_setLc {y : Str} {py : Pos} {elt : Expr} {ifs : List Expr} {scope : Scope} {own : List (Str × Nat)} {spos : Pos} (hc : X.calm = true) (hN : X.N.Nodup) (hy : X.N[i]? = some y) (hyl : X.env.scope.names.lookup y = some .local)
    (hsw : swapsWith (.ListComp elt [⟨tg, iter, ifs, 0⟩] scope pos) (some (.Name y py)) spos.line X.env = pure true) (hi : DI X W tg iter wi vi) (ok : BlkOk X.N X.env.scope scope own)
    (hg : ∀ (s : Shared) (H : Hp) (C : Addr) (cl : List (Str × Addr)) (fp : List Addr), DG (X.blk s H scope (compEnvC scope cl C X.env) fp) W tg g vg) (ht : ∀ (s : Shared) (H : Hp) (C : Addr) (cl : List (Str × Addr)) (fp : List Addr), DTs (X.blk s H scope (compEnvC scope cl C X.env) fp) W ifs tt vt)
    (he : ∀ (s : Shared) (H : Hp) (C : Addr) (cl : List (Str × Addr)) (fp : List Addr), DE (X.blk s H scope (compEnvC scope cl C X.env) fp) W elt te t) (go : GOnly g (own.map (·.2))) (hs : ∀ x, foldedSetIterable iter X.env x = pure x := by intro _; rfl) :
    DS X W (.Assign [.Name y py] (.ListComp elt [⟨tg, iter, ifs, 0⟩] scope pos) spos) (tAsg (tLc wi g tt te (own.map (·.2))) (gName i)) (vAsg (vLc vi vg vt t (own.map (·.2))) (vgName W i)) :=
  ⟨ps_setLc hc hN hy hyl hsw hi.pe ok (fun s H C cl fp => (hg s H C cl fp).pe) (fun s H C cl fp => (ht s H C cl fp).pe) (fun s H C cl fp => (he s H C cl fp).pe) hs,
    snd_asg (snd_lc hi.sn (hg X.s_0 X.H_0 0 [] []).sn (ht X.s_0 X.H_0 0 [] []).sn (he X.s_0 X.H_0 0 [] []).sn go) (snd_name i)⟩
def vYes (W : Wo) : VT W := fun _ w Q => Q true w
theorem dts_nil : DTs X W [] tYes (vYes W) := ⟨pts_nil, fun F0 H0 F H σ s w Q' Q R q k => k true F H w (Ext.refl R.sub) R.wr q⟩
theorem dts_one {c : Expr} (h : DT X W c tt vt) : DTs X W [c] tt vt := ⟨pts_one h.pe, h.sn⟩
end

/-! ### a def's body keeps its promise -/
theorem slots_start {K : PySem.W.Frag} {W : Wo} {F H : Hp} : ∀ {vs : List V} {xs : List SD} (n : Nat), ArgsOk K F vs xs → ∀ (i : Nat) (x : SD), (xs ++ List.replicate n SD.un)[i]? = some x → SlotOk K W H F H ((vs.map some ++ List.replicate n none : L2.St))[i]? x
  | _, _, n, .nil, i, x, h => by
    rw [List.nil_append, List.getElem?_replicate] at h
    split at h
    · cases h; trivial
    · cases h
  | _, _, n, .cons (a := v) (b := y) r t, 0, x, h => by
    have e : y = x := Option.some.inj h
    subst e
    cases y with
    | fz d => exact ⟨v, rfl, r⟩
    | adr a => exact congrArg (fun z => some (some z)) r
    | un => trivial
    | own ds => exact r.elim
  | _, _, n, .cons r t, i + 1, x, h => slots_start n t i x h
theorem args_noown {K : PySem.W.Frag} {F : Hp} : ∀ {vs : List V} {xs : List SD} (n : Nat), ArgsOk K F vs xs → ∀ (i : Nat) ds, (xs ++ List.replicate n SD.un)[i]? = some (SD.own ds) → False
  | _, _, n, .nil, i, ds, h => by
    rw [List.nil_append, List.getElem?_replicate] at h
    split at h <;> cases h
  | _, _, n, .cons (b := y) r t, 0, ds, h => by
    have e : y = .own ds := Option.some.inj h
    subst e
    exact r
  | _, _, n, .cons r t, i + 1, ds, h => args_noown n t i ds h
theorem args_len {K : PySem.W.Frag} {F : Hp} : ∀ {vs : List V} {xs : List SD}, ArgsOk K F vs xs → vs.length = xs.length
  | _, _, .nil => rfl
  | _, _, .cons _ t => congrArg Nat.succ (args_len t)
section
variable {P : Program} {w : World} {K : PySem.W.Frag} {mg : Str → Option Value} {base : Heap} {x qual : Str} {params : Arguments} {body : List Stmt} {scope : Scope} {dvs : List V} {kws : List (Str × V)} {f : Addr} {fd : FuncData}
/-- THE RULE for a def over data -/
theorem fnV {W : Wo} {N ps : List Str} {k : Nat} {S : Spec W} (F : FunD K x qual params body scope dvs kws f fd) (SC : FnScope N ps scope) (hlen : ∀ xs w Q, S xs w Q → xs.length = ps.length)
    (hbody : ∀ (cdv : Value) (A : Around) (outer : List Env) (s : Shared) (H : Hp) (E : XK), Room k (A.deeper (envOfC qual scope s.heap.objs.size f cdv)) →
      ∃ ts t, DSs (cxOf CX0 P w K mg base N qual scope f cdv A outer s H E).nox W body ts t ∧ ∀ xs w Q, S xs w Q → t { nx := fun _ w => Q .none w, rt := Q } (xs ++ List.replicate (N.length - xs.length) .un) w) :
    FnOk P w K mg base CX0 (k + 1) f fd ps (spW K W S) := by
  refine F.ok SC (fun vs H Q E h => ?_) (fun cdv A outer s H vs Q E hr h => ?_)
  · obtain ⟨F, xs, w, Q', _, _, ha, hs, _⟩ := h
    rw [args_len ha]
    exact hlen _ _ _ hs
  · obtain ⟨ts, t, hd, hv⟩ := hbody cdv A outer s H E hr
    obtain ⟨F1, xs, w1, Q', hsub, hw, ha, hs, k⟩ := h
    refine ⟨ts, hd.pe.nox, hd.sn F1 H F1 H _ _ _ _ _ ⟨Ext.refl hsub, hw, ?_, ?_, ?_⟩ (hv xs w1 Q' hs) ⟨fun σ' s' F' H' w' sf R q => ?_, fun v F' H' d w' e r p q => ?_, fun _ _ _ _ _ _ _ q => q, fun _ _ _ _ _ _ _ q => q⟩⟩
    · unfold start
      simp [args_len ha]
    · unfold start
      rw [args_len ha]
      exact slots_start _ ha
    · intro i j ds es hi
      exact (args_noown _ ha i ds hi).elim
    · exact k .non F' H' .none w' R.ext R.wr .non q
    · exact k v F' H' d w' e r p q
end
end L2.VL
/-! part VL4 -/
set_option Elab.async false
set_option linter.all false
set_option autoImplicit false
set_option maxRecDepth 100000
set_option maxHeartbeats 4000000
namespace L2.VL
open PySem PySem.Spec PyProof.Rows L2 C8

/-! ### encodings -/
/-- a tuple of ints -/
abbrev dT (ns : List Int) : PyData := .tuple (ns.map .int)
theorem eqvAll_ints : ∀ xs ys : List Int, PyData.eqvAll (xs.map .int) (ys.map .int) = decide (xs = ys)
  | [], [] => by simp [PyData.eqvAll]
  | [], _ :: _ => by simp [PyData.eqvAll]
  | _ :: _, [] => by simp [PyData.eqvAll]
  | x :: xs, y :: ys => by
    show (PyData.eqv (.int x) (.int y) && PyData.eqvAll (xs.map .int) (ys.map .int)) = _
    rw [eqvAll_ints xs ys]
    have e : PyData.eqv (.int x) (.int y) = (x == y) := by simp [PyData.eqv]
    rw [e, Bool.eq_iff_iff]
    simp
theorem eqv_dT (xs ys : List Int) : PyData.eqv (dT xs) (dT ys) = decide (xs = ys) := by
  show PyData.eqv (.tuple _) (.tuple _) = _
  rw [show PyData.eqv (.tuple (xs.map .int)) (.tuple (ys.map .int)) = PyData.eqvAll (xs.map .int) (ys.map .int) by simp [PyData.eqv]]
  exact eqvAll_ints xs ys
theorem canLay_ints : ∀ xs : List Int, PyData.canLayAll0 (xs.map .int) = true
  | [] => by simp [PyData.canLayAll0]
  | x :: xs => by
    show PyData.canLayAll0 (.int x :: xs.map .int) = true
    have := canLay_ints xs
    simp [PyData.canLayAll0, PyData.canLay0, this]
theorem canLay_dT (xs : List Int) : PyData.canLay0 (dT xs) = true := by
  have := canLay_ints xs
  simp [PyData.canLay0, this]
theorem depth_ints0 : ∀ xs : List Int, PyData.depthAll (xs.map .int) = 0
  | [] => by simp [PyData.depthAll]
  | x :: xs => by
    show PyData.depthAll (.int x :: xs.map .int) = 0
    have := depth_ints0 xs
    simp [PyData.depthAll, PyData.depth, this]
theorem depth_dT (xs : List Int) : PyData.depth (dT xs) ≤ 1 := by
  have := depth_ints0 xs
  simp [PyData.depth, this]
theorem shaped_dT (xs : List Int) : SeqAt.shaped (dT xs) = true := by
  unfold SeqAt.shaped
  rw [canLay_dT, Bool.true_and]
  exact decide_eq_true (Nat.le_trans (depth_dT xs) (by decide))
theorem canLay_dTs : ∀ xs : List (List Int), PyData.canLayAll0 (xs.map dT) = true
  | [] => by simp [PyData.canLayAll0]
  | x :: xs => by
    have h1 := canLay_dTs xs
    have h2 := canLay_dT x
    show PyData.canLayAll0 (dT x :: xs.map dT) = true
    unfold PyData.canLayAll0
    rw [h1, h2]
    rfl
theorem depth_dTs : ∀ xs : List (List Int), PyData.depthAll (xs.map dT) ≤ 1
  | [] => by simp [PyData.depthAll]
  | x :: xs => by
    have h1 := depth_dTs xs
    have h2 := depth_dT x
    show PyData.depthAll (dT x :: xs.map dT) ≤ 1
    unfold PyData.depthAll
    omega
theorem shaped_list_dT (xs : List (List Int)) : SeqAt.shaped (.list (xs.map dT)) = true := by
  unfold SeqAt.shaped
  have h1 := canLay_dTs xs
  have h2 := depth_dTs xs
  rw [show PyData.canLay0 (.list (xs.map dT)) = true by simp only [PyData.canLay0]; exact h1, Bool.true_and]
  refine decide_eq_true ?_
  simp only [PyData.depth]
  omega
theorem shaped_tup_dT (xs : List (List Int)) : SeqAt.shaped (.tuple (xs.map dT)) = true := by
  unfold SeqAt.shaped
  have h1 := canLay_dTs xs
  have h2 := depth_dTs xs
  rw [show PyData.canLay0 (.tuple (xs.map dT)) = true by simp only [PyData.canLay0]; exact h1, Bool.true_and]
  refine decide_eq_true ?_
  simp only [PyData.depth]
  omega
theorem any_dT (xs : List (List Int)) (y : List Int) : ((xs.map dT).any fun z => PyData.eqv z (dT y)) = decide (y ∈ xs) := by
  rw [List.any_map, Bool.eq_iff_iff]
  simp only [List.any_eq_true, Function.comp, eqv_dT, decide_eq_true_eq]
  constructor
  · rintro ⟨x, hx, rfl⟩; exact hx
  · exact fun h => ⟨y, h, rfl⟩

theorem new_lst {K : PySem.W.Frag} {F H : Hp} {p : Addr} {vs : List V} {ds : List PyData} (sf : Same F H) (hp : H p = none) (h : DpAll K F vs ds) : Ext W0 F H (upd F p (.lst vs)) (upd H p (.lst vs)) ∧ Dp K (upd F p (.lst vs)) (.ref p) (.list ds) := by
  have x := Ext.new (W := W0) (o := .lst vs) sf hp
  exact ⟨x, .lst (.inl (.inl upd_same)) (dpa_mono x.ff h)⟩
theorem new_tup {K : PySem.W.Frag} {F H : Hp} {p : Addr} {vs : List V} {ds : List PyData} (sf : Same F H) (hp : H p = none) (h : DpAll K F vs ds) : Ext W0 F H (upd F p (.tup vs)) (upd H p (.tup vs)) ∧ Dp K (upd F p (.tup vs)) (.ref p) (.tuple ds) := by
  have x := Ext.new (W := W0) (o := .tup vs) sf hp
  exact ⟨x, .tup (.inl (.inl upd_same)) (dpa_mono x.ff h)⟩

/-! ### operators by values -/
section
variable {K : PySem.W.Frag}
def qI (C : Int → Int → Prop) (g : Int → Int → Int) : PO2 := fun d e Q => ∃ i j, d = .int i ∧ e = .int j ∧ C i j ∧ Q (.int (g i j))
def qI0 (g : Int → Int → Int) : PO2 := fun d e Q => ∃ i j, d = .int i ∧ e = .int j ∧ Q (.int (g i j))
def qB0 (g : Int → Int → Bool) : PO2 := fun d e Q => ∃ i j, d = .int i ∧ e = .int j ∧ Q (.bool (g i j))
theorem so_I {C : Int → Int → Prop} {g : Int → Int → Int} : SndO2 K (rI C fun i j => .int (g i j)) (qI C g) := fun F H x y d e Q' Q sf p1 p2 ⟨i, j, e1, e2, c, q⟩ k => by
  subst e1 e2; cases p1; cases p2
  exact ⟨i, j, rfl, rfl, c, k _ F H _ (Ext.refl sf) (.int _) q⟩
theorem so_I0 {g : Int → Int → Int} : SndO2 K (rI0 fun i j => .int (g i j)) (qI0 g) := fun F H x y d e Q' Q sf p1 p2 ⟨i, j, e1, e2, q⟩ k => by
  subst e1 e2; cases p1; cases p2
  exact ⟨i, j, rfl, rfl, k _ F H _ (Ext.refl sf) (.int _) q⟩
theorem so_B0 {g : Int → Int → Bool} : SndO2 K (rI0 fun i j => .bl (g i j)) (qB0 g) := fun F H x y d e Q' Q sf p1 p2 ⟨i, j, e1, e2, q⟩ k => by
  subst e1 e2; cases p1; cases p2
  exact ⟨i, j, rfl, rfl, k _ F H _ (Ext.refl sf) (.bl _) q⟩
theorem so_eqI : SndO2 K rEq (qB0 fun i j => decide (i = j)) := fun F H x y d e Q' Q sf p1 p2 ⟨i, j, e1, e2, q⟩ k => by
  subst e1 e2; cases p1; cases p2
  refine ⟨rfl, ?_⟩
  have e : decide (V.int i = V.int j) = decide (i = j) := by rw [Bool.eq_iff_iff]; simp
  rw [e]
  exact k _ F H _ (Ext.refl sf) (.bl _) q
theorem so_neI : SndO2 K rNe (qB0 fun i j => !decide (i = j)) := fun F H x y d e Q' Q sf p1 p2 ⟨i, j, e1, e2, q⟩ k => by
  subst e1 e2; cases p1; cases p2
  refine ⟨rfl, ?_⟩
  have e : decide (V.int i = V.int j) = decide (i = j) := by rw [Bool.eq_iff_iff]; simp
  rw [e]
  exact k _ F H _ (Ext.refl sf) (.bl _) q
def qNeB : PO2 := fun d e Q => ∃ i j : Bool, d = .bool i ∧ e = .bool j ∧ Q (.bool (i != j))
theorem so_neB : SndO2 K rNe qNeB := fun F H x y d e Q' Q sf p1 p2 ⟨i, j, e1, e2, q⟩ k => by
  subst e1 e2; cases p1; cases p2
  refine ⟨rfl, ?_⟩
  have e : (!decide (V.bl i = V.bl j)) = (i != j) := by cases i <;> cases j <;> rfl
  rw [e]
  exact k _ F H _ (Ext.refl sf) (.bl _) q
def qEqD : PO2 := fun d e Q => ∃ xs ys : List Int, d = dT xs ∧ e = dT ys ∧ Q (.bool (decide (xs = ys)))
def qNeD : PO2 := fun d e Q => ∃ xs ys : List Int, d = dT xs ∧ e = dT ys ∧ Q (.bool (!decide (xs = ys)))
theorem so_eqD : SndO2 K (rEqD K) qEqD := fun F H x y d e Q' Q sf p1 p2 ⟨xs, ys, e1, e2, q⟩ k => by
  subst e1 e2
  refine ⟨_, _, dp_mono sf p1, dp_mono sf p2, shaped_dT _, shaped_dT _, ?_⟩
  rw [eqv_dT]
  exact k _ F H _ (Ext.refl sf) (.bl _) q
theorem so_neD : SndO2 K (rNeD K) qNeD := fun F H x y d e Q' Q sf p1 p2 ⟨xs, ys, e1, e2, q⟩ k => by
  subst e1 e2
  refine ⟨_, _, dp_mono sf p1, dp_mono sf p2, shaped_dT _, shaped_dT _, ?_⟩
  rw [eqv_dT]
  exact k _ F H _ (Ext.refl sf) (.bl _) q
/-- == of two lists of ints -/
def qEqL : PO2 := fun d e Q => ∃ xs ys : List Int, d = .list (xs.map .int) ∧ e = .list (ys.map .int) ∧ Q (.bool (decide (xs = ys)))
theorem shaped_lI (xs : List Int) : SeqAt.shaped (.list (xs.map .int)) = true := by
  unfold SeqAt.shaped
  have h1 := canLay_ints xs
  have h2 := depth_ints0 xs
  rw [show PyData.canLay0 (.list (xs.map .int)) = true by simp only [PyData.canLay0]; exact h1, Bool.true_and]
  refine decide_eq_true ?_
  simp only [PyData.depth]
  omega
theorem so_eqL : SndO2 K (rEqD K) qEqL := fun F H x y d e Q' Q sf p1 p2 ⟨xs, ys, e1, e2, q⟩ k => by
  subst e1 e2
  refine ⟨_, _, dp_mono sf p1, dp_mono sf p2, shaped_lI _, shaped_lI _, ?_⟩
  rw [show PyData.eqv (.list (xs.map .int)) (.list (ys.map .int)) = PyData.eqvAll (xs.map .int) (ys.map .int) by simp [PyData.eqv], eqvAll_ints]
  exact k _ F H _ (Ext.refl sf) (.bl _) q
/-- in, of ints -/
theorem inV_ints (n : Int) : ∀ ns : List Int, inV (.int n) (ns.map V.int) = decide (n ∈ ns)
  | [] => by simp [inV]
  | m :: ns => by
    have ih := inV_ints n ns
    unfold inV at ih ⊢
    rw [List.map_cons, List.any_cons, ih, Bool.eq_iff_iff]
    simp [eqV]
    constructor
    · rintro (h | h); exact .inl h.symm; exact .inr h
    · rintro (h | h); exact .inl h.symm; exact .inr h
theorem flat_ints (ns : List Int) : (ns.map V.int).all flatV = true := by simp [flatV]
def qIn (neg : Bool) : PO2 := fun d e Q => ∃ (n : Int) (ns : List Int), d = .int n ∧ (e = .list (ns.map .int) ∨ e = dT ns) ∧ Q (.bool (if neg then !decide (n ∈ ns) else decide (n ∈ ns)))
theorem so_in {neg : Bool} : SndO2 K (rIn K neg) (qIn neg) := fun F H x y d e Q' Q sf p1 p2 ⟨n, ns, e1, e2, q⟩ k => by
  subst e1; cases p1
  have key : ∃ p, y = .ref p ∧ (SqL K H p (ns.map V.int) ∨ SqT K H p (ns.map V.int)) := by
    rcases e2 with e2 | e2
    · subst e2
      cases p2 with
      | lst hs ha => rw [dpa_ints ha] at hs; exact ⟨_, rfl, .inl (sf.seq hs)⟩
    · subst e2
      cases p2 with
      | tup hs ha => rw [dpa_ints ha] at hs; exact ⟨_, rfl, .inr (sqT_up sf hs)⟩
  obtain ⟨p, rfl, hp⟩ := key
  refine ⟨p, _, rfl, hp, rfl, flat_ints ns, ?_⟩
  rw [inV_ints]
  exact k _ F H _ (Ext.refl sf) (.bl _) q
/-- in, of tuples of ints in a list or tuple of such -/
def rInE (K : PySem.W.Frag) (neg : Bool) : R2 := fun x y H Q => ∃ (ns : List Int) (xs : List (List Int)), Dp K H x (dT ns) ∧ (Dp K H y (.list (xs.map dT)) ∨ Dp K H y (.tuple (xs.map dT))) ∧ Q (.bl (if neg then !decide (ns ∈ xs) else decide (ns ∈ xs))) H
theorem op_inE {X : Cx} (hu : X.A.units + 65 < cLine) : OpR X (compareOp .In) (rInE X.K false) := by
  intro pins s σ H x y v u Q I rx ry h
  obtain ⟨ns, xs, hd, he, q⟩ := h
  obtain ⟨as, r1⟩ := Dp.reads I _ x v hd rx
  rcases he with he | he
  · obtain ⟨bs, r2⟩ := Dp.reads I _ y u he ry
    exact SeqAt.in_list_reads r2 r1 (canLay_dTs xs) (canLay_dT ns) (room_in_shaped (shaped_dT ns) hu) ⟨.bl _, H, I, rfl, by rw [any_dT]; exact q⟩
  · obtain ⟨bs, r2⟩ := Dp.reads I _ y u he ry
    exact SeqAt.in_tuple_reads r2 r1 (canLay_dTs xs) (canLay_dT ns) (room_in_shaped (shaped_dT ns) hu) ⟨.bl _, H, I, rfl, by rw [any_dT]; exact q⟩
theorem op_notInE {X : Cx} (hu : X.A.units + 65 < cLine) : OpR X (compareOp .NotIn) (rInE X.K true) := by
  intro pins s σ H x y v u Q I rx ry h
  obtain ⟨ns, xs, hd, he, q⟩ := h
  obtain ⟨as, r1⟩ := Dp.reads I _ x v hd rx
  rcases he with he | he
  · obtain ⟨bs, r2⟩ := Dp.reads I _ y u he ry
    exact SeqAt.notIn_list_reads r2 r1 (canLay_dTs xs) (canLay_dT ns) (room_in_shaped (shaped_dT ns) hu) ⟨.bl _, H, I, rfl, by rw [any_dT]; exact q⟩
  · obtain ⟨bs, r2⟩ := Dp.reads I _ y u he ry
    exact SeqAt.notIn_tuple_reads r2 r1 (canLay_dTs xs) (canLay_dT ns) (room_in_shaped (shaped_dT ns) hu) ⟨.bl _, H, I, rfl, by rw [any_dT]; exact q⟩
def qInE (neg : Bool) : PO2 := fun d e Q => ∃ (ns : List Int) (xs : List (List Int)), d = dT ns ∧ (e = .list (xs.map dT) ∨ e = .tuple (xs.map dT)) ∧ Q (.bool (if neg then !decide (ns ∈ xs) else decide (ns ∈ xs)))
theorem so_inE {neg : Bool} : SndO2 K (rInE K neg) (qInE neg) := fun F H x y d e Q' Q sf p1 p2 ⟨ns, xs, e1, e2, q⟩ k => by
  subst e1
  refine ⟨ns, xs, dp_mono sf p1, ?_, k _ F H _ (Ext.refl sf) (.bl _) q⟩
  rcases e2 with e2 | e2
  · subst e2; exact .inl (dp_mono sf p2)
  · subst e2; exact .inr (dp_mono sf p2)
/-- neg -/
def qU (g : Int → Int) : PO1 := fun d Q => ∃ i, d = .int i ∧ Q (.int (g i))
theorem so_U {g : Int → Int} : SndO1 K (rU fun i => .int (g i)) (qU g) := fun F H x d Q' Q sf p1 ⟨i, e1, q⟩ k => by
  subst e1; cases p1
  exact ⟨i, rfl, k _ F H _ (Ext.refl sf) (.int _) q⟩
/-- list + list, tuple + tuple -/
def rCatL (K : PySem.W.Frag) : R2 := fun x y H Q => ∃ l b xs zs, x = .ref l ∧ y = .ref b ∧ SqL K H l xs ∧ SqL K H b zs ∧ xs.length + zs.length ≤ sizeLine ∧ ∀ p, H p = none → Q (.ref p) (upd H p (.lst (xs ++ zs)))
theorem op_catL {X : Cx} : OpR X (binaryOp .Add) (rCatL X.K) := by
  intro pins s σ H x y v u Q I rx ry h
  obtain ⟨l, b, xs, zs, rfl, rfl, hH, hB, hz, q⟩ := h
  cases rx
  cases ry
  obtain ⟨its, r, ⟨⟨cls, dd, data, sl⟩, n, ho, hc, hdn, hd⟩, hl⟩ := I.list hH
  obtain ⟨its2, r2, ⟨⟨cls2, dd2, data2, sl2⟩, n2, ho2, hc2, hdn2, hd2⟩, hl2⟩ := I.list hB
  simp only at hc hd hc2 hd2
  subst hc hd hc2 hd2
  have e1 := r.length
  have e2 := r2.length
  refine concat_meets ⟨_, ho, rfl⟩ ⟨_, ho2, rfl⟩ noFill_list_add seq_list_add PySem.F.slot_list_add PySem.F.entry_list_add (PySem.F.args_list_add_2 _ _) (PyProof.Rows.list_addW l b its.toArray its2.toArray n n2 dd dd2 sl sl2 (by simp only [List.size_toArray]; omega)) ⟨ho, ho2, ?_⟩
  have e : its.toArray ++ its2.toArray = (its ++ its2).toArray := by simp
  rw [e]
  exact ⟨.ref _, _, I.lnew (t' := s.toks) (r.append r2) (by rw [List.length_append]; omega), rfl, q _ I.fresh⟩
def qCatL : PO2 := fun d e Q => ∃ xs ys : List PyData, d = .list xs ∧ e = .list ys ∧ xs.length ≤ 1000 ∧ ys.length ≤ 1000 ∧ Q (.list (xs ++ ys))
theorem so_catL : SndO2 K (rCatL K) qCatL := fun F H x y d e Q' Q sf p1 p2 ⟨xs, ys, e1, e2, h1, h2, q⟩ k => by
  subst e1 e2
  cases p1 with
  | lst hs ha =>
    cases p2 with
    | lst hs2 ha2 =>
      refine ⟨_, _, _, _, rfl, rfl, sf.seq hs, sf.seq hs2, ?_, fun p hp => ?_⟩
      · rw [dpa_len ha, dpa_len ha2, sizeLine_eq]; omega
      obtain ⟨x, y⟩ := new_lst sf hp (dpa_app ha ha2)
      exact k _ _ _ _ x y q
def qCatT : PO2 := fun d e Q => ∃ xs ys : List PyData, d = .tuple xs ∧ e = .tuple ys ∧ xs ≠ [] ∧ xs.length ≤ 1000 ∧ ys.length ≤ 1000 ∧ Q (.tuple (xs ++ ys))
/-- places of a list, a tuple -/
def itemD : PyData → Int → Option PyData
  | .list ds, i => if 0 ≤ i then ds[i.toNat]? else none
  | .tuple ds, i => if 0 ≤ i then ds[i.toNat]? else none
  | _, _ => none
theorem itemD_l {ds : List PyData} {i : Nat} {z : PyData} (h : ds[i]? = some z) : itemD (.list ds) (i : Int) = some z := by simp [itemD, h]
theorem itemD_t {ds : List PyData} {i : Nat} {z : PyData} (h : ds[i]? = some z) : itemD (.tuple ds) (i : Int) = some z := by simp [itemD, h]
def qIx : PO2 := fun d e Q => ∃ i, e = .int i ∧ ∃ z, itemD d i = some z ∧ Q z
theorem so_ix : SndO2 K (rIx K) qIx := fun F H x y d e Q' Q sf p1 p2 ⟨i, e2, z, hz, q⟩ k => by
  subst e2; cases p2
  have key : ∀ ds : List PyData, (if 0 ≤ i then ds[i.toNat]? else none) = some z → ∃ n : Nat, i = n ∧ ds[n]? = some z := fun ds h => by
    by_cases h0 : 0 ≤ i
    · rw [if_pos h0] at h; exact ⟨i.toNat, by omega, h⟩
    · rw [if_neg h0] at h; cases h
  cases p1 with
  | lst hs ha =>
    obtain ⟨n, rfl, h⟩ := key _ hz
    obtain ⟨v, hv, pv⟩ := dpa_getD ha h
    exact .inl ⟨_, _, _, v, rfl, rfl, sf.seq hs, atI_nat hv, k v F H z (Ext.refl sf) pv q⟩
  | tup hs ha =>
    obtain ⟨n, rfl, h⟩ := key _ hz
    obtain ⟨v, hv, pv⟩ := dpa_getD ha h
    exact .inr (.inl ⟨_, _, _, v, rfl, rfl, sqT_up sf hs, atI_nat hv, k v F H z (Ext.refl sf) pv q⟩)
  | _ => cases hz
/-! ### built-ins by values -/
def qLen : POn := fun ds Q => ∃ xs : List PyData, (ds = [.list xs] ∨ ds = [.tuple xs]) ∧ Q (.int xs.length)
theorem dpa_inv1 {F : Hp} {xs : List V} {d : PyData} (h : DpAll K F xs [d]) : ∃ x, xs = [x] ∧ Dp K F x d := by
  cases h with
  | cons h1 h2 => cases h2; exact ⟨_, rfl, h1⟩
theorem sc_len : SndC K (fun xs H Q => ∃ p ys, xs = [.ref p] ∧ (SqL K H p ys ∨ SqT K H p ys) ∧ Q (.int ys.length) H) qLen := fun F H xs ds Q' Q sf p ⟨ys, e, q⟩ k => by
  rcases e with e | e
  · subst e
    obtain ⟨x, rfl, pp⟩ := dpa_inv1 p
    cases pp with
    | lst hs ha => exact ⟨_, _, rfl, .inl (sf.seq hs), by rw [dpa_len ha]; exact k _ F H _ (Ext.refl sf) (.int _) q⟩
  · subst e
    obtain ⟨x, rfl, pp⟩ := dpa_inv1 p
    cases pp with
    | tup hs ha => exact ⟨_, _, rfl, .inr (sqT_up sf hs), by rw [dpa_len ha]; exact k _ F H _ (Ext.refl sf) (.int _) q⟩
def qList : POn := fun ds Q => ∃ xs : List PyData, (ds = [.list xs] ∨ ds = [.tuple xs]) ∧ Q (.list xs)
theorem sc_list : SndC K (fun xs H Q => ∃ p ys, xs = [.ref p] ∧ (SqL K H p ys ∨ SqT K H p ys) ∧ ∀ l, H l = none → Q (.ref l) (upd H l (.lst ys))) qList := fun F H xs ds Q' Q sf p ⟨ys, e, q⟩ k => by
  rcases e with e | e
  · subst e
    obtain ⟨x, rfl, pp⟩ := dpa_inv1 p
    cases pp with
    | lst hs ha =>
      refine ⟨_, _, rfl, .inl (sf.seq hs), fun l hl => ?_⟩
      obtain ⟨x, y⟩ := new_lst sf hl ha
      exact k _ _ _ _ x y q
  · subst e
    obtain ⟨x, rfl, pp⟩ := dpa_inv1 p
    cases pp with
    | tup hs ha =>
      refine ⟨_, _, rfl, .inr (sqT_up sf hs), fun l hl => ?_⟩
      obtain ⟨x, y⟩ := new_lst sf hl ha
      exact k _ _ _ _ x y q
/-- tuple(list) -/
def qTuple : POn := fun ds Q => ∃ xs : List PyData, ds = [.list xs] ∧ Q (.tuple xs)
theorem sc_tuple : SndC K (fun xs H Q => ∃ p ys, xs = [.ref p] ∧ ((SqL K H p ys ∧ ∀ l, H l = none → Q (.ref l) (upd H l (.tup ys))) ∨ (SqT K H p ys ∧ Q (.ref p) H))) qTuple := fun F H xs ds Q' Q sf p ⟨ys, e, q⟩ k => by
  subst e
  obtain ⟨x, rfl, pp⟩ := dpa_inv1 p
  cases pp with
  | lst hs ha =>
    refine ⟨_, _, rfl, .inl ⟨sf.seq hs, fun l hl => ?_⟩⟩
    obtain ⟨x, y⟩ := new_tup sf hl ha
    exact k _ _ _ _ x y q
def qSum : POn := fun ds Q => ∃ ns : List Int, ds = [.list (ns.map .int)] ∧ Q (.int ns.sum)
theorem sc_sum : SndC K (rSum K) qSum := fun F H xs ds Q' Q sf p ⟨ns, e, q⟩ k => by
  subst e
  obtain ⟨x, rfl, pp⟩ := dpa_inv1 p
  cases pp with
  | lst hs ha => rw [dpa_ints ha] at hs; exact ⟨_, ns, rfl, sf.seq hs, k _ F H _ (Ext.refl sf) (.int _) q⟩
def qAny : POn := fun ds Q => ∃ bs : List Bool, ds = [.list (bs.map .bool)] ∧ Q (.bool (bs.any id))
def qAll : POn := fun ds Q => ∃ bs : List Bool, ds = [.list (bs.map .bool)] ∧ Q (.bool (bs.all id))
theorem sc_any : SndC K (rAny K) qAny := fun F H xs ds Q' Q sf p ⟨ns, e, q⟩ k => by
  subst e
  obtain ⟨x, rfl, pp⟩ := dpa_inv1 p
  cases pp with
  | lst hs ha => rw [dpa_bls ha] at hs; exact ⟨_, ns, rfl, sf.seq hs, k _ F H _ (Ext.refl sf) (.bl _) q⟩
theorem sc_all : SndC K (rAll K) qAll := fun F H xs ds Q' Q sf p ⟨ns, e, q⟩ k => by
  subst e
  obtain ⟨x, rfl, pp⟩ := dpa_inv1 p
  cases pp with
  | lst hs ha => rw [dpa_bls ha] at hs; exact ⟨_, ns, rfl, sf.seq hs, k _ F H _ (Ext.refl sf) (.bl _) q⟩
/-- sorted(list of ints) -/
def qSortI : POn := fun ds Q => ∃ ns : List Int, ds = [.list (ns.map .int)] ∧ ∀ ns' : List Int, ns'.Perm ns → ns'.Pairwise (· ≤ ·) → Q (.list (ns'.map .int))
theorem sc_sortI : SndC K (rSortedI K) qSortI := fun F H xs ds Q' Q sf p ⟨ns, e, q⟩ k => by
  subst e
  obtain ⟨x, rfl, pp⟩ := dpa_inv1 p
  cases pp with
  | lst hs ha =>
    rw [dpa_ints ha] at hs
    refine ⟨_, ns, rfl, sf.seq hs, fun ns' b hp hw hb => ?_⟩
    have x := Ext.new (W := W0) (o := .lst (ns'.map V.int)) sf hb
    exact k _ _ _ _ x (.lst (.inl (.inl upd_same)) (ints_dpa ns')) (q ns' hp hw)
def qAbs : POn := fun ds Q => ∃ i : Int, ds = [.int i] ∧ Q (.int (if i < 0 then -i else i))
theorem sc_abs : SndC K (fun xs H Q => ∃ i, xs = [.int i] ∧ Q (.int (if i < 0 then -i else i)) H) qAbs := fun F H xs ds Q' Q sf p ⟨i, e, q⟩ k => by
  subst e
  obtain ⟨x, rfl, pp⟩ := dpa_inv1 p
  cases pp
  exact ⟨i, rfl, k _ F H _ (Ext.refl sf) (.int _) q⟩
def qInt : POn := fun ds Q => ∃ i : Int, ds = [.int i] ∧ Q (.int i)
theorem sc_int : SndC K (fun xs H Q => (∃ i, xs = [.int i] ∧ Q (.int i) H) ∨ ∃ k, xs = [.bl k] ∧ Q (.int (if k then 1 else 0)) H) qInt := fun F H xs ds Q' Q sf p ⟨i, e, q⟩ k => by
  subst e
  obtain ⟨x, rfl, pp⟩ := dpa_inv1 p
  cases pp
  exact .inl ⟨i, rfl, k _ F H _ (Ext.refl sf) (.int _) q⟩
def qMin2 : POn := fun ds Q => ∃ i j : Int, ds = [.int i, .int j] ∧ Q (.int (if j < i then j else i))
theorem sc_min2 : SndC K (fun xs H Q => ∃ i j, xs = [.int i, .int j] ∧ Q (.int (if j < i then j else i)) H) qMin2 := fun F H xs ds Q' Q sf p ⟨i, j, e, q⟩ k => by
  subst e
  have e := dpa_ints (ns := [i, j]) p
  subst e
  exact ⟨i, j, rfl, k _ F H _ (Ext.refl sf) (.int _) q⟩
def qGcd : POn := fun ds Q => ∃ i j : Int, ds = [.int i, .int j] ∧ Q (.int ((Nat.gcd i.natAbs j.natAbs : Nat) : Int))
theorem sc_gcd : SndC K rGcd qGcd := fun F H xs ds Q' Q sf p ⟨i, j, e, q⟩ k => by
  subst e
  have e := dpa_ints (ns := [i, j]) p
  subst e
  exact ⟨i, j, rfl, k _ F H _ (Ext.refl sf) (.int _) q⟩
end
end L2.VL
/-! part VL5 -/
set_option Elab.async false
set_option linter.all false
set_option autoImplicit false
set_option maxRecDepth 100000
set_option maxHeartbeats 4000000
namespace PySem
/-! ### enumerate(tuple), at the library's level -/
theorem meets_enumerate_newTu (l : Addr) (items : Array Value) :
    Meets (Builtin.«enumerate.__new__» ⟨[.type "enumerate", .ref l], []⟩) (fun _ R s => s.heap.IsTuple l items ∧
      R (.ok (.ret (.ref (s.heap.push { cls := .type "tuple_iterator", data := .fields #[.ref l, .int 0 0] }).objs.size)))
        { s with heap := (s.heap.push { cls := .type "tuple_iterator", data := .fields #[.ref l, .int 0 0] }).push { cls := .type "enumerate", data := .fields #[.none, .bool false, .ref s.heap.objs.size, rawInt 0, .none, .none] } }) :=
  .of_wp fun prog w A R s h => by
    obtain ⟨hp, g, d, tk, os⟩ := s; obtain ⟨hL, h⟩ := h
    have hsub := sub_enumerate
    have q1 : ∀ {A' : Around} {E : Value → Shared → Prop} {Q : Value → Shared → Prop}, Q (.ref hp.objs.size) ⟨hp.push { cls := .type "tuple_iterator", data := .fields #[.ref l, .int 0 0] }, g, d, tk, os⟩ → wpAny (model prog w) A' (pyIter (.ref l)) Q E ⟨hp, g, d, tk, os⟩ :=
      fun q => (begins_tuple l items).iter prog w _ _ ⟨hp, g, d, tk, os⟩ _ hL q
    wp_walk using q1
    refine wpAny_stack_any fun st => wpAny_pure ?_
    split
    · rename_i c _ _ _ _ _
      cases (c == Value.type "enumerate")
      · wp_walk using q1
        exact ⟨_, rfl, h⟩
      · wp_walk using q1
        exact ⟨_, rfl, h⟩
    · wp_walk using q1
      exact ⟨_, rfl, h⟩
theorem call_enumerate_tup {prog : Program} {w : World} {A : Around} {E : Value → Shared → Prop} {s : Shared} {l : Addr} {items : Array Value} {Q : Value → Shared → Prop} (hL : s.heap.IsTuple l items)
    (h : ∀ h', IsEnum h' (s.heap.objs.size + 1) s.heap.objs.size 0 .none → h'.IsTupleIter s.heap.objs.size l 0 → h'.objs.size = s.heap.objs.size + 2 →
      (∀ b o, s.heap.get? b = some o → h'.get? b = some o) → Q (.ref (s.heap.objs.size + 1)) { s with heap := h' }) :
    wpAny (model prog w) A (call (.type "enumerate") [.ref l]) Q E s := by
  refine callType_new F.called_enumerate (by decide) (F.typeCall_enumerate_1 _) (F.newCall_enumerate_1 _) (fun obj => F.args_object_init_2 obj _) F.entry_enumerate_new
    (meets_enumerate_newTu l items) ⟨hL, ?_⟩
  have hz : (s.heap.push { cls := .type "tuple_iterator", data := .fields #[.ref l, .int 0 0] }).objs.size = s.heap.objs.size + 1 := Heap.size_push ..
  show _ ∧ _
  rw [hz]
  have he : IsEnum ((s.heap.push { cls := .type "tuple_iterator", data := .fields #[.ref l, .int 0 0] }).push
      { cls := .type "enumerate", data := .fields #[.none, .bool false, .ref s.heap.objs.size, rawInt 0, .none, .none] }) (s.heap.objs.size + 1) s.heap.objs.size 0 .none := by
    have := Heap.get?_push_size (s.heap.push { cls := .type "tuple_iterator", data := .fields #[.ref l, .int 0 0] })
      (o := { cls := .type "enumerate", data := .fields #[.none, .bool false, .ref s.heap.objs.size, rawInt 0, .none, .none] }) rfl
    rw [hz] at this; exact this
  refine ⟨⟨_, he, rfl⟩, h _ he ⟨_, Heap.get?_push_of_some _ (Heap.get?_push_size _ rfl), rfl, rfl⟩ (by rw [Heap.size_push, hz]) fun b o x => Heap.get?_push_of_some _ (Heap.get?_push_of_some _ x)⟩
end PySem
namespace L2.VL
open PySem PySem.Spec PyProof.Rows L2 C8
/-! ### enumerate(tuple), as a rule -/
def IteT (K : PySem.W.Frag) (a : Addr) : It :=
  ⟨fun i H => ∃ (xs : List V) (x : V), SqT K H a xs ∧ xs[i]? = some x, fun i H v H' => ∃ T x, v = .ref T ∧ H T = none ∧ H' = upd H T (.tup [.int (i : Nat), x]) ∧ ∀ xs, SqT K H a xs → xs[i]? = some x, fun i H => ∃ xs : List V, SqT K H a xs ∧ xs.length = i⟩
theorem turn_enumT {P : Program} {w : World} {K : PySem.W.Frag} {elts : List Expr} {kk : Nat} {tpos : Pos} (a e it : Addr) :
    Turn P w K (.Tuple elts kk tpos) (IteT K a) [e, it] e (fun i h => (∃ old, IsEnum h e it ((i : Nat) : Int) old) ∧ h.IsTupleIter it a i ∧ e ≠ it ∧ a ≠ it ∧ a ≠ e) where
  mem := by simp
  obj := fun i h st b hb => by
    obtain ⟨⟨old, he⟩, ⟨o, ho, hc, hd⟩, _⟩ := st
    have e' : b = e ∨ b = it := by simpa using hb
    rcases e' with z | z
    · rw [z]; exact ⟨_, he, fun v q => nomatch q⟩
    · rw [z]; exact ⟨o, ho, fun v q => by rw [hd] at q; cases q⟩
  keep := fun i h h' st k => let ⟨⟨old, he⟩, hi, hne⟩ := st; ⟨⟨old, k e (by simp) _ he⟩, hi.at fun o q => k it (by simp) o q, hne⟩
  item := by
    intro X hP hw hK hc i pins s σ H E I hf st hg
    subst hP hw hK
    obtain ⟨⟨old, he⟩, hit, hne, hai, hae⟩ := st
    obtain ⟨xs, x, hq, hx⟩ := hg
    obtain ⟨its, rv, p, hz⟩ := I.tuple hq
    obtain ⟨u, hu, ru⟩ := rv.get hx
    have hel : e < s.heap.objs.size := Heap.lt_size he
    have hil : it < s.heap.objs.size := by obtain ⟨_, q, _⟩ := hit; exact Heap.lt_size q
    have D := Draws.tuple (prog := X.prog) (w := X.w) (A := X.A.in1) (I.ok.hd hc) it a hai its.toArray
    have hlt : i < its.toArray.size := by
      have := (List.getElem?_eq_some_iff.mp hu).1
      simpa using this
    refine wpAny_pyNext_enum_itemD (fp := [it, a]) D he ⟨hit, show s.heap.IsTuple a its.toArray from p⟩ hlt hne (by simp; exact ⟨hne, Ne.symm hae⟩) fun u' h' tk hP ho hst' hT hsz hk => ?_
    have eu : u' = u := by
      have h1 : its.toArray[i]? = some u' := hP
      have h2 : its.toArray[i]? = some u := by simpa using hu
      rw [h1] at h2; exact Option.some.inj h2
    subst eu
    refine ⟨_, rfl, wpAny_letOwnedTupleGo_enum (s := { s with heap := h', toks := tk + 1 }) ho fun h'' he' sb => ?_⟩
    have hT2 : h''.get? s.heap.objs.size = some { cls := .type "tuple", data := .seq #[.int i tk, u'] } := (sb.2 _ (Nat.ne_of_gt hel)).trans hT
    have new : ObjOk X.prog X.w (upd H s.heap.objs.size (.tup [.int (i : Nat), x])) h'' s.heap.objs.size (.tup [.int (i : Nat), x]) :=
      ⟨by show 2 ≤ sizeLine; decide, [.int i tk, u'], .cons ⟨_, rfl⟩ (.cons ru .nil), ⟨_, hT2, rfl, _, rfl⟩⟩
    have I1 : Inv X pins σ (upd H s.heap.objs.size (.tup [.int (i : Nat), x])) { s with heap := h'', toks := tk + 1 } :=
      I.turnedNew (ch := [e, it]) (fun b ob hb q => (sb.2 b (fun z => hb (by simp [z]))).trans (hk b ob (fun z => hb (by simp [z])) (fun z => hb (by simp [z])) q)) hf (Nat.le_refl _) new
    refine ⟨.ref s.heap.objs.size, _, I1, rfl, ⟨_, x, rfl, I.hok.fresh (Nat.le_refl _), rfl, fun ys hy => by rw [I.tuple_inj hy hq]; exact hx⟩, ⟨⟨u', ?_⟩, hst'.1.at fun o q => (sb.2 it (Ne.symm hne)).trans q, hne, hai, hae⟩, fun b hb => ?_⟩
    · have e1 : ((i + 1 : Nat) : Int) = (i : Int) + 1 := by omega
      rw [e1]; exact he'
    · have hb' : b < s.heap.objs.size := by
        have e' : b = e ∨ b = it := by simpa using hb
        rcases e' with z | z
        · rw [z]; exact hel
        · rw [z]; exact hil
      rw [upd_ne (Nat.ne_of_lt hb')]
      exact (hf b hb).1
  done := by
    intro X hP hw hK hc i pins s σ H E I hf st hg
    subst hP hw hK
    obtain ⟨⟨old, he⟩, hit, hne, hai, hae⟩ := st
    obtain ⟨xs, hq, hx⟩ := hg
    obtain ⟨its, rv, p, hz⟩ := I.tuple hq
    obtain ⟨f0, f1, f2, f3, f4, f5⟩ := hf it (by simp)
    have hl := rv.length
    have D := Draws.tuple (prog := X.prog) (w := X.w) (A := X.A.in1) (I.ok.hd hc) it a hai its.toArray
    have hi : i = its.toArray.size := by rw [List.size_toArray]; omega
    subst hi
    exact wpAny_pyNext_enum_endD (fp := [it, a]) D he ⟨hit, show s.heap.IsTuple a its.toArray from p⟩ fun h' eb => ⟨rfl, I.turned (t' := s.toks) (fun b o hb q => eb b o hb q) f0 f1 f3 f4 f5⟩
  self := fun A i s Q E st h => let ⟨⟨_, he⟩, _⟩ := st; wpAny_pyIter_enum he h
def iEnumT (K : PySem.W.Frag) (ta : TA) : TI := fun σ H R => ta σ H fun vs H1 => ∃ a xs, vs = [.ref a] ∧ SqT K H1 a xs ∧ R (IteT K a) H1
theorem pi_enumT {X : Cx} {e : Expr} {ta : TA} {p pos tpos : Pos} {elts : List Expr} {kk : Nat} (hg : Gl X "enumerate") (hm : X.mg "enumerate" = none) (ha : PA X [e] ta) (hs : starEach [e] X.env = [(false, eval e X.env)] := by rfl) :
    PI X (.Tuple elts kk tpos) (.Call (.Name "enumerate" p) [e] [] pos) (iEnumT X.K ta) := by
  refine ⟨fun pins s σ H R I h => ?_⟩
  refine Call_ (ld_blt I hg hm boot_enumerate (PyProof.Rows.callWith_type1 (thn (ha.run pos pins s σ H _ I h) fun us s1 ⟨vs, H1, I1, r1, q1⟩ => ?_) hs rfl))
  obtain ⟨a, xs, ex, hq, q⟩ := q1
  subst ex
  cases r1 with
  | cons r rr =>
    cases rr
    cases r
    obtain ⟨its, rv, p', hz⟩ := I1.tuple hq
    have hal : a < s1.heap.objs.size := by obtain ⟨o, q, _⟩ := p'; exact Heap.lt_size q
    refine call_enumerate_tup (show s1.heap.IsTuple a its.toArray from p') fun h' he hit hsz hk => wpAny_pyIter_enum he ?_
    have I2 : Inv X pins σ H1 { s1 with heap := h' } := I1.kept (t' := s1.toks) hk
    refine ⟨s1.heap.objs.size + 1, [s1.heap.objs.size + 1, s1.heap.objs.size], _, _, H1, rfl, I2, turn_enumT a (s1.heap.objs.size + 1) s1.heap.objs.size, ⟨⟨.none, he⟩, hit, Nat.succ_ne_self _, Nat.ne_of_lt hal, Nat.ne_of_lt (Nat.lt_succ_of_lt hal)⟩, fun b hb => ?_, q⟩
    have e' : b = s1.heap.objs.size + 1 ∨ b = s1.heap.objs.size := by simpa using hb
    have hle : s1.heap.objs.size ≤ b := by
      rcases e' with z | z
      · rw [z]; exact Nat.le_add_right _ _
      · rw [z]; exact Nat.le_refl _
    exact I1.fpOk hle (I1.hok.fresh hle)

section
variable {X : Cx} {W : Wo} {K : PySem.W.Frag} {es : List Expr} {tas : TA} {us : VA W} {e o : Expr} {te ta : TE} {t t1 : VE W} {pos p apos : Pos} {x m : Str} {tg : Expr}
/-! ### walked things: enumerate, reversed -/
def enumD (ds : List PyData) : List PyData := (List.range ds.length).map fun i : Nat => .tuple [.int i, ds.getD i .none]
theorem enumD_len (ds : List PyData) : (enumD ds).length = ds.length := by simp [enumD]
theorem enumD_get {ds : List PyData} {i : Nat} {d : PyData} (h : ds[i]? = some d) : (enumD ds)[i]? = some (.tuple [.int i, d]) := by
  obtain ⟨hi, e⟩ := List.getElem?_eq_some_iff.mp h
  simp [enumD, hi, e]
def viEnum (t : VA W) : VI W := fun s w Q => t s w fun xs w1 => ∃ ds, xs = [SD.fz (.list ds)] ∧ Q (enumD ds) w1
def viEnumT (t : VA W) : VI W := fun s w Q => t s w fun xs w1 => ∃ ds, xs = [SD.fz (.tuple ds)] ∧ Q (enumD ds) w1
theorem dpa_inv1' {F : Hp} {vs : List V} {d : PyData} (h : ArgsOk K F vs [SD.fz d]) : ∃ v, vs = [v] ∧ Dp K F v d := dpa_inv1 (ArgsOk.data (ds := [d]) h)
theorem di_enum {p tpos : Pos} {elts : List Expr} {kk : Nat} (hg : Gl X "enumerate") (hm : X.mg "enumerate" = none) (h : DA X W [e] tas us) (hs : starEach [e] X.env = [(false, eval e X.env)] := by rfl) :
    DI X W (.Tuple elts kk tpos) (.Call (.Name "enumerate" p) [e] [] pos) (iEnum X.K tas) (viEnum us) := ⟨pi_enum hg hm h.pe hs, fun F0 H0 F H σ s w Q' R' R q k => by
  refine h.sn _ _ _ _ _ _ _ _ _ R q fun vs F1 H1 xs w1 e1 r1 p1 q1 => ?_
  obtain ⟨ds, rfl, q1⟩ := q1
  obtain ⟨v, rfl, pv⟩ := dpa_inv1' p1
  cases pv with
  | lst hs ha =>
    refine ⟨_, _, rfl, e1.sub.seq hs, k _ F1 H1 _ w1 e1 r1 ?_ q1⟩
    rw [enumD_len, ← dpa_len ha]
    refine ⟨fun i H hi sf => ⟨_, _, sf.seq hs, List.getElem?_eq_getElem hi⟩, fun H sf => ⟨_, sf.seq hs, Nat.le_refl _⟩, fun i H x H' hi sf y => ?_⟩
    obtain ⟨T, z, rfl, hT, rfl, y⟩ := y
    obtain ⟨d, e, pz⟩ := dpa_get ha (y _ (sf.seq hs))
    exact ⟨_, enumD_get e, .inr ⟨T, _, _, rfl, hT, rfl, rfl, .cons (.int _) (.cons pz .nil)⟩⟩⟩
theorem di_enumT {p tpos : Pos} {elts : List Expr} {kk : Nat} (hg : Gl X "enumerate") (hm : X.mg "enumerate" = none) (h : DA X W [e] tas us) (hs : starEach [e] X.env = [(false, eval e X.env)] := by rfl) :
    DI X W (.Tuple elts kk tpos) (.Call (.Name "enumerate" p) [e] [] pos) (iEnumT X.K tas) (viEnumT us) := ⟨pi_enumT hg hm h.pe hs, fun F0 H0 F H σ s w Q' R' R q k => by
  refine h.sn _ _ _ _ _ _ _ _ _ R q fun vs F1 H1 xs w1 e1 r1 p1 q1 => ?_
  obtain ⟨ds, rfl, q1⟩ := q1
  obtain ⟨v, rfl, pv⟩ := dpa_inv1' p1
  cases pv with
  | tup hs ha =>
    refine ⟨_, _, rfl, sqT_up e1.sub hs, k _ F1 H1 _ w1 e1 r1 ?_ q1⟩
    rw [enumD_len, ← dpa_len ha]
    refine ⟨fun i H hi sf => ⟨_, _, sqT_up sf hs, List.getElem?_eq_getElem hi⟩, fun H sf => ⟨_, sqT_up sf hs, rfl⟩, fun i H x H' hi sf y => ?_⟩
    obtain ⟨T, z, rfl, hT, rfl, y⟩ := y
    obtain ⟨d, e, pz⟩ := dpa_get ha (y _ (sqT_up sf hs))
    exact ⟨_, enumD_get e, .inr ⟨T, _, _, rfl, hT, rfl, rfl, .cons (.int _) (.cons pz .nil)⟩⟩⟩
def viRev (t : VA W) : VI W := fun s w Q => t s w fun xs w1 => ∃ ds, xs = [SD.fz (.list ds)] ∧ Q ds.reverse w1
theorem di_rev {p : Pos} (hg : Gl X "reversed") (hm : X.mg "reversed" = none) (h : DA X W [e] tas us) (hs : starEach [e] X.env = [(false, eval e X.env)] := by rfl) :
    DI X W tg (.Call (.Name "reversed" p) [e] [] pos) (iRev X.K tas) (viRev us) := ⟨pi_reversed hg hm h.pe hs, fun F0 H0 F H σ s w Q' R' R q k => by
  refine h.sn _ _ _ _ _ _ _ _ _ R q fun vs F1 H1 xs w1 e1 r1 p1 q1 => ?_
  obtain ⟨ds, rfl, q1⟩ := q1
  obtain ⟨v, rfl, pv⟩ := dpa_inv1' p1
  cases pv with
  | lst hs ha =>
    refine ⟨_, _, rfl, e1.sub.seq hs, k _ F1 H1 _ w1 e1 r1 ?_ q1⟩
    rw [List.length_reverse, ← dpa_len ha]
    refine walk_rev.mono (fun H sf => sf.seq hs) fun i H x H' hi sf y => ?_
    obtain ⟨rfl, y⟩ := y
    obtain ⟨d, e, pz⟩ := dpa_get ha y
    refine ⟨d, ?_, .inl ⟨rfl, pz⟩⟩
    rw [List.getElem?_reverse (by rw [← dpa_len ha]; exact hi), ← dpa_len ha]
    exact e⟩

/-! ### truth -/
def truD : PyData → Option Bool
  | .none => some false
  | .bool b => some b
  | .int i => some (i != 0)
  | .list ds => some (!ds.isEmpty)
  | .tuple ds => some (!ds.isEmpty)
  | _ => none
theorem dpa_empty : ∀ {F : Hp} {vs : List V} {ds : List PyData}, DpAll K F vs ds → vs.isEmpty = ds.isEmpty
  | _, _, _, .nil => rfl
  | _, _, _, .cons _ _ => rfl
theorem tru_ok' {F H : Hp} {v : V} {d : PyData} {b : Bool} (sf : Same F H) (h : Dp K F v d) (e : truD d = some b) : TruV K v H b := by
  cases h with
  | non => exact (Option.some.inj e).symm
  | bl b => exact (Option.some.inj e).symm
  | int i => exact (Option.some.inj e).symm
  | str x => cases e
  | lst hs ha => exact .inl ⟨_, sf.seq hs, by rw [dpa_empty ha]; exact (Option.some.inj e).symm⟩
  | tup hs ha => exact .inr (.inl ⟨_, sqT_up sf hs, by rw [dpa_empty ha]; exact (Option.some.inj e).symm⟩)
def vTru (t : VE W) : VT W := fun s w Q => t s w fun d w1 => ∃ b, truD d = some b ∧ Q b w1
theorem dt_tru (h : DE X W e te t) (he : ∀ whole, isTrue e X.env whole = (do let v ← whole; standAt e.pos; holding [v] (truthy v)) := by intro _; rfl) : DT X W e (fun σ H Q => te σ H fun x H' => ∃ k, TruV X.K x H' k ∧ Q k H') (vTru t) :=
  ⟨pt_truth h.pe he, fun F0 H0 F H σ s w Q' Q R q k => by
    refine h.sn _ _ _ _ _ _ _ _ _ R q fun v F1 H1 d w1 e1 r1 p1 q1 => ?_
    obtain ⟨b, e, q1⟩ := q1
    exact ⟨b, tru_ok' e1.sub p1 e, k b F1 H1 w1 e1 r1 q1⟩⟩
/-- x or y, by truth -/
def vOrT (t u : VE W) : VE W := fun s w Q => t s w fun d w1 => ∃ b, truD d = some b ∧ if b = true then Q d w1 else u s w1 Q
theorem de_orT {a b : Expr} {rest : List Expr} {ta tb : TE} {t u : VE W} (h1 : DE X W a ta t) (h2 : DE X W (.BoolOp .Or (b :: rest) pos) tb u) : DE X W (.BoolOp .Or (a :: b :: rest) pos) (tOrT X.K ta tb) (vOrT t u) :=
  ⟨pe_orT h1.pe h2.pe, fun F0 H0 F H σ s w Q' Q R q k => by
    refine h1.sn _ _ _ _ _ _ _ _ _ R q fun v F1 H1 d w1 e1 r1 p1 q1 => ?_
    obtain ⟨b, e, q1⟩ := q1
    refine ⟨b, tru_ok' e1.sub p1 e, ?_⟩
    cases b with
    | true => exact k v F1 H1 d w1 e1 r1 p1 q1
    | false => exact h2.sn _ _ _ _ _ _ _ _ _ (R.up e1 r1) q1 fun v F2 H2 d w2 e2 r2 p2 q2 => k v F2 H2 d w2 (e1.trans e2) r2 p2 q2⟩
/-! ### list(range(..)) -/
def vListRg (t : VE W) : VE W := fun s w Q => t s w fun d w1 => ∃ n : Int, d = .int n ∧ 0 ≤ n ∧ n ≤ 1000 ∧ Q (.list (rng 0 n.toNat)) w1
theorem rng_dpa {F : Hp} (n : Int) : DpAll K F (rgV 0 n) (rng 0 n.toNat) := by
  have e : rgV 0 n = ((List.range n.toNat).map fun i : Nat => ((0 : Int) + i)).map V.int := by
    unfold rgV; rw [List.map_map]; simp
  have e2 : rng 0 n.toNat = ((List.range n.toNat).map fun i : Nat => ((0 : Int) + i)).map .int := by
    unfold rng; rw [List.map_map]; rfl
  rw [e, e2]
  exact ints_dpa _
theorem de_listRg {a : Expr} {p2 pos2 : Pos} (hc : X.calm = true) (hg : Gl X "list") (hm : X.mg "list" = none) (hg2 : Gl X "range") (hm2 : X.mg "range" = none) (h : DE X W a ta t1)
    (hp : PRg X (.Call (.Name "range" p2) [a] [] pos2) (tRg1 ta)) (na : starEach [.Call (.Name "range" p2) [a] [] pos2] X.env = (false, eval (.Call (.Name "range" p2) [a] [] pos2) X.env) :: starEach [] X.env := by rfl) :
    DE X W (.Call (.Name "list" p) [.Call (.Name "range" p2) [a] [] pos2] [] pos) (tLstRg (tRg1 ta)) (vListRg t1) := ⟨pe_listRg hc hg hm hp na, fun F0 H0 F H σ s w Q' Q R q k => by
  refine h.sn _ _ _ _ _ _ _ _ _ R q fun v F1 H1 d w1 e1 r1 p1 q1 => ?_
  obtain ⟨n, rfl, h0, h1, q1⟩ := q1
  cases p1
  refine ⟨n, rfl, RgOk.of_le (Int.le_refl _) (by omega) (by decide) h0, fun b hb => ?_⟩
  obtain ⟨x, y⟩ := new_lst e1.sub hb (rng_dpa n)
  exact k _ _ _ _ w1 (e1.trans x.lift) (x.keepR r1) y q1⟩

/-! ### own lists -/
/-- x.append(e) -/
def vApp (i : Nat) (t : VA W) : VS W := fun D s w => ∃ ds, s[i]? = some (SD.own ds) ∧ t s w fun xs w1 => ∃ d, xs = [SD.fz d] ∧ ds.length ≤ 1000 ∧ D.nx (s.set i (.own (ds ++ [d]))) w1
theorem ds_app (i : Nat) {y : Str} {py cpos : Pos} (h : DA X W [e] tas us) (hN : X.N[i]? = some y := by rfl) (hv : Vis X.env.scope y := by first | exact Or.inl rfl | exact Or.inr (Or.inl rfl) | exact Or.inr (Or.inr rfl)) (hd : (y == ("__debug__" : Str)) = false := by decide)
    (hcd : (y == ("__classdict__" : Str)) = false := by decide) (hbase : attributeBase (.Name y py) "append" X.env (eval (.Name y py) X.env) = eval (.Name y py) X.env := by rfl)
    (hfew : ((backTo cpos (starEach [e] X.env)).all (fun x => !x.1) && (backToKw cpos (keywordEach [] X.env)).all (fun x => x.1.isSome)
      && decide ([e].length + ([] : List Keyword).length + (if ([] : List Keyword).isEmpty then 0 else 1) < 30)) = true := by rfl)
    (hline : (apos.endLine == cpos.line) = true := by rfl) (hs : starEach [e] X.env = (false, eval e X.env) :: starEach [] X.env := by rfl) (hplain : (backTo cpos (starEach [] X.env)).any (·.1) = false := by rfl)
    (hsw : swapsWith (.Call (.Attribute (.Name y py) "append" apos) [e] [] cpos) none pos.line X.env = pure false := by rfl) :
    DS X W (.Expr (.Call (.Attribute (.Name y py) "append" apos) [e] [] cpos) pos) (tDrop (tBM X.K "list" rAppend (tVar i) tas)) (vApp i us) :=
  ⟨ps_expr (pe_bm PySem.F.plainAttrs_list PySem.F.slot_list_append PySem.F.type_list_append mt_append (pe_var hN hv hd hcd) h.pe hbase hfew hline hs hplain) hsw, fun F0 H0 F H σ s w D' D R q k => by
    obtain ⟨ds, e0, q⟩ := q
    obtain ⟨p, vs, ep, hp, ha, hF, h0, hf⟩ := R.ownAt e0
    refine ⟨.ref p, ep, .inl ⟨rfl, vs, .inl (.inl hp)⟩, ?_⟩
    refine h.sn _ _ _ _ _ _ _ _ _ R q fun us2 F2 H2 xs w2 e2 r2 p2 q2 => ?_
    obtain ⟨d, rfl, hz, q2⟩ := q2
    obtain ⟨v, rfl, pv⟩ := dpa_inv1' p2
    have hp2 := e2.hh _ _ hp hf
    refine ⟨p, vs, v, rfl, rfl, hp2, by rw [dpa_len ha]; exact small1000 hz, ?_⟩
    have hF2 := e2.nw _ (ne_some hp) hF
    exact k.nx _ _ F2 _ w2 e2.ff ((R.up e2 r2).chg e0 ep hp2 hF2 h0 hf (dpa_app (dpa_mono e2.ff ha) (dpa_one pv))) q2⟩
/-- x.insert(i, e) -/
def vIns (i : Nat) (t : VA W) : VS W := fun D s w => ∃ ds, s[i]? = some (SD.own ds) ∧ t s w fun xs w1 => ∃ (n : Int) (d : PyData), xs = [SD.fz (.int n), SD.fz d] ∧ ds.length ≤ 1000 ∧ 0 ≤ n ∧ n ≤ 1000000 ∧ D.nx (s.set i (.own (ds.take n.toNat ++ [d] ++ ds.drop n.toNat))) w1
theorem ds_ins (i : Nat) {e1 e2 : Expr} {y : Str} {py cpos : Pos} (h : DA X W [e1, e2] tas us) (hN : X.N[i]? = some y := by rfl) (hv : Vis X.env.scope y := by first | exact Or.inl rfl | exact Or.inr (Or.inl rfl) | exact Or.inr (Or.inr rfl)) (hd : (y == ("__debug__" : Str)) = false := by decide)
    (hcd : (y == ("__classdict__" : Str)) = false := by decide) (hbase : attributeBase (.Name y py) "insert" X.env (eval (.Name y py) X.env) = eval (.Name y py) X.env := by rfl)
    (hfew : ((backTo cpos (starEach [e1, e2] X.env)).all (fun x => !x.1) && (backToKw cpos (keywordEach [] X.env)).all (fun x => x.1.isSome)
      && decide ([e1, e2].length + ([] : List Keyword).length + (if ([] : List Keyword).isEmpty then 0 else 1) < 30)) = true := by rfl)
    (hline : (apos.endLine == cpos.line) = true := by rfl) (hs : starEach [e1, e2] X.env = (false, eval e1 X.env) :: starEach [e2] X.env := by rfl) (hplain : (backTo cpos (starEach [e2] X.env)).any (·.1) = false := by rfl)
    (hsw : swapsWith (.Call (.Attribute (.Name y py) "insert" apos) [e1, e2] [] cpos) none pos.line X.env = pure false := by rfl) :
    DS X W (.Expr (.Call (.Attribute (.Name y py) "insert" apos) [e1, e2] [] cpos) pos) (tDrop (tBM X.K "list" (fun x vs H Q => ∃ (l : Addr) (xs : List V) (i : Int) (y : V), x = .ref l ∧ vs = [.int i, y] ∧ H l = some (.lst xs) ∧ xs.length < sizeLine ∧ 0 ≤ i ∧ i < 2 ^ 63 ∧
    Q .non (upd H l (.lst (xs.take i.toNat ++ [y] ++ xs.drop i.toNat)))) (tVar i) tas)) (vIns i us) :=
  ⟨ps_expr (pe_bm PySem.F.plainAttrs_list PySem.F.slot_list_insert PySem.F.type_list_insert mt_insert (pe_var hN hv hd hcd) h.pe hbase hfew hline hs hplain) hsw, fun F0 H0 F H σ s w D' D R q k => by
    obtain ⟨ds, e0, q⟩ := q
    obtain ⟨p, vs, ep, hp, ha, hF, h0, hf⟩ := R.ownAt e0
    refine ⟨.ref p, ep, .inl ⟨rfl, vs, .inl (.inl hp)⟩, ?_⟩
    refine h.sn _ _ _ _ _ _ _ _ _ R q fun us2 F2 H2 xs w2 e2 r2 p2 q2 => ?_
    obtain ⟨n, d, rfl, hz, n0, n1, q2⟩ := q2
    cases p2 with
    | cons pa pb =>
      obtain ⟨v, rfl, pv⟩ := dpa_inv1' pb
      have pa' : Dp X.K F2 _ (.int n) := pa
      cases pa'
      have hp2 := e2.hh _ _ hp hf
      refine ⟨p, vs, n, v, rfl, rfl, hp2, by rw [dpa_len ha]; exact small1000 hz, n0, by omega, ?_⟩
      have hF2 := e2.nw _ (ne_some hp) hF
      have ha2 := dpa_mono e2.ff ha
      exact k.nx _ _ F2 _ w2 e2.ff ((R.up e2 r2).chg e0 ep hp2 hF2 h0 hf (dpa_app (dpa_app (dpa_take _ ha2) (dpa_one pv)) (dpa_drop _ ha2))) q2⟩
/-- data that hold no list -/
def Flat (d : PyData) : Prop := d = .none ∨ (∃ i, d = .int i) ∨ (∃ b, d = .bool b) ∨ ∃ ns : List Int, d = dT ns
def NoF (W : Wo) : Prop := ∀ (w : W.S) (F F' H : Hp), W.R w F H → Same F' H → (∀ a, W.fp a → F' a = none) → W.R w F' H
theorem flat_drop {F F' : Hp} {v : V} {d : PyData} (h : Dp K F v d) (f : Flat d) (hs : ∀ a o, F a = some o → (∀ vs, o ≠ .lst vs) → F' a = some o) : Dp K F' v d := by
  rcases f with rfl | ⟨i, rfl⟩ | ⟨b, rfl⟩ | ⟨ns, rfl⟩
  · cases h; exact .non
  · cases h; exact .int i
  · cases h; exact .bl b
  · cases h with
    | tup hq ha =>
      have e := dpa_ints ha
      subst e
      refine .tup ?_ (ints_dpa ns)
      rcases hq with (h | ⟨o, h⟩) | h
      · exact .inl (.inl (hs _ _ h fun _ z => by cases z))
      · exact .inl (.inr ⟨o, hs _ _ h fun _ z => by cases z⟩)
      · exact .inr h
/-- the own list at i is lent for the reading of an expression -/
def vBor (i : Nat) (t : VE W) : VE W := fun s w Q => ∃ ds, s[i]? = some (SD.own ds) ∧ t (s.set i (.fz (.list ds))) w fun d w1 => Flat d ∧ Q d w1
def vBorT (i : Nat) (t : VT W) : VT W := fun s w Q => ∃ ds, s[i]? = some (SD.own ds) ∧ t (s.set i (.fz (.list ds))) w Q
theorem lent {F0 H0 F H F1 F2 H2 : Hp} {σ : L2.St} {s : List SD} {w w2 : W.S} {i : Nat} {ds : List PyData} (nf : NoF W) (R : Rel K W F0 H0 F H σ s w) (e : s[i]? = some (SD.own ds)) (sf : Same F F1) (hd : ∀ p o, F1 p = some o → F p = some o ∨ (σ[i]? = some (some (V.ref p)) ∧ ∃ vs, o = .lst vs))
    (e2 : Ext W F1 H F2 H2) (r2 : W.R w2 F2 H2) : ∃ F3, Ext W F H F3 H2 ∧ W.R w2 F3 H2 ∧ ∀ a o, F2 a = some o → (∀ vs, o ≠ .lst vs) → F3 a = some o := by
  obtain ⟨p, vs, ep, hp, ha, hF, h0, hf⟩ := R.ownAt e
  refine ⟨fun a => if a = p then none else F2 a, ⟨fun a o z => ?_, fun a o z => ?_, e2.hh, e2.dm, fun a z n => ?_⟩, nf w2 F2 _ H2 r2 (fun a o z => ?_) (fun a ha => ?_), fun a o z nl => ?_⟩
  · by_cases h : a = p
    · rw [if_pos h] at z; cases z
    · rw [if_neg h] at z; exact e2.sub a o z
  · have h : a ≠ p := fun q => by rw [q, hF] at z; cases z
    show (if a = p then none else F2 a) = some o
    rw [if_neg h]; exact e2.ff a o (sf a o z)
  · show (if a = p then none else F2 a) = none
    by_cases h : a = p
    · rw [if_pos h]
    · rw [if_neg h]
      refine e2.nw a z ?_
      cases q : F1 a with
      | none => rfl
      | some o =>
        rcases hd a o q with y | ⟨y, _⟩
        · rw [n] at y; cases y
        · rw [ep] at y; cases y; exact absurd rfl h
  · by_cases h : a = p
    · rw [if_pos h] at z; cases z
    · rw [if_neg h] at z; exact e2.sub a o z
  · by_cases h : a = p
    · exact if_pos h
    · rw [if_neg h]; exact (W.dom r2 a ha).1
  · show (if a = p then none else F2 a) = some o
    by_cases h : a = p
    · subst h
      have y := e2.hh _ _ hp hf
      rw [e2.sub _ _ z] at y
      exact absurd (Option.some.inj y) (nl vs)
    · rw [if_neg h]; exact z
theorem snd_bor {i : Nat} (nf : NoF W) (h : SndE K W te t) : SndE K W te (vBor i t) := by
  intro F0 H0 F H σ s w Q' Q R q k
  obtain ⟨ds, e, q⟩ := q
  obtain ⟨F1, sf, hd, R1⟩ := R.freeze e
  refine h _ _ _ _ _ _ _ _ _ R1 q fun v F2 H2 d w2 e2 r2 p2 ⟨fl, q2⟩ => ?_
  obtain ⟨F3, e3, r3, hs⟩ := lent nf R e sf hd e2 r2
  exact k v F3 H2 d w2 e3 r3 (flat_drop p2 fl hs) q2
theorem de_bor (i : Nat) (nf : NoF W) (h : DE X W e te t) : DE X W e te (vBor i t) := ⟨h.pe, snd_bor nf h.sn⟩
theorem dt_bor (i : Nat) {tt : TT} {vt : VT W} (nf : NoF W) (h : DT X W e tt vt) : DT X W e tt (vBorT i vt) := ⟨h.pe, by
  intro F0 H0 F H σ s w Q' Q R q k
  obtain ⟨ds, e, q⟩ := q
  obtain ⟨F1, sf, hd, R1⟩ := R.freeze e
  refine h.sn _ _ _ _ _ _ _ _ _ R1 q fun b F2 H2 w2 e2 r2 q2 => ?_
  obtain ⟨F3, e3, r3, hs⟩ := lent nf R e sf hd e2 r2
  exact k b F3 H2 w2 e3 r3 q2⟩
theorem nof0 : NoF W0 := fun _ _ _ _ _ _ _ => trivial
/-! ### a, b = x, y -/
def vPar (i j : Nat) (t : VA W) : VS W := fun D s w => t s w fun xs w1 => ∃ d e, xs = [SD.fz d, SD.fz e] ∧ D.nx ((s.set i (.fz d)).set j (.fz e)) w1
theorem ds_par {i j : Nat} {x y : Str} {a b : Expr} {px py pt : Pos} {kt k2 pt2} (hc : X.calm = true) (hN : X.N.Nodup) (hi : X.N[i]? = some x) (hj : X.N[j]? = some y) (hij : i ≠ j)
    (hx : X.env.scope.names.lookup x = some .local) (hy : X.env.scope.names.lookup y = some .local) (h : DA X W [a, b] tas us)
    (hw : swappedStores [.Tuple [.Name x px, .Name y py] kt pt] (.Tuple [a, b] k2 pt2) X.env = pure (some [x, y]) := by rfl)
    (hs : swapsWithSole [.Tuple [.Name x px, .Name y py] kt pt] (.Tuple [a, b] k2 pt2) pos.line X.env = pure false := by rfl) :
    DS X W (.Assign [.Tuple [.Name x px, .Name y py] kt pt] (.Tuple [a, b] k2 pt2) pos) (tPar i j tas) (vPar i j us) :=
  ⟨ps_par hc hN hi hj hij hx hy h.pe hw hs, fun F0 H0 F H σ s w D' D R q k => by
    refine h.sn _ _ _ _ _ _ _ _ _ R q fun vs F2 H2 xs w2 e2 r2 p2 q2 => ?_
    obtain ⟨d, e, rfl, q2⟩ := q2
    cases p2 with
    | cons pa pb =>
      obtain ⟨v, rfl, pv⟩ := dpa_inv1' pb
      exact ⟨_, _, rfl, k.nx _ _ F2 H2 w2 e2.ff (((R.up e2 r2).set i pa).set j pv) q2⟩⟩
end
end L2.VL
/-! part VL6 -/
set_option Elab.async false
set_option linter.all false
set_option autoImplicit false
set_option maxRecDepth 100000
set_option maxHeartbeats 4000000
namespace PySem.W
open PySem PySem.Calls PyProof.Rows
section
variable {prog : Program} {w : World} {A : Around} {E : Value → Shared → Prop} {s : Shared} {β : Type} {vs : List Value} {bs : List β} {enc : β → PyData} {R : Value → β → Prop}
theorem collect_tup {M : Model} {l : Addr} {vs : List Value} {Q : List Value → Shared → Prop} (hl : s.heap.IsTuple l vs.toArray)
    (h : Q vs { s with heap := (s.heap.push (seqObj "list" #[] 0)).update s.heap.objs.size (Obj.mapSeq (· ++ vs.toArray)) }) (hsz : vs.length ≤ sizeLine := by size_fits) :
    wpAny (model prog w) A (collect (.ref l)) Q E s := by
  obtain ⟨o, ho, hc, n, hd⟩ := id hl
  unfold collect
  refine wpAny_bind (wpAny_runValue (codeAny_builtin entry_proto_collect' ?_))
  show wpAny _ _ (do again (.builtin "list.__iadd__" ⟨[← newList [], .ref l], []⟩)) _ _ s
  refine wpAny_bind (wpAny_newList (wpAny_pure ⟨Code.quiet_builtin _ (by decide +kernel), codeAny_builtin entry_list_iadd' ?_⟩))
  show wpAny _ _ (Builtin.List.listExtendWith (.ref s.heap.objs.size) (.ref l) (.ref s.heap.objs.size)) _ _ { s with heap := s.heap.push (seqObj "list" #[] 0) }
  unfold Builtin.List.listExtendWith
  have ho' : (s.heap.push (seqObj "list" #[] 0)).get? l = some o := Heap.get?_push_of_some _ ho
  refine wpAny_bind (wpAny_typeOf (T := "tuple") ⟨o, ho', hc⟩ ?_)
  have ht : (Value.type "tuple" == Value.type "tuple") = true := by rfl
  rw [if_pos (by rw [ht]; simp)]
  refine wpAny_bind (listItems_at ho' hd ?_)
  refine wpAny_bind (listItems_at (xs := #[]) (n := 0) (Heap.get?_push_size _ rfl) rfl ?_)
  rw [if_neg (by simp)]
  refine wpAny_bind (listUpdate_at (xs := #[]) (n := 0) (Heap.get?_push_size _ rfl) rfl ?_ (Nat.zero_le _) (by show (#[] ++ vs.toArray).size ≤ sizeLine + 1; simp only [Array.size_append, List.size_toArray, List.length_nil]; omega))
  refine wpAny_pure ?_
  show wpAny (model prog w) A (do
      let o ← load s.heap.objs.size
      match o.data with
      | .seq xs _ => pure xs.toList
      | _ => unsupported "internal:collect") Q E { s with heap := (s.heap.push (seqObj "list" #[] 0)).update s.heap.objs.size (Obj.mapSeq (· ++ vs.toArray)) }
  refine wpAny_bind (wpAny_load (get?_update_seq (Heap.get?_push_size _ rfl) _) ?_)
  show wpAny _ _ (pure ((#[] : Array Value) ++ vs.toArray).toList) Q E _
  rw [show ((#[] : Array Value) ++ vs.toArray).toList = vs by simp]
  exact wpAny_pure h
theorem sortedTup_data {l : Addr} {Q : Value → Shared → Prop} (hl : s.heap.IsTuple l vs.toArray) (e : EachIs R vs bs) (er : EachIs (fun v b => ∃ as, Reads s.heap v (enc b) as) vs bs) (hal : AllAlike (bs.map enc)) (hk : Sortable (bs.map enc)) (hL : bs.length ≤ sizeLine)
    (hu : ∀ b, b ∈ bs → A.units + 2 + (enc b).depth < cLine) (h : ∀ out, out.length = bs.length → EachIs R out (bs.mergeSort (dataLe false enc)) → Q (.ref (s.heap.objs.size + 1)) { s with heap := sortedAll s.heap vs (List.toArray out) }) :
    wpAny (model prog w) A (call (.builtin "sorted") [.ref l]) Q E s := by
  have er' : EachIs (fun v b => ∃ as, Reads (sortingHeap (copyHeap s.heap vs) (s.heap.objs.size + 1) vs) v (enc b) as) vs bs := er.mono fun _ _ ⟨as, r⟩ => ⟨as, PyProof.Rows.Reads.keeps (fun _ _ => sorting_copy_old) r⟩
  have hLv : vs.length ≤ sizeLine := by rw [e.length]; exact hL
  refine call_function_entry kind_sorted plain_sorted entry_sorted (args_sorted1 _) ?_
  unfold Builtin.«sorted»
  refine wpAny_bind (m := checkCount "sorted" 1 1 _) (wpAny_pure ?_)
  refine wpAny_bind (collect_tup (M := model prog w) hl ?_ hLv)
  refine wpAny_bind (wpAny_newList ?_ hLv)
  have hsz : ((s.heap.push (seqObj "list" #[] 0)).update s.heap.objs.size (Obj.mapSeq (· ++ vs.toArray))).objs.size = s.heap.objs.size + 1 := by
    rw [Heap.size_update, size_push']
  show wpAny _ _ _ _ _ { s with heap := copyHeap s.heap vs }
  rw [hsz]
  refine wpAny_bind (wpAny_holding (wpAny_call_entry slot_list_sort ⟨_, copyHeap_at s.heap vs, rfl⟩ entry_list_sort ?body (args_list_sort _)))
  case body =>
    show wpAny (model prog w) A.in1.in1 (Builtin.«list.sort» ⟨[.ref (s.heap.objs.size + 1)], []⟩) _ _ _
    have S : SortsAt prog w A.in1.in1 { s with heap := sortingHeap (copyHeap s.heap vs) (s.heap.objs.size + 1) vs } (dataKind (sortingHeap (copyHeap s.heap vs) (s.heap.objs.size + 1) vs) (bs.map enc)) vs :=
      SortsAt.data (s := { s with heap := sortingHeap (copyHeap s.heap vs) (s.heap.objs.size + 1) vs }) (each_map (R := fun v d => ∃ as, Reads (sortingHeap (copyHeap s.heap vs) (s.heap.objs.size + 1) vs) v d as) enc er') hal hk (bound_map hu)
    refine wpAny_mono (list_sort_vals (s := { s with heap := copyHeap s.heap vs }) (P := fun f s' => f = .done (.ret .none) ∧ Q (.ref (s.heap.objs.size + 1)) s') (copyHeap_at s.heap vs) S hLv ⟨rfl, h _ (by rw [sortVals_length false rfl]; exact e.length) (sortVals_data false e er' hal)⟩) (fun f s' hf => ?_) fun _ _ e => e
    obtain ⟨rfl, hq⟩ := hf
    exact ⟨_, rfl, wpAny_pure ⟨_, rfl, hq⟩⟩
end
end PySem.W
namespace L2.VL
open PySem PySem.Spec PyProof.Rows L2 C8
/-! ### sorted -/
theorem each_int : ∀ {ns : List Int} {us : List Value}, Vals (ns.map V.int) us → PySem.W.EachIs (fun v n => ∃ t, v = Value.int n t) us ns
  | [], _, h => by cases h; exact .nil
  | n :: ns, _, h => by
    cases h with
    | cons r t => exact .cons r (each_int t)
theorem int_each : ∀ {ns : List Int} {us : List Value}, PySem.W.EachIs (fun v n => ∃ t, v = Value.int n t) us ns → Vals (ns.map V.int) us
  | _, _, .nil => .nil
  | _, _, .cons r t => .cons r (int_each t)
def rSortTI (K : PySem.W.Frag) : List V → Hp → VK → Prop := fun vs H Q => ∃ (a : Addr) (ns : List Int), vs = [.ref a] ∧ SqT K H a (ns.map V.int) ∧ ∀ (ns' : List Int) (p : Addr), ns'.Perm ns → ns'.Pairwise (· ≤ ·) → H p = none → Q (.ref p) (upd H p (.lst (ns'.map V.int)))
theorem cr_sortTI {X : Cx} (hu : X.A.units + 64 < cLine) : CallR X (.builtin "sorted") (rSortTI X.K) := by
  intro pins s σ H vs us Q I r h
  obtain ⟨a, ns, rfl, hs, q⟩ := h
  obtain ⟨its, rv, hl, hz⟩ := I.tuple hs
  rw [Vals.ref1 r]
  have e := each_int rv
  have hlen : ns.length ≤ sizeLine := by rw [List.length_map] at hz; exact hz
  refine PySem.W.sortedTup_data (enc := PyData.int) (show s.heap.IsTuple a its.toArray from hl) e (e.mono fun v n ⟨t, z⟩ => ⟨[], by rw [z]; exact Reads.int n t⟩) (.of fun b b' => by simp [PySem.W.alike]) (.others fun b => ⟨by simp, by simp⟩) hlen (fun b _ => by simp only [PyData.depth]; omega) fun out ho eo => ?_
  have e2 := int_each eo
  have hp : (ns.mergeSort (PySem.W.dataLe false PyData.int)).Perm ns := List.mergeSort_perm _ _
  obtain ⟨ep, he'⟩ := PyProof.Rows.sortedAll_at s.heap its out.toArray
  refine ⟨.ref _, upd H (s.heap.objs.size + 1) (.lst ((ns.mergeSort (PySem.W.dataLe false PyData.int)).map V.int)), I.laid (t' := s.toks) (fun _ _ => PyProof.Rows.sortedAll_old) (Nat.le_succ _) ⟨by rw [List.length_map, hp.length_eq]; exact hlen, out, ep, e2, he'⟩, rfl, q _ _ hp ?_ (I.hok.fresh (Nat.le_succ _))⟩
  rw [PySem.W.dataLe_int (fun b => b)]
  have := List.pairwise_mergeSort (le := fun a b : Int => decide (a ≤ b)) (fun a b c h1 h2 => by simp at h1 h2 ⊢; omega) (fun a b => by simp; omega) ns
  exact this.imp fun h => by simpa using h
def qSortTI : POn := fun ds Q => ∃ ns : List Int, ds = [dT ns] ∧ ∀ ns' : List Int, ns'.Perm ns → ns'.Pairwise (· ≤ ·) → Q (.list (ns'.map .int))
theorem sc_sortTI {K : PySem.W.Frag} : SndC K (rSortTI K) qSortTI := fun F H xs ds Q' Q sf p ⟨ns, e, q⟩ k => by
  subst e
  obtain ⟨x, rfl, pp⟩ := dpa_inv1 p
  cases pp with
  | tup hs ha =>
    rw [dpa_ints ha] at hs
    refine ⟨_, ns, rfl, sqT_up sf hs, fun ns' b hp hw hb => ?_⟩
    obtain ⟨x, y⟩ := new_lst (K := K) sf hb (ints_dpa ns')
    exact k _ _ _ _ x y (q ns' hp hw)
/-- sorted(list of tuples of ints): some order -/
def rSortE (K : PySem.W.Frag) : List V → Hp → VK → Prop := fun vs H Q => ∃ (F : Hp) (a : Addr) (xs : List V) (ts : List (List Int)), Same F H ∧ vs = [.ref a] ∧ SqL K H a xs ∧ DpAll K F xs (ts.map dT) ∧ (∀ t ∈ ts, t ≠ []) ∧
  ∀ (ts' : List (List Int)) (us : List V) (p : Addr), ts'.Perm ts → DpAll K F us (ts'.map dT) → H p = none → Q (.ref p) (upd H p (.lst us))
/-- a value of the heap that is a tuple of these ints -/
def IsE (K : PySem.W.Frag) (H : Hp) (v : Value) (t : List Int) : Prop := ∃ a, v = Value.ref a ∧ SqT K H a (t.map V.int)
theorem each_dT {K : PySem.W.Frag} {H : Hp} : ∀ {ts : List (List Int)} {xs : List V} {us : List Value}, DpAll K H xs (ts.map dT) → Vals xs us → PySem.W.EachIs (IsE K H) us ts
  | [], _, _, h, r => by cases h; cases r; exact .nil
  | t :: ts, _, _, h, r => by
    cases h with
    | cons h1 h2 =>
      cases r with
      | cons r1 r2 =>
        cases h1 with
        | tup hs ha =>
          rw [dpa_ints ha] at hs
          exact .cons ⟨_, r1, hs⟩ (each_dT h2 r2)
theorem dT_each {K : PySem.W.Frag} {H : Hp} : ∀ {ts : List (List Int)} {us : List Value}, PySem.W.EachIs (IsE K H) us ts → ∃ xs, DpAll K H xs (ts.map dT) ∧ Vals xs us
  | _, _, .nil => ⟨[], .nil, .nil⟩
  | _, _, .cons (b := t) ⟨a, e, hs⟩ h => by
    obtain ⟨xs, h1, h2⟩ := dT_each h
    exact ⟨.ref a :: xs, .cons (.tup hs (ints_dpa t)) h1, .cons e h2⟩
theorem reads_dT {X : Cx} {pins : List (Addr × Obj)} {σ : L2.St} {H : Hp} {s : Shared} (I : Inv X pins σ H s) {v : Value} {t : List Int} (h : IsE X.K H v t) : ∃ as, Reads s.heap v (dT t) as := by
  obtain ⟨a, e, hs⟩ := h
  exact Dp.reads I _ (.ref a) v (.tup hs (ints_dpa t)) e
theorem cr_sortE {X : Cx} (hu : X.A.units + 64 < cLine) : CallR X (.builtin "sorted") (rSortE X.K) := by
  intro pins s σ H vs us Q I r h
  obtain ⟨F, a, xs, ts, sf, rfl, hs, hd, hne, q⟩ := h
  obtain ⟨its, rv, hl, hz⟩ := I.list hs
  rw [Vals.ref1 r]
  have e := each_dT hd rv
  have hlen : ts.length ≤ sizeLine := by rw [dpa_len hd, List.length_map] at hz; exact hz
  refine PySem.W.sorted_data (enc := dT) hl.isList e (e.mono fun v t ⟨b, eb, hb⟩ => reads_dT I ⟨b, eb, sqT_up sf hb⟩) (.of fun b b' => by simp only [PySem.W.alike]; exact PySem.W.alike_ints b b') (.inl fun d hd => ?_) hlen (fun b _ => by have := depth_dT b; omega) fun out ho eo => ?_
  · obtain ⟨t, ht, rfl⟩ := List.mem_map.mp hd
    cases t with
    | nil => exact absurd rfl (hne [] ht)
    | cons x r => exact ⟨_, _, rfl⟩
  obtain ⟨ys, h1, h2⟩ := dT_each eo
  have hp : (ts.mergeSort (PySem.W.dataLe false dT)).Perm ts := List.mergeSort_perm _ _
  obtain ⟨ep, he'⟩ := PyProof.Rows.sortedAll_at s.heap its out.toArray
  refine ⟨.ref _, upd H (s.heap.objs.size + 1) (.lst ys), I.laid (t' := s.toks) (fun _ _ => PyProof.Rows.sortedAll_old) (Nat.le_succ _) ⟨by rw [dpa_len h1, List.length_map, hp.length_eq]; exact hlen, out, ep, h2, he'⟩, rfl, q _ ys _ hp h1 (I.hok.fresh (Nat.le_succ _))⟩
def qSortE : POn := fun ds Q => ∃ ts : List (List Int), ds = [.list (ts.map dT)] ∧ (∀ t ∈ ts, t ≠ []) ∧ ∀ ts' : List (List Int), ts'.Perm ts → Q (.list (ts'.map dT))
theorem sc_sortE {K : PySem.W.Frag} : SndC K (rSortE K) qSortE := fun F H xs ds Q' Q sf p ⟨ts, e, hne, q⟩ k => by
  subst e
  obtain ⟨x, rfl, pp⟩ := dpa_inv1 p
  cases pp with
  | lst hs ha =>
    refine ⟨F, _, _, ts, sf, rfl, sf.seq hs, ha, hne, fun ts' us b hp hd hb => ?_⟩
    obtain ⟨x, y⟩ := new_lst (K := K) sf hb hd
    exact k _ _ _ _ x y (q ts' hp)
/-! ### tuple + tuple -/
theorem so_catT {K : PySem.W.Frag} : SndO2 K (rCatT K) qCatT := fun F H x y d e Q' Q sf p1 p2 ⟨xs, ys, e1, e2, hne, h1, h2, q⟩ k => by
  subst e1 e2
  cases p1 with
  | tup hs ha =>
    cases p2 with
    | tup hs2 ha2 =>
      refine ⟨_, _, _, _, rfl, rfl, sqT_up sf hs, sqT_up sf hs2, fun z => ?_, ?_, fun z => ?_, fun z b hb => ?_⟩
      · subst z; cases ha; exact hne rfl
      · rw [dpa_len ha, dpa_len ha2, sizeLine_eq]; omega
      · subst z
        cases ha2
        rw [List.append_nil] at q
        exact k _ F H _ (Ext.refl sf) (.tup hs ha) q
      · obtain ⟨x, y⟩ := new_tup (K := K) sf hb (dpa_app ha ha2)
        exact k _ _ _ _ x y q
/-! ### plain steps in short -/
section
variable {X : Cx} {W : Wo} {K : PySem.W.Frag} {es : List Expr} {tas : TA} {us : VA W} {e o a b : Expr} {te ta tb : TE} {t t1 t2 : VE W} {pos p apos : Pos} {x m : Str} {tg : Expr}
theorem de_ix (h1 : DE X W a ta t1) (h2 : DE X W b tb t2) (hs : PlainIx b := by intro _ _; rfl) : DE X W (.Subscript a b pos) (tOp (rIx X.K) ta tb) (vOp qIx t1 t2) := ⟨pe_ix ix_seq h1.pe h2.pe hs, snd_op so_ix h1.sn h2.sn⟩
theorem dgn (i : Nat) (hN : X.N.Nodup) (hi : X.N[i]? = some x := by rfl) (hx : Loc X.env.scope x := by first | exact Or.inl rfl | exact Or.inr rfl) (hf : X.fn x = true ∨ X.env.scope.names.lookup x = some .local := by first | exact .inl rfl | exact .inr rfl | assumption) : DG X W (.Name x pos) (gName i) (vgName W i) := dg_name hN hi hx hf
theorem dset (i : Nat) {pos' : Pos} (hN : X.N.Nodup) (h : DE X W e te t) (hi : X.N[i]? = some x := by rfl) (hx : Loc X.env.scope x := by first | exact Or.inl rfl | exact Or.inr rfl) (hs : swapsWith e (some (.Name x pos')) pos.line X.env = pure false := by rfl)
    (hf : X.fn x = true ∨ X.env.scope.names.lookup x = some .local := by first | exact .inl rfl | exact .inr rfl | assumption) : DS X W (.Assign [.Name x pos'] e pos) (tAsg te (gName i)) (vAsg t (vgName W i)) := ds_set hN hi hx h hs hf
theorem dsetO (i : Nat) {pos' lpos : Pos} (hN : X.N.Nodup) (h : DA X W es tas us) (hi : X.N[i]? = some x := by rfl) (hx : Loc X.env.scope x := by first | exact Or.inl rfl | exact Or.inr rfl) (hs : swapsWith (.List es lpos) (some (.Name x pos')) pos.line X.env = pure false := by rfl)
    (hf : X.fn x = true ∨ X.env.scope.names.lookup x = some .local := by first | exact .inl rfl | exact .inr rfl | assumption) : DS X W (.Assign [.Name x pos'] (.List es lpos) pos) (tAsg (tLst tas) (gName i)) (vSetO us i) := ds_setO hN hi hx h hs hf
/-- a list or a tuple, walked -/
def iSeq (K : PySem.W.Frag) (tl : TE) : TI := fun σ H R => tl σ H fun x H1 => ∃ a, x = .ref a ∧ (((∃ xs, SqL K H1 a xs) ∧ R (Itl K a) H1) ∨ ((∃ xs, SqT K H1 a xs) ∧ R (Itt K a) H1))
theorem pi_seq (hl : PE X a ta) : PI X tg a (iSeq X.K ta) := by
  refine ⟨fun pins s σ H R I h => ?_⟩
  refine thn (hl.run pins s σ H _ I h) fun v s1 ⟨x, H1, I1, r1, q1⟩ => ?_
  obtain ⟨a, e, q⟩ := q1
  subst e
  cases r1
  rcases q with ⟨⟨xs, hq⟩, q⟩ | ⟨⟨xs, hq⟩, q⟩
  · obtain ⟨its, rv, p, hz⟩ := I1.list hq
    refine wpAny_pyIter_list p.isList ?_
    refine ⟨s1.heap.objs.size, [s1.heap.objs.size], _, _, H1, rfl, I1.kept (t' := s1.toks) fun b o e => Heap.get?_push_of_some _ e, turn_list a _, ⟨_, Heap.get?_push_size _ rfl, rfl, rfl⟩, fun b hb => ?_, q⟩
    have e : b = s1.heap.objs.size := by simpa using hb
    subst e
    exact I1.fpOk (Nat.le_refl _) (I1.hok.fresh (Nat.le_refl _))
  · obtain ⟨its, rv, p, hz⟩ := I1.tuple hq
    refine wpAny_pyIter_tuple (show s1.heap.IsTuple a its.toArray from p) ?_
    refine ⟨s1.heap.objs.size, [s1.heap.objs.size], _, _, H1, rfl, I1.kept (t' := s1.toks) fun b o e => Heap.get?_push_of_some _ e, turn_tuple a _, ⟨_, Heap.get?_push_size _ rfl, rfl, rfl⟩, fun b hb => ?_, q⟩
    have e : b = s1.heap.objs.size := by simpa using hb
    subst e
    exact I1.fpOk (Nat.le_refl _) (I1.hok.fresh (Nat.le_refl _))
def viAny (t : VE W) : VI W := fun s w Q => t s w fun d w1 => ∃ ds, (d = .list ds ∨ d = .tuple ds) ∧ Q ds w1
theorem di_seq (h : DE X W a ta t) : DI X W tg a (iSeq X.K ta) (viAny t) := ⟨pi_seq h.pe, fun F0 H0 F H σ s w Q' R' R q k => by
  refine h.sn _ _ _ _ _ _ _ _ _ R q fun v F1 H1 d w1 e1 r1 p1 q1 => ?_
  obtain ⟨ds, rfl | rfl, q1⟩ := q1
  · cases p1 with
    | lst hs ha =>
      refine ⟨_, rfl, .inl ⟨⟨_, e1.sub.seq hs⟩, k _ F1 H1 ds w1 e1 r1 ?_ q1⟩⟩
      rw [← dpa_len ha]
      refine walk_list.mono (fun H sf => sf.seq hs) fun i H x H' hi sf y => ?_
      obtain ⟨rfl, y⟩ := y
      obtain ⟨d, e, p⟩ := dpa_get ha y
      exact ⟨d, e, .inl ⟨rfl, p⟩⟩
  · cases p1 with
    | tup hs ha =>
      refine ⟨_, rfl, .inr ⟨⟨_, sqT_up e1.sub hs⟩, k _ F1 H1 ds w1 e1 r1 ?_ q1⟩⟩
      rw [← dpa_len ha]
      refine walk_tup.mono (fun H sf => sqT_up sf hs) fun i H x H' hi sf y => ?_
      obtain ⟨rfl, y⟩ := y
      obtain ⟨d, e, p⟩ := dpa_get ha y
      exact ⟨d, e, .inl ⟨rfl, p⟩⟩⟩
theorem go_pair {K : PySem.W.Frag} {i j n : Nat} {vs : List Nat} (h1 : i ∈ vs := by decide) (h2 : j ∈ vs := by decide) : GOnly (gTup K n (gCons (gName i) (gCons (gName j) gNil))) vs := go_tup (gos_name h1 (gos_name h2 gos_nil))
end
end L2.VL
/-! part M1 -/
set_option autoImplicit false
namespace MW
theorem gcd_neg (n d : Int) : (-n).natAbs.gcd (-d).natAbs = n.natAbs.gcd d.natAbs := by rw [Int.natAbs_neg, Int.natAbs_neg]
theorem divInt_pos {n d : Int} (h : 0 < d) : (Rat.divInt n d).num = n / ((n.natAbs.gcd d.natAbs : Nat) : Int) ∧ ((Rat.divInt n d).den : Int) = d / ((n.natAbs.gcd d.natAbs : Nat) : Int) := by
  have e : Int.gcd d n = n.natAbs.gcd d.natAbs := by rw [Int.gcd, Nat.gcd_comm]
  constructor
  · rw [Rat.num_divInt, Int.sign_eq_one_of_pos h, Int.one_mul, e]
  · rw [Rat.den_divInt, if_neg (by omega), e, Int.natCast_ediv, Int.natAbs_of_nonneg (by omega)]
theorem divInt_neg {n d : Int} (h : d < 0) : (Rat.divInt n d).num = -n / ((n.natAbs.gcd d.natAbs : Nat) : Int) ∧ ((Rat.divInt n d).den : Int) = -d / ((n.natAbs.gcd d.natAbs : Nat) : Int) := by
  have := divInt_pos (n := -n) (d := -d) (by omega)
  rw [Rat.neg_divInt_neg, gcd_neg] at this
  exact this
theorem gcd_lt {n d : Int} {k : Nat} (h : d ≠ 0) (hd : d.natAbs < 2 ^ k) : n.natAbs.gcd d.natAbs < 2 ^ k := Nat.lt_of_le_of_lt (Nat.gcd_le_right _ (by omega)) hd
theorem gcd_pos {n d : Int} (h : d ≠ 0) : 0 < ((n.natAbs.gcd d.natAbs : Nat) : Int) := by
  have := Nat.gcd_pos_of_pos_right n.natAbs (show 0 < d.natAbs by omega)
  omega
/-- of moderate size -/
def Sm (q : Rat) : Prop := q.num.natAbs < 2 ^ 2000 ∧ q.den < 2 ^ 2000
theorem Sm.n {q : Rat} (h : Sm q) : q.num.natAbs < 2 ^ 2000 := h.1
theorem Sm.d {q : Rat} (h : Sm q) : (q.den : Int).natAbs < 2 ^ 2000 := by rw [Int.natAbs_natCast]; exact h.2
theorem add_div (a b : Rat) : a + b = Rat.divInt (a.num * b.den + b.num * a.den) ((a.den : Int) * b.den) := by
  rw [Rat.add_def', ← Rat.divInt_ofNat, Int.natCast_mul]
theorem sub_div (a b : Rat) : a - b = Rat.divInt (a.num * b.den - b.num * a.den) ((a.den : Int) * b.den) := by
  rw [Rat.sub_def', ← Rat.divInt_ofNat, Int.natCast_mul]
theorem mul_div (a b : Rat) : a * b = Rat.divInt (a.num * b.num) ((a.den : Int) * b.den) := by
  rw [Rat.mul_def', ← Rat.divInt_ofNat, Int.natCast_mul]
theorem div_div (a b : Rat) (h : b ≠ 0) : a / b = Rat.divInt (a.num * b.den) ((a.den : Int) * b.num) := by
  rw [Rat.div_def, Rat.inv_def]
  conv => lhs; lhs; rw [← Rat.num_divInt_den a]
  rw [Rat.divInt_mul_divInt]
theorem den_pos (a : Rat) : 0 < (a.den : Int) := by have := a.den_nz; omega
theorem dd_ne (a b : Rat) : (a.den : Int) * b.den ≠ 0 := by
  have := Int.mul_pos (den_pos a) (den_pos b); omega
theorem dd_lt {a b : Rat} (ha : Sm a) (hb : Sm b) : ((a.den : Int) * b.den).natAbs < 2 ^ 8000 := by
  rw [Int.natAbs_mul, Int.natAbs_natCast, Int.natAbs_natCast]
  calc a.den * b.den < 2 ^ 2000 * 2 ^ 2000 := Nat.mul_lt_mul'' ha.2 hb.2
    _ = 2 ^ 4000 := by rw [← Nat.pow_add]
    _ ≤ 2 ^ 8000 := Nat.pow_le_pow_right (by decide) (by decide)
theorem dn_lt {a b : Rat} (ha : Sm a) (hb : Sm b) : ((a.den : Int) * b.num).natAbs < 2 ^ 8000 := by
  rw [Int.natAbs_mul, Int.natAbs_natCast]
  calc a.den * b.num.natAbs < 2 ^ 2000 * 2 ^ 2000 := Nat.mul_lt_mul'' ha.2 hb.1
    _ = 2 ^ 4000 := by rw [← Nat.pow_add]
    _ ≤ 2 ^ 8000 := Nat.pow_le_pow_right (by decide) (by decide)
end MW
namespace MW
/-- the sum of some ratios -/
def rs : List Rat → Rat
  | [] => 0
  | q :: r => q + rs r
theorem rs_app : ∀ xs ys : List Rat, rs (xs ++ ys) = rs xs + rs ys
  | [], ys => by simp only [List.nil_append, rs]; grind
  | x :: xs, ys => by
    have ih := rs_app xs ys
    simp only [List.cons_append, rs, ih]; grind
theorem rs_take {xs : List Rat} {i : Nat} {q : Rat} (h : xs[i]? = some q) : rs (xs.take (i + 1)) = rs (xs.take i) + q := by
  rw [List.take_add_one, h, rs_app]
  simp only [Option.toList, rs]
  grind
end MW
/-! part M2 -/
set_option autoImplicit false
namespace MW
/-- a way: one end, the other, the cost -/
abbrev Way := Int × Int × Int
def iota (n : Nat) : List Int := (List.range n).map fun i : Nat => (i : Int)
theorem mem_iota {n : Nat} {x : Int} : x ∈ iota n ↔ 0 ≤ x ∧ x < n := by
  simp only [iota, List.mem_map, List.mem_range]
  constructor
  · rintro ⟨i, h, rfl⟩; omega
  · intro h; exact ⟨x.toNat, by omega, by omega⟩
theorem iota_len (n : Nat) : (iota n).length = n := by simp [iota]
theorem iota_get {n i : Nat} (h : i < n) : (iota n)[i]? = some (i : Int) := by simp [iota, h]
theorem iota_nodup (n : Nat) : (iota n).Nodup := by
  unfold iota List.Nodup
  rw [List.pairwise_map]
  exact List.Pairwise.imp (fun h => by omega) (List.pairwise_lt_range (n := n))
theorem iota_sorted (n : Nat) : (iota n).Pairwise (· < ·) := by
  unfold iota
  rw [List.pairwise_map]
  exact List.Pairwise.imp (fun h => by omega) (List.pairwise_lt_range (n := n))
structure NetOk (n : Nat) (ws : List Way) : Prop where
  n1 : 1 ≤ n
  n2 : n ≤ 12
  wl : ws.length ≤ 24
  ends : ∀ w ∈ ws, w.1 ∈ iota n ∧ w.2.1 ∈ iota n
  cost : ∀ w ∈ ws, 1 ≤ w.2.2 ∧ w.2.2 ≤ 10000
/-- numbers of ways -/
def InR (ws : List Way) (is : List Int) : Prop := ∀ i ∈ is, 0 ≤ i ∧ i < ws.length
/-- a set that no chosen way leaves -/
def Cl (ws : List Way) (is : List Int) (S : Int → Bool) : Prop := ∀ i ∈ is, ∀ w, ws[i.toNat]? = some w → S w.1 = S w.2.1
/-- the choice joins each pair -/
def Jn (ws : List Way) (is : List Int) (ps : List (Int × Int)) : Prop := ∀ S, Cl ws is S → ∀ p ∈ ps, S p.1 = S p.2
structure FOk (n : Nat) (ws : List Way) (is : List Int) (f : Int → Int) : Prop where
  rg : ∀ x ∈ iota n, f x ∈ iota n
  id : ∀ x ∈ iota n, f (f x) = f x
  cp : Cl ws is fun _ => true
  jn : ∀ i ∈ is, ∀ w, ws[i.toNat]? = some w → f w.1 = f w.2.1
  so : ∀ S, Cl ws is S → ∀ x ∈ iota n, S (f x) = S x
def gsOf (n : Nat) (f : Int → Int) : List (List Int) := ((iota n).filter fun x => decide (f x = x)).map fun x => (iota n).filter fun y => decide (f y = x)
def Groups (n : Nat) (ws : List Way) (is : List Int) (gs : List (List Int)) : Prop := ∃ f, FOk n ws is f ∧ gs = gsOf n f
def grp (gs : List (List Int)) (p : Int) : List Int := (gs.find? fun g => decide (p ∈ g)).getD []
theorem grp_found {gs : List (List Int)} {p : Int} {i : Nat} {g : List Int} (h : gs[i]? = some g) (hb : ∀ g ∈ gs.take i, p ∉ g) (hp : p ∈ g) : grp gs p = g := by
  unfold grp
  have : gs.find? (fun g => decide (p ∈ g)) = some g := by
    induction gs generalizing i with
    | nil => cases h
    | cons x r ih =>
      cases i with
      | zero => cases h; rw [List.find?_cons_of_pos (by simpa using hp)]
      | succ i =>
        rw [List.take_succ_cons] at hb
        rw [List.find?_cons_of_neg (by simpa using hb x (by simp))]
        exact ih h fun g hg => hb g (List.mem_cons_of_mem _ hg)
  rw [this]; rfl
theorem grp_none {gs : List (List Int)} {p : Int} (hb : ∀ g ∈ gs, p ∉ g) : grp gs p = [] := by
  unfold grp
  rw [List.find?_eq_none.mpr (fun g hg => by simpa using hb g hg)]; rfl
theorem fok_nil (n : Nat) (ws : List Way) : FOk n ws [] (fun x => x) := ⟨fun _ h => h, fun _ _ => rfl, fun _ _ _ _ => rfl, fun _ h => absurd h (by simp), fun _ _ _ _ => rfl⟩
theorem fok_step {n : Nat} {ws : List Way} {is : List Int} {f : Int → Int} {i : Int} {w : Way} {lo hi : Int} (h : FOk n ws is f) (hw : ws[i.toNat]? = some w)
    (e1 : w.1 ∈ iota n) (e2 : w.2.1 ∈ iota n) (hl : [lo, hi].Perm [f w.1, f w.2.1]) :
    FOk n ws (is ++ [i]) (fun x => if f x = hi then lo else f x) := by
  have hm : ∀ z, z = lo ∨ z = hi ↔ z = f w.1 ∨ z = f w.2.1 := fun z => by
    have := hl.mem_iff (a := z); simpa using this
  have r1 := h.rg _ e1
  have r2 := h.rg _ e2
  have i1 := h.id _ e1
  have i2 := h.id _ e2
  have hlo : (lo ∈ iota n ∧ f lo = lo) := by
    rcases (hm lo).mp (Or.inl rfl) with e | e <;> rw [e]
    · exact ⟨r1, i1⟩
    · exact ⟨r2, i2⟩
  have hhi : (hi ∈ iota n ∧ f hi = hi) := by
    rcases (hm hi).mp (Or.inr rfl) with e | e <;> rw [e]
    · exact ⟨r1, i1⟩
    · exact ⟨r2, i2⟩
  refine ⟨fun x hx => ?_, fun x hx => ?_, fun _ _ _ _ => rfl, fun j hj v hv => ?_, fun S hS x hx => ?_⟩
  · show (if f x = hi then lo else f x) ∈ _
    split
    · exact hlo.1
    · exact h.rg x hx
  · show (if f (if f x = hi then lo else f x) = hi then lo else f (if f x = hi then lo else f x)) = _
    by_cases c : f x = hi
    · simp only [if_pos c, hlo.2]; split <;> rfl
    · simp only [if_neg c, h.id x hx]
  · show (if f v.1 = hi then lo else f v.1) = if f v.2.1 = hi then lo else f v.2.1
    rcases List.mem_append.mp hj with hj | hj
    · rw [h.jn j hj v hv]
    · have : j = i := by simpa using hj
      subst this
      rw [hw] at hv; cases hv
      have a1 := (hm (f w.1)).mpr (Or.inl rfl)
      have a2 := (hm (f w.2.1)).mpr (Or.inr rfl)
      rcases a1 with a1 | a1 <;> rcases a2 with a2 | a2 <;> rw [a1, a2] <;> simp
  · have hS' : Cl ws is S := fun j hj v hv => hS j (List.mem_append.mpr (Or.inl hj)) v hv
    have sw := hS i (by simp) w hw
    have s1 := h.so S hS' _ e1
    have s2 := h.so S hS' _ e2
    have sl : S lo = S w.1 := by
      rcases (hm lo).mp (Or.inl rfl) with e | e <;> rw [e]
      · exact s1
      · rw [s2, sw]
    have sh : S hi = S w.1 := by
      rcases (hm hi).mp (Or.inr rfl) with e | e <;> rw [e]
      · exact s1
      · rw [s2, sw]
    show S (if f x = hi then lo else f x) = S x
    have sx := h.so S hS' x hx
    by_cases c : f x = hi
    · rw [if_pos c, sl, ← sx, c, sh]
    · rw [if_neg c, sx]
theorem grp_of {n : Nat} {f : Int → Int} (rg : ∀ x ∈ iota n, f x ∈ iota n) (id : ∀ x ∈ iota n, f (f x) = f x) {a : Int} (ha : a ∈ iota n) :
    grp (gsOf n f) a = (iota n).filter fun y => decide (f y = f a) := by
  have hm : ∀ x, a ∈ ((iota n).filter fun y => decide (f y = x)) ↔ f a = x := fun x => by simp [ha]
  unfold grp gsOf
  rw [List.find?_map]
  have : ∀ l : List Int, f a ∈ l → l.find? ((fun g => decide (a ∈ g)) ∘ fun x => (iota n).filter fun y => decide (f y = x)) = some (f a) := fun l => by
    induction l with
    | nil => intro h; exact absurd h (by simp)
    | cons x r ih =>
      intro h
      by_cases c : f a = x
      · rw [List.find?_cons_of_pos]
        · rw [c]
        · show decide (a ∈ _) = true
          exact decide_eq_true ((hm x).mpr c)
      · rw [List.find?_cons_of_neg]
        · exact ih ((List.mem_cons.mp h).resolve_left c)
        · show ¬ decide (a ∈ _) = true
          rw [decide_eq_true_eq, hm]; exact c
  rw [this _ (List.mem_filter.mpr ⟨rg a ha, decide_eq_true (id a ha)⟩)]
  rfl
theorem grp_iff {n : Nat} {ws : List Way} {is : List Int} {gs : List (List Int)} (h : Groups n ws is gs) {a b : Int} (ha : a ∈ iota n) (hb : b ∈ iota n) :
    b ∈ grp gs a ↔ ∀ S, Cl ws is S → S a = S b := by
  obtain ⟨f, hf, rfl⟩ := h
  rw [grp_of hf.rg hf.id ha, List.mem_filter, decide_eq_true_eq]
  constructor
  · rintro ⟨_, e⟩ S hS
    rw [← hf.so S hS a ha, ← hf.so S hS b hb, e]
  · intro h
    refine ⟨hb, ?_⟩
    have := h (fun x => decide (f x = f a)) (fun i hi w hw => by
      show decide (f w.1 = f a) = decide (f w.2.1 = f a)
      rw [hf.jn i hi w hw])
    simpa using this
def PairsOk (n : Nat) (ps : List (Int × Int)) : Prop := ∀ p ∈ ps, p.1 ∈ iota n ∧ p.2 ∈ iota n
theorem jn_iff {n : Nat} {ws : List Way} {is : List Int} {gs : List (List Int)} (h : Groups n ws is gs) {ps : List (Int × Int)} (hp : PairsOk n ps) :
    (∀ p ∈ ps, p.2 ∈ grp gs p.1) ↔ Jn ws is ps :=
  ⟨fun q S hS p hm => (grp_iff h (hp p hm).1 (hp p hm).2).mp (q p hm) S hS, fun q p hm => (grp_iff h (hp p hm).1 (hp p hm).2).mpr fun S hS => q S hS p hm⟩
end MW
/-! part VL7 -/
set_option Elab.async false
set_option linter.all false
set_option autoImplicit false
namespace L2.VL
open PySem PySem.Spec PyProof.Rows L2 C8 MW
theorem rng0 (n : Nat) : rng 0 n = (iota n).map .int := by
  simp only [rng, iota, List.map_map]
  apply List.map_congr_left
  intro i _
  simp
theorem rget {lo : Int} {k i : Nat} {d : PyData} (h : (rng lo k)[i]? = some d) : d = .int (lo + i) ∧ i < k := by
  unfold rng at h
  rw [List.getElem?_map] at h
  obtain ⟨j, hj, e⟩ := Option.map_eq_some_iff.mp h
  have hl : i < k := by
    have := (List.getElem?_eq_some_iff.mp hj).1
    simpa using this
  rw [List.getElem?_range hl] at hj
  cases hj
  exact ⟨e.symm, hl⟩
theorem mget {α : Type} {xs : List α} {enc : α → PyData} {i : Nat} {d : PyData} (h : (xs.map enc)[i]? = some d) : ∃ x, xs[i]? = some x ∧ d = enc x := by
  rw [List.getElem?_map] at h
  obtain ⟨x, hx, e⟩ := Option.map_eq_some_iff.mp h
  exact ⟨x, hx, e.symm⟩
theorem map_getD {α : Type} {xs : List α} {enc : α → PyData} {i : Nat} {x : α} (h : xs[i]? = some x) (d : PyData) : (xs.map enc).getD i d = enc x := by
  rw [List.getD_eq_getElem?_getD, List.getElem?_map, h]; rfl
section
variable {X : Cx} {W : Wo} {ta : TE} {t1 : VE W} {p pos : Pos}
theorem de_ixK (K : PySem.W.Frag) {a b : Expr} {tb : TE} {t2 : VE W} (h1 : DE X W a ta t1) (h2 : DE X W b tb t2) (hK : X.K = K := by rfl) (hs : PlainIx b := by intro _ _; rfl) : DE X W (.Subscript a b pos) (tOp (rIx K) ta tb) (vOp qIx t1 t2) := hK ▸ de_ix h1 h2 hs
theorem de_clK (K : PySem.W.Frag) {S : Spec W} {k j : Nat} {x : Str} {e : Expr} {es : List Expr} {tas : TA} {us : VA W} (c : Cal X.prog X.w K X.mg X.base k x (spW K W S) []) (hr : Room j X.A) (hk : k ≤ j) (hg : Gl X x) (h : DA X W (e :: es) tas us)
    (hK : X.K = K := by rfl) (hdb : (x == ("__debug__" : Str)) = false := by decide) (he : starEach (e :: es) X.env = (false, eval e X.env) :: starEach es X.env := by rfl) (hpl : (backTo pos (starEach es X.env)).any (·.1) = false := by rfl) :
    DE X W (.Call (.Name x p) (e :: es) [] pos) (tCall (spW K W S) [] E0 tas) (vCl S us) := by subst hK; exact de_cl c hr hk hg h hdb he hpl
theorem de_cl0K (K : PySem.W.Frag) {S : Spec W0} {k j : Nat} {x : Str} {e : Expr} {es : List Expr} {tas : TA} {us : VA W} (c : Cal X.prog X.w K X.mg X.base k x (spW K W0 S) []) (hr : Room j X.A) (hk : k ≤ j) (hg : Gl X x) (h : DA X W (e :: es) tas us)
    (hK : X.K = K := by rfl) (hdb : (x == ("__debug__" : Str)) = false := by decide) (he : starEach (e :: es) X.env = (false, eval e X.env) :: starEach es X.env := by rfl) (hpl : (backTo pos (starEach es X.env)).any (·.1) = false := by rfl) :
    DE X W (.Call (.Name x p) (e :: es) [] pos) (tCall (spW K W0 S) [] E0 tas) (vCl0 S us) := by subst hK; exact de_cl0 c hr hk hg h hdb he hpl
theorem de_call0K (K : PySem.W.Frag) {S : Spec W0} {dvs : List V} {ds : List PyData} {k j : Nat} {x : Str} {e : Expr} {es : List Expr} {tas : TA} {us : VA W} (c : Cal X.prog X.w K X.mg X.base k x (spW K W0 S) dvs) (hd : ∀ F, DpAll K F dvs ds) (hr : Room j X.A) (hk : k ≤ j) (hg : Gl X x) (h : DA X W (e :: es) tas us)
    (hK : X.K = K := by rfl) (hdb : (x == ("__debug__" : Str)) = false := by decide) (he : starEach (e :: es) X.env = (false, eval e X.env) :: starEach es X.env := by rfl) (hpl : (backTo pos (starEach es X.env)).any (·.1) = false := by rfl) :
    DE X W (.Call (.Name x p) (e :: es) [] pos) (tCall (spW K W0 S) dvs E0 tas) (vCall0 (fun xs w Q => S (xs ++ ds.map SD.fz) w Q) us) := by subst hK; exact de_call0 c hd hr hk hg h hdb he hpl
theorem dg_tupK (K : PySem.W.Frag) {tgs : List Expr} {gs : TGs} {vgs : VGs W} {n kk : Nat} (hc : X.calm = true) (h : DGs X W tgs gs vgs) (hK : X.K = K := by rfl) (hn : (assignEach tgs X.env).length = n := by rfl) (hst : (assignEach tgs X.env).findIdx? (·.1) = none := by rfl) : DG X W (.Tuple tgs kk pos) (gTup K n gs) (vgTup n vgs) := by subst hK; exact dg_tup hc h hn hst
theorem dg_lstK (K : PySem.W.Frag) {tgs : List Expr} {gs : TGs} {vgs : VGs W} {n kk : Nat} (hc : X.calm = true) (h : DGs X W tgs gs vgs) (hK : X.K = K := by rfl) (hn : (assignEach tgs X.env).length = n := by rfl) (hst : (assignEach tgs X.env).findIdx? (·.1) = none := by rfl) : DG X W (.Tuple tgs kk pos) (gUnl K n gs) (vgLst n vgs) := by subst hK; exact dg_lst hc h hn hst
theorem di_seqK (K : PySem.W.Frag) {a tg : Expr} (h : DE X W a ta t1) (hK : X.K = K := by rfl) : DI X W tg a (iSeq K ta) (viAny t1) := by subst hK; exact di_seq h
theorem dt_truK (K : PySem.W.Frag) {e : Expr} (h : DE X W e ta t1) (hK : X.K = K := by rfl) (he : ∀ whole, isTrue e X.env whole = (do let v ← whole; standAt e.pos; holding [v] (truthy v)) := by intro _; rfl) : DT X W e (fun σ H Q => ta σ H fun x H' => ∃ k, TruV K x H' k ∧ Q k H') (vTru t1) := by subst hK; exact dt_tru h he
theorem op_inK (K : PySem.W.Frag) (hK : X.K = K := by rfl) : OpR X (compareOp .In) (rIn K false) := by subst hK; exact op_in_seq
theorem op_notInK (K : PySem.W.Frag) (hK : X.K = K := by rfl) : OpR X (compareOp .NotIn) (rIn K true) := by subst hK; exact op_notIn_seq
theorem op_inEK (K : PySem.W.Frag) (hu : X.A.units + 65 < cLine) (hK : X.K = K := by rfl) : OpR X (compareOp .In) (rInE K false) := by subst hK; exact op_inE hu
theorem op_notInEK (K : PySem.W.Frag) (hu : X.A.units + 65 < cLine) (hK : X.K = K := by rfl) : OpR X (compareOp .NotIn) (rInE K true) := by subst hK; exact op_notInE hu
theorem cr_anyK (K : PySem.W.Frag) (hc : X.calm = true) (hK : X.K = K := by rfl) : CallR X (.builtin "any") (rAny K) := by subst hK; exact cr_any hc
theorem cr_allK (K : PySem.W.Frag) (hc : X.calm = true) (hK : X.K = K := by rfl) : CallR X (.builtin "all") (rAll K) := by subst hK; exact cr_all hc
theorem de_lr {a : Expr} {p2 pos2 : Pos} (hc : X.calm = true) (hg : Gl X "list") (hm : X.mg "list" = none) (hg2 : Gl X "range") (hm2 : X.mg "range" = none) (h : DE X W a ta t1)
    (na : starEach [.Call (.Name "range" p2) [a] [] pos2] X.env = (false, eval (.Call (.Name "range" p2) [a] [] pos2) X.env) :: starEach [] X.env := by rfl) (na2 : starEach [a] X.env = (false, eval a X.env) :: starEach [] X.env := by rfl) :
    DE X W (.Call (.Name "list" p) [.Call (.Name "range" p2) [a] [] pos2] [] pos) (tLstRg (tRg1 ta)) (vListRg t1) := de_listRg hc hg hm hg2 hm2 h (prg_1 hg2 hm2 h.pe na2) na
end
theorem itemD_T (ds : List PyData) (i : Int) : itemD (.tuple ds) i = if 0 ≤ i then ds[i.toNat]? else none := rfl
theorem itemD_L (ds : List PyData) (i : Int) : itemD (.list ds) i = if 0 ≤ i then ds[i.toNat]? else none := rfl
/-- a comprehension that only looks -/
theorem lc_pure {S : Type} {α : Type} (xs : List α) (enc : α → PyData) (p : α → Bool) (f : α → PyData) {w : S} {Q : List PyData → S → Prop}
    {bd : (Nat → List PyData → S → Prop) → Nat → List PyData → S → PyData → Prop} (hl : xs.length ≤ 1000)
    (hb : ∀ I i acc x, x ∈ xs → (if p x = true then I (i + 1) (acc ++ [f x]) w else I (i + 1) acc w) → bd I i acc w (enc x))
    (hq : Q ((xs.filter p).map f) w) :
    (xs.map enc).length ≤ 1000 ∧ ∃ I : Nat → List PyData → S → Prop, I 0 [] w ∧ (∀ (i : Nat) d acc w, (xs.map enc)[i]? = some d → I i acc w → bd I i acc w d) ∧ ∀ acc w, I (xs.map enc).length acc w → acc.length ≤ (xs.map enc).length → Q acc w := by
  refine ⟨by rw [List.length_map]; exact hl, fun i acc w' => w' = w ∧ acc = ((xs.take i).filter p).map f, ⟨rfl, by simp⟩, fun i d acc w' hd ⟨e1, e2⟩ => ?_, fun acc w' ⟨e1, e2⟩ _ => ?_⟩
  · obtain ⟨x, hx, rfl⟩ := mget hd
    subst e1
    refine hb _ i acc x (List.mem_of_getElem? hx) ?_
    rw [List.take_add_one, hx, Option.toList_some, List.filter_append, List.map_append, ← e2]
    cases hp : p x <;> simp [hp]
  · subst e1
    rw [List.length_map, List.take_length] at e2
    rw [e2]; exact hq
theorem enum_len (ds : List PyData) : (enumD ds).length = ds.length := by simp [enumD]
theorem eget {α : Type} {xs : List α} {enc : α → PyData} {i : Nat} {d : PyData} (h : (enumD (xs.map enc))[i]? = some d) : ∃ x, xs[i]? = some x ∧ d = .tuple [.int i, enc x] := by
  unfold enumD at h
  rw [List.getElem?_map] at h
  obtain ⟨j, hj, e⟩ := Option.map_eq_some_iff.mp h
  have hl : i < xs.length := by
    have := (List.getElem?_eq_some_iff.mp hj).1
    simpa using this
  have ej : j = i := by
    rw [List.getElem?_range (by simpa using hl)] at hj
    cases hj; rfl
  subst ej
  refine ⟨xs[j], List.getElem?_eq_getElem hl, ?_⟩
  rw [← e, List.getD_eq_getElem?_getD, List.getElem?_map, List.getElem?_eq_getElem hl]; rfl
theorem vSeq_eq {W : Wo} (t u : VS W) (D : VEnds W) (s : List SD) (w : W.S) : vSeq t u D s w = t { D with nx := u D } s w := rfl
theorem vseq_cut {W : Wo} {t u : VS W} {D : VEnds W} {s : List SD} {w : W.S} (J : List SD → W.S → Prop) (h2 : ∀ s w, J s w → u D s w) (h1 : ∀ X : List SD → W.S → Prop, (∀ s w, J s w → X s w) → t { D with nx := X } s w) : vSeq t u D s w := h1 (u D) h2
def isO : SD → Bool
  | .own _ => true
  | _ => false
/-- no own list in the slots -/
def noO : List SD → Bool
  | [] => true
  | x :: r => !isO x && noO r
theorem own_at {i : Nat} : ∀ {s : List SD}, noO s = true → ∀ (j : Nat) (es : List PyData), s[j]? = some (SD.own es) → j = i
  | [], _, j, es, h => by simp at h
  | x :: r, hs, 0, es, h => by
    simp only [List.getElem?_cons_zero, Option.some.injEq] at h
    subst h; simp [noO, isO] at hs
  | x :: r, hs, j + 1, es, h => by
    simp only [List.getElem?_cons_succ] at h
    have : noO r = true := by
      simp only [noO, Bool.and_eq_true] at hs; exact hs.2
    exact absurd (own_at (i := j + 1) this j es h) (by omega)
end L2.VL
/-! part VL8 -/
set_option Elab.async false
set_option linter.all false
set_option autoImplicit false
set_option maxRecDepth 100000
set_option maxHeartbeats 4000000
namespace L2.VL
open PySem PySem.Spec PyProof.Rows L2 C8 MW PpSet
section
variable {X : Cx}
theorem addT_ok {pins : List (Addr × Obj)} {σ : L2.St} {H : Hp} {s : Shared} {E : Value → Shared → Prop} {D x : Addr} {L : List (Addr × List Int)} {k : List Int} {Q : Value → Shared → Prop} (I : Inv X pins σ H s) (hD : H D = some (SetTO X.prog X.w D L))
    (hL : ∀ p ∈ L, SqT X.K H p.1 (p.2.map V.int)) (hx : SqT X.K H x (k.map V.int)) (hu : X.A.units + 64 < cLine) (hnew : k ∉ L.map (·.2)) (hfew : L.length + 1 < 64)
    (h : ∀ s' L', L'.Perm ((x, k) :: L) → Inv X pins σ (upd H D (SetTO X.prog X.w D L')) s' → Q .none s') : wpAny (model X.prog X.w) X.A (call (.builtin "set.add") [.ref D, .ref x]) Q E s := by
  obtain ⟨es, ep, t, R⟩ := SetT0.full (I.hok D _ hD).1 fun p hp => I.isT (hL p hp)
  have hX := I.isT hx
  obtain ⟨o, ho, hex, hd⟩ := R.ob
  have hT : s.TypeIs (.ref D) "set" := ⟨o, ho, hex.1⟩
  refine wpAny_call_entry F.slot_set_add hT F.entry_set_add ?_ (F.args_set_add_2 _ _)
  unfold Builtin.«set.add» Builtin.Frozenset.oneOther
  simp only [List.isEmpty_nil, bind_assoc]
  unfold Builtin.Frozenset.addrOf setAdd
  refine wpAny_bind (wpAny_pure ?_)
  try dsimp only
  refine wpAny_bind (wpAny_pure ?_)
  try dsimp only
  refine wpAny_bind ?_
  refine wpAny_holding ?_
  refine wpAny_bind (wpAny_pyHash_tuple (by simp; omega) hX ?_)
  refine add_at (s := { s with toks := s.toks + (k.length + 1) }) R hX (by simp; omega) hfew fun b h' L' es' ep' t' hsb hS2 c1 c2 => ?_
  show wpAny _ _ (ret Value.none) _ _ _
  have hS3 := hS2
  obtain ⟨o', ho', _⟩ := hS3.ob
  exact wpAny_pure ⟨_, rfl, h _ L' (c2 hnew) (I.write (e := D) (t' := s.toks + (k.length + 1)) (by rw [hD]; trivial) (.inl rfl) (fun b u hb hu => (hsb.2 b hb).trans hu) ⟨o', ho'⟩ (setTO_new hS2.t0))⟩
/-- {elt for target in iter if ..}, elt a new tuple of ints each time -/
def tScT (K : PySem.W.Frag) (P : Program) (w : World) (wi : TI) (g : TG) (tt : TT) (te : TE) (vs : List Nat) : TE := fun σ H Q => wi σ H fun J H1 => ∀ D, H1 D = none → ∃ W : Nat → Nat → Hp → Prop, (∃ m, W 0 m (upd H1 D (SetTO P w D []))) ∧ ∀ i m H, W i m H →
  (J.stop i H ∧ Q (.ref D) H) ∨ (J.go i H ∧ ∃ Nx : Hp → Prop, (∀ H', Nx H' → ∃ m', m' < m ∧ W (i + 1) m' H') ∧ ∀ x H', J.yld i H x H' → g x (wipe σ vs) H' fun σ2 H2 => wipe σ2 vs = wipe σ vs ∧ tt σ2 H2 fun b H3 =>
    if b = true then te σ2 H3 fun y H4 => ∃ (a : Addr) (k : List Int) (L : List (Addr × List Int)), y = .ref a ∧ SqT K H4 a (k.map V.int) ∧ H4 D = some (SetTO P w D L) ∧ (∀ p ∈ L, SqT K H4 p.1 (p.2.map V.int)) ∧ k ∉ L.map (·.2) ∧ L.length + 1 < 64 ∧
      ∀ L', L'.Perm ((a, k) :: L) → Nx (upd H4 D (SetTO P w D L')) else Nx H3)
theorem sc_coreT {pins : List (Addr × Obj)} {s : Shared} {σ : L2.St} {H : Hp} {Q : VK} {elt tg iter : Expr} {ifs : List Expr} {scope : Scope} {own : List (PySem.Str × Nat)} {pos pos' : Pos} {wi : TI} {g : TG} {tt : TT} {te : TE} {use : Option (Value → Sem Unit)} {Qf : Value → Shared → Prop}
    (hc : X.calm = true) (hu : X.A.units + 64 < cLine) (hN : X.N.Nodup) (I : Inv X pins σ H s) (hi : PI X tg iter wi) (ok : BlkOk X.N X.env.scope scope own)
    (hg : ∀ (s : Shared) (H : Hp) (C : Addr) (cl : List (PySem.Str × Addr)) (fp : List Addr), PG (X.blk s H scope (compEnvC scope cl C X.env) fp) tg g) (ht : ∀ (s : Shared) (H : Hp) (C : Addr) (cl : List (PySem.Str × Addr)) (fp : List Addr), PTs (X.blk s H scope (compEnvC scope cl C X.env) fp) ifs tt)
    (he : ∀ (s : Shared) (H : Hp) (C : Addr) (cl : List (PySem.Str × Addr)) (fp : List Addr), PE (X.blk s H scope (compEnvC scope cl C X.env) fp) elt te) (hs : ∀ x, foldedSetIterable iter X.env x = pure x)
    (h : tScT X.K X.prog X.w wi g tt te (own.map (·.2)) σ H Q)
    (hRR : ∀ D C s' m H', Inv X pins σ H' s' → Q (.ref D) H' → s'.heap.Ns C m → FpOk X pins H' C → compPost (model X.prog X.w) X.A X.xe use Qf (.ref D) C (.ok .next) s') :
    wpAny (model X.prog X.w) X.A (comprehension (.SetComp elt [⟨tg, iter, ifs, 0⟩] scope pos) scope X.env pos' (newSet (.type "set")) false (eval iter X.env) use) Qf X.xe s := by
  have hfree : ∀ y ∈ scope.names, y.2 = .free → ∃ c, X.env.cells.lookup y.1 = some c := fun y hy e => by
    rcases ok.free y hy e with k | k
    · exact I.ok.has _ (.inl k)
    · exact I.ok.has _ (.inr k)
  refine wpAny_comprehension_free (use := use) rfl hs (closure_ok hfree) ok.kind (fun y hy e => by rw [ok.uniq y hy, e])
    (thn (hi.run pins s σ H _ I h) fun xv s1 hx => thn hx fun itv s2 h2 => ?_)
  obtain ⟨it, fp, tn, J, H2, e, I2, T, st2, f2, q⟩ := h2
  subst e
  refine newSet_ok (newEnv_comp ?_)
  generalize hD : s2.heap.objs.size = D
  have hDn : H2 D = none := I2.hok.fresh (Nat.le_of_eq hD)
  obtain ⟨W, ⟨m0, w0⟩, turn⟩ := q D hDn
  generalize hs3 : ({ s2 with heap := s2.heap.push { cls := .type "set", dict := none, data := .set #[] 0 (.fresh 0 0 (!X.w.params.followText "set-order")) } } : Shared) = s3
  have I3 : Inv X pins σ (upd H2 D (SetTO X.prog X.w D [])) s3 := by
    rw [← hs3]
    refine I2.laid (t' := s2.toks) (fun b o e => Heap.get?_push_of_some _ e) (Nat.le_of_eq hD) ?_
    rw [← hD]
    exact setTO_new (setTR_fresh (Heap.get?_push_size _ rfl)).t0
  have h3 : s3.heap = s2.heap.push { cls := .type "set", dict := none, data := .set #[] 0 (.fresh 0 0 (!X.w.params.followText "set-order")) } := by rw [← hs3]
  have sz : ∀ b ∈ fp, b < s2.heap.objs.size := fun b hb => by
    obtain ⟨o, e, _⟩ := T.obj _ _ st2 b hb
    exact Heap.lt_size e
  have f3 : ∀ b ∈ fp, FpOk X pins (upd H2 D (SetTO X.prog X.w D [])) b ∧ b < s3.heap.objs.size := fun b hb => by
    have hlt := sz b hb
    refine ⟨⟨?_, (f2 b hb).2⟩, by rw [h3, Heap.size_push]; exact Nat.lt_succ_of_lt hlt⟩
    rw [upd_ne (by rw [← hD]; exact Nat.ne_of_lt hlt)]
    exact (f2 b hb).1
  have st3 : tn 0 s3.heap := T.keep _ _ _ st2 fun b _ o e => by rw [h3]; exact Heap.get?_push_of_some _ e
  have I4 := block_start I3 ok hN f3
  have pg := hg s3 (upd H2 D (SetTO X.prog X.w D [])) s3.heap.objs.size (cellsFrom (s3.heap.objs.size + 1) scope.names (cloFrom X.env.cells scope.names [])) fp
  have pt := ht s3 (upd H2 D (SetTO X.prog X.w D [])) s3.heap.objs.size (cellsFrom (s3.heap.objs.size + 1) scope.names (cloFrom X.env.cells scope.names [])) fp
  have pe := he s3 (upd H2 D (SetTO X.prog X.w D [])) s3.heap.objs.size (cellsFrom (s3.heap.objs.size + 1) scope.names (cloFrom X.env.cells scope.names [])) fp
  show codeAny _ _ (.compStart (.SetComp elt [⟨tg, iter, ifs, 0⟩] scope pos) 0 (.ref it) (.ref D) (compEnvC scope (cellsFrom (s3.heap.objs.size + 1) scope.names (cloFrom X.env.cells scope.names [])) s3.heap.objs.size X.env)) (compPost (model X.prog X.w) X.A X.xe use Qf (.ref D) s3.heap.objs.size) { s3 with heap := pushCells (s3.heap.push { cls := .type "dict", data := .dict #[] }) scope.names }
  have nfp : ∀ b ∈ fp, (upd H2 D (SetTO X.prog X.w D [])) b = none := fun b hb => (f3 b hb).1.1
  generalize hce : compEnvC scope (cellsFrom (s3.heap.objs.size + 1) scope.names (cloFrom X.env.cells scope.names [])) s3.heap.objs.size X.env = ce at I4 pg pt pe ⊢
  have cL : ce.locals = s3.heap.objs.size := by subst hce; rfl
  generalize hH3 : upd H2 D (SetTO X.prog X.w D []) = H3 at I3 I4 pg pt pe w0 nfp f3
  generalize hs4 : ({ s3 with heap := pushCells (s3.heap.push { cls := .type "dict", data := .dict #[] }) scope.names } : Shared) = s4 at I4 ⊢
  have st4 : tn 0 s4.heap := T.keep _ _ _ st3 fun b _ o e => by rw [← hs4]; exact pushCells_keeps _ _ _ _ (Heap.get?_push_of_some _ e)
  have stat : ∀ {σ' : L2.St} {H' : Hp} {s' : Shared}, Inv (X.blk s3 H3 scope ce fp) [] σ' H' s' → (∀ b ∈ fp, H' b = none) → ∀ b ∈ fp, FpOk (X.blk s3 H3 scope ce fp) [] H' b := fun {σ' H' s'} I' hn b hb =>
    ⟨hn b hb, (I'.ok.exf b hb).1, I'.ok.exfs b hb, .inl hb, fun x c e => (I'.ok.exf b hb).2 x c e, fun p hp => absurd (show p ∈ ([] : List (Addr × Obj)) ++ [] from hp) (by simp)⟩
  have loop : codeAny (model X.prog X.w) X.A (.compLoop (.SetComp elt [⟨tg, iter, ifs, 0⟩] scope pos) 0 (.ref it) (.ref D) ce) (compPost (model X.prog X.w) X.A X.xe use Qf (.ref D) s3.heap.objs.size) s4 := by
    refine compLoopS_any (fun n s' => ∃ i H', Inv (X.blk s3 H3 scope ce fp) [] (wipe σ (own.map (·.2))) H' s' ∧ tn i s'.heap ∧ (∀ b ∈ fp, H' b = none) ∧ W i n H') ?_ m0 ⟨0, H3, I4, st4, nfp, w0⟩
    rintro n s5 ⟨i, H5, I5, st5, n5, w5⟩
    rcases turn i n H5 w5 with ⟨stop, qq⟩ | ⟨go, Nx, hNx, step⟩
    · have td := T.done (X.blk s3 H3 scope ce fp) rfl rfl rfl hc i [] s5 _ H5 (fun _ _ => False) I5 (stat I5 n5) st5 stop
      refine thnF td fun r s6 ⟨hr, I6⟩ => ?_
      subst hr
      have I7 : Inv X pins σ H5 s6 := I3.call' (ch := fp) I6.os I6.base I6.hok I6.bare fun b hb => ⟨(f3 b hb).1.2.2.2.1, (f3 b hb).1.2.1, (f3 b hb).1.2.2.2.2.1, (f3 b hb).1.2.2.2.2.2⟩
      have nC : H5 s3.heap.objs.size = none := by
        have z : H5 ce.locals = none := I6.free
        rw [cL] at z
        exact z
      obtain ⟨m, hn, _⟩ := I6.loc
      have hn : s6.heap.Ns ce.locals m := hn
      rw [cL] at hn
      exact hRR D s3.heap.objs.size s6 m H5 I7 qq hn (I3.fpOk (Nat.le_refl _) nC)
    · have ti := T.item (X.blk s3 H3 scope ce fp) rfl rfl rfl hc i [] s5 _ H5 (fun _ _ => False) I5 (stat I5 n5) st5 go
      refine thnF ti fun r s6 ⟨u, hr, h6⟩ => ?_
      subst hr
      refine thnF h6 fun _ s7 ⟨x, H7, I7, r7, y7, st7, n7⟩ => ?_
      have I7' := I7.pinned (stat I7 n7) (T.obj _ _ st7)
      refine thnF (pg.run _ s7 _ H7 x u _ I7' r7 (step x H7 y7)) fun _ s8 ⟨σ8, H8, I8, hw8, q8⟩ => ?_
      refine thnF (pt.run _ s8 σ8 H8 _ I8 q8) fun b s9 ⟨H9, I9, q9⟩ => ?_
      have fin : ∀ {s' : Shared} {H' : Hp}, Inv (X.blk s3 H3 scope ce fp) ([] ++ pinsAt fp s7.heap) σ8 H' s' → Nx H' → ∃ m, m < n ∧ ∃ i H', Inv (X.blk s3 H3 scope ce fp) [] (wipe σ (own.map (·.2))) H' s' ∧ tn i s'.heap ∧ (∀ b ∈ fp, H' b = none) ∧ W i m H' := fun {s' H'} I' nx => by
        obtain ⟨m', hm, w'⟩ := hNx H' nx
        have pin' : ∀ b ∈ fp, ∀ o, s7.heap.get? b = some o → s'.heap.get? b = some o ∧ H' b = none := fun b hb o e =>
          let z := I'.pin (b, o) (List.mem_append_right _ (List.mem_append_right _ (mem_pinsAt hb e)))
          ⟨z.1, z.2.1⟩
        have hl : (wipe σ (own.map (·.2))).length = σ8.length := by rw [← hw8, wipe_length]
        refine ⟨m', hm, i + 1, H', (I'.unpinned (pins := [])).weak hl (fun j v e => ?_), T.keep _ _ _ st7 fun b hb o e => (pin' b hb o e).1, fun b hb => ?_, w'⟩
        · rw [← hw8] at e
          exact (wipe_some e).1
        · obtain ⟨o, e, _⟩ := T.obj _ _ st7 b hb
          exact (pin' b hb o e).2
      cases b with
      | false =>
        simp only [Bool.false_eq_true, if_false] at q9 ⊢
        exact fin I9 q9
      | true =>
        simp only [if_true] at q9 ⊢
        refine thnF (pe.run _ s9 σ8 H9 _ I9 q9) fun z s10 ⟨yv, H10, I10, r10, av, kv, L0, ey, hsq, hD10, hL0, hnew, hfew, nx⟩ => ?_
        subst ey
        cases (show z = Value.ref av from r10)
        exact addT_ok (X := X.blk s3 H3 scope ce fp) I10 hD10 hL0 hsq hu hnew hfew fun s11 L' pm I11 => fin I11 (nx L' pm)
  exact codeAny_compStart_set loop (T.self X.A 0 _ _ _ st4 loop)
theorem pe_scT {elt tg iter : Expr} {ifs : List Expr} {scope : Scope} {own : List (PySem.Str × Nat)} {pos : Pos} {wi : TI} {g : TG} {tt : TT} {te : TE} (hc : X.calm = true) (hu : X.A.units + 64 < cLine) (hN : X.N.Nodup) (hi : PI X tg iter wi) (ok : BlkOk X.N X.env.scope scope own)
    (hg : ∀ (s : Shared) (H : Hp) (C : Addr) (cl : List (PySem.Str × Addr)) (fp : List Addr), PG (X.blk s H scope (compEnvC scope cl C X.env) fp) tg g) (ht : ∀ (s : Shared) (H : Hp) (C : Addr) (cl : List (PySem.Str × Addr)) (fp : List Addr), PTs (X.blk s H scope (compEnvC scope cl C X.env) fp) ifs tt)
    (he : ∀ (s : Shared) (H : Hp) (C : Addr) (cl : List (PySem.Str × Addr)) (fp : List Addr), PE (X.blk s H scope (compEnvC scope cl C X.env) fp) elt te) (hs : ∀ x, foldedSetIterable iter X.env x = pure x := by intro _; rfl) :
    PE X (.SetComp elt [⟨tg, iter, ifs, 0⟩] scope pos) (tScT X.K X.prog X.w wi g tt te (own.map (·.2))) := by
  refine ⟨fun pins s σ H Q I h => ?_⟩
  rw [eval_SetComp]
  refine sc_coreT hc hu hN I hi ok hg ht he hs h fun D C s' m H' I' q hn f => ⟨m, hn, fun h'' sb => ?_⟩
  obtain ⟨f0, f1, f2, f3, f4, f5⟩ := f
  exact ⟨.ref D, H', I'.turned (t' := s'.toks) (fun b o hb e => (sb.2 b hb).trans e) f0 f1 f3 f4 f5, rfl, q⟩
def tLenS (K : PySem.W.Frag) (P : Program) (w : World) (ta : TE) : TE := fun σ H Q => ta σ H fun x H1 => ∃ (D : Addr) (L : List (Addr × List Int)), x = .ref D ∧ H1 D = some (SetTO P w D L) ∧ (∀ p ∈ L, SqT K H1 p.1 (p.2.map V.int)) ∧ Q (.int L.length) H1
theorem pe_lenS {a : Expr} {ta : TE} {p pos : Pos} (hg : Gl X "len") (hm : X.mg "len" = none) (ha : PE X a ta) (na : starEach [a] X.env = (false, eval a X.env) :: starEach [] X.env := by rfl) :
    PE X (.Call (.Name "len" p) [a] [] pos) (tLenS X.K X.prog X.w ta) := by
  refine ⟨fun pins s σ H Q I h => ?_⟩
  refine Call_ (ld_blt I hg hm PySem.boot_len ?_)
  refine PyProof.Rows.callWith_builtin1 (PyProof.Rows.args_cons (thn (ha.run pins s σ H _ I h) fun v s1 ⟨x, H1, I1, r1, D, L, ex, hD, hL, q1⟩ => PyProof.Rows.args_nil ?_) na) na rfl
  subst ex
  cases r1
  obtain ⟨es, ep, t, R⟩ := SetT0.full (I1.hok D _ hD).1 fun p hp => I1.isT (hL p hp)
  obtain ⟨o, ho, hex, hd⟩ := R.ob
  have hz := R.size
  have hf := R.few
  exact call_len_set ho hex hd R.fits (by rw [hz]; omega) ⟨.int L.length, H1, I1.tok _, ⟨_, by rw [hz]⟩, q1⟩

def setPost (K : PySem.W.Frag) (P : Program) (w : World) (D : Addr) (Nx : Hp → Prop) : V → Hp → Prop := fun y H4 => ∃ (a : Addr) (k : List Int) (L : List (Addr × List Int)), y = .ref a ∧ SqT K H4 a (k.map V.int) ∧ H4 D = some (SetTO P w D L) ∧ (∀ p ∈ L, SqT K H4 p.1 (p.2.map V.int)) ∧ k ∉ L.map (·.2) ∧ L.length + 1 < 64 ∧
      ∀ L', L'.Perm ((a, k) :: L) → Nx (upd H4 D (SetTO P w D L'))
theorem sc_it {K : PySem.W.Frag} {P : Program} {pw : World} {J : It} {n : Nat} {G : Hp → Prop} {Y : Nat → Hp → V → Hp → Prop} (w : Walk J n G Y) {g : TG} {tt : TT} {te : TE} {vs : List Nat} {σ : L2.St} {H1 : Hp} {D : Addr} {Qd : Hp → Prop} (Pv : Nat → Hp → Prop) (h0 : Pv 0 (upd H1 D (SetTO P pw D []))) (hG : ∀ i H, i ≤ n → Pv i H → G H)
    (hs : ∀ i x H H', i < n → Pv i H → Y i H x H' → g x (wipe σ vs) H' fun σ2 H2 => wipe σ2 vs = wipe σ vs ∧ tt σ2 H2 fun b H3 =>
      if b = true then te σ2 H3 (setPost K P pw D (Pv (i + 1))) else Pv (i + 1) H3) (hd : ∀ H, Pv n H → Qd H) :
    ∃ W : Nat → Nat → Hp → Prop, (∃ m, W 0 m (upd H1 D (SetTO P pw D []))) ∧ ∀ i m H, W i m H →
      (J.stop i H ∧ Qd H) ∨ (J.go i H ∧ ∃ Nx : Hp → Prop, (∀ H', Nx H' → ∃ m', m' < m ∧ W (i + 1) m' H') ∧ ∀ x H', J.yld i H x H' → g x (wipe σ vs) H' fun σ2 H2 => wipe σ2 vs = wipe σ vs ∧ tt σ2 H2 fun b H3 =>
        if b = true then te σ2 H3 (setPost K P pw D Nx) else Nx H3) := by
  refine ⟨fun i m H => m = n - i ∧ i ≤ n ∧ Pv i H, ⟨n, by simp, Nat.zero_le _, h0⟩, ?_⟩
  rintro i m H ⟨rfl, hi, p⟩
  have q := hG i H hi p
  by_cases hlt : i < n
  · refine .inr ⟨w.goes i H hlt q, Pv (i + 1), fun H' p' => ⟨n - (i + 1), by omega, rfl, hlt, p'⟩, fun x H' y => hs i x H H' hlt p (w.yields i H x H' hlt q y)⟩
  · have e : i = n := by omega
    subst e
    exact .inl ⟨w.stops H q, hd H p⟩
end
section
variable {X : Cx} {K : PySem.W.Frag} {W : Wo}
/-- the number of different tuples of ints; the reading asks that they be different -/
def vLenSc (ti : VI W) (g : VG W) (tt : VT W) (te : VE W) (vs : List Nat) : VE W := fun s w Q => ti s w fun ds w1 => ds.length ≤ 60 ∧ ∃ I : Nat → List (List Int) → W.S → Prop, I 0 [] w1 ∧
  (∀ (i : Nat) d KL w, ds[i]? = some d → I i KL w → g d (wipeS s vs) w fun s2 w2 => tt s2 w2 fun b w3 => if b = true then te s2 w3 fun y w4 => ∃ k : List Int, y = dT k ∧ k ∉ KL ∧ I (i + 1) (k :: KL) w4 else I (i + 1) KL w3) ∧ ∀ KL w, I ds.length KL w → Q (.int KL.length) w
theorem snd_lenSc {P : Program} {pw : World} {wi : TI} {vi : VI W} {g : TG} {vg : VG W} {tt : TT} {vt : VT W} {te : TE} {t : VE W} {own : List Nat} (hi : SndI K W wi vi) (hg : SndG K W g vg) (ht : SndT K W tt vt) (he : SndE K W te t) (go : GOnly g own) :
    SndE K W (tLenS K P pw (tScT K P pw wi g tt te own)) (vLenSc vi vg vt t own) := by
  intro F0 H0 F H σ s w Q' Q R q k
  refine hi _ _ _ _ _ _ _ _ _ R q fun J F1 H1 ds w1 e1 r1 wk q1 => ?_
  obtain ⟨hz, I, i0, step, last⟩ := q1
  have R1 := R.up e1 r1
  intro D hD
  have nfp : ¬ W.fp D := fun z => (W.dom r1 D z).2 hD
  have fD : F1 D = none := e1.sub.free hD
  have x0 := Ext.newOwn (W := W0) (o := SetTO P pw D []) e1.sub hD
  refine sc_it wk (fun i H => ∃ F L KL w, Ext W F1 H1 F H ∧ W.R w F H ∧ H D = some (SetTO P pw D L) ∧ (∀ p ∈ L, SqT K F p.1 (p.2.map V.int)) ∧ (L.map (·.2)).Perm KL ∧ KL.length ≤ i ∧ F D = none ∧ I i KL w)
    ⟨F1, [], [], w1, x0.lift, x0.keepR r1, upd_same, (fun p hp => by cases hp), List.Perm.refl _, Nat.le_refl _, fD, i0⟩
    (fun i H _ ⟨F, L, KL, w, e, _⟩ => e.ff.trans e.sub) (fun i x H H' hi ⟨F, L, KL, w, e, r, hd, hL, hp, hl, fd, q⟩ y => ?_) (fun H ⟨F, L, KL, w, e, r, hd, hL, hp, hl, fd, q⟩ => ?_)
  · have R2 := R1.up e r
    obtain ⟨d, F2, ed, e2, p2⟩ := yd_step y e.ff R2.sub
    have R3 := (R2.upP e2).wipe own
    have q2 := step i d KL w ed q
    have key := hg _ _ _ _ _ _ _ _ _ _ (fun σ2 H2 => tt σ2 H2 fun b H3 => if b = true then te σ2 H3 (setPost K P pw D fun H => ∃ F L KL w, Ext W F1 H1 F H ∧ W.R w F H ∧ H D = some (SetTO P pw D L) ∧ (∀ p ∈ L, SqT K F p.1 (p.2.map V.int)) ∧ (L.map (·.2)).Perm KL ∧ KL.length ≤ i + 1 ∧ F D = none ∧ I (i + 1) KL w)
      else ∃ F L KL w, Ext W F1 H1 F H3 ∧ W.R w F H3 ∧ H3 D = some (SetTO P pw D L) ∧ (∀ p ∈ L, SqT K F p.1 (p.2.map V.int)) ∧ (L.map (·.2)).Perm KL ∧ KL.length ≤ i + 1 ∧ F D = none ∧ I (i + 1) KL w) R3 p2 q2 fun σ3 s3 w3 R4 q3 => ?_
    · have z := go _ _ _ _ key
      rw [wipe_wipe] at z
      exact z
    · have e02 := e.trans e2.lift
      have hd2 := e2.hh _ _ hd id
      have fd2 := e2.nw _ (ne_some hd) fd
      refine ht _ _ _ _ _ _ _ _ _ R4 q3 fun b F5 H5 w5 e5 r5 q5 => ?_
      have hd5 := e5.hh _ _ hd2 nfp
      have fd5 := e5.nw _ (ne_some hd2) fd2
      cases b with
      | false => exact ⟨F5, L, KL, w5, e02.trans e5, r5, hd5, fun p hp => sqT_up (e2.ff.trans e5.ff) (hL p hp), hp, by omega, fd5, q5⟩
      | true =>
        refine he _ _ _ _ _ _ _ _ _ (R4.up e5 r5) q5 fun v F6 H6 d6 w6 e6 r6 p6 q6 => ?_
        obtain ⟨kk, rfl, hnew, q6⟩ := q6
        have hd6 := e6.hh _ _ hd5 nfp
        have fd6 := e6.nw _ (ne_some hd5) fd5
        have e06 := (e02.trans e5).trans e6
        have hL6 : ∀ p ∈ L, SqT K F6 p.1 (p.2.map V.int) := fun p hp => sqT_up ((e2.ff.trans e5.ff).trans e6.ff) (hL p hp)
        have hlen : L.length = KL.length := by rw [← hp.length_eq, List.length_map]
        cases p6 with
        | tup hs ha =>
          rw [dpa_ints ha] at hs
          rename_i ax _
          have hLs : ∀ p ∈ L, SqT K H6 p.1 (p.2.map V.int) := fun p hp => sqT_up e6.sub (hL6 p hp)
          refine ⟨ax, kk, L, rfl, sqT_up e6.sub hs, hd6, hLs, fun z => hnew (hp.mem_iff.mp z), by omega, fun L' pm => ?_⟩
          refine ⟨F6, L', kk :: KL, w6, e06.mut hD fd6, W.keep r6 (Same.refl _) (fun b hb => (W.dom r6 b hb).1) fun b hb => upd_ne (fun z => nfp (z ▸ hb)), upd_same, fun p hp => ?_, ?_, by rw [List.length_cons]; omega, fd6, q6⟩
          · rcases List.mem_cons.mp (pm.mem_iff.mp hp) with rfl | h
            · exact hs
            · exact hL6 p h
          · exact (pm.map _).trans (List.Perm.cons _ hp)
  · have e' : Ext W F1 H1 F H := e
    refine ⟨D, L, rfl, hd, fun p hp => sqT_up e.sub (hL p hp), ?_⟩
    rw [show L.length = KL.length by rw [← hp.length_eq, List.length_map]]
    exact k _ F H _ w (e1.trans e) r (.int _) (last KL w q)
theorem de_lenSc {tg iter elt : Expr} {ifs : List Expr} {scope : Scope} {own : List (Str × Nat)} {p pos pos2 : Pos} {wi : TI} {vi : VI W} {g : TG} {vg : VG W} {tt : TT} {vt : VT W} {te : TE} {t : VE W} (hu : X.A.units + 64 < cLine) (hgl : Gl X "len") (hm : X.mg "len" = none)
    (hc : X.calm = true) (hN : X.N.Nodup) (hi : DI X W tg iter wi vi) (ok : BlkOk X.N X.env.scope scope own)
    (hg : ∀ (s : Shared) (H : Hp) (C : Addr) (cl : List (Str × Addr)) (fp : List Addr), DG (X.blk s H scope (compEnvC scope cl C X.env) fp) W tg g vg) (ht : ∀ (s : Shared) (H : Hp) (C : Addr) (cl : List (Str × Addr)) (fp : List Addr), DTs (X.blk s H scope (compEnvC scope cl C X.env) fp) W ifs tt vt)
    (he : ∀ (s : Shared) (H : Hp) (C : Addr) (cl : List (Str × Addr)) (fp : List Addr), DE (X.blk s H scope (compEnvC scope cl C X.env) fp) W elt te t) (go : GOnly g (own.map (·.2))) (hs : ∀ x, foldedSetIterable iter X.env x = pure x := by intro _; rfl)
    (na : starEach [.SetComp elt [⟨tg, iter, ifs, 0⟩] scope pos2] X.env = (false, eval (.SetComp elt [⟨tg, iter, ifs, 0⟩] scope pos2) X.env) :: starEach [] X.env := by rfl) :
    DE X W (.Call (.Name "len" p) [.SetComp elt [⟨tg, iter, ifs, 0⟩] scope pos2] [] pos) (tLenS X.K X.prog X.w (tScT X.K X.prog X.w wi g tt te (own.map (·.2)))) (vLenSc vi vg vt t (own.map (·.2))) :=
  ⟨pe_lenS hgl hm (pe_scT hc hu hN hi.pe ok (fun s H C cl fp => (hg s H C cl fp).pe) (fun s H C cl fp => (ht s H C cl fp).pe) (fun s H C cl fp => (he s H C cl fp).pe) hs) na,
    snd_lenSc hi.sn (hg X.s_0 X.H_0 0 [] []).sn (ht X.s_0 X.H_0 0 [] []).sn (he X.s_0 X.H_0 0 [] []).sn go⟩
/-! ### sorted(set(a tuple of ints)) -/
def tSrtSet (K : PySem.W.Frag) (ta : TE) : TE := fun σ H Q => ta σ H fun x H1 => ∃ (a : Addr) (ns : List Int), x = .ref a ∧ SqT K H1 a (ns.map V.int) ∧ ns.length < 60 ∧ ∀ (ns' : List Int) (p : Addr), ns'.Pairwise (· < ·) → (∀ k : Int, k ∈ ns' ↔ k ∈ ns) → H1 p = none → Q (.ref p) (upd H1 p (.lst (ns'.map V.int)))
theorem pe_srtSet {a : Expr} {ta : TE} {p p2 q pos : Pos} (hc : X.calm = true) (hg : Gl X "sorted") (hm : X.mg "sorted" = none) (hg2 : Gl X "set") (hm2 : X.mg "set" = none) (ha : PE X a ta)
    (na : starEach [a] X.env = (false, eval a X.env) :: starEach [] X.env := by rfl) : PE X (.Call (.Name "sorted" p) [.Call (.Name "set" p2) [a] [] q] [] pos) (tSrtSet X.K ta) := by
  refine ⟨fun pins s σ H Q I h => ?_⟩
  refine Call_ (ld_blt I hg hm (u := .builtin "sorted") (by decide +kernel) ?_)
  refine PyProof.Rows.callWith_builtin1 (PyProof.Rows.args_cons ?_ rfl) rfl rfl
  refine Call_ (ld_blt I hg2 hm2 PyProof.Rows.boot_set ?_)
  refine PyProof.Rows.callWith_type1 (PyProof.Rows.args_cons (thn (ha.run pins s σ H _ I h) fun v s1 ⟨x, H1, I1, r1, q1⟩ => PyProof.Rows.args_nil ?_) na) na rfl
  obtain ⟨l, ns, rfl, hq, h1, q1⟩ := q1
  cases r1
  obtain ⟨its, r, pl, hz⟩ := I1.tuple hq
  refine call_set_tupI ns (I1.ok.hd hc) (show s1.heap.IsTuple l its.toArray from pl) (by simpa using r.ints) (by unfold scanBound; omega) fun h' tk c R hcn hk => ?_
  refine PyProof.Rows.args_nil ?_
  have I2 : Inv X pins σ H1 { s1 with heap := h', toks := tk } := I1.kept hk
  have R2 : SetR X.w ({ s1 with heap := h', toks := tk } : Shared).heap s1.heap.objs.size (fun j => decide (j ∈ ns)) c := R
  generalize hs2 : ({ s1 with heap := h', toks := tk } : Shared) = s2 at I2 R2 ⊢
  refine sorted_set R2 (I2.ok.hd hc) (by omega) fun s' p out cc ms kk g o hp hgt hi hs hm' hl => ?_
  have hlen : (ms.map V.int).length ≤ sizeLine := by rw [List.length_map, hl, sizeLine_eq]; omega
  have hn : H1 p = none := I2.hok.fresh hp
  have J : Inv X pins σ (upd H1 p (.lst (ms.map V.int))) { s2 with heap := s'.heap, gens := s'.gens, drawn := s'.drawn, toks := s'.toks } :=
    I2.call (ch := []) (Un.laid kk hp hn) (I2.hok.laid kk hp ⟨hlen, out.toList, cc, vals_of_ints hi, hgt⟩) (by rw [g]; exact I2.bare) (fun _ z => nomatch z)
  have e : s' = { s2 with heap := s'.heap, gens := s'.gens, drawn := s'.drawn, toks := s'.toks } := by
    cases s'
    cases s2
    cases o
    rfl
  rw [e]
  exact ⟨.ref p, _, J, rfl, q1 ms p hs (fun k => by rw [hm' k]; simp) hn⟩
def vSrtSet (t : VE W) : VE W := fun s w Q => t s w fun d w1 => ∃ ns : List Int, d = dT ns ∧ ns.length < 60 ∧ ∀ ns' : List Int, ns'.Pairwise (· < ·) → (∀ k : Int, k ∈ ns' ↔ k ∈ ns) → Q (.list (ns'.map .int)) w1
theorem de_srtSet {a : Expr} {ta : TE} {t : VE W} {p p2 q pos : Pos} (hc : X.calm = true) (hg : Gl X "sorted") (hm : X.mg "sorted" = none) (hg2 : Gl X "set") (hm2 : X.mg "set" = none) (ha : DE X W a ta t)
    (na : starEach [a] X.env = (false, eval a X.env) :: starEach [] X.env := by rfl) : DE X W (.Call (.Name "sorted" p) [.Call (.Name "set" p2) [a] [] q] [] pos) (tSrtSet X.K ta) (vSrtSet t) :=
  ⟨pe_srtSet hc hg hm hg2 hm2 ha.pe na, fun F0 H0 F H σ s w Q' Q R q k => by
    refine ha.sn _ _ _ _ _ _ _ _ _ R q fun v F1 H1 d w1 e1 r1 p1 q1 => ?_
    obtain ⟨ns, rfl, hl, q1⟩ := q1
    cases p1 with
    | tup hs hd =>
      rw [dpa_ints hd] at hs
      refine ⟨_, ns, rfl, sqT_up e1.sub hs, hl, fun ns' p hw hm hp => ?_⟩
      obtain ⟨x, y⟩ := new_lst (K := X.K) e1.sub hp (ints_dpa ns')
      exact k _ _ _ _ w1 (e1.trans x.lift) (x.keepR r1) y (q1 ns' hw hm)⟩
end
end L2.VL
/-! part Tp -/
set_option Elab.async false
set_option linter.all false
set_option autoImplicit false
set_option maxRecDepth 100000
set_option maxHeartbeats 4000000
namespace L2.VL
open PySem PySem.Spec PyProof.Rows L2 C8
/-! ### what the walk asks of the top -/
structure Tp (K : PySem.W.Frag) (mg : Str → Option Value) : Prop where
  f_groups : ∃ fd, FunD K "groups" "groups" (defArgs s_groups) (defBody s_groups) (defScope s_groups) [] [] (He.fAd K ("groups", none)) fd
  f_all_ways : ∃ fd, FunD K "all_ways" "all_ways" (defArgs s_all_ways) (defBody s_all_ways) (defScope s_all_ways) [] [] (He.fAd K ("all_ways", none)) fd
  f_group_of : ∃ fd, FunD K "group_of" "group_of" (defArgs s_group_of) (defBody s_group_of) (defScope s_group_of) [] [] (He.fAd K ("group_of", none)) fd
  f_first_apart : ∃ fd, FunD K "first_apart" "first_apart" (defArgs s_first_apart) (defBody s_first_apart) (defScope s_first_apart) [] [] (He.fAd K ("first_apart", none)) fd
  f_joins : ∃ fd, FunD K "joins" "joins" (defArgs s_joins) (defBody s_joins) (defScope s_joins) [] [] (He.fAd K ("joins", none)) fd
  f_crosses : ∃ fd, FunD K "crosses" "crosses" (defArgs s_crosses) (defBody s_crosses) (defScope s_crosses) [] [] (He.fAd K ("crosses", none)) fd
  f_ratio : ∃ fd, FunD K "ratio" "ratio" (defArgs s_ratio) (defBody s_ratio) (defScope s_ratio) [.int 1] [] (He.fAd K ("ratio", none)) fd
  f_plus : ∃ fd, FunD K "plus" "plus" (defArgs s_plus) (defBody s_plus) (defScope s_plus) [] [] (He.fAd K ("plus", none)) fd
  f_minus : ∃ fd, FunD K "minus" "minus" (defArgs s_minus) (defBody s_minus) (defScope s_minus) [] [] (He.fAd K ("minus", none)) fd
  f_times : ∃ fd, FunD K "times" "times" (defArgs s_times) (defBody s_times) (defScope s_times) [] [] (He.fAd K ("times", none)) fd
  f_over : ∃ fd, FunD K "over" "over" (defArgs s_over) (defBody s_over) (defScope s_over) [] [] (He.fAd K ("over", none)) fd
  f_less : ∃ fd, FunD K "less" "less" (defArgs s_less) (defBody s_less) (defScope s_less) [] [] (He.fAd K ("less", none)) fd
  f_total : ∃ fd, FunD K "total" "total" (defArgs s_total) (defBody s_total) (defScope s_total) [] [] (He.fAd K ("total", none)) fd
  f_is_moat : ∃ fd, FunD K "is_moat" "is_moat" (defArgs s_is_moat) (defBody s_is_moat) (defScope s_is_moat) [] [] (He.fAd K ("is_moat", none)) fd
  f_are_moats : ∃ fd, FunD K "are_moats" "are_moats" (defArgs s_are_moats) (defBody s_are_moats) (defScope s_are_moats) [] [] (He.fAd K ("are_moats", none)) fd
  f_keeps_costs : ∃ fd, FunD K "keeps_costs" "keeps_costs" (defArgs s_keeps_costs) (defBody s_keeps_costs) (defScope s_keeps_costs) [] [] (He.fAd K ("keeps_costs", none)) fd
  f_is_paper : ∃ fd, FunD K "is_paper" "is_paper" (defArgs s_is_paper) (defBody s_is_paper) (defScope s_is_paper) [] [] (He.fAd K ("is_paper", none)) fd
  f_worth : ∃ fd, FunD K "worth" "worth" (defArgs s_worth) (defBody s_worth) (defScope s_worth) [] [] (He.fAd K ("worth", none)) fd
  f_GrowthU_initU : ∃ fd, FunD K "__init__" "Growth.__init__" (defArgs s_GrowthU_initU) (defBody s_GrowthU_initU) (defScope s_GrowthU_initU) [] [] (He.fAd K ("Growth", some "__init__")) fd
  f_Growth_is_open : ∃ fd, FunD K "is_open" "Growth.is_open" (defArgs s_Growth_is_open) (defBody s_Growth_is_open) (defScope s_Growth_is_open) [] [] (He.fAd K ("Growth", some "is_open")) fd
  f_Growth_came : ∃ fd, FunD K "came" "Growth.came" (defArgs s_Growth_came) (defBody s_Growth_came) (defScope s_Growth_came) [] [] (He.fAd K ("PairGrowth", some "came")) fd
  f_Growth_rested : ∃ fd, FunD K "rested" "Growth.rested" (defArgs s_Growth_rested) (defBody s_Growth_rested) (defScope s_Growth_rested) [] [] (He.fAd K ("PairGrowth", some "rested")) fd
  f_Growth_waits : ∃ fd, FunD K "waits" "Growth.waits" (defArgs s_Growth_waits) (defBody s_Growth_waits) (defScope s_Growth_waits) [] [] (He.fAd K ("PairGrowth", some "waits")) fd
  f_Growth_between : ∃ fd, FunD K "between" "Growth.between" (defArgs s_Growth_between) (defBody s_Growth_between) (defScope s_Growth_between) [] [] (He.fAd K ("PairGrowth", some "between")) fd
  f_Growth_full_way : ∃ fd, FunD K "full_way" "Growth.full_way" (defArgs s_Growth_full_way) (defBody s_Growth_full_way) (defScope s_Growth_full_way) [] [] (He.fAd K ("PairGrowth", some "full_way")) fd
  f_Growth_take_full_ways : ∃ fd, FunD K "take_full_ways" "Growth.take_full_ways" (defArgs s_Growth_take_full_ways) (defBody s_Growth_take_full_ways) (defScope s_Growth_take_full_ways) [] [] (He.fAd K ("PairGrowth", some "take_full_ways")) fd
  f_Growth_rates : ∃ fd, FunD K "rates" "Growth.rates" (defArgs s_Growth_rates) (defBody s_Growth_rates) (defScope s_Growth_rates) [] [] (He.fAd K ("PairGrowth", some "rates")) fd
  f_Growth_step : ∃ fd, FunD K "step" "Growth.step" (defArgs s_Growth_step) (defBody s_Growth_step) (defScope s_Growth_step) [] [] (He.fAd K ("PairGrowth", some "step")) fd
  f_Growth_pass_time : ∃ fd, FunD K "pass_time" "Growth.pass_time" (defArgs s_Growth_pass_time) (defBody s_Growth_pass_time) (defScope s_Growth_pass_time) [] [] (He.fAd K ("PairGrowth", some "pass_time")) fd
  f_Growth_still_open : ∃ fd, FunD K "still_open" "Growth.still_open" (defArgs s_Growth_still_open) (defBody s_Growth_still_open) (defScope s_Growth_still_open) [] [] (He.fAd K ("PairGrowth", some "still_open")) fd
  f_Growth_grow : ∃ fd, FunD K "grow" "Growth.grow" (defArgs s_Growth_grow) (defBody s_Growth_grow) (defScope s_Growth_grow) [] [] (He.fAd K ("PairGrowth", some "grow")) fd
  f_Growth_paper : ∃ fd, FunD K "paper" "Growth.paper" (defArgs s_Growth_paper) (defBody s_Growth_paper) (defScope s_Growth_paper) [] [] (He.fAd K ("PairGrowth", some "paper")) fd
  f_PairGrowth_is_open : ∃ fd, FunD K "is_open" "PairGrowth.is_open" (defArgs s_PairGrowth_is_open) (defBody s_PairGrowth_is_open) (defScope s_PairGrowth_is_open) [] [] (He.fAd K ("PairGrowth", some "is_open")) fd
  f_told : ∃ fd, FunD K "told" "told" (defArgs s_told) (defBody s_told) (defScope s_told) [] [] (He.fAd K ("told", none)) fd
  f_moats : ∃ fd, FunD K "moats" "moats" (defArgs s_moats) (defBody s_moats) (defScope s_moats) [] [] (He.fAd K ("moats", none)) fd
  f__law_pool : ∃ fd, FunD K "_law_pool" "_law_pool" (defArgs s__law_pool) (defBody s__law_pool) (defScope s__law_pool) [] [] (He.fAd K ("_law_pool", none)) fd
  f__law_draw : ∃ fd, FunD K "_law_draw" "_law_draw" (defArgs s__law_draw) (defBody s__law_draw) (defScope s__law_draw) [] [] (He.fAd K ("_law_draw", none)) fd
  f__law_pick : ∃ fd, FunD K "_law_pick" "_law_pick" (defArgs s__law_pick) (defBody s__law_pick) (defScope s__law_pick) [] [] (He.fAd K ("_law_pick", none)) fd
  f__law_gcd : ∃ fd, FunD K "_law_gcd" "_law_gcd" (defArgs s__law_gcd) (defBody s__law_gcd) (defScope s__law_gcd) [] [] (He.fAd K ("_law_gcd", none)) fd
  f__law_ratio : ∃ fd, FunD K "_law_ratio" "_law_ratio" (defArgs s__law_ratio) (defBody s__law_ratio) (defScope s__law_ratio) [] [] (He.fAd K ("_law_ratio", none)) fd
  f__law_plus : ∃ fd, FunD K "_law_plus" "_law_plus" (defArgs s__law_plus) (defBody s__law_plus) (defScope s__law_plus) [] [] (He.fAd K ("_law_plus", none)) fd
  f__law_minus : ∃ fd, FunD K "_law_minus" "_law_minus" (defArgs s__law_minus) (defBody s__law_minus) (defScope s__law_minus) [] [] (He.fAd K ("_law_minus", none)) fd
  f__law_times : ∃ fd, FunD K "_law_times" "_law_times" (defArgs s__law_times) (defBody s__law_times) (defScope s__law_times) [] [] (He.fAd K ("_law_times", none)) fd
  f__law_less : ∃ fd, FunD K "_law_less" "_law_less" (defArgs s__law_less) (defBody s__law_less) (defScope s__law_less) [] [] (He.fAd K ("_law_less", none)) fd
  f__law_sum : ∃ fd, FunD K "_law_sum" "_law_sum" (defArgs s__law_sum) (defBody s__law_sum) (defScope s__law_sum) [] [] (He.fAd K ("_law_sum", none)) fd
  f__law_cost : ∃ fd, FunD K "_law_cost" "_law_cost" (defArgs s__law_cost) (defBody s__law_cost) (defScope s__law_cost) [] [] (He.fAd K ("_law_cost", none)) fd
  f__law_way : ∃ fd, FunD K "_law_way" "_law_way" (defArgs s__law_way) (defBody s__law_way) (defScope s__law_way) [] [] (He.fAd K ("_law_way", none)) fd
  f__law_net : ∃ fd, FunD K "_law_net" "_law_net" (defArgs s__law_net) (defBody s__law_net) (defScope s__law_net) [] [] (He.fAd K ("_law_net", none)) fd
  f__law_pairs : ∃ fd, FunD K "_law_pairs" "_law_pairs" (defArgs s__law_pairs) (defBody s__law_pairs) (defScope s__law_pairs) [] [] (He.fAd K ("_law_pairs", none)) fd
  f__law_group : ∃ fd, FunD K "_law_group" "_law_group" (defArgs s__law_group) (defBody s__law_group) (defScope s__law_group) [] [] (He.fAd K ("_law_group", none)) fd
  f__law_joins : ∃ fd, FunD K "_law_joins" "_law_joins" (defArgs s__law_joins) (defBody s__law_joins) (defScope s__law_joins) [] [] (He.fAd K ("_law_joins", none)) fd
  f__law_price : ∃ fd, FunD K "_law_price" "_law_price" (defArgs s__law_price) (defBody s__law_price) (defScope s__law_price) [] [] (He.fAd K ("_law_price", none)) fd
  f__law_open : ∃ fd, FunD K "_law_open" "_law_open" (defArgs s__law_open) (defBody s__law_open) (defScope s__law_open) [] [] (He.fAd K ("_law_open", none)) fd
  f__law_task : ∃ fd, FunD K "_law_task" "_law_task" (defArgs s__law_task) (defBody s__law_task) (defScope s__law_task) [] [] (He.fAd K ("_law_task", none)) fd
  f__law_any_task : ∃ fd, FunD K "_law_any_task" "_law_any_task" (defArgs s__law_any_task) (defBody s__law_any_task) (defScope s__law_any_task) [] [] (He.fAd K ("_law_any_task", none)) fd
  f__law_set : ∃ fd, FunD K "_law_set" "_law_set" (defArgs s__law_set) (defBody s__law_set) (defScope s__law_set) [] [] (He.fAd K ("_law_set", none)) fd
  f__law_drawn_paper : ∃ fd, FunD K "_law_drawn_paper" "_law_drawn_paper" (defArgs s__law_drawn_paper) (defBody s__law_drawn_paper) (defScope s__law_drawn_paper) [] [] (He.fAd K ("_law_drawn_paper", none)) fd
  f__law_joining : ∃ fd, FunD K "_law_joining" "_law_joining" (defArgs s__law_joining) (defBody s__law_joining) (defScope s__law_joining) [] [] (He.fAd K ("_law_joining", none)) fd
  f_law : ∃ fd, FunD K "law" "law" (defArgs s_law) (defBody s_law) (defScope s_law) [] [] (He.fAd K ("law", none)) fd
  g_groups : mg "groups" = some (.ref (He.ga K "groups"))
  g_all_ways : mg "all_ways" = some (.ref (He.ga K "all_ways"))
  g_group_of : mg "group_of" = some (.ref (He.ga K "group_of"))
  g_first_apart : mg "first_apart" = some (.ref (He.ga K "first_apart"))
  g_joins : mg "joins" = some (.ref (He.ga K "joins"))
  g_crosses : mg "crosses" = some (.ref (He.ga K "crosses"))
  g_ratio : mg "ratio" = some (.ref (He.ga K "ratio"))
  g_plus : mg "plus" = some (.ref (He.ga K "plus"))
  g_minus : mg "minus" = some (.ref (He.ga K "minus"))
  g_times : mg "times" = some (.ref (He.ga K "times"))
  g_over : mg "over" = some (.ref (He.ga K "over"))
  g_less : mg "less" = some (.ref (He.ga K "less"))
  g_total : mg "total" = some (.ref (He.ga K "total"))
  g_is_moat : mg "is_moat" = some (.ref (He.ga K "is_moat"))
  g_are_moats : mg "are_moats" = some (.ref (He.ga K "are_moats"))
  g_keeps_costs : mg "keeps_costs" = some (.ref (He.ga K "keeps_costs"))
  g_is_paper : mg "is_paper" = some (.ref (He.ga K "is_paper"))
  g_worth : mg "worth" = some (.ref (He.ga K "worth"))
  g_told : mg "told" = some (.ref (He.ga K "told"))
  g_moats : mg "moats" = some (.ref (He.ga K "moats"))
  g__law_pool : mg "_law_pool" = some (.ref (He.ga K "_law_pool"))
  g__law_draw : mg "_law_draw" = some (.ref (He.ga K "_law_draw"))
  g__law_pick : mg "_law_pick" = some (.ref (He.ga K "_law_pick"))
  g__law_gcd : mg "_law_gcd" = some (.ref (He.ga K "_law_gcd"))
  g__law_ratio : mg "_law_ratio" = some (.ref (He.ga K "_law_ratio"))
  g__law_plus : mg "_law_plus" = some (.ref (He.ga K "_law_plus"))
  g__law_minus : mg "_law_minus" = some (.ref (He.ga K "_law_minus"))
  g__law_times : mg "_law_times" = some (.ref (He.ga K "_law_times"))
  g__law_less : mg "_law_less" = some (.ref (He.ga K "_law_less"))
  g__law_sum : mg "_law_sum" = some (.ref (He.ga K "_law_sum"))
  g__law_cost : mg "_law_cost" = some (.ref (He.ga K "_law_cost"))
  g__law_way : mg "_law_way" = some (.ref (He.ga K "_law_way"))
  g__law_net : mg "_law_net" = some (.ref (He.ga K "_law_net"))
  g__law_pairs : mg "_law_pairs" = some (.ref (He.ga K "_law_pairs"))
  g__law_group : mg "_law_group" = some (.ref (He.ga K "_law_group"))
  g__law_joins : mg "_law_joins" = some (.ref (He.ga K "_law_joins"))
  g__law_price : mg "_law_price" = some (.ref (He.ga K "_law_price"))
  g__law_open : mg "_law_open" = some (.ref (He.ga K "_law_open"))
  g__law_task : mg "_law_task" = some (.ref (He.ga K "_law_task"))
  g__law_any_task : mg "_law_any_task" = some (.ref (He.ga K "_law_any_task"))
  g__law_set : mg "_law_set" = some (.ref (He.ga K "_law_set"))
  g__law_drawn_paper : mg "_law_drawn_paper" = some (.ref (He.ga K "_law_drawn_paper"))
  g__law_joining : mg "_law_joining" = some (.ref (He.ga K "_law_joining"))
  g_law : mg "law" = some (.ref (He.ga K "law"))
  g_ZERO : mg "ZERO" = some (.ref (He.ga K "ZERO"))
  g_Growth : mg "Growth" = some (.ref (He.ga K "Growth"))
  g_PairGrowth : mg "PairGrowth" = some (.ref (He.ga K "PairGrowth"))
  z_len : mg "len" = none
  z_range : mg "range" = none
  z_sorted : mg "sorted" = none
  z_tuple : mg "tuple" = none
  z_list : mg "list" = none
  z_enumerate : mg "enumerate" = none
  z_reversed : mg "reversed" = none
  z_any : mg "any" = none
  z_all : mg "all" = none
  z_sum : mg "sum" = none
  z_min : mg "min" = none
  z_abs : mg "abs" = none
  z_int : mg "int" = none
  z_set : mg "set" = none
  zero : He.tupB K "ZERO" [.int 0, .int 1] = true
  g_gcd : mg "gcd" = some (.builtin "math.gcd")
theorem zeroD {K : PySem.W.Frag} {mg : Str → Option Value} (T : Tp K mg) (F : Hp) : Dp K F (.ref (He.ga K "ZERO")) (dT [0, 1]) := .tup (He.tupB_ok T.zero F) (ints_dpa [0, 1])
theorem hu64 {A : Around} {k : Nat} (hr : Room k A) : A.units + 64 < cLine := hr.units
theorem hu65 {A : Around} {k : Nat} (hr : Room k A) : A.units + 65 < cLine := by have := hr.un; omega
def qNotB : PO2 := fun d e Q => ∃ a b : Bool, d = .bool a ∧ e = .bool b ∧ Q (.bool (!decide (a = b)))
theorem so_notB {K : PySem.W.Frag} : SndO2 K rNotB qNotB := fun F H x y d e Q' Q sf p1 p2 ⟨i, j, e1, e2, q⟩ k => by
  subst e1 e2; cases p1; cases p2
  exact ⟨i, j, rfl, rfl, k _ F H _ (Ext.refl sf) (.bl _) q⟩
section
variable {X : Cx} {W : Wo} {es : List Expr} {tas : TA} {us : VA W} {e : Expr} {pos p : Pos} {x : Str}
theorem de_cbf {id : String} {r : List V → Hp → VK → Prop} {q : POn} (hc : CallR X (.builtin id) r) (hq : SndC X.K r q) (hg : Gl X x) (hm : X.mg x = some (.builtin id)) (h : DA X W (e :: es) tas us)
    (hdb : (x == ("__debug__" : Str)) = false := by decide) (he : starEach (e :: es) X.env = (false, eval e X.env) :: starEach es X.env := by rfl) (hpl : (backTo pos (starEach es X.env)).any (·.1) = false := by rfl) :
    DE X W (.Call (.Name x p) (e :: es) [] pos) (tCB r tas) (vCB q us) := ⟨pe_callBfun hc hg hm h.pe hdb he hpl, snd_cb hq h.sn⟩
end
section
variable {P : Program} {w : World} {K : PySem.W.Frag} {mg : Str → Option Value} {base : Heap}
/-- a def of the top, by its body -/
theorem calV {W : Wo} {N ps : List Str} {k : Nat} {S : Spec W} {x : Str} {st : Stmt} {f : Addr} (F : ∃ fd, FunD K x x (defArgs st) (defBody st) (defScope st) [] [] f fd) (g : mg x = some (.ref f)) (SC : FnScope N ps (defScope st))
    (hb : ∀ (kV doc pm : Value) (an : Option Addr) (cdv ct : Value) (us : List Value), us.length = ps.length → bindArgs (PySem.W.fnOf x x (defArgs st) (defBody st) (defScope st) .none kV doc pm an cdv ct) ⟨us, []⟩ = pure (ps.zip us))
    (hlen : ∀ xs w Q, S xs w Q → xs.length = ps.length)
    (hbody : ∀ (cdv : Value) (A : Around) (outer : List Env) (s : Shared) (H : Hp) (E : XK), Room k (A.deeper (envOfC x (defScope st) s.heap.objs.size f cdv)) →
      ∃ ts t, DSs (cxOf CX0 P w K mg base N x (defScope st) f cdv A outer s H E).nox W (defBody st) ts t ∧ ∀ xs w Q, S xs w Q → t { nx := fun _ w => Q .none w, rt := Q } (xs ++ List.replicate (N.length - xs.length) .un) w) :
    Cal P w K mg base (k + 1) x (spW K W S) [] := by
  obtain ⟨fd, F⟩ := F
  exact ⟨f, fd, ps, [], fnV F SC hlen hbody, g, F.kp, F.bindsN hb, .nil⟩
end
end L2.VL
/-! part VP -/
set_option Elab.async false
set_option linter.all false
set_option autoImplicit false
set_option maxRecDepth 100000
set_option maxHeartbeats 4000000
namespace L2.VL
open PySem PySem.Spec PyProof.Rows L2 C8 MW
/-! ### a family of worlds -/
theorem Ext.wr {W : Wo} {F H : Hp} {a : Addr} {o : HO} {w : W.S} (h : Same F H) (r : W.R w F H) (ha : W.fp a) : Ext W F H F (upd H a o) := by
  obtain ⟨hF, hH⟩ := W.dom r a ha
  refine ⟨fun b u e => ?_, Same.refl _, fun b u e n => ?_, fun b e => ?_, fun b _ n => n⟩
  · rw [upd_ne (fun z => by rw [z, hF] at e; cases e)]; exact h b u e
  · rw [upd_ne (fun z : b = a => n (z.symm ▸ ha))]; exact e
  · by_cases hb : b = a
    · subst hb; rw [upd_same]; intro z; cases z
    · rw [upd_ne hb]; exact e
def spWx (K : PySem.W.Frag) {ι : Type} (W : ι → Wo) (S : ∀ i, Spec (W i)) : Sp := fun vs H Q E => ∃ i, spW K (W i) (S i) vs H Q E
section
variable {X : Cx} {ι : Type} {W : ι → Wo} {p pos : Pos}
theorem de_clX (K : PySem.W.Frag) {S : ∀ i, Spec (W i)} {k j : Nat} {x : Str} {e : Expr} {es : List Expr} {tas : TA} {i : ι} {us : VA (W i)} (c : Cal X.prog X.w K X.mg X.base k x (spWx K W S) []) (hr : Room j X.A) (hk : k ≤ j) (hg : Gl X x) (h : DA X (W i) (e :: es) tas us)
    (hK : X.K = K := by rfl) (hdb : (x == ("__debug__" : Str)) = false := by decide) (he : starEach (e :: es) X.env = (false, eval e X.env) :: starEach es X.env := by rfl) (hpl : (backTo pos (starEach es X.env)).any (·.1) = false := by rfl) :
    DE X (W i) (.Call (.Name x p) (e :: es) [] pos) (tCall (spWx K W S) [] E0 tas) (vCl (S i) us) := by
  subst hK
  refine ⟨pe_c c hr hk hg h.pe hdb he hpl, ?_⟩
  intro F0 H0 F H σ s w Q' Q R hq k
  refine h.sn _ _ _ _ _ _ _ _ _ R hq fun vs F1 H1 xs w1 e1 r1 p1 q1 => ?_
  exact ⟨i, F1, _, w1, Q', e1.sub, r1, by rw [List.append_nil]; exact p1, q1, fun v F' H' d w' e r p q => k v F' H' d w' (e1.trans e) r p q⟩
end
section
variable {P : Program} {w : World} {K : PySem.W.Frag} {mg : Str → Option Value} {base : Heap} {x qual : Str} {params : Arguments} {body : List Stmt} {scope : Scope} {dvs : List V} {kws : List (Str × V)} {f : Addr} {fd : FuncData}
theorem fnX {ι : Type} {W : ι → Wo} {N ps : List Str} {k : Nat} {S : ∀ i, Spec (W i)} (F : FunD K x qual params body scope dvs kws f fd) (SC : FnScope N ps scope) (hlen : ∀ i xs w Q, S i xs w Q → xs.length = ps.length)
    (hbody : ∀ (cdv : Value) (A : Around) (outer : List Env) (s : Shared) (H : Hp) (E : XK), Room k (A.deeper (envOfC qual scope s.heap.objs.size f cdv)) →
      ∃ ts, PSs (cxOf CX0 P w K mg base N qual scope f cdv A outer s H E).nox body ts ∧ ∀ i, ∃ t, SndS K (W i) ts t ∧ ∀ xs w Q, S i xs w Q → t { nx := fun _ w => Q .none w, rt := Q } (xs ++ List.replicate (N.length - xs.length) .un) w) :
    FnOk P w K mg base CX0 (k + 1) f fd ps (spWx K W S) := by
  refine F.ok SC (fun vs H Q E h => ?_) (fun cdv A outer s H vs Q E hr h => ?_)
  · obtain ⟨i, F, xs, w, Q', _, _, ha, hs, _⟩ := h
    rw [args_len ha]
    exact hlen _ _ _ _ hs
  · obtain ⟨ts, hp, hd⟩ := hbody cdv A outer s H E hr
    obtain ⟨i, F1, xs, w1, Q', hsub, hw, ha, hs, k⟩ := h
    obtain ⟨t, hd, hv⟩ := hd i
    refine ⟨ts, hp.nox, hd F1 H F1 H _ _ _ _ _ ⟨Ext.refl hsub, hw, ?_, ?_, ?_⟩ (hv xs w1 Q' hs) ⟨fun σ' s' F' H' w' sf R q => ?_, fun v F' H' d w' e r p q => ?_, fun _ _ _ _ _ _ _ q => q, fun _ _ _ _ _ _ _ q => q⟩⟩
    · unfold start
      simp [args_len ha]
    · unfold start
      rw [args_len ha]
      exact slots_start _ ha
    · intro i j ds es hi
      exact (args_noown _ ha i ds hi).elim
    · exact k .non F' H' .none w' R.ext R.wr .non q
    · exact k v F' H' d w' e r p q
/-- from a derivation at every member -/
theorem bodyX {ι : Type} {W : ι → Wo} {X : Cx} {body : List Stmt} (i0 : ι) {ts : TS} {t : ∀ i, VS (W i)} (h : ∀ i, DSs X (W i) body ts (t i)) : PSs X body ts ∧ ∀ i, SndS X.K (W i) ts (t i) := ⟨(h i0).pe, fun i => (h i).sn⟩
theorem calX {ι : Type} {W : ι → Wo} (i0 : ι) {N ps : List Str} {k : Nat} {S : ∀ i, Spec (W i)} {x : Str} {st : Stmt} {f : Addr} (F : ∃ fd, FunD K x x (defArgs st) (defBody st) (defScope st) [] [] f fd) (g : mg x = some (.ref f)) (SC : FnScope N ps (defScope st))
    (hb : ∀ (kV doc pm : Value) (an : Option Addr) (cdv ct : Value) (us : List Value), us.length = ps.length → bindArgs (PySem.W.fnOf x x (defArgs st) (defBody st) (defScope st) .none kV doc pm an cdv ct) ⟨us, []⟩ = pure (ps.zip us))
    (hlen : ∀ i xs w Q, S i xs w Q → xs.length = ps.length)
    (hbody : ∀ (cdv : Value) (A : Around) (outer : List Env) (s : Shared) (H : Hp) (E : XK), Room k (A.deeper (envOfC x (defScope st) s.heap.objs.size f cdv)) →
      ∃ ts, ∃ t : ∀ i, VS (W i), (∀ i, DSs (cxOf CX0 P w K mg base N x (defScope st) f cdv A outer s H E).nox (W i) (defBody st) ts (t i)) ∧ ∀ i xs w Q, S i xs w Q → t i { nx := fun _ w => Q .none w, rt := Q } (xs ++ List.replicate (N.length - xs.length) .un) w) :
    Cal P w K mg base (k + 1) x (spWx K W S) [] := by
  obtain ⟨fd, F⟩ := F
  refine ⟨f, fd, ps, [], fnX F SC hlen (fun cdv A outer s H E hr => ?_), g, F.kp, F.bindsN hb, .nil⟩
  obtain ⟨ts, t, hd, hv⟩ := hbody cdv A outer s H E hr
  exact ⟨ts, (hd i0).pe, fun i => ⟨t i, (hd i).sn, hv i⟩⟩
end
/-! ### xs[:n] -/
section
variable {X : Cx} {W : Wo} {pos p2 : Pos}
def vSlT (t u : VE W) : VE W := fun s w Q => t s w fun d w1 => u s w1 fun e w2 => ∃ (ds : List PyData) (n : Int), d = .list ds ∧ e = .int n ∧ 0 ≤ n ∧ Q (.list (ds.take n.toNat)) w2
theorem de_slT (K : PySem.W.Frag) {a b : Expr} {ta tb : TE} {t u : VE W} (h1 : DE X W a ta t) (h2 : DE X W b tb u) (hK : X.K = K := by rfl) : DE X W (.Subscript a (.Slice none (some b) none p2) pos) (tSl (rSlL K) ta tNoPart (tPart tb)) (vSlT t u) := by
  subst hK
  refine ⟨pe_slice sl_list h1.pe po_none (po_some h2.pe), fun F0 H0 F H σ s w Q' Q R q k => ?_⟩
  refine h1.sn _ _ _ _ _ _ _ _ _ R q fun v F1 H1 d w1 e1 r1 p1 q1 => ?_
  refine h2.sn _ _ _ _ _ _ _ _ _ (R.up e1 r1) q1 fun v2 F2 H2 d2 w2 e2 r2 p2 q2 => ?_
  obtain ⟨ds, n, rfl, rfl, hn, q2⟩ := q2
  cases p2
  have p1' := dp_mono e2.ff p1
  cases p1' with
  | lst hs ha =>
    rename_i a xs
    refine ⟨n, rfl, a, xs, rfl, e2.sub.seq hs, fun p hp => ?_⟩
    have hc : cutV xs none (some n) = xs.take n.toNat := by
      obtain ⟨m, rfl⟩ : ∃ m : Nat, n = m := ⟨n.toNat, by omega⟩
      unfold cutV
      rw [HT.sIx_none, HT.sIx_nat, List.drop_zero, Nat.sub_zero, Int.toNat_natCast]
      rcases Nat.le_total m xs.length with h | h
      · rw [Nat.min_eq_left h]
      · rw [Nat.min_eq_right h, List.take_length, List.take_of_length_le h]
    rw [hc]
    obtain ⟨x, y⟩ := new_lst (K := X.K) e2.sub hp (dpa_take n.toNat ha)
    exact k _ _ _ _ w2 ((e1.trans e2).trans x.lift) (x.keepR r2) y q2
end
/-! ### the pool -/
structure Pl where
  ns : List Int
  i : Int
  j : Int
  k : Int
  m : Int
def Pl.vs (w : Pl) (l : Addr) : List V := [.ref l, .int w.i, .int w.j, .int w.k, .int w.m]
def Pl.get (w : Pl) : Int → Option Int
  | 1 => some w.i
  | 2 => some w.j
  | 3 => some w.k
  | 4 => some w.m
  | _ => none
def Pl.put (w : Pl) (c : Int) (z : Int) : Option Pl := match c with
  | 1 => some { w with i := z }
  | 2 => some { w with j := z }
  | 3 => some { w with k := z }
  | 4 => some { w with m := z }
  | _ => none
abbrev WP (pl : Addr × Addr) : Wo where
  S := Pl
  fp := fun a => a = pl.1 ∨ a = pl.2
  R := fun w F H => pl.1 ≠ pl.2 ∧ F pl.1 = none ∧ F pl.2 = none ∧ H pl.1 = some (.lst (w.vs pl.2)) ∧ H pl.2 = some (.lst (w.ns.map V.int))
  keep := fun ⟨h1, h2, h3, h4, h5⟩ _ hF hH => ⟨h1, hF _ (.inl rfl), hF _ (.inr rfl), (hH _ (.inl rfl)).trans h4, (hH _ (.inr rfl)).trans h5⟩
  dom := fun ⟨h1, h2, h3, h4, h5⟩ a ha => by
    rcases ha with rfl | rfl
    · exact ⟨h2, ne_some h4⟩
    · exact ⟨h3, ne_some h5⟩
theorem nofP (pl : Addr × Addr) : NoF (WP pl) := fun w F F' H ⟨h1, h2, h3, h4, h5⟩ _ hF => ⟨h1, hF _ (.inl rfl), hF _ (.inr rfl), h4, h5⟩
section
variable {X : Cx} {pl : Addr × Addr} {p pos : Pos} {x : Str}
def vPl (pl : Addr × Addr) (i : Nat) (c : Int) : VE (WP pl) := fun s w Q => s[i]? = some (.adr pl.1) ∧ ∃ z, Pl.get w c = some z ∧ Q (.int z) w
theorem pl_at {w : Pl} {l : Addr} {c z : Int} (h : w.get c = some z) : atI (w.vs l) c = some (.int z) := by
  unfold Pl.get at h
  split at h <;> first | (cases h; rfl) | cases h
theorem de_pl (K : PySem.W.Frag) (i : Nat) {c : Int} {k : Nat} {p1 p2 : Pos} (hK : X.K = K := by rfl) (hN : X.N[i]? = some x := by rfl) (hv : Vis X.env.scope x := by first | exact Or.inl rfl | exact Or.inr (Or.inl rfl) | exact Or.inr (Or.inr rfl)) (hd : (x == ("__debug__" : Str)) = false := by decide)
    (hcd : (x == ("__classdict__" : Str)) = false := by decide) (hs : PlainIx (.Constant (.int c) k p2) := by intro _ _; rfl) : DE X (WP pl) (.Subscript (.Name x p1) (.Constant (.int c) k p2) pos) (tOp (rIx K) (tVar i) (tC (.int c))) (vPl pl i c) := by
  subst hK
  refine ⟨pe_ix ix_seq (pe_var hN hv hd hcd) pe_int hs, fun F0 H0 F H σ s w Q' Q R q k => ?_⟩
  obtain ⟨e, z, hz, q⟩ := q
  exact ⟨.ref pl.1, R.sl i _ e, .inl ⟨pl.1, _, c, .int z, rfl, rfl, .inl (.inl R.wr.2.2.2.1), pl_at hz, k (.int z) F H (.int z) w (Ext.refl R.sub) R.wr (.int z) q⟩⟩
/-- pool[0][e] -/
def vPl0 (pl : Addr × Addr) (i : Nat) (t : VE (WP pl)) : VE (WP pl) := fun s w Q => s[i]? = some (.adr pl.1) ∧ t s w fun d w1 => ∃ n : Int, d = .int n ∧ 0 ≤ n ∧ ∃ z, w1.ns[n.toNat]? = some z ∧ Q (.int z) w1
theorem de_pl0 (K : PySem.W.Frag) (i : Nat) {k : Nat} {p1 p2 p3 : Pos} {e : Expr} {te : TE} {t : VE (WP pl)} (h : DE X (WP pl) e te t) (hK : X.K = K := by rfl) (hN : X.N[i]? = some x := by rfl) (hv : Vis X.env.scope x := by first | exact Or.inl rfl | exact Or.inr (Or.inl rfl) | exact Or.inr (Or.inr rfl)) (hd : (x == ("__debug__" : Str)) = false := by decide)
    (hcd : (x == ("__classdict__" : Str)) = false := by decide) (hs0 : PlainIx (.Constant (.int 0) k p2) := by intro _ _; rfl) (hs : PlainIx e := by intro _ _; rfl) : DE X (WP pl) (.Subscript (.Subscript (.Name x p1) (.Constant (.int 0) k p2) p3) e pos) (tOp (rIx K) (tOp (rIx K) (tVar i) (tC (.int 0))) te) (vPl0 pl i t) := by
  subst hK
  refine ⟨pe_ix ix_seq (pe_ix ix_seq (pe_var hN hv hd hcd) pe_int hs0) h.pe hs, fun F0 H0 F H σ s w Q' Q R q k => ?_⟩
  obtain ⟨e, q⟩ := q
  refine ⟨.ref pl.1, R.sl i _ e, .inl ⟨pl.1, w.vs pl.2, 0, .ref pl.2, rfl, rfl, .inl (.inl R.wr.2.2.2.1), rfl, ?_⟩⟩
  refine h.sn _ _ _ _ _ _ _ _ _ R q fun v F1 H1 d w1 e1 r1 p1 q1 => ?_
  obtain ⟨n, rfl, hn, z, hz, q1⟩ := q1
  cases p1
  obtain ⟨m, rfl⟩ : ∃ m : Nat, n = m := ⟨n.toNat, by omega⟩
  have hr : H1 pl.2 = some (.lst (w1.ns.map V.int)) := r1.2.2.2.2
  exact .inl ⟨pl.2, _, _, .int z, rfl, rfl, .inl (.inl hr), atI_nat (by rw [List.getElem?_map, show w1.ns[m]? = some z from hz]; rfl), k (.int z) F1 H1 (.int z) w1 e1 r1 (.int z) q1⟩
/-- len(pool[0]) -/
def vPlen (pl : Addr × Addr) (i : Nat) : VE (WP pl) := fun s w Q => s[i]? = some (.adr pl.1) ∧ Q (.int w.ns.length) w
theorem de_plen (K : PySem.W.Frag) (i : Nat) {k : Nat} {p1 p2 p3 p4 : Pos} (hg : Gl X "len") (hm : X.mg "len" = none) (hK : X.K = K := by rfl) (hN : X.N[i]? = some x := by rfl) (hv : Vis X.env.scope x := by first | exact Or.inl rfl | exact Or.inr (Or.inl rfl) | exact Or.inr (Or.inr rfl)) (hd : (x == ("__debug__" : Str)) = false := by decide)
    (hcd : (x == ("__classdict__" : Str)) = false := by decide) (hs0 : PlainIx (.Constant (.int 0) k p2) := by intro _ _; rfl)
    (hs : starEach [.Subscript (.Name x p1) (.Constant (.int 0) k p2) p3] X.env = (false, eval (.Subscript (.Name x p1) (.Constant (.int 0) k p2) p3) X.env) :: starEach [] X.env := by rfl) : DE X (WP pl) (.Call (.Name "len" p4) [.Subscript (.Name x p1) (.Constant (.int 0) k p2) p3] [] pos)
      (tCB (fun xs H Q => ∃ p ys, xs = [.ref p] ∧ (SqL K H p ys ∨ SqT K H p ys) ∧ Q (.int ys.length) H) (tCons (tOp (rIx K) (tVar i) (tC (.int 0))) tNil)) (vPlen pl i) := by
  subst hK
  refine ⟨pe_callB call_len_seq hg hm PySem.boot_len (pa_cons (pe_ix ix_seq (pe_var hN hv hd hcd) pe_int hs0) pa_nil hs), fun F0 H0 F H σ s w Q' Q R q k => ?_⟩
  obtain ⟨e, q⟩ := q
  refine ⟨.ref pl.1, R.sl i _ e, .inl ⟨pl.1, w.vs pl.2, 0, .ref pl.2, rfl, rfl, .inl (.inl R.wr.2.2.2.1), rfl, ?_⟩⟩
  refine ⟨pl.2, w.ns.map V.int, rfl, .inl (.inl (.inl R.wr.2.2.2.2)), ?_⟩
  rw [List.length_map]
  exact k _ F H _ w (Ext.refl R.sub) R.wr (.int _) q
/-- pool[c] = .. -/
def vPlset (pl : Addr × Addr) (i : Nat) (c : Int) (t : VE (WP pl)) : VS (WP pl) := fun D s w => t s w fun d w1 => s[i]? = some (.adr pl.1) ∧ ∃ z, d = .int z ∧ ∃ w', Pl.put w1 c z = some w' ∧ D.nx s w'
theorem pl_set {w w' : Pl} {l : Addr} {c z : Int} (h : w.put c z = some w') : ∃ j, ixN (w.vs l).length c = some j ∧ (w.vs l).set j (.int z) = w'.vs l ∧ w'.ns = w.ns := by
  unfold Pl.put at h
  split at h <;> first | (cases h; exact ⟨_, rfl, rfl, rfl⟩) | cases h
theorem ds_plset (i : Nat) {c : Int} {k : Nat} {p1 p2 : Pos} {e : Expr} {te : TE} {t : VE (WP pl)} (h : DE X (WP pl) e te t) (hN : X.N[i]? = some x := by rfl) (hv : Vis X.env.scope x := by first | exact Or.inl rfl | exact Or.inr (Or.inl rfl) | exact Or.inr (Or.inr rfl)) (hd : (x == ("__debug__" : Str)) = false := by decide)
    (hcd : (x == ("__classdict__" : Str)) = false := by decide) {pos' : Pos} (hs : swapsWithSole [.Subscript (.Name x p1) (.Constant (.int c) k p2) pos'] e pos.line X.env = pure false := by rfl) (hw : swappedStores [.Subscript (.Name x p1) (.Constant (.int c) k p2) pos'] e X.env = pure none := by rfl)
    (h1 : (assignEach [.Subscript (.Name x p1) (.Constant (.int c) k p2) pos'] X.env).map (·.2) = [assign (.Subscript (.Name x p1) (.Constant (.int c) k p2) pos') X.env] := by rfl) :
    DS X (WP pl) (.Assign [.Subscript (.Name x p1) (.Constant (.int c) k p2) pos'] e pos) (tAsg te (gSub (tVar i) (tC (.int c)) rSetL)) (vPlset pl i c t) := by
  refine ⟨ps_asg h.pe (pg_sub (pe_var hN hv hd hcd) pe_int set_list) hs hw h1, fun F0 H0 F H σ s w D' D R q k => ?_⟩
  refine h.sn _ _ _ _ _ _ _ _ _ R q fun v F1 H1 d w1 e1 r1 p1 q1 => ?_
  obtain ⟨e, z, rfl, w', hp, q⟩ := q1
  cases p1
  have R1 := R.up e1 r1
  obtain ⟨j, hj, hs, hns⟩ := pl_set (l := pl.2) hp
  refine ⟨.ref pl.1, R1.sl i _ e, pl.1, _, c, j, rfl, rfl, R1.wr.2.2.2.1, hj, ?_⟩
  rw [hs]
  obtain ⟨a1, a2, a3, a4, a5⟩ := R1.wr
  have r2 : (WP pl).R w' F1 (upd H1 pl.1 (.lst (w'.vs pl.2))) := ⟨a1, a2, a3, upd_same, by rw [upd_ne (Ne.symm a1), a5, hns]⟩
  exact k.nx σ s F1 _ w' e1.ff (R1.up (Ext.wr R1.sub R1.wr (.inl rfl)) r2) q
end
end L2.VL
/-! part M3 -/
set_option autoImplicit false
namespace MW
theorem divInt_one' (c : Int) : Rat.divInt c 1 = (c : Rat) := by rw [Rat.divInt_eq_div]; simp [Rat.div_def]; grind
theorem sm_int {c : Int} (h : c.natAbs < 2 ^ 2000) : Sm (c : Rat) := ⟨by simpa using h, by simpa using Nat.one_lt_two_pow (by decide)⟩
theorem two20 : 2 ^ 20 ≤ 2 ^ 2000 := Nat.pow_le_pow_right (by decide) (by decide)
theorem sm_cost {c : Int} (h : 1 ≤ c ∧ c ≤ 10000) : Sm (c : Rat) := sm_int (Nat.lt_of_lt_of_le (show c.natAbs < 2 ^ 20 by omega) two20)
theorem sm_zero : Sm 0 := sm_int (c := 0) (Nat.lt_of_lt_of_le (show (0 : Int).natAbs < 2 ^ 20 by decide) two20)
/-- a group of places and its width -/
abbrev Moat := List Int × Rat
/-- a way is cut by a group -/
def crW (w : Way) (g : List Int) : Bool := decide (w.1 ∈ g) != decide (w.2.1 ∈ g)
def crP (p : Int × Int) (g : List Int) : Bool := decide (p.1 ∈ g) != decide (p.2 ∈ g)
/-- what lies on a way -/
def loads (w : Way) (P : List Moat) : List Rat := (P.filter fun m => crW w m.1).map (·.2)
def load (w : Way) (P : List Moat) : Rat := rs (loads w P)
structure MoatOk (n : Nat) (m : Moat) : Prop where
  ne : m.1 ≠ []
  rg : ∀ x ∈ m.1, x ∈ iota n
  so : m.1.Pairwise (· < ·)
  ps : 0 < m.2
def SubSm (l : List Rat) : Prop := ∀ l', l'.Sublist l → Sm (rs l')
theorem SubSm.mem {l : List Rat} (h : SubSm l) {q : Rat} (hq : q ∈ l) : Sm q := by
  have := h [q] (List.singleton_sublist.mpr hq)
  simpa [rs, Rat.add_zero] using this
structure PapOk (n : Nat) (ws : List Way) (ps : List (Int × Int)) (P : List Moat) : Prop where
  mo : ∀ m ∈ P, MoatOk n m
  nd : (P.map (·.1)).Nodup
  ln : P.length ≤ 60
  sm : SubSm (P.map (·.2))
  ld : ∀ w ∈ ws, load w P ≤ (w.2.2 : Rat)
  op : ∀ m ∈ P, ∃ p ∈ ps, crP p m.1 = true
theorem len_iota {n : Nat} {g : List Int} (rg : ∀ x ∈ g, x ∈ iota n) (so : g.Pairwise (· < ·)) : g.length ≤ n := by
  have hn : g.Nodup := so.imp fun h => by omega
  have := List.Nodup.length_le_of_subset hn rg
  rwa [iota_len] at this
theorem loads_sub (w : Way) (P : List Moat) : (loads w P).Sublist (P.map (·.2)) := by
  unfold loads
  exact List.Sublist.map _ List.filter_sublist
theorem same_sorted {a b : List Int} (ha : a.Pairwise (· < ·)) (hb : b.Pairwise (· < ·)) (h : ∀ k, k ∈ a ↔ k ∈ b) : a = b := by
  have na : a.Nodup := ha.imp fun h => by omega
  have nb : b.Nodup := hb.imp fun h => by omega
  exact List.Perm.eq_of_pairwise (fun x y _ _ h1 h2 => by omega) ha hb ((List.perm_ext_iff_of_nodup na nb).mpr h)
theorem nd_take {P : List Moat} (h : (P.map (·.1)).Nodup) {i : Nat} {m : Moat} (hm : P[i]? = some m) : m.1 ∉ (P.take i).map (·.1) := by
  intro z
  rw [List.map_take] at z
  obtain ⟨j, hj, e⟩ := List.mem_take_iff_getElem.mp z
  have hi : i < (P.map (·.1)).length := by rw [List.length_map]; exact (List.getElem?_eq_some_iff.mp hm).1
  have e2 : (P.map (·.1))[i] = m.1 := by
    have := (List.getElem?_eq_some_iff.mp hm).2
    simp [this]
  exact List.pairwise_iff_getElem.mp h j i (by omega) hi (by omega) (e.trans e2.symm)
end MW
/-! part M4 -/
set_option autoImplicit false
namespace MW
structure Eu (A B i a b : Nat) : Prop where
  g : a.gcd b = A.gcd B
  z : i = 0 → a = A ∧ b = B
  s : 1 ≤ i → b < a ∧ a * b * 2 ^ (i - 1) ≤ A * B
  l : i ≤ 20000
theorem Eu.start (A B : Nat) : Eu A B 0 A B := ⟨rfl, fun _ => ⟨rfl, rfl⟩, fun h => absurd h (by decide), by decide⟩
theorem Eu.step {A B i a b : Nat} (h : Eu A B i a b) (hb : b ≠ 0) (hs : A * B < 2 ^ 16000) : Eu A B (i + 1) b (a % b) := by
  have hb' : 0 < b := Nat.pos_of_ne_zero hb
  have hm := Nat.mod_lt a hb'
  refine ⟨?_, fun z => absurd z (by omega), fun _ => ⟨hm, ?_⟩, ?_⟩
  · rw [← h.g, Nat.gcd_comm b, ← Nat.gcd_rec, Nat.gcd_comm]
  · rw [Nat.add_sub_cancel]
    rcases Nat.eq_zero_or_pos i with hi | hi
    · obtain ⟨e1, e2⟩ := h.z hi
      subst hi
      rw [Nat.pow_zero, Nat.mul_one, e1, e2, Nat.mul_comm]
      exact Nat.mul_le_mul_right _ (Nat.mod_le _ _)
    · obtain ⟨h1, h2⟩ := h.s hi
      have h3 : 2 * (a % b) ≤ a := by
        have e := Nat.div_add_mod a b
        have q : 1 ≤ a / b := (Nat.one_le_div_iff hb').mpr (Nat.le_of_lt h1)
        have : b * 1 ≤ b * (a / b) := Nat.mul_le_mul_left b q
        omega
      have e : 2 ^ i = 2 * 2 ^ (i - 1) := by
        rw [← Nat.pow_succ']; congr 1; omega
      calc b * (a % b) * 2 ^ i = (2 * (a % b)) * b * 2 ^ (i - 1) := by rw [e]; ac_rfl
        _ ≤ a * b * 2 ^ (i - 1) := Nat.mul_le_mul_right _ (Nat.mul_le_mul_right _ h3)
        _ ≤ A * B := h2
  · rcases Nat.eq_zero_or_pos i with hi | hi
    · omega
    · obtain ⟨h1, h2⟩ := h.s hi
      have : 1 * 2 ^ (i - 1) ≤ a * b * 2 ^ (i - 1) := Nat.mul_le_mul_right _ (Nat.mul_pos (by omega) hb')
      have : 2 ^ (i - 1) < 2 ^ 16000 := by omega
      have := (Nat.pow_lt_pow_iff_right (by decide : 1 < 2)).mp this
      omega
theorem Eu.gcd {A B i a : Nat} (h : Eu A B i a 0) : a = A.gcd B := by rw [← h.g, Nat.gcd_zero_right]
theorem abs_eq (i : Int) : (if i < 0 then -i else i) = (i.natAbs : Int) := by split <;> omega
theorem dd_pos (a b : Rat) : 0 < (a.den : Int) * b.den := Int.mul_pos (den_pos a) (den_pos b)
theorem mm_lt {i j : Int} (hi : i.natAbs < 2 ^ 2000) (hj : j.natAbs < 2 ^ 2000) : (i * j).natAbs < 2 ^ 4000 := by
  rw [Int.natAbs_mul, show (2 : Nat) ^ 4000 = 2 ^ 2000 * 2 ^ 2000 by rw [← Nat.pow_add]]
  exact Nat.mul_lt_mul'' hi hj
theorem p4001 : (2 : Nat) ^ 4000 + 2 ^ 4000 ≤ 2 ^ 8000 := by
  rw [← Nat.two_mul, ← Nat.pow_succ']
  exact Nat.pow_le_pow_right (by decide) (by decide)
theorem nn_add {a b : Rat} (ha : Sm a) (hb : Sm b) : (a.num * b.den + b.num * a.den).natAbs < 2 ^ 8000 := by
  have h1 := mm_lt ha.n hb.d
  have h2 := mm_lt hb.n ha.d
  have h3 := Int.natAbs_add_le (a.num * b.den) (b.num * a.den)
  have h4 := p4001
  generalize (2 : Nat) ^ 4000 = x at *
  generalize (2 : Nat) ^ 8000 = y at *
  omega
theorem nn_sub {a b : Rat} (ha : Sm a) (hb : Sm b) : (a.num * b.den - b.num * a.den).natAbs < 2 ^ 8000 := by
  have h1 := mm_lt ha.n hb.d
  have h2 := mm_lt hb.n ha.d
  have h4 := p4001
  generalize a.num * b.den = u at *
  generalize b.num * a.den = v at *
  generalize (2 : Nat) ^ 4000 = x at *
  generalize (2 : Nat) ^ 8000 = y at *
  omega
theorem nn_mul {a b : Rat} (ha : Sm a) (hb : Sm b) : (a.num * b.num).natAbs < 2 ^ 8000 := Nat.lt_of_lt_of_le (mm_lt ha.n hb.n) (Nat.pow_le_pow_right (by decide) (by decide))
end MW
/-! part M5 -/
set_option autoImplicit false
namespace MW
/-- q times D is whole -/
def IsI (D : Nat) (q : Rat) : Prop := ∃ z : Int, q * (D : Rat) = (z : Rat)
theorem IsI.add {D : Nat} {a b : Rat} (ha : IsI D a) (hb : IsI D b) : IsI D (a + b) := by
  obtain ⟨x, hx⟩ := ha
  obtain ⟨y, hy⟩ := hb
  exact ⟨x + y, by rw [Rat.add_mul, hx, hy, Rat.intCast_add]⟩
theorem IsI.neg {D : Nat} {a : Rat} (ha : IsI D a) : IsI D (-a) := by
  obtain ⟨x, hx⟩ := ha
  exact ⟨-x, by rw [Rat.neg_mul, hx, Rat.intCast_neg]⟩
theorem IsI.sub {D : Nat} {a b : Rat} (ha : IsI D a) (hb : IsI D b) : IsI D (a - b) := by
  rw [Rat.sub_eq_add_neg]; exact ha.add hb.neg
theorem IsI.mul {D E : Nat} {a b : Rat} (ha : IsI D a) (hb : IsI E b) : IsI (D * E) (a * b) := by
  obtain ⟨x, hx⟩ := ha
  obtain ⟨y, hy⟩ := hb
  refine ⟨x * y, ?_⟩
  rw [Rat.intCast_mul, ← hx, ← hy, Rat.natCast_mul]
  grind
theorem IsI.up {D : Nat} {a : Rat} (k : Nat) (ha : IsI D a) : IsI (D * k) a := by
  obtain ⟨x, hx⟩ := ha
  refine ⟨x * k, ?_⟩
  rw [Rat.natCast_mul, ← Rat.mul_assoc, hx, Rat.intCast_mul]; rfl
theorem isI_int (D : Nat) (c : Int) : IsI D (c : Rat) := ⟨c * D, by rw [Rat.intCast_mul]; rfl⟩
theorem isI_zero (D : Nat) : IsI D 0 := ⟨0, by rw [Rat.zero_mul]; rfl⟩
theorem isI_div {n d : Int} {D : Nat} (hd : 0 < d) (h : d.toNat ∣ D) : IsI D (Rat.divInt n d) := by
  obtain ⟨k, rfl⟩ := h
  refine ⟨n * k, ?_⟩
  have hd' : (d : Rat) ≠ 0 := by
    intro z
    have := Rat.intCast_eq_zero_iff.mp z
    omega
  have e : ((d.toNat : Nat) : Rat) = (d : Rat) := by
    have : ((d.toNat : Nat) : Int) = d := Int.toNat_of_nonneg (by omega)
    calc ((d.toNat : Nat) : Rat) = (((d.toNat : Nat) : Int) : Rat) := rfl
      _ = (d : Rat) := by rw [this]
  rw [Rat.divInt_eq_div, Rat.natCast_mul, e, Rat.intCast_mul, Rat.div_def]
  have : (d : Rat)⁻¹ * d = 1 := Rat.inv_mul_cancel _ hd'
  have e2 : ((k : Int) : Rat) = (k : Rat) := rfl
  rw [e2]
  grind
theorem isI_eq {D : Nat} {q : Rat} (hD : 0 < D) {z : Int} (h : q * (D : Rat) = (z : Rat)) : q = Rat.divInt z D := by
  have hd' : (D : Rat) ≠ 0 := by
    intro e
    have : ((D : Int) : Rat) = 0 := e
    have := Rat.intCast_eq_zero_iff.mp this
    omega
  have e2 : (((D : Nat) : Int) : Rat) = (D : Rat) := rfl
  rw [Rat.divInt_eq_div, ← h, e2, Rat.div_def, Rat.mul_assoc, Rat.mul_inv_cancel _ hd', Rat.mul_one]
/-- of known parts and bounded -/
structure Dn (D B : Nat) (q : Rat) : Prop where
  z : IsI D q
  lo : -(B : Rat) ≤ q
  hi : q ≤ (B : Rat)
theorem Dn.sm {D B : Nat} {q : Rat} (h : Dn D B q) (hD : 0 < D) (h1 : D < 2 ^ 1000) (h2 : B < 2 ^ 900) : Sm q := by
  obtain ⟨z, hz⟩ := h.z
  have e := isI_eq hD hz
  have hDr : (0 : Rat) < (D : Rat) := by
    have : (0 : Rat) < ((D : Int) : Rat) := by
      have : ((0 : Int) : Rat) < ((D : Int) : Rat) := Rat.intCast_lt_intCast.mpr (by omega)
      exact this
    exact this
  have hz1 : z ≤ (B * D : Nat) := by
    have : (z : Rat) ≤ ((B * D : Nat) : Int) := by
      rw [← hz]
      have := Rat.mul_le_mul_of_nonneg_right h.hi (Rat.le_of_lt hDr)
      calc q * (D : Rat) ≤ (B : Rat) * (D : Rat) := this
        _ = (((B * D : Nat) : Int) : Rat) := (Rat.natCast_mul B D).symm
    exact Rat.intCast_le_intCast.mp this
  have hz2 : -((B * D : Nat) : Int) ≤ z := by
    have : ((-((B * D : Nat) : Int) : Int) : Rat) ≤ (z : Rat) := by
      rw [← hz]
      have := Rat.mul_le_mul_of_nonneg_right h.lo (Rat.le_of_lt hDr)
      calc ((-((B * D : Nat) : Int) : Int) : Rat) = -((B : Rat) * (D : Rat)) := by
            rw [Rat.intCast_neg]; congr 1; exact Rat.natCast_mul B D
        _ = -(B : Rat) * (D : Rat) := (Rat.neg_mul _ _).symm
        _ ≤ _ := this
    exact Rat.intCast_le_intCast.mp this
  have hza : z.natAbs ≤ B * D := by omega
  obtain ⟨e1, e2⟩ := divInt_pos (n := z) (d := (D : Int)) (by omega)
  rw [← e] at e1 e2
  have hg := gcd_pos (n := z) (d := (D : Int)) (by omega)
  have hBD : B * D < 2 ^ 1900 := by
    rw [show (2 : Nat) ^ 1900 = 2 ^ 900 * 2 ^ 1000 by rw [← Nat.pow_add]]
    exact Nat.mul_lt_mul'' h2 h1
  have hp1 : (2 : Nat) ^ 1900 ≤ 2 ^ 2000 := Nat.pow_le_pow_right (by decide) (by decide)
  have hp2 : (2 : Nat) ^ 1000 ≤ 2 ^ 2000 := Nat.pow_le_pow_right (by decide) (by decide)
  refine ⟨?_, ?_⟩
  · rw [e1]
    have := Int.natAbs_ediv_le_natAbs z ((z.natAbs.gcd (D : Int).natAbs : Nat) : Int)
    omega
  · have : (q.den : Int) ≤ D := by
      rw [e2]
      exact Int.ediv_le_self _ (by omega)
    omega
theorem Dn.rs {D B : Nat} : ∀ {l : List Rat}, (∀ q ∈ l, Dn D B q) → Dn D (B * l.length) (rs l)
  | [], _ => ⟨isI_zero D, by simp [MW.rs], by simp [MW.rs]⟩
  | q :: l, h => by
    have ih := Dn.rs (l := l) fun x hx => h x (List.mem_cons_of_mem _ hx)
    have hq := h q (by simp)
    have e : ((B * (l.length + 1) : Nat) : Rat) = (B : Rat) + ((B * l.length : Nat) : Rat) := by
      rw [Nat.mul_succ, Rat.natCast_add, Rat.add_comm]
    refine ⟨hq.z.add ih.z, ?_, ?_⟩
    · show -((B * (l.length + 1) : Nat) : Rat) ≤ q + MW.rs l
      rw [e]
      have h1 := hq.lo
      have h2 := ih.lo
      grind
    · show q + MW.rs l ≤ ((B * (l.length + 1) : Nat) : Rat)
      rw [e]
      have h1 := hq.hi
      have h2 := ih.hi
      grind
end MW
/-! part M6 -/
set_option autoImplicit false
namespace MW
def DD (i : Nat) : Nat := 2116800 ^ i
theorem dd_pos' (i : Nat) : 0 < DD i := Nat.pow_pos (by decide)
theorem dd_lt' {i : Nat} (h : i ≤ 40) : DD i < 2 ^ 1000 := by
  unfold DD
  calc 2116800 ^ i ≤ (2 ^ 22) ^ i := Nat.pow_le_pow_left (by decide) i
    _ = 2 ^ (22 * i) := by rw [← Nat.pow_mul]
    _ < 2 ^ 1000 := Nat.pow_lt_pow_right (by decide) (by omega)
theorem rs_nn : ∀ {l : List Rat}, (∀ q ∈ l, 0 ≤ q) → 0 ≤ rs l
  | [], _ => by simp [rs]
  | q :: l, h => by
    have h1 := h q (by simp)
    have h2 := rs_nn (l := l) fun x hx => h x (List.mem_cons_of_mem _ hx)
    show 0 ≤ q + rs l
    grind
theorem load_snoc (w : Way) (P : List Moat) (m : Moat) : load w (P ++ [m]) = load w P + (if crW w m.1 = true then m.2 else 0) := by
  unfold load loads
  rw [List.filter_append, List.map_append, rs_app]
  cases h : crW w m.1
  · rw [List.filter_cons_of_neg (by simp [h])]
    simp [rs]
  · rw [List.filter_cons_of_pos (by simp [h])]
    simp [rs, Rat.add_zero]
theorem mem_loads {w : Way} {P : List Moat} {q : Rat} (h : q ∈ loads w P) : ∃ m ∈ P, m.2 = q := by
  unfold loads at h
  obtain ⟨m, hm, e⟩ := List.mem_map.mp h
  exact ⟨m, (List.mem_filter.mp hm).1, e⟩
structure DrP (n : Nat) (ws : List Way) (ps : List (Int × Int)) (P : List Moat) (i : Nat) : Prop where
  mo : ∀ m ∈ P, MoatOk n m
  nd : (P.map (·.1)).Nodup
  ln : P.length ≤ i
  sz : ∀ m ∈ P, Dn (DD i) 10000 m.2
  ld : ∀ w ∈ ws, load w P ≤ (w.2.2 : Rat)
  op : ∀ m ∈ P, ∃ p ∈ ps, crP p m.1 = true
section
variable {n : Nat} {ws : List Way} {ps : List (Int × Int)} {P : List Moat} {i : Nat}
theorem Dn.up {D B : Nat} {q : Rat} (k : Nat) (h : Dn D B q) : Dn (D * k) B q := ⟨h.z.up k, h.lo, h.hi⟩
theorem DrP.nil (hn : NetOk n ws) : DrP n ws ps [] 0 := ⟨fun _ h => by simp at h, by simp, Nat.le_refl _, fun _ h => by simp at h, fun w hw => by
  have := (hn.cost w hw).1
  show rs [] ≤ _
  have h : ((0 : Int) : Rat) ≤ (w.2.2 : Rat) := Rat.intCast_le_intCast.mpr (by omega)
  exact h, fun _ h => by simp at h⟩
theorem DrP.keep (h : DrP n ws ps P i) : DrP n ws ps P (i + 1) := ⟨h.mo, h.nd, Nat.le_succ_of_le h.ln, fun m hm => (h.sz m hm).up 2116800, h.ld, h.op⟩
theorem DrP.subDn (h : DrP n ws ps P i) {l : List Rat} (hl : l.Sublist (P.map (·.2))) : Dn (DD i) (10000 * l.length) (rs l) := Dn.rs fun q hq => by
  obtain ⟨m, hm, e⟩ := List.mem_map.mp (hl.subset hq)
  exact e ▸ h.sz m hm
theorem b900 {k : Nat} (h : k ≤ 60) : 10000 * k < 2 ^ 900 := Nat.lt_of_lt_of_le (show 10000 * k < 2 ^ 20 by omega) (Nat.pow_le_pow_right (by decide) (by decide))
theorem DrP.sub (h : DrP n ws ps P i) (hi : i ≤ 40) : SubSm (P.map (·.2)) := fun l hl => (h.subDn hl).sm (dd_pos' i) (dd_lt' hi) (b900 (by
  have := hl.length_le
  rw [List.length_map] at this
  have := h.ln
  omega))
theorem DrP.pap (h : DrP n ws ps P i) (hi : i ≤ 40) : PapOk n ws ps P := ⟨h.mo, h.nd, by have := h.ln; omega, h.sub hi, h.ld, h.op⟩
theorem DrP.loadDn (h : DrP n ws ps P i) (w : Way) : Dn (DD i) (10000 * i) (load w P) := by
  have hl := loads_sub w P
  have d := h.subDn hl
  have hle : (loads w P).length ≤ i := by
    have := hl.length_le
    rw [List.length_map] at this
    have := h.ln
    omega
  have hc : ((10000 * (loads w P).length : Nat) : Rat) ≤ ((10000 * i : Nat) : Rat) := by
    have : (((10000 * (loads w P).length : Nat) : Int) : Rat) ≤ (((10000 * i : Nat) : Int) : Rat) := Rat.intCast_le_intCast.mpr (by omega)
    exact this
  exact ⟨d.z, by have := d.lo; show -((10000 * i : Nat) : Rat) ≤ rs (loads w P); grind, by have := d.hi; show rs (loads w P) ≤ _; grind⟩
theorem DrP.load_nn (h : DrP n ws ps P i) (w : Way) : 0 ≤ load w P := rs_nn fun q hq => by
  obtain ⟨m, hm, rfl⟩ := mem_loads hq
  exact Rat.le_of_lt (h.mo m hm).ps
theorem DrP.left (h : DrP n ws ps P i) (hn : NetOk n ws) {w : Way} (hw : w ∈ ws) : Dn (DD i) (10000 * (i + 1)) ((w.2.2 : Rat) - load w P) := by
  have d := h.loadDn w
  obtain ⟨c1, c2⟩ := hn.cost w hw
  have e1 : ((0 : Int) : Rat) ≤ (w.2.2 : Rat) := Rat.intCast_le_intCast.mpr (by omega)
  have e2 : (w.2.2 : Rat) ≤ ((10000 : Int) : Rat) := Rat.intCast_le_intCast.mpr c2
  have e3 : ((10000 * (i + 1) : Nat) : Rat) = ((10000 * i : Nat) : Rat) + ((10000 : Int) : Rat) := by
    rw [Nat.mul_succ, Rat.natCast_add]; rfl
  have e0 : ((0 : Int) : Rat) = 0 := rfl
  refine ⟨(isI_int _ _).sub d.z, ?_, ?_⟩
  · rw [e3]
    have := d.hi
    have e4 : (0 : Rat) ≤ ((10000 : Int) : Rat) := Rat.intCast_le_intCast.mpr (show (0 : Int) ≤ 10000 by decide)
    grind
  · rw [e3]
    have := d.lo
    grind
theorem DrP.add (h : DrP n ws ps P i) (hn : NetOk n ws) {g : List Int} {q s : Rat} (hg : g ≠ []) (hr : ∀ x ∈ g, x ∈ iota n) (hs : g.Pairwise (· < ·)) (hnew : g ∉ P.map (·.1)) (hop : ∃ p ∈ ps, crP p g = true)
    (q0 : 0 < q) (qz : IsI (DD i * 2520) q) (qb : q ≤ 10000) (qr : ∀ w ∈ ws, crW w g = true → q ≤ (w.2.2 : Rat) - load w P) (s0 : 0 < s) (s1 : s ≤ 1) (sz : IsI 840 s) : DrP n ws ps (P ++ [(g, q * s)]) (i + 1) := by
  have p0 : 0 < q * s := Rat.mul_pos q0 s0
  have p1 : q * s ≤ q := by
    have := Rat.mul_le_mul_of_nonneg_left s1 (Rat.le_of_lt q0)
    rwa [Rat.mul_one] at this
  refine ⟨fun m hm => ?_, ?_, by rw [List.length_append, List.length_singleton]; have := h.ln; omega, fun m hm => ?_, fun w hw => ?_, fun m hm => ?_⟩
  · rcases List.mem_append.mp hm with hm | hm
    · exact h.mo m hm
    · simp only [List.mem_singleton] at hm; subst hm; exact ⟨hg, hr, hs, p0⟩
  · rw [List.map_append]
    refine List.nodup_append.mpr ⟨h.nd, by simp, fun a ha b hb => ?_⟩
    simp only [List.map_cons, List.map_nil, List.mem_singleton] at hb
    subst hb
    exact fun e => hnew (e ▸ ha)
  · rcases List.mem_append.mp hm with hm | hm
    · exact (h.sz m hm).up 2116800
    · simp only [List.mem_singleton] at hm
      subst hm
      have z : IsI (DD i * 2520 * 840) (q * s) := qz.mul sz
      rw [Nat.mul_assoc] at z
      have e : ((10000 : Nat) : Rat) = 10000 := rfl
      refine ⟨z, ?_, ?_⟩
      · show -((10000 : Nat) : Rat) ≤ q * s
        grind
      · show q * s ≤ ((10000 : Nat) : Rat)
        grind
  · rw [load_snoc]
    have := h.ld w hw
    cases hc : crW w g
    · simp only [Bool.false_eq_true, if_false, Rat.add_zero]
      exact this
    · have h2 := qr w hw hc
      simp only [if_true]
      grind
  · rcases List.mem_append.mp hm with hm | hm
    · exact h.op m hm
    · simp only [List.mem_singleton] at hm; subst hm; exact hop
end
theorem small_ratio {n d : Int} (n1 : 1 ≤ n) (n2 : n ≤ 40) (d1 : 1 ≤ d) (d2 : d ≤ 9) : IsI 2520 (Rat.divInt n d) ∧ Rat.divInt n d ≤ 10000 ∧ Sm (Rat.divInt n d) := by
  have hz : IsI 2520 (Rat.divInt n d) := isI_div (by omega) (by
    have : d = 1 ∨ d = 2 ∨ d = 3 ∨ d = 4 ∨ d = 5 ∨ d = 6 ∨ d = 7 ∨ d = 8 ∨ d = 9 := by omega
    rcases this with rfl | rfl | rfl | rfl | rfl | rfl | rfl | rfl | rfl <;> decide)
  have h0 : 0 ≤ Rat.divInt n d := (Rat.divInt_nonneg_iff_of_pos_right (by omega)).mpr (by omega)
  have hd0 : (d : Rat) ≠ 0 := by
    intro z
    have := Rat.intCast_eq_zero_iff.mp z
    omega
  have hm : Rat.divInt n d * (d : Rat) = (n : Rat) := by
    rw [Rat.divInt_eq_div, Rat.div_def, Rat.mul_assoc, Rat.inv_mul_cancel _ hd0, Rat.mul_one]
  have hd1 : ((1 : Int) : Rat) ≤ (d : Rat) := Rat.intCast_le_intCast.mpr d1
  have hn2 : (n : Rat) ≤ ((40 : Int) : Rat) := Rat.intCast_le_intCast.mpr n2
  have h1 : Rat.divInt n d ≤ (n : Rat) := by
    have := Rat.mul_le_mul_of_nonneg_left hd1 h0
    rw [hm] at this
    have e : ((1 : Int) : Rat) = 1 := rfl
    rw [e, Rat.mul_one] at this
    exact this
  have e40 : ((40 : Int) : Rat) = 40 := rfl
  have hb : Rat.divInt n d ≤ 10000 := by grind
  refine ⟨hz, hb, (⟨hz, ?_, ?_⟩ : Dn 2520 10000 _).sm (by decide) (Nat.lt_of_lt_of_le (show 2520 < 2 ^ 20 by decide) (Nat.pow_le_pow_right (by decide) (by decide))) (b900 (k := 1) (by decide))⟩
  · have e : ((10000 : Nat) : Rat) = 10000 := rfl
    rw [e]; grind
  · exact hb
theorem num_pos' {q : Rat} (h : 0 < q.num) : 0 < q := by
  rw [Rat.lt_iff]
  have e1 : (0 : Rat).num = 0 := rfl
  have e2 : (0 : Rat).den = 1 := rfl
  rw [e1, e2]
  omega
structure Share (s : Rat) : Prop where
  p : 0 < s
  l : s ≤ 1
  z : IsI 840 s
  m : Sm s
theorem share_of {n d : Int} (hd : 0 < d) (hv : d.toNat ∣ 840) (p : 0 < Rat.divInt n d) (l : Rat.divInt n d ≤ 1) : Share (Rat.divInt n d) := by
  have hz := isI_div (n := n) hd hv
  refine ⟨p, l, hz, (⟨hz, ?_, ?_⟩ : Dn 840 10000 _).sm (by decide) (Nat.lt_of_lt_of_le (show 840 < 2 ^ 20 by decide) (Nat.pow_le_pow_right (by decide) (by decide))) (b900 (k := 1) (by decide))⟩
  · have e : ((10000 : Nat) : Rat) = 10000 := rfl
    rw [e]; grind
  · have e : ((10000 : Nat) : Rat) = 10000 := rfl
    rw [e]; grind
end MW
/-! part M8 -/
set_option autoImplicit false
namespace MW
/-! ### each choice that joins costs at least the worth -/
theorem rs_le_map {α : Type} {l : List α} {f g : α → Rat} (h : ∀ x ∈ l, f x ≤ g x) : rs (l.map f) ≤ rs (l.map g) := by
  induction l with
  | nil => exact Rat.le_refl
  | cons a l ih =>
    have h1 := h a (by simp)
    have h2 := ih fun x hx => h x (List.mem_cons_of_mem _ hx)
    show f a + rs (l.map f) ≤ g a + rs (l.map g)
    grind
theorem rs_add_map {α : Type} {l : List α} {f g : α → Rat} : rs (l.map fun x => f x + g x) = rs (l.map f) + rs (l.map g) := by
  induction l with
  | nil => show (0 : Rat) = 0 + 0; grind
  | cons a l ih =>
    show f a + g a + rs (l.map fun x => f x + g x) = (f a + rs (l.map f)) + (g a + rs (l.map g))
    rw [ih]; grind
theorem rs_int {l : List Int} : rs (l.map fun i : Int => (i : Rat)) = ((l.sum : Int) : Rat) := by
  induction l with
  | nil => rfl
  | cons a l ih =>
    show (a : Rat) + rs (l.map fun i : Int => (i : Rat)) = ((List.sum (a :: l) : Int) : Rat)
    rw [ih, List.sum_cons, Rat.intCast_add]
theorem load_cons (w : Way) (m : Moat) (P : List Moat) : load w (m :: P) = (if crW w m.1 = true then m.2 else 0) + load w P := by
  unfold load loads
  by_cases c : crW w m.1 = true
  · rw [List.filter_cons_of_pos (p := fun m : Moat => crW w m.1) c, if_pos c]; rfl
  · rw [List.filter_cons_of_neg (p := fun m : Moat => crW w m.1) c, if_neg c]; exact (Rat.zero_add _).symm
/-- the load on the way of a number -/
def loadAt (ws : List Way) (P : List Moat) (i : Int) : Rat := match ws[i.toNat]? with
  | some w => load w P
  | none => 0
def oneAt (ws : List Way) (m : Moat) (i : Int) : Rat := match ws[i.toNat]? with
  | some w => if crW w m.1 = true then m.2 else 0
  | none => 0
theorem one_le_rs {l : List Int} {f : Int → Rat} {q : Rat} (h0 : ∀ i ∈ l, 0 ≤ f i) {i : Int} (hi : i ∈ l) (hf : q ≤ f i) : q ≤ rs (l.map f) := by
  induction l with
  | nil => simp at hi
  | cons a l ih =>
    have nn : 0 ≤ rs (l.map f) := rs_nn fun q hq => by
      obtain ⟨x, hx, rfl⟩ := List.mem_map.mp hq
      exact h0 x (List.mem_cons_of_mem _ hx)
    show q ≤ f a + rs (l.map f)
    rcases List.mem_cons.mp hi with rfl | hi
    · grind
    · have h1 := ih (fun x hx => h0 x (List.mem_cons_of_mem _ hx)) hi
      have h2 := h0 a (by simp)
      grind
theorem cross_of {ws : List Way} {is : List Int} {ps : List (Int × Int)} (hj : Jn ws is ps) {g : List Int} {p : Int × Int} (hp : p ∈ ps) (c : crP p g = true) :
    ∃ i ∈ is, ∃ w, ws[i.toNat]? = some w ∧ crW w g = true := by
  apply Classical.byContradiction
  intro no
  have := hj (fun x => decide (x ∈ g)) (fun i hi w hw => by
    apply Classical.byContradiction
    intro ne
    exact no ⟨i, hi, w, hw, by simpa [crW] using ne⟩) p hp
  have e : decide (p.1 ∈ g) = decide (p.2 ∈ g) := this
  unfold crP at c
  rw [e] at c
  simp at c
theorem worth_le_loads {ws : List Way} {is : List Int} {ps : List (Int × Int)} (hj : Jn ws is ps) : ∀ {P : List Moat}, (∀ m ∈ P, 0 ≤ m.2 ∧ ∃ p ∈ ps, crP p m.1 = true) →
    rs (P.map (·.2)) ≤ rs (is.map (loadAt ws P))
  | [], _ => by
    have : 0 ≤ rs (is.map (loadAt ws [])) := rs_nn fun q hq => by
      obtain ⟨x, hx, rfl⟩ := List.mem_map.mp hq
      unfold loadAt
      split <;> exact Rat.le_refl
    exact this
  | m :: P, h => by
    have ih := worth_le_loads hj (P := P) fun x hx => h x (List.mem_cons_of_mem _ hx)
    obtain ⟨h0, p, hp, c⟩ := h m (by simp)
    obtain ⟨i, hi, w, hw, cw⟩ := cross_of hj hp c
    have e : loadAt ws (m :: P) = fun i => oneAt ws m i + loadAt ws P i := by
      funext i
      unfold loadAt oneAt
      split
      · exact load_cons _ _ _
      · exact (Rat.zero_add _).symm
    rw [e, rs_add_map]
    have h1 : m.2 ≤ rs (is.map (oneAt ws m)) :=
      one_le_rs (fun i _ => by
        unfold oneAt
        split
        · split
          · exact h0
          · exact Rat.le_refl
        · exact Rat.le_refl) hi (by
        unfold oneAt
        rw [hw]
        show m.2 ≤ if crW w m.1 = true then m.2 else 0
        rw [if_pos cw]
        exact Rat.le_refl)
    show m.2 + rs (P.map (·.2)) ≤ _
    grind
theorem dual {n : Nat} {ws : List Way} {is : List Int} {ps : List (Int × Int)} {P : List Moat} (hP : PapOk n ws ps P) (hr : InR ws is) (hj : Jn ws is ps) {c : Int → Int}
    (hc : ∀ i ∈ is, ∀ w, ws[i.toNat]? = some w → c i = w.2.2) : rs (P.map (·.2)) ≤ (((is.map c).sum : Int) : Rat) := by
  refine Rat.le_trans (worth_le_loads hj fun m hm => ⟨Rat.le_of_lt (hP.mo m hm).ps, hP.op m hm⟩) ?_
  rw [← rs_int, List.map_map]
  refine rs_le_map fun i hi => ?_
  obtain ⟨a, b⟩ := hr i hi
  have hl : i.toNat < ws.length := by omega
  have hw : ws[i.toNat]? = some ws[i.toNat] := List.getElem?_eq_getElem hl
  unfold loadAt
  rw [hw]
  show load _ P ≤ ((c i : Int) : Rat)
  rw [hc i hi _ hw]
  exact hP.ld _ (List.getElem_mem hl)
end MW
/-! part M7 -/
set_option autoImplicit false
namespace MW
/-! ### parts of the places -/
structure PartOk (n : Nat) (gs : List (List Int)) : Prop where
  ne : ∀ g ∈ gs, g ≠ []
  rg : ∀ g ∈ gs, ∀ x ∈ g, x ∈ iota n
  so : ∀ g ∈ gs, g.Pairwise (· < ·)
  dj : gs.Pairwise fun g h => ∀ x ∈ g, x ∉ h
  cov : ∀ x ∈ iota n, ∃ g ∈ gs, x ∈ g
theorem PartOk.perm {n : Nat} {gs hs : List (List Int)} (h : PartOk n gs) (p : gs.Perm hs) : PartOk n hs :=
  ⟨fun g hg => h.ne g (p.mem_iff.mpr hg), fun g hg => h.rg g (p.mem_iff.mpr hg), fun g hg => h.so g (p.mem_iff.mpr hg),
   (p.pairwise_iff (fun {a b} f x hx hy => f x hy hx)).mp h.dj, fun x hx => by
    obtain ⟨g, hg, e⟩ := h.cov x hx
    exact ⟨g, p.mem_iff.mp hg, e⟩⟩
theorem PartOk.uniq {n : Nat} {gs : List (List Int)} (h : PartOk n gs) {g k : List Int} {x : Int} (hg : g ∈ gs) (hk : k ∈ gs) (xg : x ∈ g) (xk : x ∈ k) : g = k := by
  obtain ⟨i, hi, rfl⟩ := List.mem_iff_getElem.mp hg
  obtain ⟨j, hj, rfl⟩ := List.mem_iff_getElem.mp hk
  have q := List.pairwise_iff_getElem.mp h.dj
  rcases Nat.lt_trichotomy i j with l | l | l
  · exact absurd xk (q i j hi hj l x xg)
  · subst l; rfl
  · exact absurd xg (q j i hj hi l x xk)
theorem PartOk.nodup {n : Nat} {gs : List (List Int)} (h : PartOk n gs) : gs.Nodup := by
  unfold List.Nodup
  rw [List.pairwise_iff_getElem]
  intro i j hi hj l e
  have q := List.pairwise_iff_getElem.mp h.dj i j hi hj l
  obtain ⟨x, r, hx⟩ := List.exists_cons_of_ne_nil (h.ne _ (List.getElem_mem hi))
  exact q x (by rw [hx]; simp) (by rw [← e, hx]; simp)
/-- the groups at the two ends of a way -/
def ends (w : Way) (gs : List (List Int)) : List (List Int) := gs.filter fun g => decide (w.1 ∈ g) || decide (w.2.1 ∈ g)
theorem two_of {α : Type} {l : List α} {a b : α} (hn : l.Nodup) (hab : a ≠ b) (h : ∀ x, x ∈ l ↔ x = a ∨ x = b) : l = [a, b] ∨ l = [b, a] := by
  have p : l.Perm [a, b] := (List.perm_ext_iff_of_nodup hn (by simp [hab])).mpr fun x => by rw [h x]; simp
  have hl : l.length = 2 := p.length_eq
  match l, hl with
  | [x, y], _ =>
    have hx := (h x).mp (by simp)
    have hy := (h y).mp (by simp)
    have hxy : x ≠ y := by simpa using hn
    rcases hx with rfl | rfl <;> rcases hy with rfl | rfl <;> simp_all
theorem ends_spec {n : Nat} {gs : List (List Int)} {w : Way} (h : PartOk n gs) (h1 : w.1 ∈ iota n) (h2 : w.2.1 ∈ iota n) :
    ((ends w gs).length ≠ 2 ∧ ∀ g ∈ gs, crW w g = false) ∨ ∃ a b, ends w gs = [a, b] ∧ a ∈ gs ∧ b ∈ gs ∧ a ≠ b ∧ ((w.1 ∈ a ∧ w.2.1 ∈ b) ∨ (w.1 ∈ b ∧ w.2.1 ∈ a)) ∧ ∀ g ∈ gs, (crW w g = true ↔ g = a ∨ g = b) := by
  obtain ⟨ga, ha, xa⟩ := h.cov _ h1
  obtain ⟨gb, hb, xb⟩ := h.cov _ h2
  have u1 : ∀ g ∈ gs, (w.1 ∈ g ↔ g = ga) := fun g hg => ⟨fun x => h.uniq hg ha x xa, fun e => e ▸ xa⟩
  have u2 : ∀ g ∈ gs, (w.2.1 ∈ g ↔ g = gb) := fun g hg => ⟨fun x => h.uniq hg hb x xb, fun e => e ▸ xb⟩
  have me : ∀ g, g ∈ ends w gs ↔ g ∈ gs ∧ (g = ga ∨ g = gb) := fun g => by
    unfold ends
    rw [List.mem_filter, Bool.or_eq_true, decide_eq_true_eq, decide_eq_true_eq]
    constructor
    · rintro ⟨a, b⟩; rw [u1 g a, u2 g a] at b; exact ⟨a, b⟩
    · rintro ⟨a, b⟩; rw [u1 g a, u2 g a]; exact ⟨a, b⟩
  have nd : (ends w gs).Nodup := List.Nodup.sublist List.filter_sublist h.nodup
  by_cases e : ga = gb
  · left
    subst e
    refine ⟨fun l => ?_, fun g hg => ?_⟩
    · match he : ends w gs, l with
      | [x, y], _ =>
        have hx := (me x).mp (by rw [he]; simp)
        have hy := (me y).mp (by rw [he]; simp)
        rw [he] at nd
        have hxy : x ≠ y := by simpa using nd
        apply hxy
        rw [hx.2.elim id id, hy.2.elim id id]
    · unfold crW
      have z : decide (w.1 ∈ g) = decide (w.2.1 ∈ g) := decide_eq_decide.mpr ((u1 g hg).trans (u2 g hg).symm)
      rw [z]; simp
  · right
    have cr : ∀ g ∈ gs, (crW w g = true ↔ g = ga ∨ g = gb) := fun g hg => by
      unfold crW
      rw [bne_iff_ne, Ne, decide_eq_decide, u1 g hg, u2 g hg]
      constructor
      · intro z
        by_cases c : g = ga
        · exact .inl c
        · right
          apply Classical.byContradiction
          intro d
          exact z ⟨fun x => absurd x c, fun x => absurd x d⟩
      · rintro (rfl | rfl) z
        · exact e (z.mp rfl)
        · exact e (z.mpr rfl).symm
    rcases two_of nd e (fun x => by
      rw [me]
      constructor
      · exact fun a => a.2
      · rintro (rfl | rfl)
        · exact ⟨ha, .inl rfl⟩
        · exact ⟨hb, .inr rfl⟩) with q | q
    · exact ⟨ga, gb, q, ha, hb, e, .inl ⟨xa, xb⟩, cr⟩
    · exact ⟨gb, ga, q, hb, ha, Ne.symm e, .inr ⟨xa, xb⟩, fun g hg => (cr g hg).trans Or.comm⟩
/-- how many of some groups a way leads out of -/
def cnt (w : Way) (still : List (List Int)) : Nat := (still.filter fun g => crW w g).length
theorem rate_eq {n : Nat} {gs : List (List Int)} {w : Way} (h : PartOk n gs) (h1 : w.1 ∈ iota n) (h2 : w.2.1 ∈ iota n) (o : List Int → Bool) :
    ((if (ends w gs).length = 2 then ends w gs else []).filter fun g => decide (g ∈ gs.filter o)).length = cnt w (gs.filter o) := by
  have e : ∀ l : List (List Int), (∀ g ∈ l, g ∈ gs) → l.filter (fun g => decide (g ∈ gs.filter o)) = l.filter o := fun l hl => List.filter_congr fun g hg => by
    simp only [List.mem_filter, hl g hg, true_and, Bool.decide_eq_true]
  unfold cnt
  rw [List.filter_filter]
  rcases ends_spec h h1 h2 with ⟨a, b⟩ | ⟨a, b, q, _, _, _, _, cr⟩
  · rw [if_neg a, List.filter_nil]
    rw [List.filter_eq_nil_iff.mpr]
    intro g hg
    rw [b g hg]; simp
  · rw [if_pos (by rw [q]; rfl), e (ends w gs) (fun g hg => (List.mem_filter.mp hg).1)]
    unfold ends
    rw [List.filter_filter]
    congr 1
    refine List.filter_congr fun g hg => ?_
    have z : (decide (w.1 ∈ g) || decide (w.2.1 ∈ g)) = crW w g := by
      have me : g ∈ ends w gs ↔ g = a ∨ g = b := by rw [q]; simp
      rw [← cr g hg] at me
      unfold ends at me
      rw [List.mem_filter] at me
      cases c : crW w g with
      | true => exact (me.mpr c).2
      | false =>
        cases d : (decide (w.1 ∈ g) || decide (w.2.1 ∈ g)) with
        | false => rfl
        | true => rw [me.mp ⟨hg, d⟩] at c; cases c
    rw [z]
    cases o g <;> cases crW w g <;> rfl
/-- places of one part are joined by what is chosen -/
def Conn (ws : List Way) (is : List Int) (gs : List (List Int)) : Prop := ∀ S, Cl ws is S → ∀ g ∈ gs, ∀ x ∈ g, ∀ y ∈ g, S x = S y
theorem strict_of {l : List Int} (h : l.Pairwise (· ≤ ·)) (n : l.Nodup) : l.Pairwise (· < ·) := by
  induction l with
  | nil => exact .nil
  | cons a l ih =>
    rw [List.pairwise_cons] at h ⊢
    rw [List.nodup_cons] at n
    refine ⟨fun x hx => ?_, ih h.2 n.2⟩
    have h1 := h.1 x hx
    have h2 : x ≠ a := fun e => n.1 (e ▸ hx)
    omega
theorem filter_len {α : Type} (l : List α) (p : α → Bool) : (l.filter p).length + (l.filter fun x => !p x).length = l.length := by
  induction l with
  | nil => rfl
  | cons a l ih =>
    by_cases c : p a = true
    · rw [List.filter_cons_of_pos c, List.filter_cons_of_neg (by simp [c])]
      simp only [List.length_cons]; omega
    · rw [List.filter_cons_of_neg c, List.filter_cons_of_pos (by simp [c])]
      simp only [List.length_cons]; omega
theorem PartOk.merge {n : Nat} {gs gs' : List (List Int)} {a b j : List Int} (h : PartOk n gs) (ha : a ∈ gs) (hb : b ∈ gs) (hab : a ≠ b) (pj : j.Perm (a ++ b)) (sj : j.Pairwise (· ≤ ·))
    (hp : gs'.Perm (gs.filter (fun g => !decide (g ∈ [a, b])) ++ [j])) : PartOk n gs' ∧ gs'.length + 1 = gs.length := by
  have dab : ∀ x ∈ a, x ∉ b := fun x hx hy => hab (h.uniq ha hb hx hy)
  have mj : ∀ x, x ∈ j ↔ x ∈ a ∨ x ∈ b := fun x => by rw [pj.mem_iff, List.mem_append]
  have nj : j.Nodup := by
    rw [pj.nodup_iff, List.nodup_append]
    refine ⟨(h.so a ha).imp fun l => by omega, (h.so b hb).imp fun l => by omega, fun x hx y hy e => dab x hx (e ▸ hy)⟩
  constructor
  · refine PartOk.perm (gs := gs.filter (fun g => !decide (g ∈ [a, b])) ++ [j]) ⟨fun g hg => ?_, fun g hg => ?_, fun g hg => ?_, ?_, fun x hx => ?_⟩ hp.symm
    · rcases List.mem_append.mp hg with hg | hg
      · exact h.ne g (List.mem_filter.mp hg).1
      · rw [List.mem_singleton] at hg
        subst hg
        obtain ⟨x, r, e⟩ := List.exists_cons_of_ne_nil (h.ne a ha)
        have : x ∈ g := (mj x).mpr (.inl (by rw [e]; simp))
        intro z; rw [z] at this; simp at this
    · rcases List.mem_append.mp hg with hg | hg
      · exact h.rg g (List.mem_filter.mp hg).1
      · rw [List.mem_singleton] at hg
        subst hg
        intro x hx
        rcases (mj x).mp hx with q | q
        · exact h.rg a ha x q
        · exact h.rg b hb x q
    · rcases List.mem_append.mp hg with hg | hg
      · exact h.so g (List.mem_filter.mp hg).1
      · rw [List.mem_singleton] at hg
        subst hg
        exact strict_of sj nj
    · rw [List.pairwise_append]
      refine ⟨h.dj.sublist List.filter_sublist, by simp, fun g hg k hk x hx hy => ?_⟩
      rw [List.mem_singleton] at hk
      subst hk
      obtain ⟨g1, g2⟩ := List.mem_filter.mp hg
      have g3 : g ≠ a ∧ g ≠ b := by simpa using g2
      rcases (mj x).mp hy with q | q
      · exact g3.1 (h.uniq g1 ha hx q)
      · exact g3.2 (h.uniq g1 hb hx q)
    · obtain ⟨g, hg, e⟩ := h.cov x hx
      by_cases c : g = a ∨ g = b
      · refine ⟨j, by simp, (mj x).mpr ?_⟩
        rcases c with rfl | rfl
        · exact .inl e
        · exact .inr e
      · exact ⟨g, List.mem_append.mpr (.inl (List.mem_filter.mpr ⟨hg, by simpa using c⟩)), e⟩
  · have l1 := hp.length_eq
    rw [List.length_append] at l1
    have l2 := filter_len gs fun g => decide (g ∈ [a, b])
    have l3 : (gs.filter fun g => decide (g ∈ [a, b])).length = 2 := by
      have nd : (gs.filter fun g => decide (g ∈ [a, b])).Nodup := List.Nodup.sublist List.filter_sublist h.nodup
      rcases two_of nd hab (fun x => by
        rw [List.mem_filter, decide_eq_true_eq]
        constructor
        · rintro ⟨_, q⟩; simpa using q
        · intro q
          refine ⟨?_, by simpa using q⟩
          rcases q with rfl | rfl
          · exact ha
          · exact hb) with q | q <;> rw [q] <;> rfl
    simp only [List.length_cons, List.length_nil] at l1
    omega
theorem Conn.merge {ws : List Way} {is : List Int} {gs gs' : List (List Int)} {a b j : List Int} {i : Int} {w : Way} (h : Conn ws is gs) (ha : a ∈ gs) (hb : b ∈ gs)
    (hw : ws[i.toNat]? = some w) (he : (w.1 ∈ a ∧ w.2.1 ∈ b) ∨ (w.1 ∈ b ∧ w.2.1 ∈ a)) (pj : j.Perm (a ++ b)) (hp : gs'.Perm (gs.filter (fun g => !decide (g ∈ [a, b])) ++ [j])) : Conn ws (is ++ [i]) gs' := by
  intro S hS g hg
  have hS' : Cl ws is S := fun k hk v hv => hS k (List.mem_append.mpr (.inl hk)) v hv
  have ew := hS i (by simp) w hw
  rcases List.mem_append.mp (hp.mem_iff.mp hg) with hg | hg
  · exact h S hS' g (List.mem_filter.mp hg).1
  · rw [List.mem_singleton] at hg
    subst hg
    have all : ∀ x ∈ g, S x = S w.1 := fun x hx => by
      rcases List.mem_append.mp (pj.mem_iff.mp hx) with q | q <;> rcases he with ⟨e1, e2⟩ | ⟨e1, e2⟩
      · exact h S hS' a ha x q _ e1
      · rw [ew]; exact h S hS' a ha x q _ e2
      · rw [ew]; exact h S hS' b hb x q _ e2
      · exact h S hS' b hb x q _ e1
    intro x hx y hy
    rw [all x hx, all y hy]
/-! ### widths -/
def getM : List Moat → List Int → Rat
  | [], _ => 0
  | m :: r, g => if m.1 = g then m.2 else getM r g
def putM : List Moat → List Int → Rat → List Moat
  | [], g, q => [(g, q)]
  | m :: r, g, q => if m.1 = g then (g, q) :: r else m :: putM r g q
theorem load_put (w : Way) (g : List Int) (s : Rat) : ∀ L : List Moat, load w (putM L g (getM L g + s)) = load w L + if crW w g = true then s else 0
  | [] => by
    show load w [(g, (0 : Rat) + s)] = _
    rw [load_cons, Rat.zero_add]
    grind
  | m :: r => by
    unfold putM getM
    by_cases c : m.1 = g
    · rw [if_pos c, if_pos c, load_cons, load_cons, c]
      split <;> grind
    · rw [if_neg c, if_neg c, load_cons, load_cons, load_put w g s r]
      grind
theorem put_keys (g : List Int) (q : Rat) : ∀ L : List Moat, (putM L g q).map (·.1) = if g ∈ L.map (·.1) then L.map (·.1) else L.map (·.1) ++ [g]
  | [] => rfl
  | m :: r => by
    unfold putM
    by_cases c : m.1 = g
    · rw [if_pos c, if_pos (by simp [c])]
      simp [c]
    · rw [if_neg c, List.map_cons, put_keys g q r]
      by_cases d : g ∈ r.map (·.1)
      · rw [if_pos d, if_pos (by rw [List.map_cons]; exact List.mem_cons_of_mem _ d), List.map_cons]
      · rw [if_neg d, if_neg (by
          rw [List.map_cons, List.mem_cons]
          rintro (e | e)
          · exact c e.symm
          · exact d e), List.map_cons]
        rfl
theorem put_mem {g : List Int} {q : Rat} {m : Moat} : ∀ {L : List Moat}, m ∈ putM L g q → m ∈ L ∨ m = (g, q)
  | [], h => .inr (by simpa [putM] using h)
  | a :: r, h => by
    unfold putM at h
    split at h
    · rcases List.mem_cons.mp h with h | h
      · exact .inr h
      · exact .inl (List.mem_cons_of_mem _ h)
    · rcases List.mem_cons.mp h with h | h
      · exact .inl (by rw [h]; simp)
      · rcases put_mem h with h | h
        · exact .inl (List.mem_cons_of_mem _ h)
        · exact .inr h
theorem put_nodup {g : List Int} {q : Rat} {L : List Moat} (h : (L.map (·.1)).Nodup) : ((putM L g q).map (·.1)).Nodup := by
  rw [put_keys]
  split
  · exact h
  · rename_i c
    rw [List.nodup_append]
    exact ⟨h, by simp, fun x hx y hy e => c (by rw [List.mem_singleton] at hy; rw [← hy, ← e]; exact hx)⟩
theorem get_mem {L : List Moat} {g : List Int} (h : g ∈ L.map (·.1)) : (g, getM L g) ∈ L := by
  induction L with
  | nil => simp at h
  | cons a r ih =>
    unfold getM
    by_cases c : a.1 = g
    · rw [if_pos c]
      have : (g, a.2) = a := by rw [← c]
      rw [this]; simp
    · rw [if_neg c]
      rw [List.map_cons, List.mem_cons] at h
      exact List.mem_cons_of_mem _ (ih (h.resolve_left fun e => c e.symm))
theorem get_not {L : List Moat} {g : List Int} (h : g ∉ L.map (·.1)) : getM L g = 0 := by
  induction L with
  | nil => rfl
  | cons a r ih =>
    unfold getM
    rw [List.map_cons, List.mem_cons, not_or] at h
    rw [if_neg (fun e => h.1 e.symm), ih h.2]
/-- all open groups grow -/
def bump (s : Rat) (L : List Moat) (g : List Int) : List Moat := putM L g (getM L g + s)
theorem load_bumps (w : Way) (s : Rat) : ∀ (still : List (List Int)) (L : List Moat), load w (still.foldl (bump s) L) = load w L + s * (cnt w still : Rat)
  | [], L => by
    show load w L = load w L + s * ((0 : Nat) : Rat)
    rw [show ((0 : Nat) : Rat) = 0 from rfl, Rat.mul_zero, Rat.add_zero]
  | g :: r, L => by
    rw [List.foldl_cons, load_bumps w s r]
    unfold bump cnt
    rw [load_put]
    by_cases c : crW w g = true
    · rw [if_pos c, List.filter_cons_of_pos (p := fun g => crW w g) c, List.length_cons, Rat.natCast_add]
      grind
    · rw [if_neg c, List.filter_cons_of_neg (p := fun g => crW w g) c, Rat.add_zero]
end MW
/-! part M9 -/
set_option autoImplicit false
namespace MW
/-! ### a growth -/
structure GS where
  time : Rat
  parts : List (List Int)
  filled : List Rat
  wid : List Moat
  taken : List (Rat × Int)
def opn (ps : List (Int × Int)) (g : List Int) : Bool := ps.any fun p => crP p g
/-- the choice of all ways -/
def WK (n : Nat) (ps : List (Int × Int)) (k : Nat) (m : Moat) : Prop := m.1 ≠ [] ∧ (∀ x ∈ m.1, x ∈ iota n) ∧ m.1.Pairwise (· < ·) ∧ opn ps m.1 = true ∧ 0 ≤ m.2 ∧ IsI (2 ^ k) m.2
structure GOk (n : Nat) (ws : List Way) (ps : List (Int × Int)) (k : Nat) (G : GS) : Prop where
  po : PartOk n G.parts
  cn : Conn ws (G.taken.map (·.2)) G.parts
  ir : InR ws (G.taken.map (·.2))
  tl : G.taken.length + G.parts.length ≤ n
  fl : G.filled.length = ws.length
  ld : ∀ (i : Nat) w q, ws[i]? = some w → G.filled[i]? = some q → q = load w G.wid ∧ q ≤ (w.2.2 : Rat) ∧ IsI (2 ^ k) q
  wn : (G.wid.map (·.1)).Nodup
  wk : ∀ m ∈ G.wid, WK n ps k m
  us : ∃ U : List (List Int), U.length ≤ n + G.taken.length ∧ (∀ g ∈ G.parts, g ∈ U) ∧ ∀ m ∈ G.wid, m.1 ∈ U
  tm : Dn (2 ^ k) (10000 * k) G.time
variable {n : Nat} {ws : List Way} {ps : List (Int × Int)} {k : Nat} {G : GS}
theorem isI_up {k : Nat} {q : Rat} (h : IsI (2 ^ k) q) : IsI (2 ^ (k + 1)) q := by rw [Nat.pow_succ]; exact h.up 2
theorem GOk.get (h : GOk n ws ps k G) {i : Nat} {w : Way} (hw : ws[i]? = some w) : ∃ q, G.filled[i]? = some q := by
  have hi := (List.getElem?_eq_some_iff.mp hw).1
  exact ⟨G.filled[i]'(by rw [h.fl]; exact hi), List.getElem?_eq_getElem _⟩
theorem load_nn {w : Way} {L : List Moat} (h : ∀ m ∈ L, 0 ≤ m.2) : 0 ≤ load w L := rs_nn fun q hq => by
  obtain ⟨m, hm, rfl⟩ := mem_loads hq
  exact h m hm
theorem le_load {w : Way} {L : List Moat} {m : Moat} (hm : m ∈ L) (c : crW w m.1 = true) (h : ∀ m ∈ L, 0 ≤ m.2) : m.2 ≤ load w L := by
  induction L with
  | nil => simp at hm
  | cons a r ih =>
    rw [load_cons]
    have nn := load_nn (w := w) fun m hm => h m (List.mem_cons_of_mem _ hm)
    rcases List.mem_cons.mp hm with rfl | hm
    · rw [if_pos c]; grind
    · have h1 := ih hm fun m hm => h m (List.mem_cons_of_mem _ hm)
      have h2 := h a (by simp)
      split <;> grind
theorem GOk.fnn (h : GOk n ws ps k G) {i : Nat} {w : Way} {q : Rat} (hw : ws[i]? = some w) (hq : G.filled[i]? = some q) : 0 ≤ q := by
  rw [(h.ld i w q hw hq).1]
  exact load_nn fun m hm => (h.wk m hm).2.2.2.2.1
theorem cost_q (hn : NetOk n ws) {i : Nat} {w : Way} (hw : ws[i]? = some w) : (1 : Rat) ≤ (w.2.2 : Rat) ∧ (w.2.2 : Rat) ≤ 10000 := by
  obtain ⟨a, b⟩ := hn.cost w (List.mem_of_getElem? hw)
  have e1 : ((1 : Int) : Rat) ≤ (w.2.2 : Rat) := Rat.intCast_le_intCast.mpr a
  have e2 : (w.2.2 : Rat) ≤ ((10000 : Int) : Rat) := Rat.intCast_le_intCast.mpr b
  exact ⟨e1, e2⟩
theorem open_pair {g : List Int} (h : opn ps g = true) : ∃ p ∈ ps, crP p g = true := by
  unfold opn at h
  rw [List.any_eq_true] at h
  exact h
def wholeI (ws : List Way) : List Int := iota ws.length
theorem cross_idx (hj : Jn ws (wholeI ws) ps) {g : List Int} (h : opn ps g = true) : ∃ (i : Nat) (w : Way), ws[i]? = some w ∧ crW w g = true := by
  obtain ⟨p, hp, c⟩ := open_pair h
  obtain ⟨i, _, w, hw, cw⟩ := cross_of hj hp c
  exact ⟨i.toNat, w, hw, cw⟩
/-- bounded by the loads -/
theorem wid_le (hn : NetOk n ws) (hj : Jn ws (wholeI ws) ps) {L : List Moat} (hL : ∀ m ∈ L, WK n ps k m) (hl : ∀ (i : Nat) w, ws[i]? = some w → load w L ≤ (w.2.2 : Rat)) {m : Moat} (hm : m ∈ L) : m.2 ≤ 10000 := by
  obtain ⟨i, w, hw, c⟩ := cross_idx hj (hL m hm).2.2.2.1
  have h1 := le_load hm c fun m hm => (hL m hm).2.2.2.2.1
  have h2 := hl i w hw
  have h3 := (cost_q hn hw).2
  grind
theorem two_pos (k : Nat) : 0 < 2 ^ k := Nat.two_pow_pos k
theorem two_lt {k : Nat} (h : k ≤ 20) : 2 ^ k < 2 ^ 1000 := Nat.pow_lt_pow_right (by decide) (by omega)
theorem dn_of {D B : Nat} {q : Rat} (z : IsI D q) (h0 : 0 ≤ q) (h1 : q ≤ (B : Rat)) : Dn D B q := ⟨z, by
  have : (0 : Rat) ≤ (B : Rat) := Rat.le_trans h0 h1
  grind, h1⟩
theorem b20 {b : Nat} (h : b < 2 ^ 20) : b < 2 ^ 900 := Nat.lt_of_lt_of_le h (Nat.pow_le_pow_right (by decide) (by decide))
theorem dn_sm {k : Nat} {q : Rat} {B : Nat} (h : Dn (2 ^ k) B q) (hk : k ≤ 20) (hB : B < 2 ^ 20) : Sm q := h.sm (two_pos k) (two_lt hk) (b20 hB)
theorem GOk.fdn (hn : NetOk n ws) (h : GOk n ws ps k G) {i : Nat} {w : Way} {q : Rat} (hw : ws[i]? = some w) (hq : G.filled[i]? = some q) : Dn (2 ^ k) 10000 q := by
  obtain ⟨_, b, c⟩ := h.ld i w q hw hq
  exact dn_of c (h.fnn hw hq) (Rat.le_trans b (cost_q hn hw).2)
/-! ### the span -/
def tlOf (still : List (List Int)) (x : Way × Rat) : Option Rat := if 0 < cnt x.1 still then some (((x.1.2.2 : Rat) - x.2) / ((cnt x.1 still : Int) : Rat)) else none
def tls (ws : List Way) (fl : List Rat) (still : List (List Int)) (j : Nat) : List Rat := ((ws.zip fl).take j).filterMap (tlOf still)
theorem zip_get {fl : List Rat} {i : Nat} {w : Way} {q : Rat} (hw : ws[i]? = some w) (hq : fl[i]? = some q) : (ws.zip fl)[i]? = some (w, q) := by
  rw [List.getElem?_zip_eq_some]; exact ⟨hw, hq⟩
theorem tls_succ {fl : List Rat} {still : List (List Int)} {i : Nat} {w : Way} {q : Rat} (hw : ws[i]? = some w) (hq : fl[i]? = some q) :
    tls ws fl still (i + 1) = tls ws fl still i ++ (if 0 < cnt w still then [((w.2.2 : Rat) - q) / ((cnt w still : Int) : Rat)] else []) := by
  unfold tls
  rw [List.take_add_one, zip_get hw hq, List.filterMap_append]
  congr 1
  unfold tlOf
  by_cases c : 0 < cnt w still
  · simp [c]
  · simp [c]
theorem tls_zero {fl : List Rat} {still : List (List Int)} : tls ws fl still 0 = [] := rfl
theorem tls_mem {fl : List Rat} {still : List (List Int)} {t : Rat} (h : t ∈ tls ws fl still ws.length) :
    ∃ (i : Nat) (w : Way) (q : Rat), ws[i]? = some w ∧ fl[i]? = some q ∧ 0 < cnt w still ∧ t = ((w.2.2 : Rat) - q) / ((cnt w still : Int) : Rat) := by
  unfold tls at h
  obtain ⟨x, hx, e⟩ := List.mem_filterMap.mp h
  obtain ⟨i, hi, rfl⟩ := List.mem_iff_getElem.mp (List.mem_of_mem_take hx)
  have hz : (ws.zip fl)[i]? = some (ws.zip fl)[i] := List.getElem?_eq_getElem hi
  obtain ⟨a, b⟩ := List.getElem?_zip_eq_some.mp hz
  unfold tlOf at e
  by_cases c : 0 < cnt (ws.zip fl)[i].1 still
  · rw [if_pos c] at e
    exact ⟨i, _, _, a, b, c, (Option.some.inj e).symm⟩
  · rw [if_neg c] at e; cases e
theorem mem_tls {fl : List Rat} {still : List (List Int)} {i : Nat} {w : Way} {q : Rat} (hw : ws[i]? = some w) (hq : fl[i]? = some q) (hc : 0 < cnt w still) :
    ((w.2.2 : Rat) - q) / ((cnt w still : Int) : Rat) ∈ tls ws fl still ws.length := by
  unfold tls
  have hz := zip_get hw hq
  have hi : i < ws.length := (List.getElem?_eq_some_iff.mp hw).1
  refine List.mem_filterMap.mpr ⟨(w, q), ?_, by unfold tlOf; rw [if_pos hc]⟩
  rw [List.mem_iff_getElem?]
  exact ⟨i, by rw [List.getElem?_take, if_pos hi]; exact hz⟩
theorem cnt_le {gs : List (List Int)} {w : Way} (h : PartOk n gs) (h1 : w.1 ∈ iota n) (h2 : w.2.1 ∈ iota n) (o : List Int → Bool) : cnt w (gs.filter o) ≤ 2 := by
  rw [← rate_eq h h1 h2 o]
  refine Nat.le_trans (List.length_filter_le _ _) ?_
  split
  · omega
  · simp
theorem cnt_two {gs : List (List Int)} {w : Way} (h : PartOk n gs) (h1 : w.1 ∈ iota n) (h2 : w.2.1 ∈ iota n) (o : List Int → Bool) (hc : 0 < cnt w (gs.filter o)) : (ends w gs).length = 2 := by
  rw [← rate_eq h h1 h2 o] at hc
  apply Classical.byContradiction
  intro c
  rw [if_neg c, List.filter_nil] at hc
  exact absurd hc (by simp)
structure Spn (n : Nat) (ws : List Way) (k : Nat) (G : GS) (still : List (List Int)) (s : Rat) : Prop where
  nn : 0 ≤ s
  le : s ≤ 10000
  z : IsI (2 ^ (k + 1)) s
  ok : ∀ (i : Nat) w q, ws[i]? = some w → G.filled[i]? = some q → q + s * ((cnt w still : Int) : Rat) ≤ (w.2.2 : Rat)
  ex : ∃ (i : Nat) (w : Way) (q : Rat), ws[i]? = some w ∧ G.filled[i]? = some q ∧ 0 < cnt w still ∧ q + s * ((cnt w still : Int) : Rat) = (w.2.2 : Rat)
theorem div_mul_self {a r : Rat} (h : r ≠ 0) : a / r * r = a := by rw [Rat.div_def, Rat.mul_assoc, Rat.inv_mul_cancel _ h, Rat.mul_one]
theorem le_div {a r t : Rat} (h : 0 < r) (q : t ≤ a / r) : t * r ≤ a := by
  have := Rat.mul_le_mul_of_nonneg_right q (Rat.le_of_lt h)
  rwa [div_mul_self (by intro z; rw [z] at h; exact absurd h (by decide))] at this
theorem cnt_pos {c : Nat} (h : 0 < c) : (1 : Rat) ≤ ((c : Int) : Rat) := by
  have : ((1 : Int) : Rat) ≤ ((c : Int) : Rat) := Rat.intCast_le_intCast.mpr (by omega)
  exact this
theorem div_bd {a r : Rat} (h : 1 ≤ r) (h0 : 0 ≤ a) : 0 ≤ a / r ∧ a / r ≤ a := by
  have hr : r ≠ 0 := by intro z; rw [z] at h; exact absurd h (by decide)
  have e := div_mul_self (a := a) hr
  have h1 : 0 ≤ a / r := by
    rw [Rat.div_def]
    exact Rat.mul_nonneg h0 (Rat.le_of_lt (Rat.inv_pos.mpr (Std.lt_of_lt_of_le (by decide) h)))
  refine ⟨h1, ?_⟩
  have := Rat.mul_le_mul_of_nonneg_left h h1
  rw [e, Rat.mul_one] at this
  exact this
theorem isI_half {k c : Nat} {q : Rat} (h : IsI (2 ^ k) q) (h1 : 0 < c) (h2 : c ≤ 2) : IsI (2 ^ (k + 1)) (q / ((c : Int) : Rat)) := by
  have hc : c = 1 ∨ c = 2 := by omega
  rcases hc with rfl | rfl
  · have : q / (((1 : Nat) : Int) : Rat) = q := by
      rw [Rat.div_def]
      show q * (1 : Rat)⁻¹ = q
      rw [show (1 : Rat)⁻¹ = 1 from by decide +kernel, Rat.mul_one]
    rw [this]; exact isI_up h
  · obtain ⟨z, hz⟩ := h
    refine ⟨z, ?_⟩
    rw [Nat.pow_succ, Rat.natCast_mul, ← hz]
    have e : q / (((2 : Nat) : Int) : Rat) * ((2 : Nat) : Rat) = q := div_mul_self (by decide +kernel)
    grind
theorem tl_facts (hn : NetOk n ws) (h : GOk n ws ps k G) {o : List Int → Bool} {i : Nat} {w : Way} {q : Rat} (hw : ws[i]? = some w) (hq : G.filled[i]? = some q) (hc : 0 < cnt w (G.parts.filter o)) :
    0 ≤ ((w.2.2 : Rat) - q) / ((cnt w (G.parts.filter o) : Int) : Rat) ∧ ((w.2.2 : Rat) - q) / ((cnt w (G.parts.filter o) : Int) : Rat) ≤ 10000 ∧ IsI (2 ^ (k + 1)) (((w.2.2 : Rat) - q) / ((cnt w (G.parts.filter o) : Int) : Rat)) := by
  obtain ⟨_, b, c⟩ := h.ld i w q hw hq
  have h0 := h.fnn hw hq
  have hm := List.mem_of_getElem? hw
  have h2 := (cost_q hn hw).2
  obtain ⟨d1, d2⟩ := div_bd (a := (w.2.2 : Rat) - q) (cnt_pos hc) (by grind)
  exact ⟨d1, by grind, isI_half ((isI_int _ _).sub c) hc (cnt_le h.po (hn.ends w hm).1 (hn.ends w hm).2 o)⟩
theorem spn_of (hn : NetOk n ws) (h : GOk n ws ps k G) {o : List Int → Bool} {s : Rat} (hs : s ∈ tls ws G.filled (G.parts.filter o) ws.length) (hm : ∀ t ∈ tls ws G.filled (G.parts.filter o) ws.length, s ≤ t) :
    Spn n ws k G (G.parts.filter o) s := by
  obtain ⟨i, w, q, hw, hq, hc, e⟩ := tls_mem hs
  obtain ⟨f1, f2, f3⟩ := tl_facts hn h hw hq hc
  refine ⟨e ▸ f1, e ▸ f2, e ▸ f3, fun i w q hw hq => ?_, i, w, q, hw, hq, hc, ?_⟩
  · by_cases c : 0 < cnt w (G.parts.filter o)
    · have := le_div (Std.lt_of_lt_of_le (by decide) (cnt_pos c)) (hm _ (mem_tls hw hq c))
      grind
    · have c0 : cnt w (G.parts.filter o) = 0 := by omega
      rw [c0]
      have := (h.ld i w q hw hq).2.1
      show q + s * (0 : Rat) ≤ _
      grind
  · rw [e, div_mul_self (by
      have := cnt_pos hc
      intro z; rw [z] at this; exact absurd this (by decide))]
    grind
theorem tls_ne (hj : Jn ws (wholeI ws) ps) (h : GOk n ws ps k G) (ho : G.parts.filter (opn ps) ≠ []) : tls ws G.filled (G.parts.filter (opn ps)) ws.length ≠ [] := by
  obtain ⟨g, r, e⟩ := List.exists_cons_of_ne_nil ho
  have hg : g ∈ G.parts.filter (opn ps) := by rw [e]; simp
  obtain ⟨i, w, hw, c⟩ := cross_idx hj (List.mem_filter.mp hg).2
  obtain ⟨q, hq⟩ := h.get hw
  have : 0 < cnt w (G.parts.filter (opn ps)) := by
    unfold cnt
    exact List.length_pos_of_mem (List.mem_filter.mpr ⟨hg, c⟩)
  exact List.ne_nil_of_mem (mem_tls hw hq this)
end MW
/-! part M10 -/
set_option autoImplicit false
namespace MW
variable {n : Nat} {ws : List Way} {ps : List (Int × Int)} {k : Nat} {G : GS}
/-! ### time passes -/
def updF (still : List (List Int)) (s : Rat) (x : Way × Rat) : Rat := x.2 + s * ((cnt x.1 still : Int) : Rat)
def pasF (ws : List Way) (fl : List Rat) (still : List (List Int)) (s : Rat) (j : Nat) : List Rat := ((ws.zip fl).take j).map (updF still s) ++ fl.drop j
theorem pasF_zero {fl : List Rat} {still : List (List Int)} {s : Rat} : pasF ws fl still s 0 = fl := rfl
theorem pasF_get {fl : List Rat} {still : List (List Int)} {s : Rat} {j : Nat} (hl : fl.length = ws.length) (hj : j < ws.length) : (pasF ws fl still s j)[j]? = fl[j]? := by
  unfold pasF
  have e : (((ws.zip fl).take j).map (updF still s)).length = j := by
    rw [List.length_map, List.length_take, List.length_zip]; omega
  rw [List.getElem?_append_right (by omega), e, Nat.sub_self, List.getElem?_drop, Nat.add_zero]
theorem pasF_len {fl : List Rat} {still : List (List Int)} {s : Rat} {j : Nat} (hl : fl.length = ws.length) (hj : j ≤ ws.length) : (pasF ws fl still s j).length = ws.length := by
  unfold pasF
  rw [List.length_append, List.length_map, List.length_take, List.length_zip, List.length_drop]; omega
theorem pasF_set {fl : List Rat} {still : List (List Int)} {s q : Rat} {j : Nat} {w : Way} (hl : fl.length = ws.length) (hw : ws[j]? = some w) (hq : fl[j]? = some q) :
    (pasF ws fl still s j).set j (q + s * ((cnt w still : Int) : Rat)) = pasF ws fl still s (j + 1) := by
  unfold pasF
  have hj : j < ws.length := (List.getElem?_eq_some_iff.mp hw).1
  have e : (((ws.zip fl).take j).map (updF still s)).length = j := by
    rw [List.length_map, List.length_take, List.length_zip]; omega
  have hz := zip_get hw hq
  have hd : fl.drop j = q :: fl.drop (j + 1) := by
    obtain ⟨a, b⟩ := List.getElem?_eq_some_iff.mp hq
    rw [List.drop_eq_getElem_cons a, b]
  rw [List.set_append_right _ _ (by omega), e, Nat.sub_self, hd, List.set_cons_zero, List.take_add_one, hz, List.map_append, List.append_assoc]
  rfl
theorem pasF_all {fl : List Rat} {still : List (List Int)} {s : Rat} (hl : fl.length = ws.length) {i : Nat} {w : Way} {q : Rat} (hw : ws[i]? = some w) (hq : fl[i]? = some q) :
    (pasF ws fl still s ws.length)[i]? = some (q + s * ((cnt w still : Int) : Rat)) := by
  unfold pasF
  have hj : i < ws.length := (List.getElem?_eq_some_iff.mp hw).1
  rw [List.getElem?_append_left (by rw [List.length_map, List.length_take, List.length_zip]; omega), List.getElem?_map, List.getElem?_take, if_pos hj, zip_get hw hq]
  rfl
def passed (ws : List Way) (G : GS) (still : List (List Int)) (s : Rat) : GS :=
  { time := G.time + s, parts := G.parts, filled := pasF ws G.filled still s ws.length, wid := still.foldl (bump s) G.wid, taken := G.taken }
theorem cnt_take (w : Way) (still : List (List Int)) (j : Nat) : cnt w (still.take j) ≤ cnt w still := by
  unfold cnt
  exact (List.Sublist.filter _ (List.take_sublist j still)).length_le
theorem mid_load (h : GOk n ws ps k G) {still : List (List Int)} {s : Rat} (hs : Spn n ws k G still s) (j : Nat) (i : Nat) (w : Way) (hw : ws[i]? = some w) : load w ((still.take j).foldl (bump s) G.wid) ≤ (w.2.2 : Rat) := by
  obtain ⟨q, hq⟩ := h.get hw
  have e := (h.ld i w q hw hq).1
  have o := hs.ok i w q hw hq
  rw [load_bumps, ← e]
  have c : ((cnt w (still.take j) : Nat) : Rat) ≤ ((cnt w still : Int) : Rat) := by
    have : (((cnt w (still.take j) : Nat) : Int) : Rat) ≤ ((cnt w still : Int) : Rat) := Rat.intCast_le_intCast.mpr (by have := cnt_take w still j; omega)
    exact this
  have := Rat.mul_le_mul_of_nonneg_left c hs.nn
  grind
theorem isI_get {L : List Moat} {g : List Int} (h : ∀ m ∈ L, IsI (2 ^ k) m.2 ∧ 0 ≤ m.2) : IsI (2 ^ k) (getM L g) ∧ 0 ≤ getM L g := by
  by_cases c : g ∈ L.map (·.1)
  · exact h _ (get_mem c)
  · rw [get_not c]; exact ⟨isI_zero _, by decide⟩
theorem wk_up {m : Moat} (h : WK n ps k m) : WK n ps (k + 1) m := ⟨h.1, h.2.1, h.2.2.1, h.2.2.2.1, h.2.2.2.2.1, isI_up h.2.2.2.2.2⟩
theorem wk_bump {L : List Moat} {g : List Int} {s : Rat} (hL : ∀ m ∈ L, WK n ps k m) (h1 : g ≠ []) (h2 : ∀ x ∈ g, x ∈ iota n) (h3 : g.Pairwise (· < ·)) (h4 : opn ps g = true) (s0 : 0 ≤ s) (sz : IsI (2 ^ k) s) : ∀ m ∈ bump s L g, WK n ps k m := by
  intro m hm
  rcases put_mem hm with hm | rfl
  · exact hL m hm
  · obtain ⟨a, b⟩ := isI_get (g := g) fun m hm => ⟨(hL m hm).2.2.2.2.2, (hL m hm).2.2.2.2.1⟩
    exact ⟨h1, h2, h3, h4, by show 0 ≤ getM L g + s; grind, a.add sz⟩
theorem wk_bumps {s : Rat} (s0 : 0 ≤ s) (sz : IsI (2 ^ k) s) : ∀ (gs : List (List Int)) (L : List Moat), (∀ m ∈ L, WK n ps k m) → (∀ g ∈ gs, g ≠ [] ∧ (∀ x ∈ g, x ∈ iota n) ∧ g.Pairwise (· < ·) ∧ opn ps g = true) → ∀ m ∈ gs.foldl (bump s) L, WK n ps k m
  | [], L, h, _ => h
  | g :: r, L, h, hg => by
    obtain ⟨a, b, c, d⟩ := hg g (by simp)
    exact wk_bumps s0 sz r _ (wk_bump h a b c d s0 sz) fun g hg' => hg g (List.mem_cons_of_mem _ hg')
theorem bumps_nodup {s : Rat} : ∀ (gs : List (List Int)) (L : List Moat), (L.map (·.1)).Nodup → ((gs.foldl (bump s) L).map (·.1)).Nodup
  | [], _, h => h
  | _ :: r, _, h => bumps_nodup r _ (put_nodup h)
theorem bumps_sub {s : Rat} {U : List (List Int)} : ∀ (gs : List (List Int)) (L : List Moat), (∀ m ∈ L, m.1 ∈ U) → (∀ g ∈ gs, g ∈ U) → ∀ m ∈ gs.foldl (bump s) L, m.1 ∈ U
  | [], _, h, _ => h
  | g :: r, L, h, hg => bumps_sub r _ (fun m hm => by
      rcases put_mem hm with hm | rfl
      · exact h m hm
      · exact hg g (by simp)) fun x hx => hg x (List.mem_cons_of_mem _ hx)
theorem still_ok (h : GOk n ws ps k G) : ∀ g ∈ G.parts.filter (opn ps), g ≠ [] ∧ (∀ x ∈ g, x ∈ iota n) ∧ g.Pairwise (· < ·) ∧ opn ps g = true := fun g hg => by
  obtain ⟨a, b⟩ := List.mem_filter.mp hg
  exact ⟨h.po.ne g a, h.po.rg g a, h.po.so g a, b⟩
/-- in the midst of a step -/
structure Mid (n : Nat) (ps : List (Int × Int)) (k : Nat) (L : List Moat) : Prop where
  wk : ∀ m ∈ L, WK n ps k m
  le : ∀ m ∈ L, m.2 ≤ 10000
  wn : (L.map (·.1)).Nodup
  ln : L.length ≤ 2 * n
theorem sub_len {U : List (List Int)} {L : List Moat} (hn : (L.map (·.1)).Nodup) (h : ∀ m ∈ L, m.1 ∈ U) : L.length ≤ U.length := by
  have := List.Nodup.length_le_of_subset hn (l₂ := U) fun x hx => by
    obtain ⟨m, hm, rfl⟩ := List.mem_map.mp hx
    exact h m hm
  rwa [List.length_map] at this
theorem GOk.nt (h : GOk n ws ps k G) : G.taken.length ≤ n := by have := h.tl; omega
theorem mid_of (hn : NetOk n ws) (hj : Jn ws (wholeI ws) ps) (h : GOk n ws ps k G) {s : Rat} (hs : Spn n ws k G (G.parts.filter (opn ps)) s) (j : Nat) : Mid n ps (k + 1) (((G.parts.filter (opn ps)).take j).foldl (bump s) G.wid) := by
  have w1 : ∀ m ∈ ((G.parts.filter (opn ps)).take j).foldl (bump s) G.wid, WK n ps (k + 1) m :=
    wk_bumps hs.nn hs.z _ _ (fun m hm => wk_up (h.wk m hm)) fun g hg => still_ok h g (List.mem_of_mem_take hg)
  refine ⟨w1, fun m hm => wid_le hn hj w1 (mid_load h hs j) hm, bumps_nodup _ _ h.wn, ?_⟩
  obtain ⟨U, u1, u2, u3⟩ := h.us
  refine Nat.le_trans (sub_len (U := U) (bumps_nodup _ _ h.wn) (bumps_sub _ _ u3 fun g hg => u2 g (List.mem_filter.mp (List.mem_of_mem_take hg)).1)) ?_
  have := h.nt
  omega
theorem Mid.sm {L : List Moat} (h : Mid n ps k L) (hk : k ≤ 20) (g : List Int) : Sm (getM L g) := by
  obtain ⟨a, b⟩ := isI_get (g := g) fun m hm => ⟨(h.wk m hm).2.2.2.2.2, (h.wk m hm).2.2.2.2.1⟩
  refine dn_sm (B := 10000) (dn_of a b ?_) hk (by decide)
  by_cases c : g ∈ L.map (·.1)
  · exact h.le _ (get_mem c)
  · rw [get_not c]; decide +kernel
theorem foldl_take {α β : Type} (f : β → α → β) (b : β) {l : List α} {j : Nat} {x : α} (h : l[j]? = some x) : (l.take (j + 1)).foldl f b = f ((l.take j).foldl f b) x := by
  rw [List.take_add_one, h, List.foldl_append]; rfl
theorem GOk.pass (hn : NetOk n ws) (hj : Jn ws (wholeI ws) ps) (h : GOk n ws ps k G) {s : Rat} (hs : Spn n ws k G (G.parts.filter (opn ps)) s) : GOk n ws ps (k + 1) (passed ws G (G.parts.filter (opn ps)) s) := by
  have m := mid_of hn hj h hs (G.parts.filter (opn ps)).length
  rw [List.take_length] at m
  obtain ⟨U, u1, u2, u3⟩ := h.us
  refine ⟨h.po, h.cn, h.ir, h.tl, pasF_len h.fl (Nat.le_refl _), fun i w q hw hq => ?_, m.wn, m.wk, ⟨U, u1, u2, bumps_sub _ _ u3 fun g hg => u2 g (List.mem_filter.mp hg).1⟩, ?_⟩
  · obtain ⟨q0, h0⟩ := h.get hw
    have e : q = q0 + s * ((cnt w (G.parts.filter (opn ps)) : Int) : Rat) := by
      have := pasF_all (still := G.parts.filter (opn ps)) (s := s) h.fl hw h0
      have hq' : (pasF ws G.filled (G.parts.filter (opn ps)) s ws.length)[i]? = some q := hq
      rw [this] at hq'
      exact (Option.some.inj hq').symm
    obtain ⟨a, b, c⟩ := h.ld i w q0 hw h0
    refine ⟨?_, ?_, ?_⟩
    · rw [e, a]
      exact (load_bumps w s _ _).symm
    · rw [e]; exact hs.ok i w q0 hw h0
    · rw [e]
      obtain ⟨z, hz⟩ := hs.z
      refine (isI_up c).add ⟨z * (cnt w (G.parts.filter (opn ps)) : Int), ?_⟩
      rw [Rat.intCast_mul, ← hz]; grind
  · have t := h.tm
    have l1 := t.lo
    have l2 := t.hi
    have l3 := hs.nn
    have l4 := hs.le
    have e : ((10000 * (k + 1) : Nat) : Rat) = ((10000 * k : Nat) : Rat) + 10000 := by
      rw [Nat.mul_succ, Rat.natCast_add]; rfl
    exact ⟨(isI_up t.z).add hs.z, by show _ ≤ G.time + s; rw [e]; grind, by show G.time + s ≤ _; rw [e]; grind⟩
def Full (ws : List Way) (G : GS) : Prop := ∃ (i : Nat) (w : Way), ws[i]? = some w ∧ G.filled[i]? = some (w.2.2 : Rat) ∧ (ends w G.parts).length = 2
theorem pass_full (hn : NetOk n ws) (h : GOk n ws ps k G) {s : Rat} (hs : Spn n ws k G (G.parts.filter (opn ps)) s) : Full ws (passed ws G (G.parts.filter (opn ps)) s) := by
  obtain ⟨i, w, q, hw, hq, hc, e⟩ := hs.ex
  have hm := hn.ends w (List.mem_of_getElem? hw)
  refine ⟨i, w, hw, ?_, cnt_two h.po hm.1 hm.2 _ hc⟩
  rw [← e]
  exact pasF_all h.fl hw hq
/-! ### a way is taken -/
theorem GOk.take (h : GOk n ws ps k G) {i : Nat} {w : Way} (hw : ws[i]? = some w) {a b j : List Int} {gs' : List (List Int)} {t : Rat} (he : ends w G.parts = [a, b]) (hn : NetOk n ws) (pj : j.Perm (a ++ b)) (sj : j.Pairwise (· ≤ ·))
    (hp : gs'.Perm (G.parts.filter (fun g => !decide (g ∈ [a, b])) ++ [j])) : GOk n ws ps k { G with parts := gs', taken := G.taken ++ [(t, (i : Int))] } ∧ gs'.length + 1 = G.parts.length := by
  have hm := hn.ends w (List.mem_of_getElem? hw)
  rcases ends_spec h.po hm.1 hm.2 with ⟨z, _⟩ | ⟨a', b', q, ha, hb, hab, hx, _⟩
  · rw [he] at z; exact absurd rfl z
  · rw [he] at q
    cases q
    obtain ⟨m1, m2⟩ := h.po.merge ha hb hab pj sj hp
    have hi : i < ws.length := (List.getElem?_eq_some_iff.mp hw).1
    refine ⟨⟨m1, ?_, ?_, ?_, h.fl, h.ld, h.wn, h.wk, ?_, h.tm⟩, m2⟩
    · rw [List.map_append]
      exact h.cn.merge ha hb (by rw [Int.toNat_natCast]; exact hw) hx pj hp
    · rw [List.map_append]
      intro x hx
      rcases List.mem_append.mp hx with hx | hx
      · exact h.ir x hx
      · have : x = (i : Int) := by simpa using hx
        omega
    · have := h.tl
      rw [List.length_append]
      show G.taken.length + 1 + gs'.length ≤ n
      omega
    · obtain ⟨U, u1, u2, u3⟩ := h.us
      refine ⟨U ++ [j], ?_, fun g hg => ?_, fun m hm => List.mem_append.mpr (.inl (u3 m hm))⟩
      · rw [List.length_append, List.length_append]
        show U.length + 1 ≤ n + (G.taken.length + 1)
        omega
      · rcases List.mem_append.mp (hp.mem_iff.mp hg) with hg | hg
        · exact List.mem_append.mpr (.inl (u2 g (List.mem_filter.mp hg).1))
        · exact List.mem_append.mpr (.inr hg)
/-! ### the end -/
theorem GOk.joined (h : GOk n ws ps k G) (hp : PairsOk n ps) (ho : G.parts.filter (opn ps) = []) : Jn ws (G.taken.map (·.2)) ps := by
  intro S hS p hm
  obtain ⟨g, hg, e⟩ := h.po.cov _ (hp p hm).1
  have no : opn ps g = false := by
    have := List.filter_eq_nil_iff.mp ho g hg
    simpa using this
  have c : crP p g = false := by
    cases z : crP p g with
    | false => rfl
    | true =>
      have : opn ps g = true := List.any_eq_true.mpr ⟨p, hm, z⟩
      rw [no] at this; cases this
  have e2 : p.2 ∈ g := by
    unfold crP at c
    have : decide (p.1 ∈ g) = decide (p.2 ∈ g) := by simpa using c
    exact (decide_eq_decide.mp this).mp e
  exact h.cn S hS g hg _ e _ e2
theorem rs_perm {a b : List Rat} (h : a.Perm b) : rs a = rs b := by
  induction h with
  | nil => rfl
  | cons x _ ih => show x + rs _ = x + rs _; rw [ih]
  | swap x y l => show y + (x + rs l) = x + (y + rs l); grind
  | trans _ _ h1 h2 => rw [h1, h2]
theorem load_perm {w : Way} {a b : List Moat} (h : a.Perm b) : load w a = load w b := rs_perm ((h.filter _).map _)
theorem load_filter {w : Way} (f : Moat → Bool) : ∀ {L : List Moat}, (∀ m ∈ L, 0 ≤ m.2) → load w (L.filter f) ≤ load w L
  | [], _ => Rat.le_refl
  | m :: r, h => by
    have ih := load_filter f (w := w) (L := r) fun x hx => h x (List.mem_cons_of_mem _ hx)
    have h0 := h m (by simp)
    by_cases c : f m = true
    · rw [List.filter_cons_of_pos c, load_cons, load_cons]; grind
    · rw [List.filter_cons_of_neg c, load_cons]
      split <;> grind
theorem get_of_mem {L : List Moat} (hn : (L.map (·.1)).Nodup) {m : Moat} (h : m ∈ L) : getM L m.1 = m.2 := by
  induction L with
  | nil => simp at h
  | cons a r ih =>
    rw [List.map_cons, List.nodup_cons] at hn
    unfold getM
    rcases List.mem_cons.mp h with rfl | h
    · rw [if_pos rfl]
    · rw [if_neg (fun e => hn.1 (by rw [e]; exact List.mem_map_of_mem h)), ih hn.2 h]
theorem map_get {L : List Moat} (hn : (L.map (·.1)).Nodup) : (L.map (·.1)).map (fun g => (g, getM L g)) = L := by
  rw [List.map_map]
  have : L.map ((fun g => (g, getM L g)) ∘ fun m : Moat => m.1) = L.map id := List.map_congr_left fun m hm => by
    show (m.1, getM L m.1) = m
    rw [get_of_mem hn hm]
  rw [this, List.map_id]
theorem GOk.paper (hn : NetOk n ws) (hj : Jn ws (wholeI ws) ps) (h : GOk n ws ps k G) (hk : k ≤ 20) {ks : List (List Int)} (hp : ks.Perm (G.wid.map (·.1))) :
    PapOk n ws ps ((ks.filter fun g => !decide (getM G.wid g = 0)).map fun g => (g, getM G.wid g)) := by
  have hl : ∀ (i : Nat) w, ws[i]? = some w → load w G.wid ≤ (w.2.2 : Rat) := fun i w hw => by
    obtain ⟨q, hq⟩ := h.get hw
    obtain ⟨a, b, _⟩ := h.ld i w q hw hq
    rw [← a]; exact b
  have hle := fun m hm => wid_le hn hj h.wk hl (m := m) hm
  have hlen : ks.length ≤ 24 := by
    obtain ⟨U, u1, u2, u3⟩ := h.us
    have := sub_len h.wn u3
    have l := hp.length_eq
    rw [List.length_map] at l
    have := h.nt
    have := hn.n2
    omega
  have mem : ∀ g ∈ ks, (g, getM G.wid g) ∈ G.wid := fun g hg => get_mem (hp.mem_iff.mp hg)
  have mem2 : ∀ m ∈ (ks.filter fun g => !decide (getM G.wid g = 0)).map (fun g => (g, getM G.wid g)), m ∈ G.wid ∧ m.2 ≠ 0 := fun m hm => by
    obtain ⟨g, hg, rfl⟩ := List.mem_map.mp hm
    obtain ⟨a, b⟩ := List.mem_filter.mp hg
    exact ⟨mem g a, by simpa using b⟩
  refine ⟨fun m hm => ?_, ?_, ?_, fun l hl' => ?_, fun w hw => ?_, fun m hm => ?_⟩
  · obtain ⟨a, b⟩ := mem2 m hm
    obtain ⟨c1, c2, c3, _, c5, _⟩ := h.wk m a
    refine ⟨c1, c2, c3, ?_⟩
    grind
  · rw [List.map_map]
    have : ((ks.filter fun g => !decide (getM G.wid g = 0)).map ((fun x : Moat => x.1) ∘ fun g => (g, getM G.wid g))) = ks.filter fun g => !decide (getM G.wid g = 0) := by
      rw [show ((fun x : Moat => x.1) ∘ fun g => (g, getM G.wid g)) = id from rfl, List.map_id]
    rw [this]
    exact List.Nodup.sublist List.filter_sublist (hp.nodup_iff.mpr h.wn)
  · rw [List.length_map]
    have := List.length_filter_le (fun g => !decide (getM G.wid g = 0)) ks
    omega
  · have hll : l.length ≤ 24 := by
      have a := hl'.length_le
      rw [List.length_map, List.length_map] at a
      have := List.length_filter_le (fun g => !decide (getM G.wid g = 0)) ks
      omega
    refine dn_sm (Dn.rs (D := 2 ^ k) (B := 10000) fun q hq => ?_) hk (by omega)
    obtain ⟨m, hm, rfl⟩ := List.mem_map.mp (hl'.subset hq)
    obtain ⟨a, _⟩ := mem2 m hm
    obtain ⟨_, _, _, _, c5, c6⟩ := h.wk m a
    exact dn_of c6 c5 (hle m a)
  · obtain ⟨i, hi, rfl⟩ := List.mem_iff_getElem.mp hw
    refine Rat.le_trans ?_ (hl i _ (List.getElem?_eq_getElem hi))
    have e : (ks.filter fun g => !decide (getM G.wid g = 0)).map (fun g => (g, getM G.wid g)) = (ks.map fun g => (g, getM G.wid g)).filter fun m => !decide (m.2 = 0) := by
      rw [List.filter_map]; rfl
    rw [e]
    have nn : ∀ m ∈ ks.map (fun g => (g, getM G.wid g)), 0 ≤ m.2 := fun m hm => by
      obtain ⟨g, hg, rfl⟩ := List.mem_map.mp hm
      exact (h.wk _ (mem g hg)).2.2.2.2.1
    refine Rat.le_trans (load_filter _ nn) ?_
    have p2 : (ks.map fun g => (g, getM G.wid g)).Perm G.wid := by
      have := hp.map fun g => (g, getM G.wid g)
      rwa [map_get h.wn] at this
    rw [load_perm p2]
    exact Rat.le_refl
  · obtain ⟨a, _⟩ := mem2 m hm
    exact open_pair (h.wk m a).2.2.2.1
/-! ### the start -/
theorem GOk.init (hn : NetOk n ws) {gs : List (List Int)} (hg : Groups n ws [] gs) : GOk n ws ps 0 ⟨0, gs, ws.map fun _ => 0, [], []⟩ := by
  obtain ⟨f, hf, rfl⟩ := hg
  have mem : ∀ g, g ∈ gsOf n f ↔ ∃ x ∈ iota n, f x = x ∧ g = (iota n).filter fun y => decide (f y = x) := fun g => by
    unfold gsOf
    rw [List.mem_map]
    constructor
    · rintro ⟨x, hx, rfl⟩
      obtain ⟨a, b⟩ := List.mem_filter.mp hx
      exact ⟨x, a, by simpa using b, rfl⟩
    · rintro ⟨x, hx, e, rfl⟩
      exact ⟨x, List.mem_filter.mpr ⟨hx, by simpa using e⟩, rfl⟩
  have ln : (gsOf n f).length ≤ n := by
    unfold gsOf
    rw [List.length_map]
    have := List.length_filter_le (fun x => decide (f x = x)) (iota n)
    rwa [iota_len] at this
  refine ⟨⟨fun g hg => ?_, fun g hg => ?_, fun g hg => ?_, ?_, fun x hx => ?_⟩, ?_, ?_, ?_, ?_, fun i w q hw hq => ?_, ?_, ?_, ?_, ?_⟩
  · obtain ⟨x, hx, e, rfl⟩ := (mem g).mp hg
    exact List.ne_nil_of_mem (a := x) (List.mem_filter.mpr ⟨hx, by simpa using e⟩)
  · obtain ⟨x, hx, e, rfl⟩ := (mem g).mp hg
    exact fun y hy => (List.mem_filter.mp hy).1
  · obtain ⟨x, hx, e, rfl⟩ := (mem g).mp hg
    exact (iota_sorted n).sublist List.filter_sublist
  · show (gsOf n f).Pairwise _
    unfold gsOf
    rw [List.pairwise_map]
    have nd : ((iota n).filter fun x => decide (f x = x)).Nodup := List.Nodup.sublist List.filter_sublist (iota_nodup n)
    refine nd.imp fun {a b} hab x hx hy => hab ?_
    have h1 := (List.mem_filter.mp hx).2
    have h2 := (List.mem_filter.mp hy).2
    rw [decide_eq_true_eq] at h1 h2
    rw [← h1, h2]
  · refine ⟨(iota n).filter fun y => decide (f y = f x), (mem _).mpr ⟨f x, hf.rg x hx, hf.id x hx, rfl⟩, List.mem_filter.mpr ⟨hx, by simp⟩⟩
  · intro S hS g hg x hx y hy
    obtain ⟨z, hz, e, rfl⟩ := (mem g).mp hg
    obtain ⟨x1, x2⟩ := List.mem_filter.mp hx
    obtain ⟨y1, y2⟩ := List.mem_filter.mp hy
    rw [decide_eq_true_eq] at x2 y2
    rw [← hf.so S hS x x1, ← hf.so S hS y y1, x2, y2]
  · intro i hi; simp at hi
  · show 0 + (gsOf n f).length ≤ n
    omega
  · show (ws.map fun _ => (0 : Rat)).length = ws.length
    rw [List.length_map]
  · have hq' : (ws.map fun _ => (0 : Rat))[i]? = some q := hq
    rw [List.getElem?_map, hw] at hq'
    cases hq'
    refine ⟨rfl, ?_, isI_zero _⟩
    have := (cost_q hn hw).1
    grind
  · simp
  · intro m hm; simp at hm
  · exact ⟨gsOf n f, by show _ ≤ n + 0; omega, fun g hg => hg, fun m hm => by simp at hm⟩
  · exact ⟨isI_zero _, by show -((10000 * 0 : Nat) : Rat) ≤ (0 : Rat); decide +kernel, by show (0 : Rat) ≤ ((10000 * 0 : Nat) : Rat); decide +kernel⟩
end MW
/-! part F1 -/
set_option Elab.async false
set_option linter.all false
set_option autoImplicit false
set_option maxRecDepth 100000
set_option maxHeartbeats 4000000
namespace L2.VL
open PySem PySem.Spec PyProof.Rows L2 C8 MW
local macro_rules | `(tactic| walk_at "st") => `(tactic| try simp only [vAsg, vIfS, vRet, vRetN, vRetO, vNext, vPar, vSetO, vApp, vIns, vFrz, vDrop, vNever, vVar, vC, vOp, vUn, vTest, vChain, vIsN, vNotN, vAnd, vOr, vNot, vAndV, vIf, vaNil, vaCons, vaAdr, vTup, vLst, vCB, vCall, vCall0, vCl, vCl0, vgName, vgNil, vgCons, vgTup, vgLst, viAny, viEnum, viEnumT, viRev, viRng1, viRng2, vYes, wipeS, vTru, vOrT, vListRg, vBor, vBorT, vSrtSet, vSlT, vPl, vPl0, vPlen, vPlset, Pl.get, Pl.put,
  qI, qI0, qB0, qNeB, qEqD, qNeD, qEqL, qIn, qInE, qU, qCatL, qCatT, qIx, itemD_T, itemD_L, qLen, qList, qTuple, qSum, qAny, qAll, qSortI, qSortTI, qSortE, qAbs, qInt, qMin2, qGcd, qNotB,
  List.length_cons, List.length_nil, List.replicate_succ, List.replicate_zero, List.cons_append, List.nil_append, List.getElem?_cons_zero, List.getElem?_cons_succ, List.set_cons_zero, List.set_cons_succ, Nat.reduceAdd, Nat.reduceSub, Option.some.injEq, SD.fz.injEq, SD.own.injEq, SD.adr.injEq, PyData.int.injEq, PyData.bool.injEq, PyData.tuple.injEq, PyData.list.injEq, exists_eq_left', exists_eq_left, exists_eq, and_true, true_and, unfz, Option.map_some, and_assoc, exists_and_left, List.cons.injEq, Nat.reduceLeDiff,
  List.map_cons, List.map_nil, Int.reduceLE, Int.reduceToNat, if_true, reduceCtorEq, false_or, or_false, exists_false, ↓reduceIte, Nat.zero_le, Int.zero_le_ofNat, Int.reduceNeg])
local macro_rules | `(tactic| walk_at "stf") => `(tactic| try simp only [vFor, vAsg, vIfS, vRet, vRetN, vRetO, vNext, vPar, vSetO, vApp, vIns, vFrz, vDrop, vNever, vVar, vC, vOp, vUn, vTest, vChain, vIsN, vNotN, vAnd, vOr, vNot, vAndV, vIf, vaNil, vaCons, vaAdr, vTup, vLst, vCB, vCall, vCall0, vCl, vCl0, vgName, vgNil, vgCons, vgTup, vgLst, viAny, viEnum, viEnumT, viRev, viRng1, viRng2, vYes, wipeS, vTru, vOrT, vListRg, vBor, vBorT, vSrtSet, vSlT, vPl, vPl0, vPlen, vPlset, Pl.get, Pl.put,
  qI, qI0, qB0, qNeB, qEqD, qNeD, qEqL, qIn, qInE, qU, qCatL, qCatT, qIx, itemD_T, itemD_L, qLen, qList, qTuple, qSum, qAny, qAll, qSortI, qSortTI, qSortE, qAbs, qInt, qMin2, qGcd, qNotB,
  List.length_cons, List.length_nil, List.replicate_succ, List.replicate_zero, List.cons_append, List.nil_append, List.getElem?_cons_zero, List.getElem?_cons_succ, List.set_cons_zero, List.set_cons_succ, Nat.reduceAdd, Nat.reduceSub, Option.some.injEq, SD.fz.injEq, SD.own.injEq, SD.adr.injEq, PyData.int.injEq, PyData.bool.injEq, PyData.tuple.injEq, PyData.list.injEq, exists_eq_left', exists_eq_left, exists_eq, and_true, true_and, unfz, Option.map_some, and_assoc, exists_and_left, List.cons.injEq, Nat.reduceLeDiff,
  List.map_cons, List.map_nil, Int.reduceLE, Int.reduceToNat, if_true, reduceCtorEq, false_or, or_false, exists_false, ↓reduceIte, Nat.zero_le, Int.zero_le_ofNat, Int.reduceNeg])
local macro_rules | `(tactic| walk_at "stl") => `(tactic| try simp only [vLc, vAsg, vIfS, vRet, vRetN, vRetO, vNext, vPar, vSetO, vApp, vIns, vFrz, vDrop, vNever, vVar, vC, vOp, vUn, vTest, vChain, vIsN, vNotN, vAnd, vOr, vNot, vAndV, vIf, vaNil, vaCons, vaAdr, vTup, vLst, vCB, vCall, vCall0, vCl, vCl0, vgName, vgNil, vgCons, vgTup, vgLst, viAny, viEnum, viEnumT, viRev, viRng1, viRng2, vYes, wipeS, vTru, vOrT, vListRg, vBor, vBorT, vSrtSet, vSlT, vPl, vPl0, vPlen, vPlset, Pl.get, Pl.put,
  qI, qI0, qB0, qNeB, qEqD, qNeD, qEqL, qIn, qInE, qU, qCatL, qCatT, qIx, itemD_T, itemD_L, qLen, qList, qTuple, qSum, qAny, qAll, qSortI, qSortTI, qSortE, qAbs, qInt, qMin2, qGcd, qNotB,
  List.length_cons, List.length_nil, List.replicate_succ, List.replicate_zero, List.cons_append, List.nil_append, List.getElem?_cons_zero, List.getElem?_cons_succ, List.set_cons_zero, List.set_cons_succ, Nat.reduceAdd, Nat.reduceSub, Option.some.injEq, SD.fz.injEq, SD.own.injEq, SD.adr.injEq, PyData.int.injEq, PyData.bool.injEq, PyData.tuple.injEq, PyData.list.injEq, exists_eq_left', exists_eq_left, exists_eq, and_true, true_and, unfz, Option.map_some, and_assoc, exists_and_left, List.cons.injEq, Nat.reduceLeDiff,
  List.map_cons, List.map_nil, Int.reduceLE, Int.reduceToNat, if_true, reduceCtorEq, false_or, or_false, exists_false, ↓reduceIte, Nat.zero_le, Int.zero_le_ofNat, Int.reduceNeg])
local macro_rules | `(tactic| walk_at "stw") => `(tactic| try simp only [vWhile, vAsg, vIfS, vRet, vRetN, vRetO, vNext, vPar, vSetO, vApp, vIns, vFrz, vDrop, vNever, vVar, vC, vOp, vUn, vTest, vChain, vIsN, vNotN, vAnd, vOr, vNot, vAndV, vIf, vaNil, vaCons, vaAdr, vTup, vLst, vCB, vCall, vCall0, vCl, vCl0, vgName, vgNil, vgCons, vgTup, vgLst, viAny, viEnum, viEnumT, viRev, viRng1, viRng2, vYes, wipeS, vTru, vOrT, vListRg, vBor, vBorT, vSrtSet, vSlT, vPl, vPl0, vPlen, vPlset, Pl.get, Pl.put,
  qI, qI0, qB0, qNeB, qEqD, qNeD, qEqL, qIn, qInE, qU, qCatL, qCatT, qIx, itemD_T, itemD_L, qLen, qList, qTuple, qSum, qAny, qAll, qSortI, qSortTI, qSortE, qAbs, qInt, qMin2, qGcd, qNotB,
  List.length_cons, List.length_nil, List.replicate_succ, List.replicate_zero, List.cons_append, List.nil_append, List.getElem?_cons_zero, List.getElem?_cons_succ, List.set_cons_zero, List.set_cons_succ, Nat.reduceAdd, Nat.reduceSub, Option.some.injEq, SD.fz.injEq, SD.own.injEq, SD.adr.injEq, PyData.int.injEq, PyData.bool.injEq, PyData.tuple.injEq, PyData.list.injEq, exists_eq_left', exists_eq_left, exists_eq, and_true, true_and, unfz, Option.map_some, and_assoc, exists_and_left, List.cons.injEq, Nat.reduceLeDiff,
  List.map_cons, List.map_nil, Int.reduceLE, Int.reduceToNat, if_true, reduceCtorEq, false_or, or_false, exists_false, ↓reduceIte, Nat.zero_le, Int.zero_le_ofNat, Int.reduceNeg])
local macro_rules | `(tactic| walk_at "rd") => `(tactic| try simp only [vSeq, vAsg, vIfS, vRet, vRetN, vRetO, vNext, vPar, vSetO, vApp, vIns, vFrz, vDrop, vNever, vVar, vC, vOp, vUn, vTest, vChain, vIsN, vNotN, vAnd, vOr, vNot, vAndV, vIf, vaNil, vaCons, vaAdr, vTup, vLst, vCB, vCall, vCall0, vCl, vCl0, vgName, vgNil, vgCons, vgTup, vgLst, viAny, viEnum, viEnumT, viRev, viRng1, viRng2, vYes, wipeS, vTru, vOrT, vListRg, vBor, vBorT, vSrtSet, vSlT, vPl, vPl0, vPlen, vPlset, Pl.get, Pl.put,
  qI, qI0, qB0, qNeB, qEqD, qNeD, qEqL, qIn, qInE, qU, qCatL, qCatT, qIx, itemD_T, itemD_L, qLen, qList, qTuple, qSum, qAny, qAll, qSortI, qSortTI, qSortE, qAbs, qInt, qMin2, qGcd, qNotB,
  List.length_cons, List.length_nil, List.replicate_succ, List.replicate_zero, List.cons_append, List.nil_append, List.getElem?_cons_zero, List.getElem?_cons_succ, List.set_cons_zero, List.set_cons_succ, Nat.reduceAdd, Nat.reduceSub, Option.some.injEq, SD.fz.injEq, SD.own.injEq, SD.adr.injEq, PyData.int.injEq, PyData.bool.injEq, PyData.tuple.injEq, PyData.list.injEq, exists_eq_left', exists_eq_left, exists_eq, and_true, true_and, unfz, Option.map_some, and_assoc, exists_and_left, List.cons.injEq, Nat.reduceLeDiff,
  List.map_cons, List.map_nil, Int.reduceLE, Int.reduceToNat, if_true, reduceCtorEq, false_or, or_false, exists_false, ↓reduceIte, Nat.zero_le, Int.zero_le_ofNat, Int.reduceNeg])
local macro_rules | `(tactic| walk_at "lc") => `(tactic| try simp only [vLc, vSeq, vAsg, vIfS, vRet, vRetN, vRetO, vNext, vPar, vSetO, vApp, vIns, vFrz, vDrop, vNever, vVar, vC, vOp, vUn, vTest, vChain, vIsN, vNotN, vAnd, vOr, vNot, vAndV, vIf, vaNil, vaCons, vaAdr, vTup, vLst, vCB, vCall, vCall0, vCl, vCl0, vgName, vgNil, vgCons, vgTup, vgLst, viAny, viEnum, viEnumT, viRev, viRng1, viRng2, vYes, wipeS, vTru, vOrT, vListRg, vBor, vBorT, vSrtSet, vSlT, vPl, vPl0, vPlen, vPlset, Pl.get, Pl.put,
  qI, qI0, qB0, qNeB, qEqD, qNeD, qEqL, qIn, qInE, qU, qCatL, qCatT, qIx, itemD_T, itemD_L, qLen, qList, qTuple, qSum, qAny, qAll, qSortI, qSortTI, qSortE, qAbs, qInt, qMin2, qGcd, qNotB,
  List.length_cons, List.length_nil, List.replicate_succ, List.replicate_zero, List.cons_append, List.nil_append, List.getElem?_cons_zero, List.getElem?_cons_succ, List.set_cons_zero, List.set_cons_succ, Nat.reduceAdd, Nat.reduceSub, Option.some.injEq, SD.fz.injEq, SD.own.injEq, SD.adr.injEq, PyData.int.injEq, PyData.bool.injEq, PyData.tuple.injEq, PyData.list.injEq, exists_eq_left', exists_eq_left, exists_eq, and_true, true_and, unfz, Option.map_some, and_assoc, exists_and_left, List.cons.injEq, Nat.reduceLeDiff,
  List.map_cons, List.map_nil, Int.reduceLE, Int.reduceToNat, if_true, reduceCtorEq, false_or, or_false, exists_false, ↓reduceIte, Nat.zero_le, Int.zero_le_ofNat, Int.reduceNeg])
local macro_rules | `(tactic| walk_at "fo") => `(tactic| try simp only [vFor, vSeq, vAsg, vIfS, vRet, vRetN, vRetO, vNext, vPar, vSetO, vApp, vIns, vFrz, vDrop, vNever, vVar, vC, vOp, vUn, vTest, vChain, vIsN, vNotN, vAnd, vOr, vNot, vAndV, vIf, vaNil, vaCons, vaAdr, vTup, vLst, vCB, vCall, vCall0, vCl, vCl0, vgName, vgNil, vgCons, vgTup, vgLst, viAny, viEnum, viEnumT, viRev, viRng1, viRng2, vYes, wipeS, vTru, vOrT, vListRg, vBor, vBorT, vSrtSet, vSlT, vPl, vPl0, vPlen, vPlset, Pl.get, Pl.put,
  qI, qI0, qB0, qNeB, qEqD, qNeD, qEqL, qIn, qInE, qU, qCatL, qCatT, qIx, itemD_T, itemD_L, qLen, qList, qTuple, qSum, qAny, qAll, qSortI, qSortTI, qSortE, qAbs, qInt, qMin2, qGcd, qNotB,
  List.length_cons, List.length_nil, List.replicate_succ, List.replicate_zero, List.cons_append, List.nil_append, List.getElem?_cons_zero, List.getElem?_cons_succ, List.set_cons_zero, List.set_cons_succ, Nat.reduceAdd, Nat.reduceSub, Option.some.injEq, SD.fz.injEq, SD.own.injEq, SD.adr.injEq, PyData.int.injEq, PyData.bool.injEq, PyData.tuple.injEq, PyData.list.injEq, exists_eq_left', exists_eq_left, exists_eq, and_true, true_and, unfz, Option.map_some, and_assoc, exists_and_left, List.cons.injEq, Nat.reduceLeDiff,
  List.map_cons, List.map_nil, Int.reduceLE, Int.reduceToNat, if_true, reduceCtorEq, false_or, or_false, exists_false, ↓reduceIte, Nat.zero_le, Int.zero_le_ofNat, Int.reduceNeg])
local macro_rules | `(tactic| walk_at "wh") => `(tactic| try simp only [vWhile, vSeq, vAsg, vIfS, vRet, vRetN, vRetO, vNext, vPar, vSetO, vApp, vIns, vFrz, vDrop, vNever, vVar, vC, vOp, vUn, vTest, vChain, vIsN, vNotN, vAnd, vOr, vNot, vAndV, vIf, vaNil, vaCons, vaAdr, vTup, vLst, vCB, vCall, vCall0, vCl, vCl0, vgName, vgNil, vgCons, vgTup, vgLst, viAny, viEnum, viEnumT, viRev, viRng1, viRng2, vYes, wipeS, vTru, vOrT, vListRg, vBor, vBorT, vSrtSet, vSlT, vPl, vPl0, vPlen, vPlset, Pl.get, Pl.put,
  qI, qI0, qB0, qNeB, qEqD, qNeD, qEqL, qIn, qInE, qU, qCatL, qCatT, qIx, itemD_T, itemD_L, qLen, qList, qTuple, qSum, qAny, qAll, qSortI, qSortTI, qSortE, qAbs, qInt, qMin2, qGcd, qNotB,
  List.length_cons, List.length_nil, List.replicate_succ, List.replicate_zero, List.cons_append, List.nil_append, List.getElem?_cons_zero, List.getElem?_cons_succ, List.set_cons_zero, List.set_cons_succ, Nat.reduceAdd, Nat.reduceSub, Option.some.injEq, SD.fz.injEq, SD.own.injEq, SD.adr.injEq, PyData.int.injEq, PyData.bool.injEq, PyData.tuple.injEq, PyData.list.injEq, exists_eq_left', exists_eq_left, exists_eq, and_true, true_and, unfz, Option.map_some, and_assoc, exists_and_left, List.cons.injEq, Nat.reduceLeDiff,
  List.map_cons, List.map_nil, Int.reduceLE, Int.reduceToNat, if_true, reduceCtorEq, false_or, or_false, exists_false, ↓reduceIte, Nat.zero_le, Int.zero_le_ofNat, Int.reduceNeg])
local macro_rules | `(tactic| walk_at "sc") => `(tactic| try simp only [vLenSc, vSeq, vAsg, vIfS, vRet, vRetN, vRetO, vNext, vPar, vSetO, vApp, vIns, vFrz, vDrop, vNever, vVar, vC, vOp, vUn, vTest, vChain, vIsN, vNotN, vAnd, vOr, vNot, vAndV, vIf, vaNil, vaCons, vaAdr, vTup, vLst, vCB, vCall, vCall0, vCl, vCl0, vgName, vgNil, vgCons, vgTup, vgLst, viAny, viEnum, viEnumT, viRev, viRng1, viRng2, vYes, wipeS, vTru, vOrT, vListRg, vBor, vBorT, vSrtSet, vSlT, vPl, vPl0, vPlen, vPlset, Pl.get, Pl.put,
  qI, qI0, qB0, qNeB, qEqD, qNeD, qEqL, qIn, qInE, qU, qCatL, qCatT, qIx, itemD_T, itemD_L, qLen, qList, qTuple, qSum, qAny, qAll, qSortI, qSortTI, qSortE, qAbs, qInt, qMin2, qGcd, qNotB,
  List.length_cons, List.length_nil, List.replicate_succ, List.replicate_zero, List.cons_append, List.nil_append, List.getElem?_cons_zero, List.getElem?_cons_succ, List.set_cons_zero, List.set_cons_succ, Nat.reduceAdd, Nat.reduceSub, Option.some.injEq, SD.fz.injEq, SD.own.injEq, SD.adr.injEq, PyData.int.injEq, PyData.bool.injEq, PyData.tuple.injEq, PyData.list.injEq, exists_eq_left', exists_eq_left, exists_eq, and_true, true_and, unfz, Option.map_some, and_assoc, exists_and_left, List.cons.injEq, Nat.reduceLeDiff,
  List.map_cons, List.map_nil, Int.reduceLE, Int.reduceToNat, if_true, reduceCtorEq, false_or, or_false, exists_false, ↓reduceIte, Nat.zero_le, Int.zero_le_ofNat, Int.reduceNeg])

def dR (q : Rat) : PyData := dT [q.num, q.den]
def S_ratio : Spec W0 := fun xs _ R => ∃ (n d : Int), xs = [.fz (.int n), .fz (.int d)] ∧ d ≠ 0 ∧ d.natAbs < 2 ^ 8000 ∧ R (dR (Rat.divInt n d)) ()
section
variable {P : Program} {w : World} {K : PySem.W.Frag} {mg : Str → Option Value} {base : Heap}
theorem fn_ratio (T : Tp K mg) {fd : FuncData} (F : FunD K "ratio" "ratio" (defArgs s_ratio) (defBody s_ratio) (defScope s_ratio) [.int 1] [] (He.fAd K ("ratio", none)) fd) : FnOk P w K mg base CX0 1 (He.fAd K ("ratio", none)) fd ["top", "bottom"] (spW K W0 S_ratio) := by
  refine fnV F sc_ratio (fun xs w Q h => ?_) (fun cdv A outer s H E hr => ⟨_, _, (dss_cons (ds_if (dt_cmp op_lt so_B0 (de_var 1) de_int (nomark _)) (dss_one (ds_par rfl sc_ratio.nd (i := 0) (j := 1) rfl rfl (by decide) rfl rfl (da_cons (de_un un_neg so_U (de_var 0)) (da_cons (de_un un_neg so_U (de_var 1)) da_nil)))) dss_nil)
      (dss_cons (dset 2 sc_ratio.nd (de_cbf cr_gcd sc_gcd rfl T.g_gcd (da_cons (de_var 0) (da_cons (de_var 1) da_nil))))
      (dss_one (ds_ret (de_tup (da_cons (de_op op_fdivW so_I (de_var 0) (de_var 2)) (da_cons (de_op op_fdivW so_I (de_var 1) (de_var 2)) da_nil))))))), ?_⟩)
  · obtain ⟨n, d, rfl, _⟩ := h; rfl
  · rintro xs w Q ⟨n, d, rfl, hd, hz, q⟩
    walk_at "rd"
    have hg := gcd_pos (n := n) hd
    have hw : ((n.natAbs.gcd d.natAbs : Nat) : Int).natAbs < 2 ^ 8000 := by rw [Int.natAbs_natCast]; exact gcd_lt hd hz
    have hc : ∀ i, CDivW i ((n.natAbs.gcd d.natAbs : Nat) : Int) := fun i => wide_div hg hw (by decide) (by decide)
    by_cases h : d < 0
    · rw [if_pos (decide_eq_true h), gcd_neg]
      obtain ⟨e1, e2⟩ := divInt_neg (n := n) h
      rw [← e1, ← e2]
      exact ⟨hc _, hc _, q⟩
    · rw [if_neg (by simp [h])]
      obtain ⟨e1, e2⟩ := divInt_pos (n := n) (d := d) (by omega)
      rw [← e1, ← e2]
      exact ⟨hc _, hc _, q⟩
theorem ok_ratio (T : Tp K mg) : Cal P w K mg base 1 "ratio" (spW K W0 S_ratio) [] := by
  obtain ⟨fd, F⟩ := T.f_ratio
  obtain ⟨ds, hv, hb⟩ := F.binds1 (ps := ["top", "bottom"]) 2 1 (by simp) rfl (fun T kV doc pm an cdv ct us its hu hi => by
    match us, hu with
    | [a, b], _ =>
      match its, hi with
      | [c], _ => exact ⟨_, rfl, rfl⟩)
  cases hv
  exact ⟨_, fd, _, [], fn_ratio T F, T.g_ratio, F.kp, hb, .nil⟩
theorem ok_ratiod (T : Tp K mg) : Cal P w K mg base 1 "ratio" (spW K W0 S_ratio) [.int 1] := by
  obtain ⟨fd, F⟩ := T.f_ratio
  obtain ⟨ds, hv, hb⟩ := F.binds1 (ps := ["top", "bottom"]) 1 0 (by simp) rfl (fun T kV doc pm an cdv ct us its hu hi => by
    match us, hu with
    | [a], _ =>
      match its, hi with
      | [c], _ => exact ⟨_, rfl, rfl⟩)
  exact ⟨_, fd, _, ds, fn_ratio T F, T.g_ratio, F.kp, hb, hv⟩
end
theorem mulW {i j : Int} (hi : i.natAbs < 2 ^ 2000) (hj : j.natAbs < 2 ^ 2000) : CMulW i j := wide_mul hi hj (by decide) (by decide) (by decide)
theorem dR_eq (q : Rat) : dR q = .tuple [.int q.num, .int q.den] := rfl

def S_plus : Spec W0 := fun xs _ R => ∃ (a b : Rat), xs = [.fz (dR a), .fz (dR b)] ∧ Sm a ∧ Sm b ∧ R (dR (a + b)) ()
section
variable {P : Program} {w : World} {K : PySem.W.Frag} {mg : Str → Option Value} {base : Heap}
theorem ok_plus (T : Tp K mg) : Cal P w K mg base 2 "plus" (spW K W0 S_plus) [] := by
  have c_ratio := ok_ratio (P := P) (w := w) (base := base) T
  have c_ratiod := ok_ratiod (P := P) (w := w) (base := base) T
  refine calV T.f_plus T.g_plus sc_plus (fun _ _ _ _ _ _ us hl => match us, hl with | [_, _], _ => rfl) (fun xs w Q h => ?_) (fun cdv A outer s H E hr => ⟨_, _, (dss_one (ds_ret (de_cl0K K c_ratio hr (by decide) rfl (da_cons (de_op op_add so_I0 (de_op op_mulW so_I (de_ixK K (de_var 0) de_int) (de_ixK K (de_var 1) de_int)) (de_op op_mulW so_I (de_ixK K (de_var 1) de_int) (de_ixK K (de_var 0) de_int))) (da_cons (de_op op_mulW so_I (de_ixK K (de_var 0) de_int) (de_ixK K (de_var 1) de_int)) da_nil))))), ?_⟩)
  · obtain ⟨a, b, rfl, _⟩ := h; rfl
  · rintro xs w Q ⟨a, b, rfl, ha, hb, q⟩
    simp only [dR_eq]
    walk_at "rd"
    simp only [S_ratio]
    exact ⟨mulW ha.n hb.d, mulW hb.n ha.d, mulW ha.d hb.d, _, _, rfl, dd_ne a b, dd_lt ha hb, by rw [← add_div]; exact q⟩
end
def S_minus : Spec W0 := fun xs _ R => ∃ (a b : Rat), xs = [.fz (dR a), .fz (dR b)] ∧ Sm a ∧ Sm b ∧ R (dR (a - b)) ()
section
variable {P : Program} {w : World} {K : PySem.W.Frag} {mg : Str → Option Value} {base : Heap}
theorem ok_minus (T : Tp K mg) : Cal P w K mg base 2 "minus" (spW K W0 S_minus) [] := by
  have c_ratio := ok_ratio (P := P) (w := w) (base := base) T
  have c_ratiod := ok_ratiod (P := P) (w := w) (base := base) T
  refine calV T.f_minus T.g_minus sc_minus (fun _ _ _ _ _ _ us hl => match us, hl with | [_, _], _ => rfl) (fun xs w Q h => ?_) (fun cdv A outer s H E hr => ⟨_, _, (dss_one (ds_ret (de_cl0K K c_ratio hr (by decide) rfl (da_cons (de_op op_sub so_I0 (de_op op_mulW so_I (de_ixK K (de_var 0) de_int) (de_ixK K (de_var 1) de_int)) (de_op op_mulW so_I (de_ixK K (de_var 1) de_int) (de_ixK K (de_var 0) de_int))) (da_cons (de_op op_mulW so_I (de_ixK K (de_var 0) de_int) (de_ixK K (de_var 1) de_int)) da_nil))))), ?_⟩)
  · obtain ⟨a, b, rfl, _⟩ := h; rfl
  · rintro xs w Q ⟨a, b, rfl, ha, hb, q⟩
    simp only [dR_eq]
    walk_at "rd"
    simp only [S_ratio]
    exact ⟨mulW ha.n hb.d, mulW hb.n ha.d, mulW ha.d hb.d, _, _, rfl, dd_ne a b, dd_lt ha hb, by rw [← sub_div]; exact q⟩
end
def S_times : Spec W0 := fun xs _ R => ∃ (a b : Rat), xs = [.fz (dR a), .fz (dR b)] ∧ Sm a ∧ Sm b ∧ R (dR (a * b)) ()
section
variable {P : Program} {w : World} {K : PySem.W.Frag} {mg : Str → Option Value} {base : Heap}
theorem ok_times (T : Tp K mg) : Cal P w K mg base 2 "times" (spW K W0 S_times) [] := by
  have c_ratio := ok_ratio (P := P) (w := w) (base := base) T
  have c_ratiod := ok_ratiod (P := P) (w := w) (base := base) T
  refine calV T.f_times T.g_times sc_times (fun _ _ _ _ _ _ us hl => match us, hl with | [_, _], _ => rfl) (fun xs w Q h => ?_) (fun cdv A outer s H E hr => ⟨_, _, (dss_one (ds_ret (de_cl0K K c_ratio hr (by decide) rfl (da_cons (de_op op_mulW so_I (de_ixK K (de_var 0) de_int) (de_ixK K (de_var 1) de_int)) (da_cons (de_op op_mulW so_I (de_ixK K (de_var 0) de_int) (de_ixK K (de_var 1) de_int)) da_nil))))), ?_⟩)
  · obtain ⟨a, b, rfl, _⟩ := h; rfl
  · rintro xs w Q ⟨a, b, rfl, ha, hb, q⟩
    simp only [dR_eq]
    walk_at "rd"
    simp only [S_ratio]
    exact ⟨mulW ha.n hb.n, mulW ha.d hb.d, _, _, rfl, dd_ne a b, dd_lt ha hb, by rw [← mul_div]; exact q⟩
end
def S_over : Spec W0 := fun xs _ R => ∃ (a b : Rat), xs = [.fz (dR a), .fz (dR b)] ∧ Sm a ∧ Sm b ∧ b ≠ 0 ∧ R (dR (a / b)) ()
section
variable {P : Program} {w : World} {K : PySem.W.Frag} {mg : Str → Option Value} {base : Heap}
theorem ok_over (T : Tp K mg) : Cal P w K mg base 2 "over" (spW K W0 S_over) [] := by
  have c_ratio := ok_ratio (P := P) (w := w) (base := base) T
  have c_ratiod := ok_ratiod (P := P) (w := w) (base := base) T
  refine calV T.f_over T.g_over sc_over (fun _ _ _ _ _ _ us hl => match us, hl with | [_, _], _ => rfl) (fun xs w Q h => ?_) (fun cdv A outer s H E hr => ⟨_, _, (dss_one (ds_ret (de_cl0K K c_ratio hr (by decide) rfl (da_cons (de_op op_mulW so_I (de_ixK K (de_var 0) de_int) (de_ixK K (de_var 1) de_int)) (da_cons (de_op op_mulW so_I (de_ixK K (de_var 0) de_int) (de_ixK K (de_var 1) de_int)) da_nil))))), ?_⟩)
  · obtain ⟨a, b, rfl, _⟩ := h; rfl
  · rintro xs w Q ⟨a, b, rfl, ha, hb, h0, q⟩
    simp only [dR_eq]
    walk_at "rd"
    simp only [S_ratio]
    have hn : b.num ≠ 0 := fun z => h0 (Rat.num_eq_zero.mp z)
    have hdn : (a.den : Int) * b.num ≠ 0 := fun z => (Int.mul_eq_zero.mp z).elim (fun z => by have := den_pos a; omega) hn
    exact ⟨mulW ha.n hb.d, mulW ha.d hb.n, _, _, rfl, hdn, dn_lt ha hb, by rw [← div_div a b h0]; exact q⟩
end
def S_less : Spec W0 := fun xs _ R => ∃ (a b : Rat), xs = [.fz (dR a), .fz (dR b)] ∧ Sm a ∧ Sm b ∧ R (.bool (decide (a < b))) ()
section
variable {P : Program} {w : World} {K : PySem.W.Frag} {mg : Str → Option Value} {base : Heap}
theorem ok_less (T : Tp K mg) : Cal P w K mg base 1 "less" (spW K W0 S_less) [] := by
  refine calV T.f_less T.g_less sc_less (fun _ _ _ _ _ _ us hl => match us, hl with | [_, _], _ => rfl) (fun xs w Q h => ?_) (fun cdv A outer s H E hr => ⟨_, _, (dss_one (ds_ret (de_cmp op_lt so_B0 (de_op op_mulW so_I (de_ixK K (de_var 0) de_int) (de_ixK K (de_var 1) de_int)) (de_op op_mulW so_I (de_ixK K (de_var 1) de_int) (de_ixK K (de_var 0) de_int)) (nomark _)))), ?_⟩)
  · obtain ⟨a, b, rfl, _⟩ := h; rfl
  · rintro xs w Q ⟨a, b, rfl, ha, hb, q⟩
    simp only [dR_eq]
    walk_at "rd"
    refine ⟨mulW ha.n hb.d, mulW hb.n ha.d, ?_⟩
    rw [show decide (a.num * b.den < b.num * a.den) = decide (a < b) from decide_eq_decide.mpr (Rat.lt_iff a b).symm]
    exact q
end
def I_total (qs : List Rat) (i : Nat) (s : List SD) : Prop := ∃ o, s = [.fz (.list (qs.map dR)), .fz (dR (rs (qs.take i))), o]
def S_total : Spec W0 := fun xs _ R => ∃ (qs : List Rat), xs = [.fz (.list (qs.map dR))] ∧ (∀ q ∈ qs, Sm q) ∧ (∀ i, Sm (rs (qs.take i))) ∧ R (dR (rs qs)) ()
section
variable {P : Program} {w : World} {K : PySem.W.Frag} {mg : Str → Option Value} {base : Heap}
theorem ok_total (T : Tp K mg) : Cal P w K mg base 3 "total" (spW K W0 S_total) [] := by
  have c_plus := ok_plus (P := P) (w := w) (base := base) T
  refine calV T.f_total T.g_total sc_total (fun _ _ _ _ _ _ us hl => match us, hl with | [_], _ => rfl) (fun xs w Q h => ?_) (fun cdv A outer s H E hr => ⟨_, _, (dss_cons (dset 1 sc_total.nd (de_glob rfl T.g_ZERO (fun F => zeroD T F)))
      (dss_cons (ds_for PassesOwn.never rfl (di_seqK K (de_var 0)) (dgn 2 sc_total.nd) (dss_one (dset 1 sc_total.nd (de_cl0K K c_plus hr (by decide) rfl (da_cons (de_var 1) (da_cons (de_var 2) da_nil))))))
      (dss_one (ds_ret (de_var 1))))), ?_⟩)
  · obtain ⟨qs, rfl, _⟩ := h; rfl
  · rintro xs w Q ⟨qs, rfl, h1, h2, q⟩
    walk_at "rd"
    simp only [vFor]
    walk_at "rd"
    refine ⟨fun i s _ => I_total qs i s, ⟨_, rfl⟩, fun i s _ d hd ⟨o, e⟩ => ?_, fun s _ ⟨o, e⟩ => ?_⟩
    · subst e
      rw [List.getElem?_map] at hd
      obtain ⟨x, hx, rfl⟩ := Option.map_eq_some_iff.mp hd
      walk_at "rd"
      refine ⟨_, _, rfl, h2 i, h1 x (List.mem_of_getElem? hx), ?_⟩
      rw [← rs_take hx]
      exact ⟨_, rfl⟩
    · subst e
      walk_at "rd"
      rw [List.length_map, List.take_length]
      exact q
end
end L2.VL
/-! part F2 -/
set_option Elab.async false
set_option linter.all false
set_option autoImplicit false
set_option maxRecDepth 100000
set_option maxHeartbeats 4000000
namespace L2.VL
open PySem PySem.Spec PyProof.Rows L2 C8 MW
local macro_rules | `(tactic| walk_at "st") => `(tactic| try simp only [vAsg, vIfS, vRet, vRetN, vRetO, vNext, vPar, vSetO, vApp, vIns, vFrz, vDrop, vNever, vVar, vC, vOp, vUn, vTest, vChain, vIsN, vNotN, vAnd, vOr, vNot, vAndV, vIf, vaNil, vaCons, vaAdr, vTup, vLst, vCB, vCall, vCall0, vCl, vCl0, vgName, vgNil, vgCons, vgTup, vgLst, viAny, viEnum, viEnumT, viRev, viRng1, viRng2, vYes, wipeS, vTru, vOrT, vListRg, vBor, vBorT, vSrtSet, vSlT, vPl, vPl0, vPlen, vPlset, Pl.get, Pl.put,
  qI, qI0, qB0, qNeB, qEqD, qNeD, qEqL, qIn, qInE, qU, qCatL, qCatT, qIx, itemD_T, itemD_L, qLen, qList, qTuple, qSum, qAny, qAll, qSortI, qSortTI, qSortE, qAbs, qInt, qMin2, qGcd, qNotB,
  List.length_cons, List.length_nil, List.replicate_succ, List.replicate_zero, List.cons_append, List.nil_append, List.getElem?_cons_zero, List.getElem?_cons_succ, List.set_cons_zero, List.set_cons_succ, Nat.reduceAdd, Nat.reduceSub, Option.some.injEq, SD.fz.injEq, SD.own.injEq, SD.adr.injEq, PyData.int.injEq, PyData.bool.injEq, PyData.tuple.injEq, PyData.list.injEq, exists_eq_left', exists_eq_left, exists_eq, and_true, true_and, unfz, Option.map_some, and_assoc, exists_and_left, List.cons.injEq, Nat.reduceLeDiff,
  List.map_cons, List.map_nil, Int.reduceLE, Int.reduceToNat, if_true, reduceCtorEq, false_or, or_false, exists_false, ↓reduceIte, Nat.zero_le, Int.zero_le_ofNat, Int.reduceNeg])
local macro_rules | `(tactic| walk_at "stf") => `(tactic| try simp only [vFor, vAsg, vIfS, vRet, vRetN, vRetO, vNext, vPar, vSetO, vApp, vIns, vFrz, vDrop, vNever, vVar, vC, vOp, vUn, vTest, vChain, vIsN, vNotN, vAnd, vOr, vNot, vAndV, vIf, vaNil, vaCons, vaAdr, vTup, vLst, vCB, vCall, vCall0, vCl, vCl0, vgName, vgNil, vgCons, vgTup, vgLst, viAny, viEnum, viEnumT, viRev, viRng1, viRng2, vYes, wipeS, vTru, vOrT, vListRg, vBor, vBorT, vSrtSet, vSlT, vPl, vPl0, vPlen, vPlset, Pl.get, Pl.put,
  qI, qI0, qB0, qNeB, qEqD, qNeD, qEqL, qIn, qInE, qU, qCatL, qCatT, qIx, itemD_T, itemD_L, qLen, qList, qTuple, qSum, qAny, qAll, qSortI, qSortTI, qSortE, qAbs, qInt, qMin2, qGcd, qNotB,
  List.length_cons, List.length_nil, List.replicate_succ, List.replicate_zero, List.cons_append, List.nil_append, List.getElem?_cons_zero, List.getElem?_cons_succ, List.set_cons_zero, List.set_cons_succ, Nat.reduceAdd, Nat.reduceSub, Option.some.injEq, SD.fz.injEq, SD.own.injEq, SD.adr.injEq, PyData.int.injEq, PyData.bool.injEq, PyData.tuple.injEq, PyData.list.injEq, exists_eq_left', exists_eq_left, exists_eq, and_true, true_and, unfz, Option.map_some, and_assoc, exists_and_left, List.cons.injEq, Nat.reduceLeDiff,
  List.map_cons, List.map_nil, Int.reduceLE, Int.reduceToNat, if_true, reduceCtorEq, false_or, or_false, exists_false, ↓reduceIte, Nat.zero_le, Int.zero_le_ofNat, Int.reduceNeg])
local macro_rules | `(tactic| walk_at "stl") => `(tactic| try simp only [vLc, vAsg, vIfS, vRet, vRetN, vRetO, vNext, vPar, vSetO, vApp, vIns, vFrz, vDrop, vNever, vVar, vC, vOp, vUn, vTest, vChain, vIsN, vNotN, vAnd, vOr, vNot, vAndV, vIf, vaNil, vaCons, vaAdr, vTup, vLst, vCB, vCall, vCall0, vCl, vCl0, vgName, vgNil, vgCons, vgTup, vgLst, viAny, viEnum, viEnumT, viRev, viRng1, viRng2, vYes, wipeS, vTru, vOrT, vListRg, vBor, vBorT, vSrtSet, vSlT, vPl, vPl0, vPlen, vPlset, Pl.get, Pl.put,
  qI, qI0, qB0, qNeB, qEqD, qNeD, qEqL, qIn, qInE, qU, qCatL, qCatT, qIx, itemD_T, itemD_L, qLen, qList, qTuple, qSum, qAny, qAll, qSortI, qSortTI, qSortE, qAbs, qInt, qMin2, qGcd, qNotB,
  List.length_cons, List.length_nil, List.replicate_succ, List.replicate_zero, List.cons_append, List.nil_append, List.getElem?_cons_zero, List.getElem?_cons_succ, List.set_cons_zero, List.set_cons_succ, Nat.reduceAdd, Nat.reduceSub, Option.some.injEq, SD.fz.injEq, SD.own.injEq, SD.adr.injEq, PyData.int.injEq, PyData.bool.injEq, PyData.tuple.injEq, PyData.list.injEq, exists_eq_left', exists_eq_left, exists_eq, and_true, true_and, unfz, Option.map_some, and_assoc, exists_and_left, List.cons.injEq, Nat.reduceLeDiff,
  List.map_cons, List.map_nil, Int.reduceLE, Int.reduceToNat, if_true, reduceCtorEq, false_or, or_false, exists_false, ↓reduceIte, Nat.zero_le, Int.zero_le_ofNat, Int.reduceNeg])
local macro_rules | `(tactic| walk_at "stw") => `(tactic| try simp only [vWhile, vAsg, vIfS, vRet, vRetN, vRetO, vNext, vPar, vSetO, vApp, vIns, vFrz, vDrop, vNever, vVar, vC, vOp, vUn, vTest, vChain, vIsN, vNotN, vAnd, vOr, vNot, vAndV, vIf, vaNil, vaCons, vaAdr, vTup, vLst, vCB, vCall, vCall0, vCl, vCl0, vgName, vgNil, vgCons, vgTup, vgLst, viAny, viEnum, viEnumT, viRev, viRng1, viRng2, vYes, wipeS, vTru, vOrT, vListRg, vBor, vBorT, vSrtSet, vSlT, vPl, vPl0, vPlen, vPlset, Pl.get, Pl.put,
  qI, qI0, qB0, qNeB, qEqD, qNeD, qEqL, qIn, qInE, qU, qCatL, qCatT, qIx, itemD_T, itemD_L, qLen, qList, qTuple, qSum, qAny, qAll, qSortI, qSortTI, qSortE, qAbs, qInt, qMin2, qGcd, qNotB,
  List.length_cons, List.length_nil, List.replicate_succ, List.replicate_zero, List.cons_append, List.nil_append, List.getElem?_cons_zero, List.getElem?_cons_succ, List.set_cons_zero, List.set_cons_succ, Nat.reduceAdd, Nat.reduceSub, Option.some.injEq, SD.fz.injEq, SD.own.injEq, SD.adr.injEq, PyData.int.injEq, PyData.bool.injEq, PyData.tuple.injEq, PyData.list.injEq, exists_eq_left', exists_eq_left, exists_eq, and_true, true_and, unfz, Option.map_some, and_assoc, exists_and_left, List.cons.injEq, Nat.reduceLeDiff,
  List.map_cons, List.map_nil, Int.reduceLE, Int.reduceToNat, if_true, reduceCtorEq, false_or, or_false, exists_false, ↓reduceIte, Nat.zero_le, Int.zero_le_ofNat, Int.reduceNeg])
local macro_rules | `(tactic| walk_at "rd") => `(tactic| try simp only [vSeq, vAsg, vIfS, vRet, vRetN, vRetO, vNext, vPar, vSetO, vApp, vIns, vFrz, vDrop, vNever, vVar, vC, vOp, vUn, vTest, vChain, vIsN, vNotN, vAnd, vOr, vNot, vAndV, vIf, vaNil, vaCons, vaAdr, vTup, vLst, vCB, vCall, vCall0, vCl, vCl0, vgName, vgNil, vgCons, vgTup, vgLst, viAny, viEnum, viEnumT, viRev, viRng1, viRng2, vYes, wipeS, vTru, vOrT, vListRg, vBor, vBorT, vSrtSet, vSlT, vPl, vPl0, vPlen, vPlset, Pl.get, Pl.put,
  qI, qI0, qB0, qNeB, qEqD, qNeD, qEqL, qIn, qInE, qU, qCatL, qCatT, qIx, itemD_T, itemD_L, qLen, qList, qTuple, qSum, qAny, qAll, qSortI, qSortTI, qSortE, qAbs, qInt, qMin2, qGcd, qNotB,
  List.length_cons, List.length_nil, List.replicate_succ, List.replicate_zero, List.cons_append, List.nil_append, List.getElem?_cons_zero, List.getElem?_cons_succ, List.set_cons_zero, List.set_cons_succ, Nat.reduceAdd, Nat.reduceSub, Option.some.injEq, SD.fz.injEq, SD.own.injEq, SD.adr.injEq, PyData.int.injEq, PyData.bool.injEq, PyData.tuple.injEq, PyData.list.injEq, exists_eq_left', exists_eq_left, exists_eq, and_true, true_and, unfz, Option.map_some, and_assoc, exists_and_left, List.cons.injEq, Nat.reduceLeDiff,
  List.map_cons, List.map_nil, Int.reduceLE, Int.reduceToNat, if_true, reduceCtorEq, false_or, or_false, exists_false, ↓reduceIte, Nat.zero_le, Int.zero_le_ofNat, Int.reduceNeg])
local macro_rules | `(tactic| walk_at "lc") => `(tactic| try simp only [vLc, vSeq, vAsg, vIfS, vRet, vRetN, vRetO, vNext, vPar, vSetO, vApp, vIns, vFrz, vDrop, vNever, vVar, vC, vOp, vUn, vTest, vChain, vIsN, vNotN, vAnd, vOr, vNot, vAndV, vIf, vaNil, vaCons, vaAdr, vTup, vLst, vCB, vCall, vCall0, vCl, vCl0, vgName, vgNil, vgCons, vgTup, vgLst, viAny, viEnum, viEnumT, viRev, viRng1, viRng2, vYes, wipeS, vTru, vOrT, vListRg, vBor, vBorT, vSrtSet, vSlT, vPl, vPl0, vPlen, vPlset, Pl.get, Pl.put,
  qI, qI0, qB0, qNeB, qEqD, qNeD, qEqL, qIn, qInE, qU, qCatL, qCatT, qIx, itemD_T, itemD_L, qLen, qList, qTuple, qSum, qAny, qAll, qSortI, qSortTI, qSortE, qAbs, qInt, qMin2, qGcd, qNotB,
  List.length_cons, List.length_nil, List.replicate_succ, List.replicate_zero, List.cons_append, List.nil_append, List.getElem?_cons_zero, List.getElem?_cons_succ, List.set_cons_zero, List.set_cons_succ, Nat.reduceAdd, Nat.reduceSub, Option.some.injEq, SD.fz.injEq, SD.own.injEq, SD.adr.injEq, PyData.int.injEq, PyData.bool.injEq, PyData.tuple.injEq, PyData.list.injEq, exists_eq_left', exists_eq_left, exists_eq, and_true, true_and, unfz, Option.map_some, and_assoc, exists_and_left, List.cons.injEq, Nat.reduceLeDiff,
  List.map_cons, List.map_nil, Int.reduceLE, Int.reduceToNat, if_true, reduceCtorEq, false_or, or_false, exists_false, ↓reduceIte, Nat.zero_le, Int.zero_le_ofNat, Int.reduceNeg])
local macro_rules | `(tactic| walk_at "fo") => `(tactic| try simp only [vFor, vSeq, vAsg, vIfS, vRet, vRetN, vRetO, vNext, vPar, vSetO, vApp, vIns, vFrz, vDrop, vNever, vVar, vC, vOp, vUn, vTest, vChain, vIsN, vNotN, vAnd, vOr, vNot, vAndV, vIf, vaNil, vaCons, vaAdr, vTup, vLst, vCB, vCall, vCall0, vCl, vCl0, vgName, vgNil, vgCons, vgTup, vgLst, viAny, viEnum, viEnumT, viRev, viRng1, viRng2, vYes, wipeS, vTru, vOrT, vListRg, vBor, vBorT, vSrtSet, vSlT, vPl, vPl0, vPlen, vPlset, Pl.get, Pl.put,
  qI, qI0, qB0, qNeB, qEqD, qNeD, qEqL, qIn, qInE, qU, qCatL, qCatT, qIx, itemD_T, itemD_L, qLen, qList, qTuple, qSum, qAny, qAll, qSortI, qSortTI, qSortE, qAbs, qInt, qMin2, qGcd, qNotB,
  List.length_cons, List.length_nil, List.replicate_succ, List.replicate_zero, List.cons_append, List.nil_append, List.getElem?_cons_zero, List.getElem?_cons_succ, List.set_cons_zero, List.set_cons_succ, Nat.reduceAdd, Nat.reduceSub, Option.some.injEq, SD.fz.injEq, SD.own.injEq, SD.adr.injEq, PyData.int.injEq, PyData.bool.injEq, PyData.tuple.injEq, PyData.list.injEq, exists_eq_left', exists_eq_left, exists_eq, and_true, true_and, unfz, Option.map_some, and_assoc, exists_and_left, List.cons.injEq, Nat.reduceLeDiff,
  List.map_cons, List.map_nil, Int.reduceLE, Int.reduceToNat, if_true, reduceCtorEq, false_or, or_false, exists_false, ↓reduceIte, Nat.zero_le, Int.zero_le_ofNat, Int.reduceNeg])
local macro_rules | `(tactic| walk_at "wh") => `(tactic| try simp only [vWhile, vSeq, vAsg, vIfS, vRet, vRetN, vRetO, vNext, vPar, vSetO, vApp, vIns, vFrz, vDrop, vNever, vVar, vC, vOp, vUn, vTest, vChain, vIsN, vNotN, vAnd, vOr, vNot, vAndV, vIf, vaNil, vaCons, vaAdr, vTup, vLst, vCB, vCall, vCall0, vCl, vCl0, vgName, vgNil, vgCons, vgTup, vgLst, viAny, viEnum, viEnumT, viRev, viRng1, viRng2, vYes, wipeS, vTru, vOrT, vListRg, vBor, vBorT, vSrtSet, vSlT, vPl, vPl0, vPlen, vPlset, Pl.get, Pl.put,
  qI, qI0, qB0, qNeB, qEqD, qNeD, qEqL, qIn, qInE, qU, qCatL, qCatT, qIx, itemD_T, itemD_L, qLen, qList, qTuple, qSum, qAny, qAll, qSortI, qSortTI, qSortE, qAbs, qInt, qMin2, qGcd, qNotB,
  List.length_cons, List.length_nil, List.replicate_succ, List.replicate_zero, List.cons_append, List.nil_append, List.getElem?_cons_zero, List.getElem?_cons_succ, List.set_cons_zero, List.set_cons_succ, Nat.reduceAdd, Nat.reduceSub, Option.some.injEq, SD.fz.injEq, SD.own.injEq, SD.adr.injEq, PyData.int.injEq, PyData.bool.injEq, PyData.tuple.injEq, PyData.list.injEq, exists_eq_left', exists_eq_left, exists_eq, and_true, true_and, unfz, Option.map_some, and_assoc, exists_and_left, List.cons.injEq, Nat.reduceLeDiff,
  List.map_cons, List.map_nil, Int.reduceLE, Int.reduceToNat, if_true, reduceCtorEq, false_or, or_false, exists_false, ↓reduceIte, Nat.zero_le, Int.zero_le_ofNat, Int.reduceNeg])
local macro_rules | `(tactic| walk_at "sc") => `(tactic| try simp only [vLenSc, vSeq, vAsg, vIfS, vRet, vRetN, vRetO, vNext, vPar, vSetO, vApp, vIns, vFrz, vDrop, vNever, vVar, vC, vOp, vUn, vTest, vChain, vIsN, vNotN, vAnd, vOr, vNot, vAndV, vIf, vaNil, vaCons, vaAdr, vTup, vLst, vCB, vCall, vCall0, vCl, vCl0, vgName, vgNil, vgCons, vgTup, vgLst, viAny, viEnum, viEnumT, viRev, viRng1, viRng2, vYes, wipeS, vTru, vOrT, vListRg, vBor, vBorT, vSrtSet, vSlT, vPl, vPl0, vPlen, vPlset, Pl.get, Pl.put,
  qI, qI0, qB0, qNeB, qEqD, qNeD, qEqL, qIn, qInE, qU, qCatL, qCatT, qIx, itemD_T, itemD_L, qLen, qList, qTuple, qSum, qAny, qAll, qSortI, qSortTI, qSortE, qAbs, qInt, qMin2, qGcd, qNotB,
  List.length_cons, List.length_nil, List.replicate_succ, List.replicate_zero, List.cons_append, List.nil_append, List.getElem?_cons_zero, List.getElem?_cons_succ, List.set_cons_zero, List.set_cons_succ, Nat.reduceAdd, Nat.reduceSub, Option.some.injEq, SD.fz.injEq, SD.own.injEq, SD.adr.injEq, PyData.int.injEq, PyData.bool.injEq, PyData.tuple.injEq, PyData.list.injEq, exists_eq_left', exists_eq_left, exists_eq, and_true, true_and, unfz, Option.map_some, and_assoc, exists_and_left, List.cons.injEq, Nat.reduceLeDiff,
  List.map_cons, List.map_nil, Int.reduceLE, Int.reduceToNat, if_true, reduceCtorEq, false_or, or_false, exists_false, ↓reduceIte, Nat.zero_le, Int.zero_le_ofNat, Int.reduceNeg])


def dW (w : Way) : PyData := dT [w.1, w.2.1, w.2.2]
def dWs (ws : List Way) : PyData := .tuple (ws.map dW)
def dN (n : Nat) (ws : List Way) : PyData := .tuple [.int (n : Nat), dWs ws]
def dP (p : Int × Int) : PyData := dT [p.1, p.2]
def dPs (ps : List (Int × Int)) : PyData := .tuple (ps.map dP)
def dGs (gs : List (List Int)) : PyData := .tuple (gs.map dT)
def IsSeq (c : PyData) (is : List Int) : Prop := c = .list (is.map .int) ∨ c = .tuple (is.map .int)
theorem dW_eq (w : Way) : dW w = .tuple [.int w.1, .int w.2.1, .int w.2.2] := rfl
theorem dP_eq (p : Int × Int) : dP p = .tuple [.int p.1, .int p.2] := rfl
theorem ixT (ds : List PyData) {i : Int} {d : PyData} (h0 : 0 ≤ i) (h : ds[i.toNat]? = some d) : itemD (.tuple ds) i = some d := by
  rw [show itemD (.tuple ds) i = if 0 ≤ i then ds[i.toNat]? else none from rfl, if_pos h0, h]
theorem ixL (ds : List PyData) {i : Int} {d : PyData} (h0 : 0 ≤ i) (h : ds[i.toNat]? = some d) : itemD (.list ds) i = some d := by
  rw [show itemD (.list ds) i = if 0 ≤ i then ds[i.toNat]? else none from rfl, if_pos h0, h]

def S_all_ways : Spec W0 := fun xs _ R => ∃ (n : Nat) (ws : List Way), xs = [.fz (dN n ws)] ∧ NetOk n ws ∧ R (.tuple ((iota ws.length).map .int)) ()
section
variable {P : Program} {w : World} {K : PySem.W.Frag} {mg : Str → Option Value} {base : Heap}
theorem ok_all_ways (T : Tp K mg) : Cal P w K mg base 1 "all_ways" (spW K W0 S_all_ways) [] := by
  refine calV T.f_all_ways T.g_all_ways sc_all_ways (fun _ _ _ _ _ _ us hl => match us, hl with | [_], _ => rfl) (fun xs w Q h => ?_) (fun cdv A outer s H E hr => ⟨_, _, (dss_one (ds_ret (de_cty call_tuple_of sc_tuple rfl T.z_tuple (by decide +kernel) (da_cons (de_lr rfl rfl T.z_list rfl T.z_range (de_cb call_len_seq sc_len rfl T.z_len PySem.boot_len (da_cons (de_ixK K (de_var 0) de_int) da_nil))) da_nil)))), ?_⟩)
  · obtain ⟨n, ws, rfl, _⟩ := h; rfl
  · rintro xs w Q ⟨n, ws, rfl, hn, q⟩
    simp only [dN, dWs]
    walk_at "rd"
    rw [List.length_map]
    have := hn.wl
    refine ⟨by omega, ?_⟩
    rw [rng0, Int.toNat_natCast]; exact ⟨by omega, q⟩
end
def I_gof (gs : List (List Int)) (p : Int) (i : Nat) (s : List SD) : Prop := (∃ o, s = [.fz (dGs gs), .fz (.int p), o]) ∧ ∀ g ∈ gs.take i, p ∉ g
def S_group_of : Spec W0 := fun xs _ R => ∃ (gs : List (List Int)) (p : Int), xs = [.fz (dGs gs), .fz (.int p)] ∧ R (dT (grp gs p)) ()
section
variable {P : Program} {w : World} {K : PySem.W.Frag} {mg : Str → Option Value} {base : Heap}
theorem ok_group_of (T : Tp K mg) : Cal P w K mg base 1 "group_of" (spW K W0 S_group_of) [] := by
  refine calV T.f_group_of T.g_group_of sc_group_of (fun _ _ _ _ _ _ us hl => match us, hl with | [_, _], _ => rfl) (fun xs w Q h => ?_) (fun cdv A outer s H E hr => ⟨_, _, (dss_cons (ds_for PassesOwn.never rfl (di_seqK K (de_var 0)) (dgn 2 sc_group_of.nd) (dss_one (ds_if (dt_cmp (op_inK K) so_in (de_var 1) (de_var 2) (by with_unfolding_all rfl)) (dss_one (ds_ret (de_var 2))) dss_nil)))
      (dss_one (ds_ret (de_tup da_nil)))), ?_⟩)
  · obtain ⟨gs, p, rfl, _⟩ := h; rfl
  · rintro xs w Q ⟨gs, p, rfl, q⟩
    simp only [dGs]
    walk_at "rd"
    simp only [vFor]
    walk_at "rd"
    refine ⟨fun i s _ => I_gof gs p i s, ⟨⟨_, rfl⟩, by simp⟩, fun i s _ d hd ⟨⟨o, e⟩, hg⟩ => ?_, fun s _ ⟨⟨o, e⟩, hg⟩ => ?_⟩
    · subst e
      obtain ⟨g, hx, rfl⟩ := mget hd
      walk_at "rd"
      refine ⟨g, rfl, ?_⟩
      by_cases c : p ∈ g
      · rw [if_pos (decide_eq_true c)]
        rw [grp_found hx hg c] at q
        exact q
      · rw [if_neg (by simpa using c)]
        refine ⟨⟨_, rfl⟩, ?_⟩
        rw [List.take_add_one, hx]
        intro g' hg'
        rcases List.mem_append.mp hg' with h | h
        · exact hg g' h
        · simp only [Option.toList, List.mem_singleton] at h; subst h; exact c
    · rw [List.length_map, List.take_length] at hg
      rw [grp_none hg] at q
      exact q
end
theorem perm2 {a b : Int} {l : List Int} (h : l.Perm [a, b]) : ∃ x y, l = [x, y] := by
  have := h.length_eq
  match l, this with
  | [x, y], _ => exact ⟨x, y, rfl⟩
def mk (n : Nat) (f : Int → Int) : PyData := .list ((iota n).map fun x => .int (f x))
def I_g1 (n : Nat) (ws : List Way) (c : PyData) (is : List Int) (k : Nat) (s : List SD) : Prop := ∃ f o5 o6 o7 o8 o9 o10, FOk n ws (is.take k) f ∧ noO [o5, o6, o7, o8, o9, o10] = true ∧ s = [.fz (dN n ws), .fz c, .fz (.int n), .fz (dWs ws), .fz (mk n f), o5, o6, o7, o8, o9, o10, .un, .un, .un, .un]
def gAcc (n : Nat) (f : Int → Int) (k : Nat) : List PyData := (((iota n).take k).filter fun x => decide (f x = x)).map fun x => dT ((iota n).filter fun y => decide (f y = x))
def I_g2 (n : Nat) (ws : List Way) (c : PyData) (f : Int → Int) (k : Nat) (s : List SD) : Prop := ∃ o5 o6 o7 o8 o9 o10 o12 o13 o14, s = [.fz (dN n ws), .fz c, .fz (.int n), .fz (dWs ws), .fz (mk n f), o5, o6, o7, o8, o9, o10,
  .own (gAcc n f k), o12, o13, o14]
theorem mk_ix {n : Nat} {f : Int → Int} {x : Int} (h : x ∈ iota n) : itemD (mk n f) x = some (.int (f x)) := by
  have hx := mem_iota.mp h
  refine ixL _ hx.1 ?_
  rw [List.getElem?_map, iota_get (by omega), Option.map_some, Int.toNat_of_nonneg hx.1]
theorem wget {ws : List Way} {i : Int} (h : 0 ≤ i ∧ i < ws.length) : ∃ w, ws[i.toNat]? = some w ∧ w ∈ ws := by
  have : i.toNat < ws.length := by omega
  exact ⟨ws[i.toNat], List.getElem?_eq_getElem this, List.getElem_mem this⟩
theorem ws_ix {ws : List Way} {i : Int} {w : Way} (h : 0 ≤ i) (hw : ws[i.toNat]? = some w) : itemD (dWs ws) i = some (dW w) := ixT _ h (by rw [List.getElem?_map, hw]; rfl)
def S_groups : Spec W0 := fun xs _ R => ∃ (n : Nat) (ws : List Way) (c : PyData) (is : List Int), xs = [.fz (dN n ws), .fz c] ∧ NetOk n ws ∧ IsSeq c is ∧ InR ws is ∧ ∀ gs, Groups n ws is gs → R (dGs gs) ()
section
variable {P : Program} {w : World} {K : PySem.W.Frag} {mg : Str → Option Value} {base : Heap}
theorem ok_groups (T : Tp K mg) : Cal P w K mg base 1 "groups" (spW K W0 S_groups) [] := by
  refine calV T.f_groups T.g_groups sc_groups (fun _ _ _ _ _ _ us hl => match us, hl with | [_, _], _ => rfl) (fun xs w Q h => ?_) (fun cdv A outer s H E hr => ⟨_, _, (dss_cons (ds_asg (de_var 0) (dg_tupK K (n := 2) rfl (dgs_cons (dgn 2 sc_groups.nd) (dgs_cons (dgn 3 sc_groups.nd) dgs_nil))))
      (dss_cons (dset 4 sc_groups.nd (de_lr rfl rfl T.z_list rfl T.z_range (de_var 2)))
      (dss_cons (ds_for PassesOwn.never rfl (di_seqK K (de_var 1)) (dgn 5 sc_groups.nd) (dss_cons (ds_asg (de_ixK K (de_var 3) (de_var 5)) (dg_tupK K (n := 3) rfl (dgs_cons (dgn 6 sc_groups.nd) (dgs_cons (dgn 7 sc_groups.nd) (dgs_cons (dgn 8 sc_groups.nd) dgs_nil)))))
      (dss_cons (ds_asg (de_cb cr_sortedI sc_sortI rfl T.z_sorted (by decide +kernel) (da_cons (de_lst (da_cons (de_ixK K (de_var 4) (de_var 6)) (da_cons (de_ixK K (de_var 4) (de_var 7)) da_nil))) da_nil)) (dg_lstK K (n := 2) rfl (dgs_cons (dgn 9 sc_groups.nd) (dgs_cons (dgn 10 sc_groups.nd) dgs_nil))))
      (dss_one (dset 4 sc_groups.nd (de_lc (own := [("one", 13)]) rfl sc_groups.nd (di_seqK K (de_var 4)) (blkOk_by (by kernel_rfl)) (fun _ _ _ _ _ => (dgn 13 sc_groups.nd)) (fun _ _ _ _ _ => dts_nil) (fun _ _ _ _ _ => (de_if (dt_cmp op_eq so_eqI (de_var 13) (de_var 10) (nomark _)) (de_var 9) (de_var 13))) go_name))))))
      (dss_cons (dsetO 11 sc_groups.nd da_nil)
      (dss_cons (ds_for PassesOwn.never rfl (di_rng1 rfl T.z_range (da_cons (de_var 2) da_nil)) (dgn 12 sc_groups.nd) (dss_one (ds_if (dt_cmp op_eq so_eqI (de_ixK K (de_var 4) (de_var 12)) (de_var 12) (nomark _)) (dss_one (ds_app 11 (da_cons (de_cty call_tuple_of sc_tuple rfl T.z_tuple (by decide +kernel) (da_cons (de_lc (own := [("place", 14)]) rfl sc_groups.nd (di_rng1 rfl T.z_range (da_cons (de_var 2) da_nil)) (blkOk_by (by kernel_rfl)) (fun _ _ _ _ _ => (dgn 14 sc_groups.nd)) (fun _ _ _ _ _ => (dts_one (dt_cmp op_eq so_eqI (de_ixK K (de_var 4) (de_var 14)) (de_var 12) (nomark _)))) (fun _ _ _ _ _ => (de_var 14)) go_name) da_nil)) da_nil))) dss_nil)))
      (dss_frz 11 (dss_one (ds_ret (de_cty call_tuple_of sc_tuple rfl T.z_tuple (by decide +kernel) (da_cons (de_var 11) da_nil)))))))))), ?_⟩)
  · obtain ⟨n, ws, c, is, rfl, _⟩ := h; rfl
  · rintro xs w Q ⟨n, ws, c, is, rfl, hn, hc, hi, q⟩
    have hn2 := hn.n2
    simp only [dN]
    walk_at "rd"
    simp only [vFor]
    walk_at "rd"
    refine ⟨by omega, by omega, is.map .int, hc, fun k s _ => I_g1 n ws c is k s, ?_, fun k s _ d hd hI => ?_, fun s _ hI => ?_⟩
    · rw [Int.toNat_natCast, rng0]
      exact ⟨fun x => x, .un, .un, .un, .un, .un, .un, fok_nil n ws, rfl, rfl⟩
    · obtain ⟨f, o5, o6, o7, o8, o9, o10, hf, ho, rfl⟩ := hI
      obtain ⟨i, hi', rfl⟩ := mget hd
      have hi2 := hi i (List.mem_of_getElem? hi')
      obtain ⟨v, hv, hm⟩ := wget hi2
      obtain ⟨e1, e2⟩ := hn.ends v hm
      walk_at "rd"
      refine ⟨_, ws_ix hi2.1 hv, ?_⟩
      simp only [dW_eq]
      walk_at "rd"
      refine ⟨_, mk_ix e1, _, mk_ix e2, ?_⟩
      walk_at "rd"
      refine ⟨[f v.1, f v.2.1], rfl, fun ns' hp hs => ?_⟩
      obtain ⟨lo, hh, rfl⟩ := perm2 hp
      walk_at "lc"
      refine ⟨_, Or.inl rfl, lc_pure (iota n) (fun x => .int (f x)) (fun _ => true) (fun x => .int (if f x = hh then lo else f x)) (by rw [iota_len]; omega) (fun I j acc x hx h => ?_) ?_⟩
      · rw [if_pos rfl] at h
        refine ⟨f x, rfl, ?_⟩
        by_cases c : f x = hh
        · rw [if_pos (decide_eq_true c)]; rw [if_pos c] at h; exact h
        · rw [if_neg (by simpa using c)]; rw [if_neg c] at h; exact h
      · rw [List.filter_eq_self.mpr (fun _ _ => rfl)]
        refine ⟨_, _, _, _, _, _, _, ?_, ?_, rfl⟩
        · rw [List.take_add_one, hi']
          exact fok_step hf hv e1 e2 hp
        · rfl
    · obtain ⟨f, o5, o6, o7, o8, o9, o10, hf, ho, rfl⟩ := hI
      rw [List.length_map, List.take_length] at hf
      walk_at "fo"
      refine ⟨?_, by omega, by omega, fun k s _ => I_g2 n ws c f k s, ?_, fun k s _ d hd hI => ?_, fun s _ hI => ?_⟩
      · exact own_at ho
      · exact ⟨_, _, _, _, _, _, _, _, _, rfl⟩
      · obtain ⟨o5, o6, o7, o8, o9, o10, o12, o13, o14, rfl⟩ := hI
        rw [rng0] at hd
        obtain ⟨x, hx, rfl⟩ := mget hd
        have hm := List.mem_of_getElem? hx
        rw [Int.toNat_natCast] at hm
        walk_at "lc"
        refine ⟨_, mk_ix hm, ?_⟩
        walk_at "lc"
        rw [rng0, Int.toNat_natCast]
        have ht : (iota n).take (k + 1) = (iota n).take k ++ [x] := by
          rw [List.take_add_one]; rw [Int.toNat_natCast] at hx; rw [hx]; rfl
        by_cases c : f x = x
        · rw [if_pos (decide_eq_true c)]
          refine ⟨by omega, by omega, lc_pure (iota n) .int (fun y => decide (f y = x)) .int (by rw [iota_len]; omega) (fun I j acc y hy h => ?_) ?_⟩
          · exact ⟨y, rfl, _, mk_ix hy, _, rfl, h⟩
          · refine ⟨?_, ?_⟩
            · rw [gAcc, List.length_map]
              refine Nat.le_trans (List.length_filter_le _ _) (Nat.le_trans (List.length_take_le' _ _) ?_)
              rw [iota_len]; omega
            · rw [show gAcc n f k ++ [.tuple (((iota n).filter fun y => decide (f y = x)).map .int)] = gAcc n f (k + 1) by
                rw [gAcc, gAcc, ht, List.filter_append, List.map_append, List.filter_cons_of_pos (by simpa using c)]; rfl]
              exact ⟨_, _, _, _, _, _, _, _, _, rfl⟩
        · rw [if_neg (by simpa using c)]
          rw [show gAcc n f k = gAcc n f (k + 1) by
            rw [gAcc, gAcc, ht, List.filter_append, List.map_append, List.filter_cons_of_neg (by simpa using c)]; simp]
          exact ⟨_, _, _, _, _, _, _, _, _, rfl⟩
      · obtain ⟨o5, o6, o7, o8, o9, o10, o12, o13, o14, rfl⟩ := hI
        walk_at "rd"
        rw [rng0, Int.toNat_natCast, List.length_map, gAcc, List.take_length]
        have := q (gsOf n f) ⟨f, hf, rfl⟩
        rw [dGs, gsOf, List.map_map] at this
        exact this
end
def I_fa (n : Nat) (ws : List Way) (ps : List (Int × Int)) (c : PyData) (gs : List (List Int)) (k : Nat) (s : List SD) : Prop := (∃ o4 o5 o6, s = [.fz (dN n ws), .fz (dPs ps), .fz c, .fz (dGs gs), o4, o5, o6]) ∧ ∀ p ∈ ps.take k, p.2 ∈ grp gs p.1
def S_first_apart : Spec W0 := fun xs _ R => ∃ (n : Nat) (ws : List Way) (ps : List (Int × Int)) (c : PyData) (is : List Int), xs = [.fz (dN n ws), .fz (dPs ps), .fz c] ∧ NetOk n ws ∧ IsSeq c is ∧ InR ws is ∧ PairsOk n ps ∧ ∀ d, (d = .none ∧ Jn ws is ps) ∨ ((∃ i : Int, d = .int i) ∧ ¬ Jn ws is ps) → R d ()
section
variable {P : Program} {w : World} {K : PySem.W.Frag} {mg : Str → Option Value} {base : Heap}
theorem ok_first_apart (T : Tp K mg) : Cal P w K mg base 2 "first_apart" (spW K W0 S_first_apart) [] := by
  have c_group_of := ok_group_of (P := P) (w := w) (base := base) T
  have c_groups := ok_groups (P := P) (w := w) (base := base) T
  refine calV T.f_first_apart T.g_first_apart sc_first_apart (fun _ _ _ _ _ _ us hl => match us, hl with | [_, _, _], _ => rfl) (fun xs w Q h => ?_) (fun cdv A outer s H E hr => ⟨_, _, (dss_cons (dset 3 sc_first_apart.nd (de_cl0K K c_groups hr (by decide) rfl (da_cons (de_var 0) (da_cons (de_var 2) da_nil))))
      (dss_cons (ds_for PassesOwn.never rfl (di_enumT rfl T.z_enumerate (da_cons (de_var 1) da_nil)) (dg_tupK K (n := 2) rfl (dgs_cons (dgn 4 sc_first_apart.nd) (dgs_cons (dg_tupK K (n := 2) rfl (dgs_cons (dgn 5 sc_first_apart.nd) (dgs_cons (dgn 6 sc_first_apart.nd) dgs_nil))) dgs_nil))) (dss_one (ds_if (dt_cmp (op_notInK K) so_in (de_var 6) (de_cl0K K c_group_of hr (by decide) rfl (da_cons (de_var 3) (da_cons (de_var 5) da_nil))) (by with_unfolding_all rfl)) (dss_one (ds_ret (de_var 4))) dss_nil)))
      (dss_one (ds_ret de_non)))), ?_⟩)
  · obtain ⟨n, ws, ps, c, is, rfl, _⟩ := h; rfl
  · rintro xs w Q ⟨n, ws, ps, c, is, rfl, hn, hc, hi, hp, q⟩
    walk_at "rd"
    refine ⟨n, ws, c, is, rfl, hn, hc, hi, fun gs hg => ?_⟩
    simp only [dPs]
    walk_at "fo"
    refine ⟨fun k s _ => I_fa n ws ps c gs k s, ⟨⟨_, _, _, rfl⟩, by simp⟩, fun k s _ d hd hI => ?_, fun s _ hI => ?_⟩
    · obtain ⟨⟨o4, o5, o6, rfl⟩, hb⟩ := hI
      obtain ⟨x, hx, rfl⟩ := eget hd
      simp only [dP_eq]
      walk_at "rd"
      refine ⟨gs, x.1, rfl, grp gs x.1, Or.inr rfl, ?_⟩
      by_cases cc : x.2 ∈ grp gs x.1
      · rw [if_neg (by simpa using cc)]
        refine ⟨⟨_, _, _, rfl⟩, fun p hm => ?_⟩
        rw [List.take_add_one, hx] at hm
        rcases List.mem_append.mp hm with h | h
        · exact hb p h
        · simp only [Option.toList, List.mem_singleton] at h; subst h; exact cc
      · rw [if_pos (by simpa using cc)]
        exact q _ (Or.inr ⟨⟨_, rfl⟩, fun j => cc ((jn_iff hg hp).mpr j x (List.mem_of_getElem? hx))⟩)
    · obtain ⟨_, hb⟩ := hI
      rw [enum_len, List.length_map, List.take_length] at hb
      exact q _ (Or.inl ⟨rfl, (jn_iff hg hp).mp hb⟩)
end
def S_joins : Spec W0 := fun xs _ R => ∃ (n : Nat) (ws : List Way) (ps : List (Int × Int)) (c : PyData) (is : List Int), xs = [.fz (dN n ws), .fz (dPs ps), .fz c] ∧ NetOk n ws ∧ IsSeq c is ∧ InR ws is ∧ PairsOk n ps ∧ ∀ b : Bool, (b = true ↔ Jn ws is ps) → R (.bool b) ()
section
variable {P : Program} {w : World} {K : PySem.W.Frag} {mg : Str → Option Value} {base : Heap}
theorem ok_joins (T : Tp K mg) : Cal P w K mg base 3 "joins" (spW K W0 S_joins) [] := by
  have c_first_apart := ok_first_apart (P := P) (w := w) (base := base) T
  refine calV T.f_joins T.g_joins sc_joins (fun _ _ _ _ _ _ us hl => match us, hl with | [_, _, _], _ => rfl) (fun xs w Q h => ?_) (fun cdv A outer s H E hr => ⟨_, _, (dss_one (ds_ret (de_isN (de_cl0K K c_first_apart hr (by decide) rfl (da_cons (de_var 0) (da_cons (de_var 1) (da_cons (de_var 2) da_nil))))))), ?_⟩)
  · obtain ⟨n, ws, ps, c, is, rfl, _⟩ := h; rfl
  · rintro xs w Q ⟨n, ws, ps, c, is, rfl, hn, hc, hi, hp, q⟩
    walk_at "rd"
    refine ⟨n, ws, ps, c, is, rfl, hn, hc, hi, hp, fun d hd => ?_⟩
    rcases hd with ⟨rfl, h⟩ | ⟨⟨i, rfl⟩, h⟩
    · exact q true ⟨fun _ => h, fun _ => rfl⟩
    · exact q false ⟨(fun z => nomatch z), fun z => absurd z h⟩
end
def S_crosses : Spec W0 := fun xs _ R => ∃ (w : Way) (g : List Int), xs = [.fz (dW w), .fz (dT g)] ∧ R (.bool (crW w g)) ()
section
variable {P : Program} {w : World} {K : PySem.W.Frag} {mg : Str → Option Value} {base : Heap}
theorem ok_crosses (T : Tp K mg) : Cal P w K mg base 1 "crosses" (spW K W0 S_crosses) [] := by
  refine calV T.f_crosses T.g_crosses sc_crosses (fun _ _ _ _ _ _ us hl => match us, hl with | [_, _], _ => rfl) (fun xs w Q h => ?_) (fun cdv A outer s H E hr => ⟨_, _, (dss_one (ds_ret (de_cmp op_ne so_neB (de_cmp (op_inK K) so_in (de_ixK K (de_var 0) de_int) (de_var 1) (by with_unfolding_all rfl)) (de_cmp (op_inK K) so_in (de_ixK K (de_var 0) de_int) (de_var 1) (by with_unfolding_all rfl)) (nomark _)))), ?_⟩)
  · obtain ⟨w, g, rfl, _⟩ := h; rfl
  · rintro xs w Q ⟨w, g, rfl, q⟩
    simp only [dW_eq]
    walk_at "rd"
    exact ⟨g, rfl, g, rfl, q⟩
end
end L2.VL
/-! part F3 -/
set_option Elab.async false
set_option linter.all false
set_option autoImplicit false
set_option maxRecDepth 100000
set_option maxHeartbeats 4000000
namespace L2.VL
open PySem PySem.Spec PyProof.Rows L2 C8 MW
local macro_rules | `(tactic| walk_at "st") => `(tactic| try simp only [vAsg, vIfS, vRet, vRetN, vRetO, vNext, vPar, vSetO, vApp, vIns, vFrz, vDrop, vNever, vVar, vC, vOp, vUn, vTest, vChain, vIsN, vNotN, vAnd, vOr, vNot, vAndV, vIf, vaNil, vaCons, vaAdr, vTup, vLst, vCB, vCall, vCall0, vCl, vCl0, vgName, vgNil, vgCons, vgTup, vgLst, viAny, viEnum, viEnumT, viRev, viRng1, viRng2, vYes, wipeS, vTru, vOrT, vListRg, vBor, vBorT, vSrtSet, vSlT, vPl, vPl0, vPlen, vPlset, Pl.get, Pl.put,
  qI, qI0, qB0, qNeB, qEqD, qNeD, qEqL, qIn, qInE, qU, qCatL, qCatT, qIx, itemD_T, itemD_L, qLen, qList, qTuple, qSum, qAny, qAll, qSortI, qSortTI, qSortE, qAbs, qInt, qMin2, qGcd, qNotB,
  List.length_cons, List.length_nil, List.replicate_succ, List.replicate_zero, List.cons_append, List.nil_append, List.getElem?_cons_zero, List.getElem?_cons_succ, List.set_cons_zero, List.set_cons_succ, Nat.reduceAdd, Nat.reduceSub, Option.some.injEq, SD.fz.injEq, SD.own.injEq, SD.adr.injEq, PyData.int.injEq, PyData.bool.injEq, PyData.tuple.injEq, PyData.list.injEq, exists_eq_left', exists_eq_left, exists_eq, and_true, true_and, unfz, Option.map_some, and_assoc, exists_and_left, List.cons.injEq, Nat.reduceLeDiff,
  List.map_cons, List.map_nil, Int.reduceLE, Int.reduceToNat, if_true, reduceCtorEq, false_or, or_false, exists_false, ↓reduceIte, Nat.zero_le, Int.zero_le_ofNat, Int.reduceNeg])
local macro_rules | `(tactic| walk_at "stf") => `(tactic| try simp only [vFor, vAsg, vIfS, vRet, vRetN, vRetO, vNext, vPar, vSetO, vApp, vIns, vFrz, vDrop, vNever, vVar, vC, vOp, vUn, vTest, vChain, vIsN, vNotN, vAnd, vOr, vNot, vAndV, vIf, vaNil, vaCons, vaAdr, vTup, vLst, vCB, vCall, vCall0, vCl, vCl0, vgName, vgNil, vgCons, vgTup, vgLst, viAny, viEnum, viEnumT, viRev, viRng1, viRng2, vYes, wipeS, vTru, vOrT, vListRg, vBor, vBorT, vSrtSet, vSlT, vPl, vPl0, vPlen, vPlset, Pl.get, Pl.put,
  qI, qI0, qB0, qNeB, qEqD, qNeD, qEqL, qIn, qInE, qU, qCatL, qCatT, qIx, itemD_T, itemD_L, qLen, qList, qTuple, qSum, qAny, qAll, qSortI, qSortTI, qSortE, qAbs, qInt, qMin2, qGcd, qNotB,
  List.length_cons, List.length_nil, List.replicate_succ, List.replicate_zero, List.cons_append, List.nil_append, List.getElem?_cons_zero, List.getElem?_cons_succ, List.set_cons_zero, List.set_cons_succ, Nat.reduceAdd, Nat.reduceSub, Option.some.injEq, SD.fz.injEq, SD.own.injEq, SD.adr.injEq, PyData.int.injEq, PyData.bool.injEq, PyData.tuple.injEq, PyData.list.injEq, exists_eq_left', exists_eq_left, exists_eq, and_true, true_and, unfz, Option.map_some, and_assoc, exists_and_left, List.cons.injEq, Nat.reduceLeDiff,
  List.map_cons, List.map_nil, Int.reduceLE, Int.reduceToNat, if_true, reduceCtorEq, false_or, or_false, exists_false, ↓reduceIte, Nat.zero_le, Int.zero_le_ofNat, Int.reduceNeg])
local macro_rules | `(tactic| walk_at "stl") => `(tactic| try simp only [vLc, vAsg, vIfS, vRet, vRetN, vRetO, vNext, vPar, vSetO, vApp, vIns, vFrz, vDrop, vNever, vVar, vC, vOp, vUn, vTest, vChain, vIsN, vNotN, vAnd, vOr, vNot, vAndV, vIf, vaNil, vaCons, vaAdr, vTup, vLst, vCB, vCall, vCall0, vCl, vCl0, vgName, vgNil, vgCons, vgTup, vgLst, viAny, viEnum, viEnumT, viRev, viRng1, viRng2, vYes, wipeS, vTru, vOrT, vListRg, vBor, vBorT, vSrtSet, vSlT, vPl, vPl0, vPlen, vPlset, Pl.get, Pl.put,
  qI, qI0, qB0, qNeB, qEqD, qNeD, qEqL, qIn, qInE, qU, qCatL, qCatT, qIx, itemD_T, itemD_L, qLen, qList, qTuple, qSum, qAny, qAll, qSortI, qSortTI, qSortE, qAbs, qInt, qMin2, qGcd, qNotB,
  List.length_cons, List.length_nil, List.replicate_succ, List.replicate_zero, List.cons_append, List.nil_append, List.getElem?_cons_zero, List.getElem?_cons_succ, List.set_cons_zero, List.set_cons_succ, Nat.reduceAdd, Nat.reduceSub, Option.some.injEq, SD.fz.injEq, SD.own.injEq, SD.adr.injEq, PyData.int.injEq, PyData.bool.injEq, PyData.tuple.injEq, PyData.list.injEq, exists_eq_left', exists_eq_left, exists_eq, and_true, true_and, unfz, Option.map_some, and_assoc, exists_and_left, List.cons.injEq, Nat.reduceLeDiff,
  List.map_cons, List.map_nil, Int.reduceLE, Int.reduceToNat, if_true, reduceCtorEq, false_or, or_false, exists_false, ↓reduceIte, Nat.zero_le, Int.zero_le_ofNat, Int.reduceNeg])
local macro_rules | `(tactic| walk_at "stw") => `(tactic| try simp only [vWhile, vAsg, vIfS, vRet, vRetN, vRetO, vNext, vPar, vSetO, vApp, vIns, vFrz, vDrop, vNever, vVar, vC, vOp, vUn, vTest, vChain, vIsN, vNotN, vAnd, vOr, vNot, vAndV, vIf, vaNil, vaCons, vaAdr, vTup, vLst, vCB, vCall, vCall0, vCl, vCl0, vgName, vgNil, vgCons, vgTup, vgLst, viAny, viEnum, viEnumT, viRev, viRng1, viRng2, vYes, wipeS, vTru, vOrT, vListRg, vBor, vBorT, vSrtSet, vSlT, vPl, vPl0, vPlen, vPlset, Pl.get, Pl.put,
  qI, qI0, qB0, qNeB, qEqD, qNeD, qEqL, qIn, qInE, qU, qCatL, qCatT, qIx, itemD_T, itemD_L, qLen, qList, qTuple, qSum, qAny, qAll, qSortI, qSortTI, qSortE, qAbs, qInt, qMin2, qGcd, qNotB,
  List.length_cons, List.length_nil, List.replicate_succ, List.replicate_zero, List.cons_append, List.nil_append, List.getElem?_cons_zero, List.getElem?_cons_succ, List.set_cons_zero, List.set_cons_succ, Nat.reduceAdd, Nat.reduceSub, Option.some.injEq, SD.fz.injEq, SD.own.injEq, SD.adr.injEq, PyData.int.injEq, PyData.bool.injEq, PyData.tuple.injEq, PyData.list.injEq, exists_eq_left', exists_eq_left, exists_eq, and_true, true_and, unfz, Option.map_some, and_assoc, exists_and_left, List.cons.injEq, Nat.reduceLeDiff,
  List.map_cons, List.map_nil, Int.reduceLE, Int.reduceToNat, if_true, reduceCtorEq, false_or, or_false, exists_false, ↓reduceIte, Nat.zero_le, Int.zero_le_ofNat, Int.reduceNeg])
local macro_rules | `(tactic| walk_at "rd") => `(tactic| try simp only [vSeq, vAsg, vIfS, vRet, vRetN, vRetO, vNext, vPar, vSetO, vApp, vIns, vFrz, vDrop, vNever, vVar, vC, vOp, vUn, vTest, vChain, vIsN, vNotN, vAnd, vOr, vNot, vAndV, vIf, vaNil, vaCons, vaAdr, vTup, vLst, vCB, vCall, vCall0, vCl, vCl0, vgName, vgNil, vgCons, vgTup, vgLst, viAny, viEnum, viEnumT, viRev, viRng1, viRng2, vYes, wipeS, vTru, vOrT, vListRg, vBor, vBorT, vSrtSet, vSlT, vPl, vPl0, vPlen, vPlset, Pl.get, Pl.put,
  qI, qI0, qB0, qNeB, qEqD, qNeD, qEqL, qIn, qInE, qU, qCatL, qCatT, qIx, itemD_T, itemD_L, qLen, qList, qTuple, qSum, qAny, qAll, qSortI, qSortTI, qSortE, qAbs, qInt, qMin2, qGcd, qNotB,
  List.length_cons, List.length_nil, List.replicate_succ, List.replicate_zero, List.cons_append, List.nil_append, List.getElem?_cons_zero, List.getElem?_cons_succ, List.set_cons_zero, List.set_cons_succ, Nat.reduceAdd, Nat.reduceSub, Option.some.injEq, SD.fz.injEq, SD.own.injEq, SD.adr.injEq, PyData.int.injEq, PyData.bool.injEq, PyData.tuple.injEq, PyData.list.injEq, exists_eq_left', exists_eq_left, exists_eq, and_true, true_and, unfz, Option.map_some, and_assoc, exists_and_left, List.cons.injEq, Nat.reduceLeDiff,
  List.map_cons, List.map_nil, Int.reduceLE, Int.reduceToNat, if_true, reduceCtorEq, false_or, or_false, exists_false, ↓reduceIte, Nat.zero_le, Int.zero_le_ofNat, Int.reduceNeg])
local macro_rules | `(tactic| walk_at "lc") => `(tactic| try simp only [vLc, vSeq, vAsg, vIfS, vRet, vRetN, vRetO, vNext, vPar, vSetO, vApp, vIns, vFrz, vDrop, vNever, vVar, vC, vOp, vUn, vTest, vChain, vIsN, vNotN, vAnd, vOr, vNot, vAndV, vIf, vaNil, vaCons, vaAdr, vTup, vLst, vCB, vCall, vCall0, vCl, vCl0, vgName, vgNil, vgCons, vgTup, vgLst, viAny, viEnum, viEnumT, viRev, viRng1, viRng2, vYes, wipeS, vTru, vOrT, vListRg, vBor, vBorT, vSrtSet, vSlT, vPl, vPl0, vPlen, vPlset, Pl.get, Pl.put,
  qI, qI0, qB0, qNeB, qEqD, qNeD, qEqL, qIn, qInE, qU, qCatL, qCatT, qIx, itemD_T, itemD_L, qLen, qList, qTuple, qSum, qAny, qAll, qSortI, qSortTI, qSortE, qAbs, qInt, qMin2, qGcd, qNotB,
  List.length_cons, List.length_nil, List.replicate_succ, List.replicate_zero, List.cons_append, List.nil_append, List.getElem?_cons_zero, List.getElem?_cons_succ, List.set_cons_zero, List.set_cons_succ, Nat.reduceAdd, Nat.reduceSub, Option.some.injEq, SD.fz.injEq, SD.own.injEq, SD.adr.injEq, PyData.int.injEq, PyData.bool.injEq, PyData.tuple.injEq, PyData.list.injEq, exists_eq_left', exists_eq_left, exists_eq, and_true, true_and, unfz, Option.map_some, and_assoc, exists_and_left, List.cons.injEq, Nat.reduceLeDiff,
  List.map_cons, List.map_nil, Int.reduceLE, Int.reduceToNat, if_true, reduceCtorEq, false_or, or_false, exists_false, ↓reduceIte, Nat.zero_le, Int.zero_le_ofNat, Int.reduceNeg])
local macro_rules | `(tactic| walk_at "fo") => `(tactic| try simp only [vFor, vSeq, vAsg, vIfS, vRet, vRetN, vRetO, vNext, vPar, vSetO, vApp, vIns, vFrz, vDrop, vNever, vVar, vC, vOp, vUn, vTest, vChain, vIsN, vNotN, vAnd, vOr, vNot, vAndV, vIf, vaNil, vaCons, vaAdr, vTup, vLst, vCB, vCall, vCall0, vCl, vCl0, vgName, vgNil, vgCons, vgTup, vgLst, viAny, viEnum, viEnumT, viRev, viRng1, viRng2, vYes, wipeS, vTru, vOrT, vListRg, vBor, vBorT, vSrtSet, vSlT, vPl, vPl0, vPlen, vPlset, Pl.get, Pl.put,
  qI, qI0, qB0, qNeB, qEqD, qNeD, qEqL, qIn, qInE, qU, qCatL, qCatT, qIx, itemD_T, itemD_L, qLen, qList, qTuple, qSum, qAny, qAll, qSortI, qSortTI, qSortE, qAbs, qInt, qMin2, qGcd, qNotB,
  List.length_cons, List.length_nil, List.replicate_succ, List.replicate_zero, List.cons_append, List.nil_append, List.getElem?_cons_zero, List.getElem?_cons_succ, List.set_cons_zero, List.set_cons_succ, Nat.reduceAdd, Nat.reduceSub, Option.some.injEq, SD.fz.injEq, SD.own.injEq, SD.adr.injEq, PyData.int.injEq, PyData.bool.injEq, PyData.tuple.injEq, PyData.list.injEq, exists_eq_left', exists_eq_left, exists_eq, and_true, true_and, unfz, Option.map_some, and_assoc, exists_and_left, List.cons.injEq, Nat.reduceLeDiff,
  List.map_cons, List.map_nil, Int.reduceLE, Int.reduceToNat, if_true, reduceCtorEq, false_or, or_false, exists_false, ↓reduceIte, Nat.zero_le, Int.zero_le_ofNat, Int.reduceNeg])
local macro_rules | `(tactic| walk_at "wh") => `(tactic| try simp only [vWhile, vSeq, vAsg, vIfS, vRet, vRetN, vRetO, vNext, vPar, vSetO, vApp, vIns, vFrz, vDrop, vNever, vVar, vC, vOp, vUn, vTest, vChain, vIsN, vNotN, vAnd, vOr, vNot, vAndV, vIf, vaNil, vaCons, vaAdr, vTup, vLst, vCB, vCall, vCall0, vCl, vCl0, vgName, vgNil, vgCons, vgTup, vgLst, viAny, viEnum, viEnumT, viRev, viRng1, viRng2, vYes, wipeS, vTru, vOrT, vListRg, vBor, vBorT, vSrtSet, vSlT, vPl, vPl0, vPlen, vPlset, Pl.get, Pl.put,
  qI, qI0, qB0, qNeB, qEqD, qNeD, qEqL, qIn, qInE, qU, qCatL, qCatT, qIx, itemD_T, itemD_L, qLen, qList, qTuple, qSum, qAny, qAll, qSortI, qSortTI, qSortE, qAbs, qInt, qMin2, qGcd, qNotB,
  List.length_cons, List.length_nil, List.replicate_succ, List.replicate_zero, List.cons_append, List.nil_append, List.getElem?_cons_zero, List.getElem?_cons_succ, List.set_cons_zero, List.set_cons_succ, Nat.reduceAdd, Nat.reduceSub, Option.some.injEq, SD.fz.injEq, SD.own.injEq, SD.adr.injEq, PyData.int.injEq, PyData.bool.injEq, PyData.tuple.injEq, PyData.list.injEq, exists_eq_left', exists_eq_left, exists_eq, and_true, true_and, unfz, Option.map_some, and_assoc, exists_and_left, List.cons.injEq, Nat.reduceLeDiff,
  List.map_cons, List.map_nil, Int.reduceLE, Int.reduceToNat, if_true, reduceCtorEq, false_or, or_false, exists_false, ↓reduceIte, Nat.zero_le, Int.zero_le_ofNat, Int.reduceNeg])
local macro_rules | `(tactic| walk_at "sc") => `(tactic| try simp only [vLenSc, vSeq, vAsg, vIfS, vRet, vRetN, vRetO, vNext, vPar, vSetO, vApp, vIns, vFrz, vDrop, vNever, vVar, vC, vOp, vUn, vTest, vChain, vIsN, vNotN, vAnd, vOr, vNot, vAndV, vIf, vaNil, vaCons, vaAdr, vTup, vLst, vCB, vCall, vCall0, vCl, vCl0, vgName, vgNil, vgCons, vgTup, vgLst, viAny, viEnum, viEnumT, viRev, viRng1, viRng2, vYes, wipeS, vTru, vOrT, vListRg, vBor, vBorT, vSrtSet, vSlT, vPl, vPl0, vPlen, vPlset, Pl.get, Pl.put,
  qI, qI0, qB0, qNeB, qEqD, qNeD, qEqL, qIn, qInE, qU, qCatL, qCatT, qIx, itemD_T, itemD_L, qLen, qList, qTuple, qSum, qAny, qAll, qSortI, qSortTI, qSortE, qAbs, qInt, qMin2, qGcd, qNotB,
  List.length_cons, List.length_nil, List.replicate_succ, List.replicate_zero, List.cons_append, List.nil_append, List.getElem?_cons_zero, List.getElem?_cons_succ, List.set_cons_zero, List.set_cons_succ, Nat.reduceAdd, Nat.reduceSub, Option.some.injEq, SD.fz.injEq, SD.own.injEq, SD.adr.injEq, PyData.int.injEq, PyData.bool.injEq, PyData.tuple.injEq, PyData.list.injEq, exists_eq_left', exists_eq_left, exists_eq, and_true, true_and, unfz, Option.map_some, and_assoc, exists_and_left, List.cons.injEq, Nat.reduceLeDiff,
  List.map_cons, List.map_nil, Int.reduceLE, Int.reduceToNat, if_true, reduceCtorEq, false_or, or_false, exists_false, ↓reduceIte, Nat.zero_le, Int.zero_le_ofNat, Int.reduceNeg])


def dM (m : Moat) : PyData := .tuple [dT m.1, dR m.2]
def dPp (P : List Moat) : PyData := .tuple (P.map dM)
theorem all_true {α : Type} {xs : List α} {b : α → Bool} (h : ∀ x ∈ xs, b x = true) : ((xs.map b).all id) = true := by
  rw [List.all_map, List.all_eq_true]; exact h
theorem dT_ne {g : List Int} (h : g ≠ []) : truD (dT g) = some true := by
  cases g with
  | nil => exact absurd rfl h
  | cons x r => rfl
theorem filter_tt {α : Type} (xs : List α) : xs.filter (fun _ => true) = xs := List.filter_eq_self.mpr fun _ _ => rfl
theorem bmap {α : Type} (xs : List α) (b : α → Bool) : xs.map (fun x => PyData.bool (b x)) = (xs.map b).map .bool := by rw [List.map_map]; rfl

def S_is_moat : Spec W0 := fun xs _ R => ∃ (n : Nat) (ws : List Way) (m : Moat), xs = [.fz (dN n ws), .fz (dT m.1), .fz (dR m.2)] ∧ NetOk n ws ∧ MoatOk n m ∧ Sm m.2 ∧ R (.bool true) ()
section
variable {P : Program} {w : World} {K : PySem.W.Frag} {mg : Str → Option Value} {base : Heap}
theorem ok_is_moat (T : Tp K mg) : Cal P w K mg base 2 "is_moat" (spW K W0 S_is_moat) [] := by
  have c_less := ok_less (P := P) (w := w) (base := base) T
  refine calV T.f_is_moat T.g_is_moat sc_is_moat (fun _ _ _ _ _ _ us hl => match us, hl with | [_, _, _], _ => rfl) (fun xs w Q h => ?_) (fun cdv A outer s H E hr => ⟨_, _, (dss_cons (ds_if (DW.dt (dw_or (dt_not (dt_truK K (de_var 1))) (dw_or1 (dt_not (dt_val (de_cl0K K c_less hr (by decide) rfl (da_cons (de_glob rfl T.g_ZERO (fun F => zeroD T F)) (da_cons (de_var 2) da_nil)))))))) (dss_one (ds_ret de_bl)) dss_nil)
      (dss_one (ds_ret (de_and (de_cb (cr_allK K rfl) sc_all rfl T.z_all (by decide +kernel) (da_cons (de_lc (own := [("place", 3)]) rfl sc_is_moat.nd (di_seqK K (de_var 1)) (blkOk_by (by kernel_rfl)) (fun _ _ _ _ _ => (dgn 3 sc_is_moat.nd)) (fun _ _ _ _ _ => dts_nil) (fun _ _ _ _ _ => (de_chain op_le op_lt so_B0 so_B0 de_int (de_var 3) (de_ixK K (de_var 0) de_int))) go_name) da_nil)) (de_one (de_cmp (op_eqD (hu64 hr)) so_eqL (de_cty call_list_of sc_list rfl T.z_list (by decide +kernel) (da_cons (de_var 1) da_nil)) (de_srtSet rfl rfl T.z_sorted rfl T.z_set (de_var 1)) (nomark _))))))), ?_⟩)
  · obtain ⟨n, ws, m, rfl, _⟩ := h; rfl
  · rintro xs w Q ⟨n, ws, m, rfl, hn, hm, hs, q⟩
    simp only [dN]
    walk_at "rd"
    refine ⟨true, dT_ne hm.ne, ?_⟩
    walk_at "rd"
    simp only [S_less]
    have hl := len_iota hm.rg hm.so
    have hn2 := hn.n2
    refine ⟨0, m.2, rfl, sm_zero, hs, true, ?_, ?_⟩
    · rw [decide_eq_true hm.ps]
    walk_at "lc"
    refine lc_pure m.1 .int (fun _ => true) (fun x => .bool true) (by omega) (fun I j acc x hx h => ?_) ?_
    · have := mem_iota.mp (hm.rg x hx)
      refine ⟨x, rfl, ?_⟩
      rw [if_pos (decide_eq_true this.1)]
      refine ⟨x, rfl, ?_⟩
      rw [decide_eq_true this.2]
      exact h
    · refine ⟨m.1.map fun _ => true, by rw [filter_tt]; exact bmap _ _, ?_⟩
      rw [if_pos (all_true fun _ _ => rfl)]
      walk_at "rd"
      refine ⟨m.1, rfl, by omega, fun ns' hw hk => ⟨m.1, rfl, ns', rfl, ?_⟩⟩
      rw [decide_eq_true (same_sorted hm.so hw fun k => (hk k).symm)]
      exact q
end
def S_are_moats : Spec W0 := fun xs _ R => ∃ (n : Nat) (ws : List Way) (P : List Moat), xs = [.fz (dN n ws), .fz (dPp P)] ∧ NetOk n ws ∧ (∀ m ∈ P, MoatOk n m ∧ Sm m.2) ∧ (P.map (·.1)).Nodup ∧ P.length ≤ 60 ∧ R (.bool true) ()
section
variable {P : Program} {w : World} {K : PySem.W.Frag} {mg : Str → Option Value} {base : Heap}
theorem ok_are_moats (T : Tp K mg) : Cal P w K mg base 3 "are_moats" (spW K W0 S_are_moats) [] := by
  have c_is_moat := ok_is_moat (P := P) (w := w) (base := base) T
  refine calV T.f_are_moats T.g_are_moats sc_are_moats (fun _ _ _ _ _ _ us hl => match us, hl with | [_, _], _ => rfl) (fun xs w Q h => ?_) (fun cdv A outer s H E hr => ⟨_, _, (dss_cons (ds_if (dt_not (dt_val (de_cb (cr_allK K rfl) sc_all rfl T.z_all (by decide +kernel) (da_cons (de_lc (own := [("places", 2), ("width", 3)]) rfl sc_are_moats.nd (di_seqK K (de_var 1)) (blkOk_by (by kernel_rfl)) (fun _ _ _ _ _ => (dg_tupK K (n := 2) rfl (dgs_cons (dgn 2 sc_are_moats.nd) (dgs_cons (dgn 3 sc_are_moats.nd) dgs_nil)))) (fun _ _ _ _ _ => dts_nil) (fun _ _ _ _ _ => (de_cl0K K c_is_moat hr (by decide) rfl (da_cons (de_var 0) (da_cons (de_var 2) (da_cons (de_var 3) da_nil))))) (go_tup (gos_name (by decide) (gos_name (by decide) gos_nil)))) da_nil)))) (dss_one (ds_ret de_bl)) dss_nil)
      (dss_one (ds_ret (de_cmp op_eq so_eqI (de_lenSc (own := [("places", 2), ("_", 4)]) (hu64 hr) rfl T.z_len rfl sc_are_moats.nd (di_seqK K (de_var 1)) (blkOk_by (by kernel_rfl)) (fun _ _ _ _ _ => (dg_tupK K (n := 2) rfl (dgs_cons (dgn 2 sc_are_moats.nd) (dgs_cons (dgn 4 sc_are_moats.nd) dgs_nil)))) (fun _ _ _ _ _ => dts_nil) (fun _ _ _ _ _ => (de_var 2)) (go_tup (gos_name (by decide) (gos_name (by decide) gos_nil)))) (de_cb call_len_seq sc_len rfl T.z_len PySem.boot_len (da_cons (de_var 1) da_nil)) (nomark _))))), ?_⟩)
  · obtain ⟨n, ws, P, rfl, _⟩ := h; rfl
  · rintro xs w Q ⟨n, ws, P, rfl, hn, hm, hd, hl, q⟩
    simp only [dPp]
    walk_at "lc"
    refine lc_pure P dM (fun _ => true) (fun x => .bool true) (by omega) (fun I j acc m hx h => ?_) ?_
    · simp only [dM]
      walk_at "rd"
      exact ⟨n, ws, m, rfl, hn, (hm m hx).1, (hm m hx).2, h⟩
    · refine ⟨P.map fun _ => true, by rw [filter_tt]; exact bmap _ _, ?_⟩
      rw [all_true fun _ _ => rfl]
      walk_at "sc"
      refine ⟨by rw [List.length_map]; exact hl, fun i KL _ => KL = ((P.take i).map (·.1)).reverse, rfl, fun i d KL _ hd' e => ?_, fun KL _ e => ?_⟩
      · subst e
        obtain ⟨m, hx, rfl⟩ := mget hd'
        simp only [dM]
        walk_at "rd"
        refine ⟨m.1, rfl, fun z => ?_, ?_⟩
        · rw [List.mem_reverse] at z
          exact nd_take hd hx z
        · rw [List.take_add_one, hx, Option.toList_some, List.map_append, List.reverse_append]; rfl
      · subst e
        rw [List.length_reverse, List.length_map, List.length_map, List.take_length, decide_eq_true rfl]
        exact q
end
def I_kc (n : Nat) (ws : List Way) (P : List Moat) (s : List SD) : Prop := ∃ o2 o3, s = [.fz (dN n ws), .fz (dPp P), o2, o3, .un, .un]
def S_keeps_costs : Spec W0 := fun xs _ R => ∃ (n : Nat) (ws : List Way) (P : List Moat), xs = [.fz (dN n ws), .fz (dPp P)] ∧ NetOk n ws ∧ SubSm (P.map (·.2)) ∧ P.length ≤ 60 ∧ (∀ w ∈ ws, load w P ≤ (w.2.2 : Rat)) ∧ R (.bool true) ()
section
variable {P : Program} {w : World} {K : PySem.W.Frag} {mg : Str → Option Value} {base : Heap}
theorem ok_keeps_costs (T : Tp K mg) : Cal P w K mg base 4 "keeps_costs" (spW K W0 S_keeps_costs) [] := by
  have c_crosses := ok_crosses (P := P) (w := w) (base := base) T
  have c_less := ok_less (P := P) (w := w) (base := base) T
  have c_ratio := ok_ratio (P := P) (w := w) (base := base) T
  have c_ratiod := ok_ratiod (P := P) (w := w) (base := base) T
  have c_total := ok_total (P := P) (w := w) (base := base) T
  refine calV T.f_keeps_costs T.g_keeps_costs sc_keeps_costs (fun _ _ _ _ _ _ us hl => match us, hl with | [_, _], _ => rfl) (fun xs w Q h => ?_) (fun cdv A outer s H E hr => ⟨_, _, (dss_cons (ds_for PassesOwn.never rfl (di_seqK K (de_ixK K (de_var 0) de_int)) (dgn 2 sc_keeps_costs.nd) (dss_cons (ds_setLc (i := 3) (own := [("places", 4), ("width", 5)]) rfl sc_keeps_costs.nd rfl rfl (sw_true rfl rfl rfl (by decide +kernel)) (di_seqK K (de_var 1)) (blkOk_by (by kernel_rfl)) (fun _ _ _ _ _ => (dg_tupK K (n := 2) rfl (dgs_cons (dgn 4 sc_keeps_costs.nd) (dgs_cons (dgn 5 sc_keeps_costs.nd) dgs_nil)))) (fun _ _ _ _ _ => (dts_one (dt_val (de_cl0K K c_crosses hr (by decide) rfl (da_cons (de_var 2) (da_cons (de_var 4) da_nil)))))) (fun _ _ _ _ _ => (de_var 5)) (go_tup (gos_name (by decide) (gos_name (by decide) gos_nil))))
      (dss_one (ds_if (dt_val (de_cl0K K c_less hr (by decide) rfl (da_cons (de_call0K K c_ratiod (fun _ => .cons (.int 1) .nil) hr (by decide) rfl (da_cons (de_ixK K (de_var 2) de_int) da_nil)) (da_cons (de_cl0K K c_total hr (by decide) rfl (da_cons (de_var 3) da_nil)) da_nil)))) (dss_one (ds_ret de_bl)) dss_nil))))
      (dss_one (ds_ret de_bl))), ?_⟩)
  · obtain ⟨n, ws, P, rfl, _⟩ := h; rfl
  · rintro xs w Q ⟨n, ws, P, rfl, hn, hs, hl, hd, q⟩
    simp only [dN, dWs]
    walk_at "fo"
    refine ⟨fun k s _ => I_kc n ws P s, ⟨_, _, rfl⟩, fun k s _ d hd' ⟨o2, o3, e⟩ => ?_, fun s _ ⟨o2, o3, e⟩ => ?_⟩
    · subst e
      obtain ⟨w, hw, rfl⟩ := mget hd'
      simp only [dPp]
      walk_at "lc"
      refine lc_pure P dM (fun m => crW w m.1) (fun m => dR m.2) (by omega) (fun I j acc m hx h => ?_) ?_
      · simp only [dM]
        walk_at "rd"
        exact ⟨w, m.1, rfl, _, rfl, h⟩
      · simp only [dW_eq]
        walk_at "rd"
        have hw2 := List.mem_of_getElem? hw
        have e1 : (P.filter fun m => crW w m.1).map (fun m => dR m.2) = (loads w P).map dR := by rw [loads, List.map_map]; rfl
        have hss : SubSm (loads w P) := fun l h => hs l (h.trans (loads_sub w P))
        simp only [S_ratio]
        refine ⟨w.2.2, 1, rfl, by decide, Nat.lt_of_lt_of_le (show (1 : Int).natAbs < 2 ^ 1 by decide) (Nat.pow_le_pow_right (by decide) (by decide)), ?_⟩
        simp only [S_total]
        refine ⟨loads w P, by rw [e1], fun q hq => hss.mem hq, fun i => hss _ (List.take_sublist _ _), ?_⟩
        simp only [S_less]
        refine ⟨_, _, rfl, ?_, hss _ (List.Sublist.refl _), _, rfl, ?_⟩
        · rw [divInt_one']; exact sm_cost (hn.cost w hw2)
        · rw [divInt_one', decide_eq_false (Rat.not_lt.mpr (show rs (loads w P) ≤ _ from hd w hw2))]
          exact ⟨_, _, rfl⟩
    · subst e
      walk_at "rd"
      exact q
end
def S_is_paper : Spec W0 := fun xs _ R => ∃ (n : Nat) (ws : List Way) (ps : List (Int × Int)) (P : List Moat), xs = [.fz (dN n ws), .fz (dPs ps), .fz (dPp P)] ∧ NetOk n ws ∧ ps.length ≤ 60 ∧ PapOk n ws ps P ∧ R (.bool true) ()
section
variable {P : Program} {w : World} {K : PySem.W.Frag} {mg : Str → Option Value} {base : Heap}
theorem ok_is_paper (T : Tp K mg) : Cal P w K mg base 5 "is_paper" (spW K W0 S_is_paper) [] := by
  have c_are_moats := ok_are_moats (P := P) (w := w) (base := base) T
  have c_keeps_costs := ok_keeps_costs (P := P) (w := w) (base := base) T
  refine calV T.f_is_paper T.g_is_paper sc_is_paper (fun _ _ _ _ _ _ us hl => match us, hl with | [_, _, _], _ => rfl) (fun xs w Q h => ?_) (fun cdv A outer s H E hr => ⟨_, _, (dss_cons (ds_if (DW.dt (dw_or (dt_not (dt_val (de_cl0K K c_are_moats hr (by decide) rfl (da_cons (de_var 0) (da_cons (de_var 2) da_nil))))) (dw_or1 (dt_not (dt_val (de_cl0K K c_keeps_costs hr (by decide) rfl (da_cons (de_var 0) (da_cons (de_var 2) da_nil)))))))) (dss_one (ds_ret de_bl)) dss_nil)
      (dss_one (ds_ret (de_cb (cr_allK K rfl) sc_all rfl T.z_all (by decide +kernel) (da_cons (de_lc (own := [("places", 3), ("_", 4)]) rfl sc_is_paper.nd (di_seqK K (de_var 2)) (blkOk_by (by kernel_rfl)) (fun _ _ _ _ _ => (dg_tupK K (n := 2) rfl (dgs_cons (dgn 3 sc_is_paper.nd) (dgs_cons (dgn 4 sc_is_paper.nd) dgs_nil)))) (fun _ _ _ _ _ => dts_nil) (fun _ _ _ _ _ => (de_cb (cr_anyK K rfl) sc_any rfl T.z_any (by decide +kernel) (da_cons (de_lc (own := [("a", 5), ("b", 6)]) rfl sc_is_paper.nd (di_seqK K (de_var 1)) (blkOk_by (by kernel_rfl)) (fun _ _ _ _ _ => (dg_tupK K (n := 2) rfl (dgs_cons (dgn 5 sc_is_paper.nd) (dgs_cons (dgn 6 sc_is_paper.nd) dgs_nil)))) (fun _ _ _ _ _ => dts_nil) (fun _ _ _ _ _ => (de_cmp op_ne so_neB (de_cmp (op_inK K) so_in (de_var 5) (de_var 3) (by with_unfolding_all rfl)) (de_cmp (op_inK K) so_in (de_var 6) (de_var 3) (by with_unfolding_all rfl)) (nomark _))) (go_tup (gos_name (by decide) (gos_name (by decide) gos_nil)))) da_nil))) (go_tup (gos_name (by decide) (gos_name (by decide) gos_nil)))) da_nil))))), ?_⟩)
  · obtain ⟨n, ws, ps, P, rfl, _⟩ := h; rfl
  · rintro xs w Q ⟨n, ws, ps, P, rfl, hn, hl, hp, q⟩
    walk_at "rd"
    simp only [S_are_moats]
    refine ⟨n, ws, P, rfl, hn, fun m hm => ⟨hp.mo m hm, hp.sm.mem (List.mem_map_of_mem hm)⟩, hp.nd, hp.ln, _, rfl, ?_⟩
    rw [if_neg (by decide)]
    simp only [S_keeps_costs]
    refine ⟨n, ws, P, rfl, hn, hp.sm, hp.ln, hp.ld, _, rfl, ?_⟩
    rw [if_neg (by decide)]
    simp only [dPp, dPs]
    walk_at "lc"
    have hpl := hp.ln
    refine lc_pure P dM (fun _ => true) (fun x => .bool true) (by omega) (fun I j acc m hx h => ?_) ?_
    · simp only [dM]
      walk_at "rd"
      refine lc_pure ps dP (fun _ => true) (fun p => .bool (crP p m.1)) (by omega) (fun I j acc p hx h => ?_) ?_
      · simp only [dP_eq]
        walk_at "rd"
        exact ⟨m.1, rfl, m.1, rfl, h⟩
      · refine ⟨ps.map fun p => crP p m.1, by rw [filter_tt]; exact bmap _ _, ?_⟩
        obtain ⟨p, h1, h2⟩ := hp.op m hx
        rw [show (ps.map fun p => crP p m.1).any id = true by rw [List.any_map, List.any_eq_true]; exact ⟨p, h1, h2⟩]
        exact h
    · refine ⟨P.map fun _ => true, by rw [filter_tt]; exact bmap _ _, ?_⟩
      rw [all_true fun _ _ => rfl]
      exact q
end
def S_worth : Spec W0 := fun xs _ R => ∃ (P : List Moat), xs = [.fz (dPp P)] ∧ SubSm (P.map (·.2)) ∧ P.length ≤ 60 ∧ R (dR (rs (P.map (·.2)))) ()
section
variable {P : Program} {w : World} {K : PySem.W.Frag} {mg : Str → Option Value} {base : Heap}
theorem ok_worth (T : Tp K mg) : Cal P w K mg base 4 "worth" (spW K W0 S_worth) [] := by
  have c_total := ok_total (P := P) (w := w) (base := base) T
  refine calV T.f_worth T.g_worth sc_worth (fun _ _ _ _ _ _ us hl => match us, hl with | [_], _ => rfl) (fun xs w Q h => ?_) (fun cdv A outer s H E hr => ⟨_, _, (dss_one (ds_ret (de_cl0K K c_total hr (by decide) rfl (da_cons (de_lc (own := [("_", 1), ("width", 2)]) rfl sc_worth.nd (di_seqK K (de_var 0)) (blkOk_by (by kernel_rfl)) (fun _ _ _ _ _ => (dg_tupK K (n := 2) rfl (dgs_cons (dgn 1 sc_worth.nd) (dgs_cons (dgn 2 sc_worth.nd) dgs_nil)))) (fun _ _ _ _ _ => dts_nil) (fun _ _ _ _ _ => (de_var 2)) (go_tup (gos_name (by decide) (gos_name (by decide) gos_nil)))) da_nil)))), ?_⟩)
  · obtain ⟨P, rfl, _⟩ := h; rfl
  · rintro xs w Q ⟨P, rfl, hs, hl, q⟩
    simp only [dPp]
    walk_at "lc"
    refine lc_pure P dM (fun _ => true) (fun m => dR m.2) (by omega) (fun I j acc m hx h => ?_) ?_
    · simp only [dM]
      walk_at "rd"
      exact h
    · simp only [S_total]
      refine ⟨P.map (·.2), by rw [filter_tt, List.map_map]; rfl, fun q hq => hs.mem hq, fun i => hs _ (List.take_sublist _ _), q⟩
end
end L2.VL
/-! part F4 -/
set_option Elab.async false
set_option linter.all false
set_option autoImplicit false
set_option maxRecDepth 100000
set_option maxHeartbeats 4000000
namespace L2.VL
open PySem PySem.Spec PyProof.Rows L2 C8 MW
local macro_rules | `(tactic| walk_at "st") => `(tactic| try simp only [vAsg, vIfS, vRet, vRetN, vRetO, vNext, vPar, vSetO, vApp, vIns, vFrz, vDrop, vNever, vVar, vC, vOp, vUn, vTest, vChain, vIsN, vNotN, vAnd, vOr, vNot, vAndV, vIf, vaNil, vaCons, vaAdr, vTup, vLst, vCB, vCall, vCall0, vCl, vCl0, vgName, vgNil, vgCons, vgTup, vgLst, viAny, viEnum, viEnumT, viRev, viRng1, viRng2, vYes, wipeS, vTru, vOrT, vListRg, vBor, vBorT, vSrtSet, vSlT, vPl, vPl0, vPlen, vPlset, Pl.get, Pl.put,
  qI, qI0, qB0, qNeB, qEqD, qNeD, qEqL, qIn, qInE, qU, qCatL, qCatT, qIx, itemD_T, itemD_L, qLen, qList, qTuple, qSum, qAny, qAll, qSortI, qSortTI, qSortE, qAbs, qInt, qMin2, qGcd, qNotB,
  List.length_cons, List.length_nil, List.replicate_succ, List.replicate_zero, List.cons_append, List.nil_append, List.getElem?_cons_zero, List.getElem?_cons_succ, List.set_cons_zero, List.set_cons_succ, Nat.reduceAdd, Nat.reduceSub, Option.some.injEq, SD.fz.injEq, SD.own.injEq, SD.adr.injEq, PyData.int.injEq, PyData.bool.injEq, PyData.tuple.injEq, PyData.list.injEq, exists_eq_left', exists_eq_left, exists_eq, and_true, true_and, unfz, Option.map_some, and_assoc, exists_and_left, List.cons.injEq, Nat.reduceLeDiff,
  List.map_cons, List.map_nil, Int.reduceLE, Int.reduceToNat, if_true, reduceCtorEq, false_or, or_false, exists_false, ↓reduceIte, Nat.zero_le, Int.zero_le_ofNat, Int.reduceNeg])
local macro_rules | `(tactic| walk_at "stf") => `(tactic| try simp only [vFor, vAsg, vIfS, vRet, vRetN, vRetO, vNext, vPar, vSetO, vApp, vIns, vFrz, vDrop, vNever, vVar, vC, vOp, vUn, vTest, vChain, vIsN, vNotN, vAnd, vOr, vNot, vAndV, vIf, vaNil, vaCons, vaAdr, vTup, vLst, vCB, vCall, vCall0, vCl, vCl0, vgName, vgNil, vgCons, vgTup, vgLst, viAny, viEnum, viEnumT, viRev, viRng1, viRng2, vYes, wipeS, vTru, vOrT, vListRg, vBor, vBorT, vSrtSet, vSlT, vPl, vPl0, vPlen, vPlset, Pl.get, Pl.put,
  qI, qI0, qB0, qNeB, qEqD, qNeD, qEqL, qIn, qInE, qU, qCatL, qCatT, qIx, itemD_T, itemD_L, qLen, qList, qTuple, qSum, qAny, qAll, qSortI, qSortTI, qSortE, qAbs, qInt, qMin2, qGcd, qNotB,
  List.length_cons, List.length_nil, List.replicate_succ, List.replicate_zero, List.cons_append, List.nil_append, List.getElem?_cons_zero, List.getElem?_cons_succ, List.set_cons_zero, List.set_cons_succ, Nat.reduceAdd, Nat.reduceSub, Option.some.injEq, SD.fz.injEq, SD.own.injEq, SD.adr.injEq, PyData.int.injEq, PyData.bool.injEq, PyData.tuple.injEq, PyData.list.injEq, exists_eq_left', exists_eq_left, exists_eq, and_true, true_and, unfz, Option.map_some, and_assoc, exists_and_left, List.cons.injEq, Nat.reduceLeDiff,
  List.map_cons, List.map_nil, Int.reduceLE, Int.reduceToNat, if_true, reduceCtorEq, false_or, or_false, exists_false, ↓reduceIte, Nat.zero_le, Int.zero_le_ofNat, Int.reduceNeg])
local macro_rules | `(tactic| walk_at "stl") => `(tactic| try simp only [vLc, vAsg, vIfS, vRet, vRetN, vRetO, vNext, vPar, vSetO, vApp, vIns, vFrz, vDrop, vNever, vVar, vC, vOp, vUn, vTest, vChain, vIsN, vNotN, vAnd, vOr, vNot, vAndV, vIf, vaNil, vaCons, vaAdr, vTup, vLst, vCB, vCall, vCall0, vCl, vCl0, vgName, vgNil, vgCons, vgTup, vgLst, viAny, viEnum, viEnumT, viRev, viRng1, viRng2, vYes, wipeS, vTru, vOrT, vListRg, vBor, vBorT, vSrtSet, vSlT, vPl, vPl0, vPlen, vPlset, Pl.get, Pl.put,
  qI, qI0, qB0, qNeB, qEqD, qNeD, qEqL, qIn, qInE, qU, qCatL, qCatT, qIx, itemD_T, itemD_L, qLen, qList, qTuple, qSum, qAny, qAll, qSortI, qSortTI, qSortE, qAbs, qInt, qMin2, qGcd, qNotB,
  List.length_cons, List.length_nil, List.replicate_succ, List.replicate_zero, List.cons_append, List.nil_append, List.getElem?_cons_zero, List.getElem?_cons_succ, List.set_cons_zero, List.set_cons_succ, Nat.reduceAdd, Nat.reduceSub, Option.some.injEq, SD.fz.injEq, SD.own.injEq, SD.adr.injEq, PyData.int.injEq, PyData.bool.injEq, PyData.tuple.injEq, PyData.list.injEq, exists_eq_left', exists_eq_left, exists_eq, and_true, true_and, unfz, Option.map_some, and_assoc, exists_and_left, List.cons.injEq, Nat.reduceLeDiff,
  List.map_cons, List.map_nil, Int.reduceLE, Int.reduceToNat, if_true, reduceCtorEq, false_or, or_false, exists_false, ↓reduceIte, Nat.zero_le, Int.zero_le_ofNat, Int.reduceNeg])
local macro_rules | `(tactic| walk_at "stw") => `(tactic| try simp only [vWhile, vAsg, vIfS, vRet, vRetN, vRetO, vNext, vPar, vSetO, vApp, vIns, vFrz, vDrop, vNever, vVar, vC, vOp, vUn, vTest, vChain, vIsN, vNotN, vAnd, vOr, vNot, vAndV, vIf, vaNil, vaCons, vaAdr, vTup, vLst, vCB, vCall, vCall0, vCl, vCl0, vgName, vgNil, vgCons, vgTup, vgLst, viAny, viEnum, viEnumT, viRev, viRng1, viRng2, vYes, wipeS, vTru, vOrT, vListRg, vBor, vBorT, vSrtSet, vSlT, vPl, vPl0, vPlen, vPlset, Pl.get, Pl.put,
  qI, qI0, qB0, qNeB, qEqD, qNeD, qEqL, qIn, qInE, qU, qCatL, qCatT, qIx, itemD_T, itemD_L, qLen, qList, qTuple, qSum, qAny, qAll, qSortI, qSortTI, qSortE, qAbs, qInt, qMin2, qGcd, qNotB,
  List.length_cons, List.length_nil, List.replicate_succ, List.replicate_zero, List.cons_append, List.nil_append, List.getElem?_cons_zero, List.getElem?_cons_succ, List.set_cons_zero, List.set_cons_succ, Nat.reduceAdd, Nat.reduceSub, Option.some.injEq, SD.fz.injEq, SD.own.injEq, SD.adr.injEq, PyData.int.injEq, PyData.bool.injEq, PyData.tuple.injEq, PyData.list.injEq, exists_eq_left', exists_eq_left, exists_eq, and_true, true_and, unfz, Option.map_some, and_assoc, exists_and_left, List.cons.injEq, Nat.reduceLeDiff,
  List.map_cons, List.map_nil, Int.reduceLE, Int.reduceToNat, if_true, reduceCtorEq, false_or, or_false, exists_false, ↓reduceIte, Nat.zero_le, Int.zero_le_ofNat, Int.reduceNeg])
local macro_rules | `(tactic| walk_at "rd") => `(tactic| try simp only [vSeq, vAsg, vIfS, vRet, vRetN, vRetO, vNext, vPar, vSetO, vApp, vIns, vFrz, vDrop, vNever, vVar, vC, vOp, vUn, vTest, vChain, vIsN, vNotN, vAnd, vOr, vNot, vAndV, vIf, vaNil, vaCons, vaAdr, vTup, vLst, vCB, vCall, vCall0, vCl, vCl0, vgName, vgNil, vgCons, vgTup, vgLst, viAny, viEnum, viEnumT, viRev, viRng1, viRng2, vYes, wipeS, vTru, vOrT, vListRg, vBor, vBorT, vSrtSet, vSlT, vPl, vPl0, vPlen, vPlset, Pl.get, Pl.put,
  qI, qI0, qB0, qNeB, qEqD, qNeD, qEqL, qIn, qInE, qU, qCatL, qCatT, qIx, itemD_T, itemD_L, qLen, qList, qTuple, qSum, qAny, qAll, qSortI, qSortTI, qSortE, qAbs, qInt, qMin2, qGcd, qNotB,
  List.length_cons, List.length_nil, List.replicate_succ, List.replicate_zero, List.cons_append, List.nil_append, List.getElem?_cons_zero, List.getElem?_cons_succ, List.set_cons_zero, List.set_cons_succ, Nat.reduceAdd, Nat.reduceSub, Option.some.injEq, SD.fz.injEq, SD.own.injEq, SD.adr.injEq, PyData.int.injEq, PyData.bool.injEq, PyData.tuple.injEq, PyData.list.injEq, exists_eq_left', exists_eq_left, exists_eq, and_true, true_and, unfz, Option.map_some, and_assoc, exists_and_left, List.cons.injEq, Nat.reduceLeDiff,
  List.map_cons, List.map_nil, Int.reduceLE, Int.reduceToNat, if_true, reduceCtorEq, false_or, or_false, exists_false, ↓reduceIte, Nat.zero_le, Int.zero_le_ofNat, Int.reduceNeg])
local macro_rules | `(tactic| walk_at "lc") => `(tactic| try simp only [vLc, vSeq, vAsg, vIfS, vRet, vRetN, vRetO, vNext, vPar, vSetO, vApp, vIns, vFrz, vDrop, vNever, vVar, vC, vOp, vUn, vTest, vChain, vIsN, vNotN, vAnd, vOr, vNot, vAndV, vIf, vaNil, vaCons, vaAdr, vTup, vLst, vCB, vCall, vCall0, vCl, vCl0, vgName, vgNil, vgCons, vgTup, vgLst, viAny, viEnum, viEnumT, viRev, viRng1, viRng2, vYes, wipeS, vTru, vOrT, vListRg, vBor, vBorT, vSrtSet, vSlT, vPl, vPl0, vPlen, vPlset, Pl.get, Pl.put,
  qI, qI0, qB0, qNeB, qEqD, qNeD, qEqL, qIn, qInE, qU, qCatL, qCatT, qIx, itemD_T, itemD_L, qLen, qList, qTuple, qSum, qAny, qAll, qSortI, qSortTI, qSortE, qAbs, qInt, qMin2, qGcd, qNotB,
  List.length_cons, List.length_nil, List.replicate_succ, List.replicate_zero, List.cons_append, List.nil_append, List.getElem?_cons_zero, List.getElem?_cons_succ, List.set_cons_zero, List.set_cons_succ, Nat.reduceAdd, Nat.reduceSub, Option.some.injEq, SD.fz.injEq, SD.own.injEq, SD.adr.injEq, PyData.int.injEq, PyData.bool.injEq, PyData.tuple.injEq, PyData.list.injEq, exists_eq_left', exists_eq_left, exists_eq, and_true, true_and, unfz, Option.map_some, and_assoc, exists_and_left, List.cons.injEq, Nat.reduceLeDiff,
  List.map_cons, List.map_nil, Int.reduceLE, Int.reduceToNat, if_true, reduceCtorEq, false_or, or_false, exists_false, ↓reduceIte, Nat.zero_le, Int.zero_le_ofNat, Int.reduceNeg])
local macro_rules | `(tactic| walk_at "fo") => `(tactic| try simp only [vFor, vSeq, vAsg, vIfS, vRet, vRetN, vRetO, vNext, vPar, vSetO, vApp, vIns, vFrz, vDrop, vNever, vVar, vC, vOp, vUn, vTest, vChain, vIsN, vNotN, vAnd, vOr, vNot, vAndV, vIf, vaNil, vaCons, vaAdr, vTup, vLst, vCB, vCall, vCall0, vCl, vCl0, vgName, vgNil, vgCons, vgTup, vgLst, viAny, viEnum, viEnumT, viRev, viRng1, viRng2, vYes, wipeS, vTru, vOrT, vListRg, vBor, vBorT, vSrtSet, vSlT, vPl, vPl0, vPlen, vPlset, Pl.get, Pl.put,
  qI, qI0, qB0, qNeB, qEqD, qNeD, qEqL, qIn, qInE, qU, qCatL, qCatT, qIx, itemD_T, itemD_L, qLen, qList, qTuple, qSum, qAny, qAll, qSortI, qSortTI, qSortE, qAbs, qInt, qMin2, qGcd, qNotB,
  List.length_cons, List.length_nil, List.replicate_succ, List.replicate_zero, List.cons_append, List.nil_append, List.getElem?_cons_zero, List.getElem?_cons_succ, List.set_cons_zero, List.set_cons_succ, Nat.reduceAdd, Nat.reduceSub, Option.some.injEq, SD.fz.injEq, SD.own.injEq, SD.adr.injEq, PyData.int.injEq, PyData.bool.injEq, PyData.tuple.injEq, PyData.list.injEq, exists_eq_left', exists_eq_left, exists_eq, and_true, true_and, unfz, Option.map_some, and_assoc, exists_and_left, List.cons.injEq, Nat.reduceLeDiff,
  List.map_cons, List.map_nil, Int.reduceLE, Int.reduceToNat, if_true, reduceCtorEq, false_or, or_false, exists_false, ↓reduceIte, Nat.zero_le, Int.zero_le_ofNat, Int.reduceNeg])
local macro_rules | `(tactic| walk_at "wh") => `(tactic| try simp only [vWhile, vSeq, vAsg, vIfS, vRet, vRetN, vRetO, vNext, vPar, vSetO, vApp, vIns, vFrz, vDrop, vNever, vVar, vC, vOp, vUn, vTest, vChain, vIsN, vNotN, vAnd, vOr, vNot, vAndV, vIf, vaNil, vaCons, vaAdr, vTup, vLst, vCB, vCall, vCall0, vCl, vCl0, vgName, vgNil, vgCons, vgTup, vgLst, viAny, viEnum, viEnumT, viRev, viRng1, viRng2, vYes, wipeS, vTru, vOrT, vListRg, vBor, vBorT, vSrtSet, vSlT, vPl, vPl0, vPlen, vPlset, Pl.get, Pl.put,
  qI, qI0, qB0, qNeB, qEqD, qNeD, qEqL, qIn, qInE, qU, qCatL, qCatT, qIx, itemD_T, itemD_L, qLen, qList, qTuple, qSum, qAny, qAll, qSortI, qSortTI, qSortE, qAbs, qInt, qMin2, qGcd, qNotB,
  List.length_cons, List.length_nil, List.replicate_succ, List.replicate_zero, List.cons_append, List.nil_append, List.getElem?_cons_zero, List.getElem?_cons_succ, List.set_cons_zero, List.set_cons_succ, Nat.reduceAdd, Nat.reduceSub, Option.some.injEq, SD.fz.injEq, SD.own.injEq, SD.adr.injEq, PyData.int.injEq, PyData.bool.injEq, PyData.tuple.injEq, PyData.list.injEq, exists_eq_left', exists_eq_left, exists_eq, and_true, true_and, unfz, Option.map_some, and_assoc, exists_and_left, List.cons.injEq, Nat.reduceLeDiff,
  List.map_cons, List.map_nil, Int.reduceLE, Int.reduceToNat, if_true, reduceCtorEq, false_or, or_false, exists_false, ↓reduceIte, Nat.zero_le, Int.zero_le_ofNat, Int.reduceNeg])
local macro_rules | `(tactic| walk_at "sc") => `(tactic| try simp only [vLenSc, vSeq, vAsg, vIfS, vRet, vRetN, vRetO, vNext, vPar, vSetO, vApp, vIns, vFrz, vDrop, vNever, vVar, vC, vOp, vUn, vTest, vChain, vIsN, vNotN, vAnd, vOr, vNot, vAndV, vIf, vaNil, vaCons, vaAdr, vTup, vLst, vCB, vCall, vCall0, vCl, vCl0, vgName, vgNil, vgCons, vgTup, vgLst, viAny, viEnum, viEnumT, viRev, viRng1, viRng2, vYes, wipeS, vTru, vOrT, vListRg, vBor, vBorT, vSrtSet, vSlT, vPl, vPl0, vPlen, vPlset, Pl.get, Pl.put,
  qI, qI0, qB0, qNeB, qEqD, qNeD, qEqL, qIn, qInE, qU, qCatL, qCatT, qIx, itemD_T, itemD_L, qLen, qList, qTuple, qSum, qAny, qAll, qSortI, qSortTI, qSortE, qAbs, qInt, qMin2, qGcd, qNotB,
  List.length_cons, List.length_nil, List.replicate_succ, List.replicate_zero, List.cons_append, List.nil_append, List.getElem?_cons_zero, List.getElem?_cons_succ, List.set_cons_zero, List.set_cons_succ, Nat.reduceAdd, Nat.reduceSub, Option.some.injEq, SD.fz.injEq, SD.own.injEq, SD.adr.injEq, PyData.int.injEq, PyData.bool.injEq, PyData.tuple.injEq, PyData.list.injEq, exists_eq_left', exists_eq_left, exists_eq, and_true, true_and, unfz, Option.map_some, and_assoc, exists_and_left, List.cons.injEq, Nat.reduceLeDiff,
  List.map_cons, List.map_nil, Int.reduceLE, Int.reduceToNat, if_true, reduceCtorEq, false_or, or_false, exists_false, ↓reduceIte, Nat.zero_le, Int.zero_le_ofNat, Int.reduceNeg])


def I_gcd (A B : Nat) (i : Nat) (s : List SD) : Prop := ∃ (a b : Nat) (o : SD), Eu A B i a b ∧ s = [.fz (.int a), .fz (.int b), o]
def costAt (ws : List Way) (i : Int) : Int := ((ws[i.toNat]?).map fun w => w.2.2).getD 0
def Reach (ws : List Way) (is : List Int) (a x : Int) : Prop := ∀ S, Cl ws is S → S a = S x
structure Fnd (n : Nat) (ws : List Way) (is : List Int) (p : Int) (xs : List Int) : Prop where
  nd : xs.Nodup
  rg : ∀ x ∈ xs, x ∈ iota n
  re : ∀ x ∈ xs, Reach ws is p x
theorem Fnd.len {n : Nat} {ws : List Way} {is : List Int} {p : Int} {xs : List Int} (h : Fnd n ws is p xs) : xs.length ≤ n := by
  have := List.Nodup.length_le_of_subset h.nd h.rg
  rwa [iota_len] at this
theorem Fnd.add {n : Nat} {ws : List Way} {is : List Int} {p : Int} {xs : List Int} (h : Fnd n ws is p xs) {x y : Int} (hx : x ∈ xs) (hy : y ∉ xs) (hr : y ∈ iota n) (he : Reach ws is x y) : Fnd n ws is p (xs ++ [y]) := by
  refine ⟨List.nodup_append.mpr ⟨h.nd, by simp, fun a ha b hb => ?_⟩, fun z hz => ?_, fun z hz => ?_⟩
  · simp only [List.mem_singleton] at hb; subst hb; exact fun e => hy (e ▸ ha)
  · rcases List.mem_append.mp hz with h1 | h1
    · exact h.rg z h1
    · simp only [List.mem_singleton] at h1; subst h1; exact hr
  · rcases List.mem_append.mp hz with h1 | h1
    · exact h.re z h1
    · simp only [List.mem_singleton] at h1; subst h1; exact fun S hS => (h.re x hx S hS).trans (he S hS)
def I_grp (n : Nat) (ws : List Way) (is : List Int) (c : PyData) (p : Int) (s : List SD) : Prop := ∃ xs o4 o5 o6 o7 o8, Fnd n ws is p xs ∧ s = [.fz (dN n ws), .fz c, .fz (.int p), .own (xs.map .int), o4, o5, o6, o7, o8]
theorem map_snoc (xs : List Int) (y : Int) : xs.map PyData.int ++ [.int y] = (xs ++ [y]).map .int := by simp
theorem lt9 : (1 : Nat) < 2 ^ 8000 := Nat.one_lt_two_pow (by decide)

def S__law_gcd : Spec W0 := fun xs _ R => ∃ (a b : Nat), xs = [.fz (.int a), .fz (.int b)] ∧ a < 2 ^ 8000 ∧ b < 2 ^ 8000 ∧ R (.int ((a.gcd b : Nat) : Int)) ()
section
variable {P : Program} {w : World} {K : PySem.W.Frag} {mg : Str → Option Value} {base : Heap}
theorem ok__law_gcd (T : Tp K mg) : Cal P w K mg base 1 "_law_gcd" (spW K W0 S__law_gcd) [] := by
  refine calV T.f__law_gcd T.g__law_gcd sc__law_gcd (fun _ _ _ _ _ _ us hl => match us, hl with | [_, _], _ => rfl) (fun xs w Q h => ?_) (fun cdv A outer s H E hr => ⟨_, _, (dss_cons (ds_for PassesOwn.never rfl (di_rng1 rfl T.z_range (da_cons de_int da_nil)) (dgn 2 sc__law_gcd.nd) (dss_cons (ds_if (dt_cmp op_eq so_eqI (de_var 1) de_int (nomark _)) (dss_one (ds_ret (de_var 0))) dss_nil)
      (dss_one (ds_par rfl sc__law_gcd.nd (i := 0) (j := 1) rfl rfl (by decide) rfl rfl (da_cons (de_var 1) (da_cons (de_op op_mod so_I (de_cty call_int1 sc_int rfl T.z_int (by decide +kernel) (da_cons (de_var 0) da_nil)) (de_var 1)) da_nil))))))
      (dss_one (ds_ret de_int))), ?_⟩)
  · obtain ⟨a, b, rfl, _⟩ := h; rfl
  · rintro xs w Q ⟨a, b, rfl, ha, hb, q⟩
    have hab : a * b < 2 ^ 16000 := Nat.lt_of_lt_of_le (Nat.mul_lt_mul'' ha hb) (by rw [← Nat.pow_add]; exact Nat.pow_le_pow_right (by decide) (by decide))
    walk_at "fo"
    refine ⟨fun i s _ => I_gcd a b i s, ⟨a, b, _, Eu.start a b, rfl⟩, fun i s _ d hd ⟨x, y, o, e, es⟩ => ?_, fun s _ ⟨x, y, o, e, es⟩ => ?_⟩
    · subst es
      rw [rng0] at hd
      obtain ⟨k, hk, rfl⟩ := mget hd
      walk_at "rd"
      by_cases hy : y = 0
      · rw [if_pos (by simpa using hy)]
        subst hy
        rw [e.gcd]; exact q
      · rw [if_neg (by simpa using hy)]
        refine ⟨by omega, ?_⟩
        exact ⟨y, x % y, _, e.step hy hab, by rw [Int.natCast_emod]⟩
    · have hl := e.l
      rw [rng0, List.length_map, iota_len] at hl
      exact absurd hl (by decide)
end
def S__law_ratio : Spec W0 := fun xs _ R => ∃ (n d : Int), xs = [.fz (.int n), .fz (.int d)] ∧ 0 < d ∧ n.natAbs < 2 ^ 8000 ∧ d.natAbs < 2 ^ 8000 ∧ R (dR (Rat.divInt n d)) ()
section
variable {P : Program} {w : World} {K : PySem.W.Frag} {mg : Str → Option Value} {base : Heap}
theorem ok__law_ratio (T : Tp K mg) : Cal P w K mg base 2 "_law_ratio" (spW K W0 S__law_ratio) [] := by
  have c__law_gcd := ok__law_gcd (P := P) (w := w) (base := base) T
  refine calV T.f__law_ratio T.g__law_ratio sc__law_ratio (fun _ _ _ _ _ _ us hl => match us, hl with | [_, _], _ => rfl) (fun xs w Q h => ?_) (fun cdv A outer s H E hr => ⟨_, _, (dss_cons (dset 2 sc__law_ratio.nd (de_cl0K K c__law_gcd hr (by decide) rfl (da_cons (de_cb call_abs sc_abs rfl T.z_abs (by decide +kernel) (da_cons (de_var 0) da_nil)) (da_cons (de_cb call_abs sc_abs rfl T.z_abs (by decide +kernel) (da_cons (de_var 1) da_nil)) da_nil))))
      (dss_cons (ds_if (dt_cmp op_lt so_B0 (de_var 1) de_int (nomark _)) (dss_one (dset 2 sc__law_ratio.nd (de_op op_sub so_I0 de_int (de_var 2)))) dss_nil)
      (dss_one (ds_ret (de_tup (da_cons (de_op op_fdivW so_I (de_var 0) (de_var 2)) (da_cons (de_op op_fdivW so_I (de_var 1) (de_var 2)) da_nil))))))), ?_⟩)
  · obtain ⟨n, d, rfl, _⟩ := h; rfl
  · rintro xs w Q ⟨n, d, rfl, hd, hn, hz, q⟩
    walk_at "rd"
    simp only [S__law_gcd, abs_eq]
    refine ⟨n.natAbs, d.natAbs, rfl, hn, hz, ?_⟩
    walk_at "rd"
    rw [if_neg (by simp; omega)]
    have hg := gcd_pos (n := n) (d := d) (by omega)
    have hw : ((n.natAbs.gcd d.natAbs : Nat) : Int).natAbs < 2 ^ 8000 := by rw [Int.natAbs_natCast]; exact gcd_lt (by omega) hz
    obtain ⟨e1, e2⟩ := divInt_pos (n := n) hd
    rw [← e1, ← e2]
    exact ⟨wide_div hg hw (by decide) (by decide), wide_div hg hw (by decide) (by decide), q⟩
end
def S__law_plus : Spec W0 := fun xs _ R => ∃ (a b : Rat), xs = [.fz (dR a), .fz (dR b)] ∧ Sm a ∧ Sm b ∧ R (dR (a + b)) ()
section
variable {P : Program} {w : World} {K : PySem.W.Frag} {mg : Str → Option Value} {base : Heap}
theorem ok__law_plus (T : Tp K mg) : Cal P w K mg base 3 "_law_plus" (spW K W0 S__law_plus) [] := by
  have c__law_ratio := ok__law_ratio (P := P) (w := w) (base := base) T
  refine calV T.f__law_plus T.g__law_plus sc__law_plus (fun _ _ _ _ _ _ us hl => match us, hl with | [_, _], _ => rfl) (fun xs w Q h => ?_) (fun cdv A outer s H E hr => ⟨_, _, (dss_one (ds_ret (de_cl0K K c__law_ratio hr (by decide) rfl (da_cons (de_op op_add so_I0 (de_op op_mulW so_I (de_ixK K (de_var 0) de_int) (de_ixK K (de_var 1) de_int)) (de_op op_mulW so_I (de_ixK K (de_var 1) de_int) (de_ixK K (de_var 0) de_int))) (da_cons (de_op op_mulW so_I (de_ixK K (de_var 0) de_int) (de_ixK K (de_var 1) de_int)) da_nil))))), ?_⟩)
  · obtain ⟨a, b, rfl, _⟩ := h; rfl
  · rintro xs w Q ⟨a, b, rfl, ha, hb, q⟩
    simp only [dR_eq]
    walk_at "rd"
    simp only [S__law_ratio]
    exact ⟨mulW ha.n hb.d, mulW hb.n ha.d, mulW ha.d hb.d, _, _, rfl, dd_pos a b, nn_add ha hb, dd_lt ha hb, by rw [← add_div]; exact q⟩
end
def S__law_minus : Spec W0 := fun xs _ R => ∃ (a b : Rat), xs = [.fz (dR a), .fz (dR b)] ∧ Sm a ∧ Sm b ∧ R (dR (a - b)) ()
section
variable {P : Program} {w : World} {K : PySem.W.Frag} {mg : Str → Option Value} {base : Heap}
theorem ok__law_minus (T : Tp K mg) : Cal P w K mg base 3 "_law_minus" (spW K W0 S__law_minus) [] := by
  have c__law_ratio := ok__law_ratio (P := P) (w := w) (base := base) T
  refine calV T.f__law_minus T.g__law_minus sc__law_minus (fun _ _ _ _ _ _ us hl => match us, hl with | [_, _], _ => rfl) (fun xs w Q h => ?_) (fun cdv A outer s H E hr => ⟨_, _, (dss_one (ds_ret (de_cl0K K c__law_ratio hr (by decide) rfl (da_cons (de_op op_sub so_I0 (de_op op_mulW so_I (de_ixK K (de_var 0) de_int) (de_ixK K (de_var 1) de_int)) (de_op op_mulW so_I (de_ixK K (de_var 1) de_int) (de_ixK K (de_var 0) de_int))) (da_cons (de_op op_mulW so_I (de_ixK K (de_var 0) de_int) (de_ixK K (de_var 1) de_int)) da_nil))))), ?_⟩)
  · obtain ⟨a, b, rfl, _⟩ := h; rfl
  · rintro xs w Q ⟨a, b, rfl, ha, hb, q⟩
    simp only [dR_eq]
    walk_at "rd"
    simp only [S__law_ratio]
    exact ⟨mulW ha.n hb.d, mulW hb.n ha.d, mulW ha.d hb.d, _, _, rfl, dd_pos a b, nn_sub ha hb, dd_lt ha hb, by rw [← sub_div]; exact q⟩
end
def S__law_times : Spec W0 := fun xs _ R => ∃ (a b : Rat), xs = [.fz (dR a), .fz (dR b)] ∧ Sm a ∧ Sm b ∧ R (dR (a * b)) ()
section
variable {P : Program} {w : World} {K : PySem.W.Frag} {mg : Str → Option Value} {base : Heap}
theorem ok__law_times (T : Tp K mg) : Cal P w K mg base 3 "_law_times" (spW K W0 S__law_times) [] := by
  have c__law_ratio := ok__law_ratio (P := P) (w := w) (base := base) T
  refine calV T.f__law_times T.g__law_times sc__law_times (fun _ _ _ _ _ _ us hl => match us, hl with | [_, _], _ => rfl) (fun xs w Q h => ?_) (fun cdv A outer s H E hr => ⟨_, _, (dss_one (ds_ret (de_cl0K K c__law_ratio hr (by decide) rfl (da_cons (de_op op_mulW so_I (de_ixK K (de_var 0) de_int) (de_ixK K (de_var 1) de_int)) (da_cons (de_op op_mulW so_I (de_ixK K (de_var 0) de_int) (de_ixK K (de_var 1) de_int)) da_nil))))), ?_⟩)
  · obtain ⟨a, b, rfl, _⟩ := h; rfl
  · rintro xs w Q ⟨a, b, rfl, ha, hb, q⟩
    simp only [dR_eq]
    walk_at "rd"
    simp only [S__law_ratio]
    exact ⟨mulW ha.n hb.n, mulW ha.d hb.d, _, _, rfl, dd_pos a b, nn_mul ha hb, dd_lt ha hb, by rw [← mul_div]; exact q⟩
end
def S__law_less : Spec W0 := fun xs _ R => ∃ (a b : Rat), xs = [.fz (dR a), .fz (dR b)] ∧ Sm a ∧ Sm b ∧ R (.bool (decide (a < b))) ()
section
variable {P : Program} {w : World} {K : PySem.W.Frag} {mg : Str → Option Value} {base : Heap}
theorem ok__law_less (T : Tp K mg) : Cal P w K mg base 1 "_law_less" (spW K W0 S__law_less) [] := by
  refine calV T.f__law_less T.g__law_less sc__law_less (fun _ _ _ _ _ _ us hl => match us, hl with | [_, _], _ => rfl) (fun xs w Q h => ?_) (fun cdv A outer s H E hr => ⟨_, _, (dss_one (ds_ret (de_cmp op_lt so_B0 (de_op op_mulW so_I (de_ixK K (de_var 0) de_int) (de_ixK K (de_var 1) de_int)) (de_op op_mulW so_I (de_ixK K (de_var 1) de_int) (de_ixK K (de_var 0) de_int)) (nomark _)))), ?_⟩)
  · obtain ⟨a, b, rfl, _⟩ := h; rfl
  · rintro xs w Q ⟨a, b, rfl, ha, hb, q⟩
    simp only [dR_eq]
    walk_at "rd"
    refine ⟨mulW ha.n hb.d, mulW hb.n ha.d, ?_⟩
    rw [show decide (a.num * b.den < b.num * a.den) = decide (a < b) from decide_eq_decide.mpr (Rat.lt_iff a b).symm]
    exact q
end
def S__law_sum : Spec W0 := fun xs _ R => ∃ (qs : List Rat), xs = [.fz (.list (qs.map dR))] ∧ (∀ q ∈ qs, Sm q) ∧ (∀ i, Sm (rs (qs.take i))) ∧ R (dR (rs qs)) ()
section
variable {P : Program} {w : World} {K : PySem.W.Frag} {mg : Str → Option Value} {base : Heap}
theorem ok__law_sum (T : Tp K mg) : Cal P w K mg base 4 "_law_sum" (spW K W0 S__law_sum) [] := by
  have c__law_plus := ok__law_plus (P := P) (w := w) (base := base) T
  refine calV T.f__law_sum T.g__law_sum sc__law_sum (fun _ _ _ _ _ _ us hl => match us, hl with | [_], _ => rfl) (fun xs w Q h => ?_) (fun cdv A outer s H E hr => ⟨_, _, (dss_cons (dset 1 sc__law_sum.nd (de_tup (da_cons de_int (da_cons de_int da_nil))))
      (dss_cons (ds_for PassesOwn.never rfl (di_seqK K (de_var 0)) (dgn 2 sc__law_sum.nd) (dss_one (dset 1 sc__law_sum.nd (de_cl0K K c__law_plus hr (by decide) rfl (da_cons (de_var 1) (da_cons (de_var 2) da_nil))))))
      (dss_one (ds_ret (de_var 1))))), ?_⟩)
  · obtain ⟨qs, rfl, _⟩ := h; rfl
  · rintro xs w Q ⟨qs, rfl, h1, h2, q⟩
    walk_at "fo"
    refine ⟨fun i s _ => I_total qs i s, ⟨_, rfl⟩, fun i s _ d hd ⟨o, e⟩ => ?_, fun s _ ⟨o, e⟩ => ?_⟩
    · subst e
      rw [List.getElem?_map] at hd
      obtain ⟨x, hx, rfl⟩ := Option.map_eq_some_iff.mp hd
      walk_at "rd"
      refine ⟨_, _, rfl, h2 i, h1 x (List.mem_of_getElem? hx), ?_⟩
      rw [← rs_take hx]
      exact ⟨_, rfl⟩
    · subst e
      walk_at "rd"
      rw [List.length_map, List.take_length]
      exact q
end
def S__law_price : Spec W0 := fun xs _ R => ∃ (n : Nat) (ws : List Way) (c : PyData) (is : List Int), xs = [.fz (dN n ws), .fz c] ∧ IsSeq c is ∧ InR ws is ∧ is.length ≤ 1000 ∧ R (.int ((is.map (costAt ws)).sum)) ()
section
variable {P : Program} {w : World} {K : PySem.W.Frag} {mg : Str → Option Value} {base : Heap}
theorem ok__law_price (T : Tp K mg) : Cal P w K mg base 1 "_law_price" (spW K W0 S__law_price) [] := by
  refine calV T.f__law_price T.g__law_price sc__law_price (fun _ _ _ _ _ _ us hl => match us, hl with | [_, _], _ => rfl) (fun xs w Q h => ?_) (fun cdv A outer s H E hr => ⟨_, _, (dss_one (ds_ret (de_cb (cr_sum rfl) sc_sum rfl T.z_sum (by decide +kernel) (da_cons (de_lc (own := [("_law_index", 2)]) rfl sc__law_price.nd (di_seqK K (de_var 1)) (blkOk_by (by kernel_rfl)) (fun _ _ _ _ _ => (dgn 2 sc__law_price.nd)) (fun _ _ _ _ _ => dts_nil) (fun _ _ _ _ _ => (de_ixK K (de_ixK K (de_ixK K (de_var 0) de_int) (de_var 2)) de_int)) go_name) da_nil)))), ?_⟩)
  · obtain ⟨n, ws, c, is, rfl, _⟩ := h; rfl
  · rintro xs w Q ⟨n, ws, c, is, rfl, hc, hi, hl, q⟩
    simp only [dN]
    walk_at "lc"
    refine ⟨is.map .int, hc, lc_pure is .int (fun _ => true) (fun i => .int (costAt ws i)) hl (fun I j acc i hx h => ?_) ?_⟩
    · obtain ⟨v, hv, hm⟩ := wget (hi i hx)
      walk_at "rd"
      refine ⟨_, ws_ix (hi i hx).1 hv, ?_⟩
      simp only [dW_eq]
      walk_at "rd"
      rw [show v.2.2 = costAt ws i by rw [costAt, hv]; rfl]
      exact h
    · refine ⟨is.map (costAt ws), by rw [filter_tt, List.map_map]; rfl, q⟩
end
def S__law_open : Spec W0 := fun xs _ R => ∃ (ps : List (Int × Int)) (g : List Int), xs = [.fz (dPs ps), .fz (dT g)] ∧ ps.length ≤ 1000 ∧ R (.bool (ps.any fun p => crP p g)) ()
section
variable {P : Program} {w : World} {K : PySem.W.Frag} {mg : Str → Option Value} {base : Heap}
theorem ok__law_open (T : Tp K mg) : Cal P w K mg base 1 "_law_open" (spW K W0 S__law_open) [] := by
  refine calV T.f__law_open T.g__law_open sc__law_open (fun _ _ _ _ _ _ us hl => match us, hl with | [_, _], _ => rfl) (fun xs w Q h => ?_) (fun cdv A outer s H E hr => ⟨_, _, (dss_one (ds_ret (de_cmp op_gt so_B0 (de_cb call_len_seq sc_len rfl T.z_len PySem.boot_len (da_cons (de_lc (own := [("_law_pair", 2)]) rfl sc__law_open.nd (di_seqK K (de_var 0)) (blkOk_by (by kernel_rfl)) (fun _ _ _ _ _ => (dgn 2 sc__law_open.nd)) (fun _ _ _ _ _ => (dts_one (dt_cmp op_ne so_neB (de_cmp (op_inK K) so_in (de_ixK K (de_var 2) de_int) (de_var 1) (by with_unfolding_all rfl)) (de_cmp (op_inK K) so_in (de_ixK K (de_var 2) de_int) (de_var 1) (by with_unfolding_all rfl)) (nomark _)))) (fun _ _ _ _ _ => (de_var 2)) go_name) da_nil)) de_int (nomark _)))), ?_⟩)
  · obtain ⟨ps, g, rfl, _⟩ := h; rfl
  · rintro xs w Q ⟨ps, g, rfl, hl, q⟩
    simp only [dPs]
    walk_at "lc"
    refine lc_pure ps dP (fun p => crP p g) dP hl (fun I j acc p hx h => ?_) ?_
    · simp only [dP_eq]
      walk_at "rd"
      exact ⟨g, rfl, g, rfl, h⟩
    · rw [List.length_map]
      rw [show ps.any (fun p => crP p g) = decide (((ps.filter fun p => crP p g).length : Int) > 0) by
        rw [Bool.eq_iff_iff, List.any_eq_true, decide_eq_true_eq]
        constructor
        · rintro ⟨p, h1, h2⟩
          have := List.length_pos_of_mem (List.mem_filter (p := fun p => crP p g).mpr ⟨h1, h2⟩)
          omega
        · intro h
          obtain ⟨p, hp⟩ := List.exists_mem_of_length_pos (l := ps.filter fun p => crP p g) (by omega)
          exact ⟨p, List.mem_filter.mp hp⟩] at q
      exact q
end
def S__law_group : Spec W0 := fun xs _ R => ∃ (n : Nat) (ws : List Way) (c : PyData) (is : List Int) (p : Int), xs = [.fz (dN n ws), .fz c, .fz (.int p)] ∧ NetOk n ws ∧ IsSeq c is ∧ InR ws is ∧ p ∈ iota n ∧ ∀ g : List Int, (∀ x ∈ g, Reach ws is p x) → R (dT g) ()
section
variable {P : Program} {w : World} {K : PySem.W.Frag} {mg : Str → Option Value} {base : Heap}
theorem ok__law_group (T : Tp K mg) : Cal P w K mg base 1 "_law_group" (spW K W0 S__law_group) [] := by
  refine calV T.f__law_group T.g__law_group sc__law_group (fun _ _ _ _ _ _ us hl => match us, hl with | [_, _, _], _ => rfl) (fun xs w Q h => ?_) (fun cdv A outer s H E hr => ⟨_, _, (dss_cons (dsetO 3 sc__law_group.nd (da_cons (de_var 2) da_nil))
      (dss_cons (ds_for PassesOwn.never rfl (di_rng1 rfl T.z_range (da_cons (de_ixK K (de_var 0) de_int) da_nil)) (dgn 4 sc__law_group.nd) (dss_one (ds_for PassesOwn.never rfl (di_seqK K (de_var 1)) (dgn 5 sc__law_group.nd) (dss_cons (ds_asg (de_ixK K (de_ixK K (de_var 0) de_int) (de_var 5)) (dg_tupK K (n := 3) rfl (dgs_cons (dgn 6 sc__law_group.nd) (dgs_cons (dgn 7 sc__law_group.nd) (dgs_cons (dgn 8 sc__law_group.nd) dgs_nil)))))
      (dss_cons (ds_if (dt_bor 3 nof0 (DW.dt (dw_and (dt_cmp (op_inK K) so_in (de_var 6) (de_var 3) (by with_unfolding_all rfl)) (dw_and1 (dt_cmp (op_notInK K) so_in (de_var 7) (de_var 3) (by with_unfolding_all rfl)))))) (dss_one (ds_app 3 (da_cons (de_var 7) da_nil))) dss_nil)
      (dss_one (ds_if (dt_bor 3 nof0 (DW.dt (dw_and (dt_cmp (op_inK K) so_in (de_var 7) (de_var 3) (by with_unfolding_all rfl)) (dw_and1 (dt_cmp (op_notInK K) so_in (de_var 6) (de_var 3) (by with_unfolding_all rfl)))))) (dss_one (ds_app 3 (da_cons (de_var 6) da_nil))) dss_nil)))))))
      (dss_frz 3 (dss_one (ds_ret (de_cty call_tuple_of sc_tuple rfl T.z_tuple (by decide +kernel) (da_cons (de_cb cr_sortedI sc_sortI rfl T.z_sorted (by decide +kernel) (da_cons (de_var 3) da_nil)) da_nil))))))), ?_⟩)
  · obtain ⟨n, ws, c, is, p, rfl, _⟩ := h; rfl
  · rintro xs w Q ⟨n, ws, c, is, p, rfl, hn, hc, hi, hp, q⟩
    have hn2 := hn.n2
    walk_at "rd"
    refine ⟨own_at rfl, ?_⟩
    simp only [dN]
    walk_at "fo"
    refine ⟨by omega, by omega, fun k s _ => I_grp n ws is c p s, ?_, fun k s _ d hd hI => ?_, fun s _ hI => ?_⟩
    · exact ⟨[p], _, _, _, _, _, ⟨by simp, fun x hx => by simp only [List.mem_singleton] at hx; subst hx; exact hp, fun x hx => by simp only [List.mem_singleton] at hx; subst hx; exact fun S _ => rfl⟩, rfl⟩
    · obtain ⟨xs, o4, o5, o6, o7, o8, hF, rfl⟩ := hI
      walk_at "fo"
      refine ⟨is.map .int, hc, fun k s _ => I_grp n ws is c p s, ⟨xs, _, _, _, _, _, hF, rfl⟩, fun k s _ d hd hI => ?_, fun s _ hI => hI⟩
      obtain ⟨xs, o4, o5, o6, o7, o8, hF, rfl⟩ := hI
      obtain ⟨i, hi', rfl⟩ := mget hd
      have him := List.mem_of_getElem? hi'
      have hi2 := hi i him
      obtain ⟨v, hv, hm⟩ := wget hi2
      obtain ⟨e1, e2⟩ := hn.ends v hm
      simp only [dN]
      walk_at "rd"
      refine ⟨_, ws_ix hi2.1 hv, ?_⟩
      simp only [dW_eq]
      walk_at "rd"
      have rab : Reach ws is v.1 v.2.1 := fun S hS => hS i him v hv
      have rba : Reach ws is v.2.1 v.1 := fun S hS => (hS i him v hv).symm
      have hlen : (xs.map PyData.int).length ≤ 1000 := by rw [List.length_map]; have := hF.len; omega
      refine ⟨xs, rfl, ?_⟩
      by_cases ca : v.1 ∈ xs
      · rw [if_pos (decide_eq_true ca)]
        refine ⟨xs, rfl, ?_⟩
        by_cases cb : v.2.1 ∈ xs
        · rw [if_neg (by simp [cb])]
          refine ⟨xs, rfl, ?_⟩
          rw [if_pos (decide_eq_true cb)]
          refine ⟨xs, rfl, ?_⟩
          rw [if_neg (by simp [ca])]
          exact ⟨xs, _, _, _, _, _, hF, rfl⟩
        · rw [if_pos (by simp [cb])]
          refine ⟨hlen, ?_⟩
          rw [map_snoc]
          refine ⟨xs ++ [v.2.1], rfl, ?_⟩
          rw [if_pos (by simp)]
          refine ⟨_, rfl, ?_⟩
          rw [if_neg (by simp [ca])]
          exact ⟨_, _, _, _, _, _, hF.add ca cb e2 rab, rfl⟩
      · rw [if_neg (by simpa using ca)]
        refine ⟨xs, rfl, ?_⟩
        by_cases cb : v.2.1 ∈ xs
        · rw [if_pos (decide_eq_true cb)]
          refine ⟨xs, rfl, ?_⟩
          rw [if_pos (by simp [ca])]
          refine ⟨hlen, ?_⟩
          rw [map_snoc]
          exact ⟨_, _, _, _, _, _, hF.add cb ca e1 rba, rfl⟩
        · rw [if_neg (by simpa using cb)]
          exact ⟨xs, _, _, _, _, _, hF, rfl⟩
    · obtain ⟨xs, o4, o5, o6, o7, o8, hF, rfl⟩ := hI
      walk_at "rd"
      exact ⟨xs, rfl, fun ns' hp' _ => q ns' fun x hx => hF.re x (hp'.mem_iff.mp hx)⟩
end
def S__law_joins : Spec W0 := fun xs _ R => ∃ (n : Nat) (ws : List Way) (ps : List (Int × Int)) (c : PyData) (is : List Int), xs = [.fz (dN n ws), .fz (dPs ps), .fz c] ∧ NetOk n ws ∧ IsSeq c is ∧ InR ws is ∧ PairsOk n ps ∧ ps.length ≤ 1000 ∧ ∀ b : Bool, (b = true → Jn ws is ps) → R (.bool b) ()
section
variable {P : Program} {w : World} {K : PySem.W.Frag} {mg : Str → Option Value} {base : Heap}
theorem ok__law_joins (T : Tp K mg) : Cal P w K mg base 2 "_law_joins" (spW K W0 S__law_joins) [] := by
  have c__law_group := ok__law_group (P := P) (w := w) (base := base) T
  refine calV T.f__law_joins T.g__law_joins sc__law_joins (fun _ _ _ _ _ _ us hl => match us, hl with | [_, _, _], _ => rfl) (fun xs w Q h => ?_) (fun cdv A outer s H E hr => ⟨_, _, (dss_one (ds_ret (de_cmp op_eq so_eqI (de_cb call_len_seq sc_len rfl T.z_len PySem.boot_len (da_cons (de_lc (own := [("_law_pair", 3)]) rfl sc__law_joins.nd (di_seqK K (de_var 1)) (blkOk_by (by kernel_rfl)) (fun _ _ _ _ _ => (dgn 3 sc__law_joins.nd)) (fun _ _ _ _ _ => (dts_one (dt_cmp (op_notInK K) so_in (de_ixK K (de_var 3) de_int) (de_cl0K K c__law_group hr (by decide) rfl (da_cons (de_var 0) (da_cons (de_var 2) (da_cons (de_ixK K (de_var 3) de_int) da_nil)))) (by with_unfolding_all rfl)))) (fun _ _ _ _ _ => (de_var 3)) go_name) da_nil)) de_int (nomark _)))), ?_⟩)
  · obtain ⟨n, ws, ps, c, is, rfl, _⟩ := h; rfl
  · rintro xs w Q ⟨n, ws, ps, c, is, rfl, hn, hc, hi, hp, hl, q⟩
    simp only [dPs]
    walk_at "lc"
    refine ⟨by rw [List.length_map]; exact hl, fun i acc _ => acc = [] → ∀ p ∈ ps.take i, Reach ws is p.1 p.2, fun _ p hm => by simp at hm, fun i d acc _ hd hI => ?_, fun acc _ hI => ?_⟩
    · obtain ⟨p, hx, rfl⟩ := mget hd
      simp only [dP_eq]
      walk_at "rd"
      refine ⟨n, ws, c, is, p.1, rfl, hn, hc, hi, (hp p (List.mem_of_getElem? hx)).1, fun g hg => ⟨g, Or.inr rfl, ?_⟩⟩
      by_cases cc : p.2 ∈ g
      · rw [if_neg (by simp [cc])]
        intro e p' hm
        rw [List.take_add_one, hx] at hm
        rcases List.mem_append.mp hm with h | h
        · exact hI e p' h
        · simp only [Option.toList, List.mem_singleton] at h; subst h; exact hg _ cc
      · rw [if_pos (by simp [cc])]
        intro e
        simp at e
    · rw [List.length_map, List.take_length] at hI
      intro _
      refine q _ fun e S hS p hm => hI ?_ p hm S hS
      have := of_decide_eq_true e
      exact List.eq_nil_of_length_eq_zero (by omega)
end
end L2.VL
/-! part F5 -/
set_option Elab.async false
set_option linter.all false
set_option autoImplicit false
set_option maxRecDepth 100000
set_option maxHeartbeats 4000000
namespace L2.VL
open PySem PySem.Spec PyProof.Rows L2 C8 MW
local macro_rules | `(tactic| walk_at "st") => `(tactic| try simp only [vAsg, vIfS, vRet, vRetN, vRetO, vNext, vPar, vSetO, vApp, vIns, vFrz, vDrop, vNever, vVar, vC, vOp, vUn, vTest, vChain, vIsN, vNotN, vAnd, vOr, vNot, vAndV, vIf, vaNil, vaCons, vaAdr, vTup, vLst, vCB, vCall, vCall0, vCl, vCl0, vgName, vgNil, vgCons, vgTup, vgLst, viAny, viEnum, viEnumT, viRev, viRng1, viRng2, vYes, wipeS, vTru, vOrT, vListRg, vBor, vBorT, vSrtSet, vSlT, vPl, vPl0, vPlen, vPlset, Pl.get, Pl.put,
  qI, qI0, qB0, qNeB, qEqD, qNeD, qEqL, qIn, qInE, qU, qCatL, qCatT, qIx, itemD_T, itemD_L, qLen, qList, qTuple, qSum, qAny, qAll, qSortI, qSortTI, qSortE, qAbs, qInt, qMin2, qGcd, qNotB,
  List.length_cons, List.length_nil, List.replicate_succ, List.replicate_zero, List.cons_append, List.nil_append, List.getElem?_cons_zero, List.getElem?_cons_succ, List.set_cons_zero, List.set_cons_succ, Nat.reduceAdd, Nat.reduceSub, Option.some.injEq, SD.fz.injEq, SD.own.injEq, SD.adr.injEq, PyData.int.injEq, PyData.bool.injEq, PyData.tuple.injEq, PyData.list.injEq, exists_eq_left', exists_eq_left, exists_eq, and_true, true_and, unfz, Option.map_some, and_assoc, exists_and_left, List.cons.injEq, Nat.reduceLeDiff,
  List.map_cons, List.map_nil, Int.reduceLE, Int.reduceToNat, if_true, reduceCtorEq, false_or, or_false, exists_false, ↓reduceIte, Nat.zero_le, Int.zero_le_ofNat, Int.reduceNeg])
local macro_rules | `(tactic| walk_at "stf") => `(tactic| try simp only [vFor, vAsg, vIfS, vRet, vRetN, vRetO, vNext, vPar, vSetO, vApp, vIns, vFrz, vDrop, vNever, vVar, vC, vOp, vUn, vTest, vChain, vIsN, vNotN, vAnd, vOr, vNot, vAndV, vIf, vaNil, vaCons, vaAdr, vTup, vLst, vCB, vCall, vCall0, vCl, vCl0, vgName, vgNil, vgCons, vgTup, vgLst, viAny, viEnum, viEnumT, viRev, viRng1, viRng2, vYes, wipeS, vTru, vOrT, vListRg, vBor, vBorT, vSrtSet, vSlT, vPl, vPl0, vPlen, vPlset, Pl.get, Pl.put,
  qI, qI0, qB0, qNeB, qEqD, qNeD, qEqL, qIn, qInE, qU, qCatL, qCatT, qIx, itemD_T, itemD_L, qLen, qList, qTuple, qSum, qAny, qAll, qSortI, qSortTI, qSortE, qAbs, qInt, qMin2, qGcd, qNotB,
  List.length_cons, List.length_nil, List.replicate_succ, List.replicate_zero, List.cons_append, List.nil_append, List.getElem?_cons_zero, List.getElem?_cons_succ, List.set_cons_zero, List.set_cons_succ, Nat.reduceAdd, Nat.reduceSub, Option.some.injEq, SD.fz.injEq, SD.own.injEq, SD.adr.injEq, PyData.int.injEq, PyData.bool.injEq, PyData.tuple.injEq, PyData.list.injEq, exists_eq_left', exists_eq_left, exists_eq, and_true, true_and, unfz, Option.map_some, and_assoc, exists_and_left, List.cons.injEq, Nat.reduceLeDiff,
  List.map_cons, List.map_nil, Int.reduceLE, Int.reduceToNat, if_true, reduceCtorEq, false_or, or_false, exists_false, ↓reduceIte, Nat.zero_le, Int.zero_le_ofNat, Int.reduceNeg])
local macro_rules | `(tactic| walk_at "stl") => `(tactic| try simp only [vLc, vAsg, vIfS, vRet, vRetN, vRetO, vNext, vPar, vSetO, vApp, vIns, vFrz, vDrop, vNever, vVar, vC, vOp, vUn, vTest, vChain, vIsN, vNotN, vAnd, vOr, vNot, vAndV, vIf, vaNil, vaCons, vaAdr, vTup, vLst, vCB, vCall, vCall0, vCl, vCl0, vgName, vgNil, vgCons, vgTup, vgLst, viAny, viEnum, viEnumT, viRev, viRng1, viRng2, vYes, wipeS, vTru, vOrT, vListRg, vBor, vBorT, vSrtSet, vSlT, vPl, vPl0, vPlen, vPlset, Pl.get, Pl.put,
  qI, qI0, qB0, qNeB, qEqD, qNeD, qEqL, qIn, qInE, qU, qCatL, qCatT, qIx, itemD_T, itemD_L, qLen, qList, qTuple, qSum, qAny, qAll, qSortI, qSortTI, qSortE, qAbs, qInt, qMin2, qGcd, qNotB,
  List.length_cons, List.length_nil, List.replicate_succ, List.replicate_zero, List.cons_append, List.nil_append, List.getElem?_cons_zero, List.getElem?_cons_succ, List.set_cons_zero, List.set_cons_succ, Nat.reduceAdd, Nat.reduceSub, Option.some.injEq, SD.fz.injEq, SD.own.injEq, SD.adr.injEq, PyData.int.injEq, PyData.bool.injEq, PyData.tuple.injEq, PyData.list.injEq, exists_eq_left', exists_eq_left, exists_eq, and_true, true_and, unfz, Option.map_some, and_assoc, exists_and_left, List.cons.injEq, Nat.reduceLeDiff,
  List.map_cons, List.map_nil, Int.reduceLE, Int.reduceToNat, if_true, reduceCtorEq, false_or, or_false, exists_false, ↓reduceIte, Nat.zero_le, Int.zero_le_ofNat, Int.reduceNeg])
local macro_rules | `(tactic| walk_at "stw") => `(tactic| try simp only [vWhile, vAsg, vIfS, vRet, vRetN, vRetO, vNext, vPar, vSetO, vApp, vIns, vFrz, vDrop, vNever, vVar, vC, vOp, vUn, vTest, vChain, vIsN, vNotN, vAnd, vOr, vNot, vAndV, vIf, vaNil, vaCons, vaAdr, vTup, vLst, vCB, vCall, vCall0, vCl, vCl0, vgName, vgNil, vgCons, vgTup, vgLst, viAny, viEnum, viEnumT, viRev, viRng1, viRng2, vYes, wipeS, vTru, vOrT, vListRg, vBor, vBorT, vSrtSet, vSlT, vPl, vPl0, vPlen, vPlset, Pl.get, Pl.put,
  qI, qI0, qB0, qNeB, qEqD, qNeD, qEqL, qIn, qInE, qU, qCatL, qCatT, qIx, itemD_T, itemD_L, qLen, qList, qTuple, qSum, qAny, qAll, qSortI, qSortTI, qSortE, qAbs, qInt, qMin2, qGcd, qNotB,
  List.length_cons, List.length_nil, List.replicate_succ, List.replicate_zero, List.cons_append, List.nil_append, List.getElem?_cons_zero, List.getElem?_cons_succ, List.set_cons_zero, List.set_cons_succ, Nat.reduceAdd, Nat.reduceSub, Option.some.injEq, SD.fz.injEq, SD.own.injEq, SD.adr.injEq, PyData.int.injEq, PyData.bool.injEq, PyData.tuple.injEq, PyData.list.injEq, exists_eq_left', exists_eq_left, exists_eq, and_true, true_and, unfz, Option.map_some, and_assoc, exists_and_left, List.cons.injEq, Nat.reduceLeDiff,
  List.map_cons, List.map_nil, Int.reduceLE, Int.reduceToNat, if_true, reduceCtorEq, false_or, or_false, exists_false, ↓reduceIte, Nat.zero_le, Int.zero_le_ofNat, Int.reduceNeg])
local macro_rules | `(tactic| walk_at "rd") => `(tactic| try simp only [vSeq, vAsg, vIfS, vRet, vRetN, vRetO, vNext, vPar, vSetO, vApp, vIns, vFrz, vDrop, vNever, vVar, vC, vOp, vUn, vTest, vChain, vIsN, vNotN, vAnd, vOr, vNot, vAndV, vIf, vaNil, vaCons, vaAdr, vTup, vLst, vCB, vCall, vCall0, vCl, vCl0, vgName, vgNil, vgCons, vgTup, vgLst, viAny, viEnum, viEnumT, viRev, viRng1, viRng2, vYes, wipeS, vTru, vOrT, vListRg, vBor, vBorT, vSrtSet, vSlT, vPl, vPl0, vPlen, vPlset, Pl.get, Pl.put,
  qI, qI0, qB0, qNeB, qEqD, qNeD, qEqL, qIn, qInE, qU, qCatL, qCatT, qIx, itemD_T, itemD_L, qLen, qList, qTuple, qSum, qAny, qAll, qSortI, qSortTI, qSortE, qAbs, qInt, qMin2, qGcd, qNotB,
  List.length_cons, List.length_nil, List.replicate_succ, List.replicate_zero, List.cons_append, List.nil_append, List.getElem?_cons_zero, List.getElem?_cons_succ, List.set_cons_zero, List.set_cons_succ, Nat.reduceAdd, Nat.reduceSub, Option.some.injEq, SD.fz.injEq, SD.own.injEq, SD.adr.injEq, PyData.int.injEq, PyData.bool.injEq, PyData.tuple.injEq, PyData.list.injEq, exists_eq_left', exists_eq_left, exists_eq, and_true, true_and, unfz, Option.map_some, and_assoc, exists_and_left, List.cons.injEq, Nat.reduceLeDiff,
  List.map_cons, List.map_nil, Int.reduceLE, Int.reduceToNat, if_true, reduceCtorEq, false_or, or_false, exists_false, ↓reduceIte, Nat.zero_le, Int.zero_le_ofNat, Int.reduceNeg])
local macro_rules | `(tactic| walk_at "lc") => `(tactic| try simp only [vLc, vSeq, vAsg, vIfS, vRet, vRetN, vRetO, vNext, vPar, vSetO, vApp, vIns, vFrz, vDrop, vNever, vVar, vC, vOp, vUn, vTest, vChain, vIsN, vNotN, vAnd, vOr, vNot, vAndV, vIf, vaNil, vaCons, vaAdr, vTup, vLst, vCB, vCall, vCall0, vCl, vCl0, vgName, vgNil, vgCons, vgTup, vgLst, viAny, viEnum, viEnumT, viRev, viRng1, viRng2, vYes, wipeS, vTru, vOrT, vListRg, vBor, vBorT, vSrtSet, vSlT, vPl, vPl0, vPlen, vPlset, Pl.get, Pl.put,
  qI, qI0, qB0, qNeB, qEqD, qNeD, qEqL, qIn, qInE, qU, qCatL, qCatT, qIx, itemD_T, itemD_L, qLen, qList, qTuple, qSum, qAny, qAll, qSortI, qSortTI, qSortE, qAbs, qInt, qMin2, qGcd, qNotB,
  List.length_cons, List.length_nil, List.replicate_succ, List.replicate_zero, List.cons_append, List.nil_append, List.getElem?_cons_zero, List.getElem?_cons_succ, List.set_cons_zero, List.set_cons_succ, Nat.reduceAdd, Nat.reduceSub, Option.some.injEq, SD.fz.injEq, SD.own.injEq, SD.adr.injEq, PyData.int.injEq, PyData.bool.injEq, PyData.tuple.injEq, PyData.list.injEq, exists_eq_left', exists_eq_left, exists_eq, and_true, true_and, unfz, Option.map_some, and_assoc, exists_and_left, List.cons.injEq, Nat.reduceLeDiff,
  List.map_cons, List.map_nil, Int.reduceLE, Int.reduceToNat, if_true, reduceCtorEq, false_or, or_false, exists_false, ↓reduceIte, Nat.zero_le, Int.zero_le_ofNat, Int.reduceNeg])
local macro_rules | `(tactic| walk_at "fo") => `(tactic| try simp only [vFor, vSeq, vAsg, vIfS, vRet, vRetN, vRetO, vNext, vPar, vSetO, vApp, vIns, vFrz, vDrop, vNever, vVar, vC, vOp, vUn, vTest, vChain, vIsN, vNotN, vAnd, vOr, vNot, vAndV, vIf, vaNil, vaCons, vaAdr, vTup, vLst, vCB, vCall, vCall0, vCl, vCl0, vgName, vgNil, vgCons, vgTup, vgLst, viAny, viEnum, viEnumT, viRev, viRng1, viRng2, vYes, wipeS, vTru, vOrT, vListRg, vBor, vBorT, vSrtSet, vSlT, vPl, vPl0, vPlen, vPlset, Pl.get, Pl.put,
  qI, qI0, qB0, qNeB, qEqD, qNeD, qEqL, qIn, qInE, qU, qCatL, qCatT, qIx, itemD_T, itemD_L, qLen, qList, qTuple, qSum, qAny, qAll, qSortI, qSortTI, qSortE, qAbs, qInt, qMin2, qGcd, qNotB,
  List.length_cons, List.length_nil, List.replicate_succ, List.replicate_zero, List.cons_append, List.nil_append, List.getElem?_cons_zero, List.getElem?_cons_succ, List.set_cons_zero, List.set_cons_succ, Nat.reduceAdd, Nat.reduceSub, Option.some.injEq, SD.fz.injEq, SD.own.injEq, SD.adr.injEq, PyData.int.injEq, PyData.bool.injEq, PyData.tuple.injEq, PyData.list.injEq, exists_eq_left', exists_eq_left, exists_eq, and_true, true_and, unfz, Option.map_some, and_assoc, exists_and_left, List.cons.injEq, Nat.reduceLeDiff,
  List.map_cons, List.map_nil, Int.reduceLE, Int.reduceToNat, if_true, reduceCtorEq, false_or, or_false, exists_false, ↓reduceIte, Nat.zero_le, Int.zero_le_ofNat, Int.reduceNeg])
local macro_rules | `(tactic| walk_at "wh") => `(tactic| try simp only [vWhile, vSeq, vAsg, vIfS, vRet, vRetN, vRetO, vNext, vPar, vSetO, vApp, vIns, vFrz, vDrop, vNever, vVar, vC, vOp, vUn, vTest, vChain, vIsN, vNotN, vAnd, vOr, vNot, vAndV, vIf, vaNil, vaCons, vaAdr, vTup, vLst, vCB, vCall, vCall0, vCl, vCl0, vgName, vgNil, vgCons, vgTup, vgLst, viAny, viEnum, viEnumT, viRev, viRng1, viRng2, vYes, wipeS, vTru, vOrT, vListRg, vBor, vBorT, vSrtSet, vSlT, vPl, vPl0, vPlen, vPlset, Pl.get, Pl.put,
  qI, qI0, qB0, qNeB, qEqD, qNeD, qEqL, qIn, qInE, qU, qCatL, qCatT, qIx, itemD_T, itemD_L, qLen, qList, qTuple, qSum, qAny, qAll, qSortI, qSortTI, qSortE, qAbs, qInt, qMin2, qGcd, qNotB,
  List.length_cons, List.length_nil, List.replicate_succ, List.replicate_zero, List.cons_append, List.nil_append, List.getElem?_cons_zero, List.getElem?_cons_succ, List.set_cons_zero, List.set_cons_succ, Nat.reduceAdd, Nat.reduceSub, Option.some.injEq, SD.fz.injEq, SD.own.injEq, SD.adr.injEq, PyData.int.injEq, PyData.bool.injEq, PyData.tuple.injEq, PyData.list.injEq, exists_eq_left', exists_eq_left, exists_eq, and_true, true_and, unfz, Option.map_some, and_assoc, exists_and_left, List.cons.injEq, Nat.reduceLeDiff,
  List.map_cons, List.map_nil, Int.reduceLE, Int.reduceToNat, if_true, reduceCtorEq, false_or, or_false, exists_false, ↓reduceIte, Nat.zero_le, Int.zero_le_ofNat, Int.reduceNeg])
local macro_rules | `(tactic| walk_at "sc") => `(tactic| try simp only [vLenSc, vSeq, vAsg, vIfS, vRet, vRetN, vRetO, vNext, vPar, vSetO, vApp, vIns, vFrz, vDrop, vNever, vVar, vC, vOp, vUn, vTest, vChain, vIsN, vNotN, vAnd, vOr, vNot, vAndV, vIf, vaNil, vaCons, vaAdr, vTup, vLst, vCB, vCall, vCall0, vCl, vCl0, vgName, vgNil, vgCons, vgTup, vgLst, viAny, viEnum, viEnumT, viRev, viRng1, viRng2, vYes, wipeS, vTru, vOrT, vListRg, vBor, vBorT, vSrtSet, vSlT, vPl, vPl0, vPlen, vPlset, Pl.get, Pl.put,
  qI, qI0, qB0, qNeB, qEqD, qNeD, qEqL, qIn, qInE, qU, qCatL, qCatT, qIx, itemD_T, itemD_L, qLen, qList, qTuple, qSum, qAny, qAll, qSortI, qSortTI, qSortE, qAbs, qInt, qMin2, qGcd, qNotB,
  List.length_cons, List.length_nil, List.replicate_succ, List.replicate_zero, List.cons_append, List.nil_append, List.getElem?_cons_zero, List.getElem?_cons_succ, List.set_cons_zero, List.set_cons_succ, Nat.reduceAdd, Nat.reduceSub, Option.some.injEq, SD.fz.injEq, SD.own.injEq, SD.adr.injEq, PyData.int.injEq, PyData.bool.injEq, PyData.tuple.injEq, PyData.list.injEq, exists_eq_left', exists_eq_left, exists_eq, and_true, true_and, unfz, Option.map_some, and_assoc, exists_and_left, List.cons.injEq, Nat.reduceLeDiff,
  List.map_cons, List.map_nil, Int.reduceLE, Int.reduceToNat, if_true, reduceCtorEq, false_or, or_false, exists_false, ↓reduceIte, Nat.zero_le, Int.zero_le_ofNat, Int.reduceNeg])


structure PlOk (w : Pl) : Prop where
  i : 0 ≤ w.i
  j : 0 ≤ w.j
  k : 0 ≤ w.k
  k2 : w.k < 10 ^ 18
  m : 0 ≤ w.m
  m2 : w.m ≤ 1000000
/-- n draws can be made -/
structure Bud (w : Pl) (n : Int) : Prop where
  ok : PlOk w
  b : w.m + n ≤ 1000000
/-- after at most n draws -/
structure Stp (w : Pl) (n : Int) (w' : Pl) : Prop where
  ok : PlOk w'
  b : w'.m ≤ w.m + n


theorem mulS {i j : Int} (hi : i.natAbs < 2 ^ 64) (hj : j.natAbs < 2 ^ 64) : CMulW i j := wide_mul hi hj (by decide) (by decide) (by decide)
theorem divS {i j : Int} (h : 0 < j) (hj : j ≤ 10000) : CDivW i j := wide_div (b := 64) h (by omega) (by decide) (by decide)
theorem draw_tail {k m n : Int} {R : PyData → Prop} (hk : 0 ≤ k) (hk2 : k < 10 ^ 18) (hm : 0 ≤ m) (hm2 : m ≤ 1000000) (hn : 0 < n) (q : ∀ r, 0 ≤ r → r < n → R (.int r)) :
    CMulW k 48271 ∧ CMulW m 69621 ∧ (0 : Int) < 2147483647 ∧ CMulW ((k * 48271 + m * 69621 + 7919) % 2147483647) ((k * 48271 + m * 69621 + 7919) % 2147483647) ∧ CMulW m 40692 ∧ (0 : Int) < 2147483399 ∧ 0 < n ∧
      R (.int (((k * 48271 + m * 69621 + 7919) % 2147483647 * ((k * 48271 + m * 69621 + 7919) % 2147483647) + m * 40692) % 2147483399 % n)) := by
  have h1 := Int.emod_nonneg (k * 48271 + m * 69621 + 7919) (show (2147483647 : Int) ≠ 0 by decide)
  have h2 := Int.emod_lt_of_pos (k * 48271 + m * 69621 + 7919) (show (0 : Int) < 2147483647 by decide)
  exact ⟨mulS (by omega) (by decide), mulS (by omega) (by decide), by decide, mulS (by omega) (by omega), mulS (by omega) (by decide), by decide, hn, q _ (Int.emod_nonneg _ (by omega)) (Int.emod_lt_of_pos _ hn)⟩

def S__law_draw (pl : Addr × Addr) : Spec (WP pl) := fun xs w R => ∃ (n : Int), xs = [.adr pl.1, .fz (.int n)] ∧ 0 < n ∧ n ≤ 10000 ∧ Bud w 1 ∧ ∀ r w', 0 ≤ r → r < n → Stp w 1 w' → R (.int r) w'
section
variable {P : Program} {w : World} {K : PySem.W.Frag} {mg : Str → Option Value} {base : Heap}
theorem ok__law_draw (T : Tp K mg) : Cal P w K mg base 1 "_law_draw" (spWx K WP S__law_draw) [] := by
  refine calX (0, 0) T.f__law_draw T.g__law_draw sc__law_draw (fun _ _ _ _ _ _ us hl => match us, hl with | [_, _], _ => rfl) (fun pl xs w Q h => ?_) (fun cdv A outer s H E hr => ⟨_, _, fun pl => (dss_cons (ds_if (dt_cmp op_gt so_B0 (de_pl K 0) de_int (nomark _)) (dss_cons (dset 2 sc__law_draw.nd (de_op op_mod so_I (de_cty call_int1 sc_int rfl T.z_int (by decide +kernel) (da_cons (de_pl K 0) da_nil)) (de_var 1)))
      (dss_cons (ds_plset 0 (de_op op_fdivW so_I (de_pl K 0) (de_var 1)))
      (dss_one (ds_ret (de_var 2))))) dss_nil)
      (dss_cons (ds_if (DW.dt (dw_and (dt_cmp op_eq so_eqI (de_op op_mod so_I (de_cty call_int1 sc_int rfl T.z_int (by decide +kernel) (da_cons (de_pl K 0) da_nil)) de_int) de_int (nomark _)) (dw_and1 (dt_cmp op_lt so_B0 (de_pl K 0) (de_plen K 0 rfl T.z_len) (nomark _))))) (dss_cons (dset 3 sc__law_draw.nd (de_cb call_abs sc_abs rfl T.z_abs (by decide +kernel) (da_cons (de_pl0 K 0 (de_pl K 0)) da_nil)))
      (dss_cons (ds_plset 0 (de_op op_add so_I0 (de_pl K 0) de_int))
      (dss_cons (ds_if (dt_cmp op_ge so_B0 (de_var 3) (de_op op_pow so_I de_int de_int) (nomark _)) (dss_cons (ds_plset 0 (de_op op_fdivW so_I (de_var 3) (de_var 1)))
      (dss_one (ds_ret (de_op op_mod so_I (de_cty call_int1 sc_int rfl T.z_int (by decide +kernel) (da_cons (de_var 3) da_nil)) (de_var 1))))) dss_nil)
      (dss_one (ds_plset 0 (de_var 3)))))) dss_nil)
      (dss_cons (ds_plset 0 (de_op op_add so_I0 (de_pl K 0) de_int))
      (dss_cons (dset 4 sc__law_draw.nd (de_op op_mod so_I (de_cty call_int1 sc_int rfl T.z_int (by decide +kernel) (da_cons (de_op op_add so_I0 (de_op op_add so_I0 (de_op op_mulW so_I (de_pl K 0) de_int) (de_op op_mulW so_I (de_pl K 0) de_int)) de_int) da_nil)) de_int))
      (dss_cons (dset 4 sc__law_draw.nd (de_op op_mod so_I (de_cty call_int1 sc_int rfl T.z_int (by decide +kernel) (da_cons (de_op op_add so_I0 (de_op op_mulW so_I (de_var 4) (de_var 4)) (de_op op_mulW so_I (de_pl K 0) de_int)) da_nil)) de_int))
      (dss_one (ds_ret (de_op op_mod so_I (de_cty call_int1 sc_int rfl T.z_int (by decide +kernel) (da_cons (de_var 4) da_nil)) (de_var 1))))))))), ?_⟩)
  · obtain ⟨n, rfl, _⟩ := h; rfl
  · rintro pl xs w Q ⟨n, rfl, hn, hn2, hb, q⟩
    walk_at "rd"
    obtain ⟨⟨k1, k2, k3, k4, k5, k6⟩, k7⟩ := hb
    have hp18 : (10 : Int) ^ 18 = 1000000000000000000 := by decide
    by_cases c1 : 0 < w.j
    · rw [if_pos (decide_eq_true c1)]
      refine ⟨hn, divS hn hn2, q _ _ (Int.emod_nonneg _ (by omega)) (Int.emod_lt_of_pos _ hn) ⟨⟨k1, Int.ediv_nonneg k2 (by omega), k3, k4, k5, k6⟩, by show w.m ≤ w.m + 1; omega⟩⟩
    rw [if_neg (by simpa using c1)]
    refine ⟨by decide, ?_⟩
    by_cases c2 : w.m % 8 = 0
    · rw [if_pos (decide_eq_true c2)]
      by_cases c3 : w.i < w.ns.length
      · rw [if_pos (decide_eq_true c3)]
        refine ⟨k1, w.ns[w.i.toNat]'(by omega), List.getElem?_eq_getElem _, ?_⟩
        generalize w.ns[w.i.toNat]'(by omega) = z
        have hz : 0 ≤ (if z < 0 then -z else z) := by split <;> omega
        generalize (if z < 0 then -z else z) = y at hz ⊢
        refine ⟨⟨by decide, by decide, by decide⟩, ?_⟩
        by_cases c4 : 10 ^ 18 ≤ y
        · rw [if_pos (decide_eq_true c4)]
          exact ⟨divS hn hn2, hn, q _ _ (Int.emod_nonneg _ (by omega)) (Int.emod_lt_of_pos _ hn) ⟨⟨by show 0 ≤ w.i + 1; omega, Int.ediv_nonneg hz (by omega), k3, k4, k5, k6⟩, by show w.m ≤ w.m + 1; omega⟩⟩
        · rw [if_neg (by simpa using c4)]
          exact draw_tail (R := fun d => Q d _) hz (by omega) (by omega) (by omega) hn fun r h1 h2 => q r _ h1 h2 ⟨⟨by show 0 ≤ w.i + 1; omega, k2, hz, by show y < 10 ^ 18; omega, by show 0 ≤ w.m + 1; omega, by show w.m + 1 ≤ _; omega⟩, by show w.m + 1 ≤ w.m + 1; omega⟩
      · rw [if_neg (by simpa using c3)]
        exact draw_tail (R := fun d => Q d _) k3 k4 (by omega) (by omega) hn fun r h1 h2 => q r _ h1 h2 ⟨⟨k1, k2, k3, k4, by show 0 ≤ w.m + 1; omega, by show w.m + 1 ≤ _; omega⟩, by show w.m + 1 ≤ w.m + 1; omega⟩
    · rw [if_neg (by simpa using c2)]
      exact draw_tail (R := fun d => Q d _) k3 k4 (by omega) (by omega) hn fun r h1 h2 => q r _ h1 h2 ⟨⟨k1, k2, k3, k4, by show 0 ≤ w.m + 1; omega, by show w.m + 1 ≤ _; omega⟩, by show w.m + 1 ≤ w.m + 1; omega⟩
end
end L2.VL
/-! part F6 -/
set_option Elab.async false
set_option linter.all false
set_option autoImplicit false
set_option maxRecDepth 100000
set_option maxHeartbeats 4000000
namespace L2.VL
open PySem PySem.Spec PyProof.Rows L2 C8 MW
local macro_rules | `(tactic| walk_at "st") => `(tactic| try simp only [vAsg, vIfS, vRet, vRetN, vRetO, vNext, vPar, vSetO, vApp, vIns, vFrz, vDrop, vNever, vVar, vC, vOp, vUn, vTest, vChain, vIsN, vNotN, vAnd, vOr, vNot, vAndV, vIf, vaNil, vaCons, vaAdr, vTup, vLst, vCB, vCall, vCall0, vCl, vCl0, vgName, vgNil, vgCons, vgTup, vgLst, viAny, viEnum, viEnumT, viRev, viRng1, viRng2, vYes, wipeS, vTru, vOrT, vListRg, vBor, vBorT, vSrtSet, vSlT, vPl, vPl0, vPlen, vPlset, Pl.get, Pl.put,
  qI, qI0, qB0, qNeB, qEqD, qNeD, qEqL, qIn, qInE, qU, qCatL, qCatT, qIx, itemD_T, itemD_L, qLen, qList, qTuple, qSum, qAny, qAll, qSortI, qSortTI, qSortE, qAbs, qInt, qMin2, qGcd, qNotB,
  List.length_cons, List.length_nil, List.replicate_succ, List.replicate_zero, List.cons_append, List.nil_append, List.getElem?_cons_zero, List.getElem?_cons_succ, List.set_cons_zero, List.set_cons_succ, Nat.reduceAdd, Nat.reduceSub, Option.some.injEq, SD.fz.injEq, SD.own.injEq, SD.adr.injEq, PyData.int.injEq, PyData.bool.injEq, PyData.tuple.injEq, PyData.list.injEq, exists_eq_left', exists_eq_left, exists_eq, and_true, true_and, unfz, Option.map_some, and_assoc, exists_and_left, List.cons.injEq, Nat.reduceLeDiff,
  List.map_cons, List.map_nil, Int.reduceLE, Int.reduceToNat, if_true, reduceCtorEq, false_or, or_false, exists_false, ↓reduceIte, Nat.zero_le, Int.zero_le_ofNat, Int.reduceNeg])
local macro_rules | `(tactic| walk_at "stf") => `(tactic| try simp only [vFor, vAsg, vIfS, vRet, vRetN, vRetO, vNext, vPar, vSetO, vApp, vIns, vFrz, vDrop, vNever, vVar, vC, vOp, vUn, vTest, vChain, vIsN, vNotN, vAnd, vOr, vNot, vAndV, vIf, vaNil, vaCons, vaAdr, vTup, vLst, vCB, vCall, vCall0, vCl, vCl0, vgName, vgNil, vgCons, vgTup, vgLst, viAny, viEnum, viEnumT, viRev, viRng1, viRng2, vYes, wipeS, vTru, vOrT, vListRg, vBor, vBorT, vSrtSet, vSlT, vPl, vPl0, vPlen, vPlset, Pl.get, Pl.put,
  qI, qI0, qB0, qNeB, qEqD, qNeD, qEqL, qIn, qInE, qU, qCatL, qCatT, qIx, itemD_T, itemD_L, qLen, qList, qTuple, qSum, qAny, qAll, qSortI, qSortTI, qSortE, qAbs, qInt, qMin2, qGcd, qNotB,
  List.length_cons, List.length_nil, List.replicate_succ, List.replicate_zero, List.cons_append, List.nil_append, List.getElem?_cons_zero, List.getElem?_cons_succ, List.set_cons_zero, List.set_cons_succ, Nat.reduceAdd, Nat.reduceSub, Option.some.injEq, SD.fz.injEq, SD.own.injEq, SD.adr.injEq, PyData.int.injEq, PyData.bool.injEq, PyData.tuple.injEq, PyData.list.injEq, exists_eq_left', exists_eq_left, exists_eq, and_true, true_and, unfz, Option.map_some, and_assoc, exists_and_left, List.cons.injEq, Nat.reduceLeDiff,
  List.map_cons, List.map_nil, Int.reduceLE, Int.reduceToNat, if_true, reduceCtorEq, false_or, or_false, exists_false, ↓reduceIte, Nat.zero_le, Int.zero_le_ofNat, Int.reduceNeg])
local macro_rules | `(tactic| walk_at "stl") => `(tactic| try simp only [vLc, vAsg, vIfS, vRet, vRetN, vRetO, vNext, vPar, vSetO, vApp, vIns, vFrz, vDrop, vNever, vVar, vC, vOp, vUn, vTest, vChain, vIsN, vNotN, vAnd, vOr, vNot, vAndV, vIf, vaNil, vaCons, vaAdr, vTup, vLst, vCB, vCall, vCall0, vCl, vCl0, vgName, vgNil, vgCons, vgTup, vgLst, viAny, viEnum, viEnumT, viRev, viRng1, viRng2, vYes, wipeS, vTru, vOrT, vListRg, vBor, vBorT, vSrtSet, vSlT, vPl, vPl0, vPlen, vPlset, Pl.get, Pl.put,
  qI, qI0, qB0, qNeB, qEqD, qNeD, qEqL, qIn, qInE, qU, qCatL, qCatT, qIx, itemD_T, itemD_L, qLen, qList, qTuple, qSum, qAny, qAll, qSortI, qSortTI, qSortE, qAbs, qInt, qMin2, qGcd, qNotB,
  List.length_cons, List.length_nil, List.replicate_succ, List.replicate_zero, List.cons_append, List.nil_append, List.getElem?_cons_zero, List.getElem?_cons_succ, List.set_cons_zero, List.set_cons_succ, Nat.reduceAdd, Nat.reduceSub, Option.some.injEq, SD.fz.injEq, SD.own.injEq, SD.adr.injEq, PyData.int.injEq, PyData.bool.injEq, PyData.tuple.injEq, PyData.list.injEq, exists_eq_left', exists_eq_left, exists_eq, and_true, true_and, unfz, Option.map_some, and_assoc, exists_and_left, List.cons.injEq, Nat.reduceLeDiff,
  List.map_cons, List.map_nil, Int.reduceLE, Int.reduceToNat, if_true, reduceCtorEq, false_or, or_false, exists_false, ↓reduceIte, Nat.zero_le, Int.zero_le_ofNat, Int.reduceNeg])
local macro_rules | `(tactic| walk_at "stw") => `(tactic| try simp only [vWhile, vAsg, vIfS, vRet, vRetN, vRetO, vNext, vPar, vSetO, vApp, vIns, vFrz, vDrop, vNever, vVar, vC, vOp, vUn, vTest, vChain, vIsN, vNotN, vAnd, vOr, vNot, vAndV, vIf, vaNil, vaCons, vaAdr, vTup, vLst, vCB, vCall, vCall0, vCl, vCl0, vgName, vgNil, vgCons, vgTup, vgLst, viAny, viEnum, viEnumT, viRev, viRng1, viRng2, vYes, wipeS, vTru, vOrT, vListRg, vBor, vBorT, vSrtSet, vSlT, vPl, vPl0, vPlen, vPlset, Pl.get, Pl.put,
  qI, qI0, qB0, qNeB, qEqD, qNeD, qEqL, qIn, qInE, qU, qCatL, qCatT, qIx, itemD_T, itemD_L, qLen, qList, qTuple, qSum, qAny, qAll, qSortI, qSortTI, qSortE, qAbs, qInt, qMin2, qGcd, qNotB,
  List.length_cons, List.length_nil, List.replicate_succ, List.replicate_zero, List.cons_append, List.nil_append, List.getElem?_cons_zero, List.getElem?_cons_succ, List.set_cons_zero, List.set_cons_succ, Nat.reduceAdd, Nat.reduceSub, Option.some.injEq, SD.fz.injEq, SD.own.injEq, SD.adr.injEq, PyData.int.injEq, PyData.bool.injEq, PyData.tuple.injEq, PyData.list.injEq, exists_eq_left', exists_eq_left, exists_eq, and_true, true_and, unfz, Option.map_some, and_assoc, exists_and_left, List.cons.injEq, Nat.reduceLeDiff,
  List.map_cons, List.map_nil, Int.reduceLE, Int.reduceToNat, if_true, reduceCtorEq, false_or, or_false, exists_false, ↓reduceIte, Nat.zero_le, Int.zero_le_ofNat, Int.reduceNeg])
local macro_rules | `(tactic| walk_at "rd") => `(tactic| try simp only [vSeq, vAsg, vIfS, vRet, vRetN, vRetO, vNext, vPar, vSetO, vApp, vIns, vFrz, vDrop, vNever, vVar, vC, vOp, vUn, vTest, vChain, vIsN, vNotN, vAnd, vOr, vNot, vAndV, vIf, vaNil, vaCons, vaAdr, vTup, vLst, vCB, vCall, vCall0, vCl, vCl0, vgName, vgNil, vgCons, vgTup, vgLst, viAny, viEnum, viEnumT, viRev, viRng1, viRng2, vYes, wipeS, vTru, vOrT, vListRg, vBor, vBorT, vSrtSet, vSlT, vPl, vPl0, vPlen, vPlset, Pl.get, Pl.put,
  qI, qI0, qB0, qNeB, qEqD, qNeD, qEqL, qIn, qInE, qU, qCatL, qCatT, qIx, itemD_T, itemD_L, qLen, qList, qTuple, qSum, qAny, qAll, qSortI, qSortTI, qSortE, qAbs, qInt, qMin2, qGcd, qNotB,
  List.length_cons, List.length_nil, List.replicate_succ, List.replicate_zero, List.cons_append, List.nil_append, List.getElem?_cons_zero, List.getElem?_cons_succ, List.set_cons_zero, List.set_cons_succ, Nat.reduceAdd, Nat.reduceSub, Option.some.injEq, SD.fz.injEq, SD.own.injEq, SD.adr.injEq, PyData.int.injEq, PyData.bool.injEq, PyData.tuple.injEq, PyData.list.injEq, exists_eq_left', exists_eq_left, exists_eq, and_true, true_and, unfz, Option.map_some, and_assoc, exists_and_left, List.cons.injEq, Nat.reduceLeDiff,
  List.map_cons, List.map_nil, Int.reduceLE, Int.reduceToNat, if_true, reduceCtorEq, false_or, or_false, exists_false, ↓reduceIte, Nat.zero_le, Int.zero_le_ofNat, Int.reduceNeg])
local macro_rules | `(tactic| walk_at "lc") => `(tactic| try simp only [vLc, vSeq, vAsg, vIfS, vRet, vRetN, vRetO, vNext, vPar, vSetO, vApp, vIns, vFrz, vDrop, vNever, vVar, vC, vOp, vUn, vTest, vChain, vIsN, vNotN, vAnd, vOr, vNot, vAndV, vIf, vaNil, vaCons, vaAdr, vTup, vLst, vCB, vCall, vCall0, vCl, vCl0, vgName, vgNil, vgCons, vgTup, vgLst, viAny, viEnum, viEnumT, viRev, viRng1, viRng2, vYes, wipeS, vTru, vOrT, vListRg, vBor, vBorT, vSrtSet, vSlT, vPl, vPl0, vPlen, vPlset, Pl.get, Pl.put,
  qI, qI0, qB0, qNeB, qEqD, qNeD, qEqL, qIn, qInE, qU, qCatL, qCatT, qIx, itemD_T, itemD_L, qLen, qList, qTuple, qSum, qAny, qAll, qSortI, qSortTI, qSortE, qAbs, qInt, qMin2, qGcd, qNotB,
  List.length_cons, List.length_nil, List.replicate_succ, List.replicate_zero, List.cons_append, List.nil_append, List.getElem?_cons_zero, List.getElem?_cons_succ, List.set_cons_zero, List.set_cons_succ, Nat.reduceAdd, Nat.reduceSub, Option.some.injEq, SD.fz.injEq, SD.own.injEq, SD.adr.injEq, PyData.int.injEq, PyData.bool.injEq, PyData.tuple.injEq, PyData.list.injEq, exists_eq_left', exists_eq_left, exists_eq, and_true, true_and, unfz, Option.map_some, and_assoc, exists_and_left, List.cons.injEq, Nat.reduceLeDiff,
  List.map_cons, List.map_nil, Int.reduceLE, Int.reduceToNat, if_true, reduceCtorEq, false_or, or_false, exists_false, ↓reduceIte, Nat.zero_le, Int.zero_le_ofNat, Int.reduceNeg])
local macro_rules | `(tactic| walk_at "fo") => `(tactic| try simp only [vFor, vSeq, vAsg, vIfS, vRet, vRetN, vRetO, vNext, vPar, vSetO, vApp, vIns, vFrz, vDrop, vNever, vVar, vC, vOp, vUn, vTest, vChain, vIsN, vNotN, vAnd, vOr, vNot, vAndV, vIf, vaNil, vaCons, vaAdr, vTup, vLst, vCB, vCall, vCall0, vCl, vCl0, vgName, vgNil, vgCons, vgTup, vgLst, viAny, viEnum, viEnumT, viRev, viRng1, viRng2, vYes, wipeS, vTru, vOrT, vListRg, vBor, vBorT, vSrtSet, vSlT, vPl, vPl0, vPlen, vPlset, Pl.get, Pl.put,
  qI, qI0, qB0, qNeB, qEqD, qNeD, qEqL, qIn, qInE, qU, qCatL, qCatT, qIx, itemD_T, itemD_L, qLen, qList, qTuple, qSum, qAny, qAll, qSortI, qSortTI, qSortE, qAbs, qInt, qMin2, qGcd, qNotB,
  List.length_cons, List.length_nil, List.replicate_succ, List.replicate_zero, List.cons_append, List.nil_append, List.getElem?_cons_zero, List.getElem?_cons_succ, List.set_cons_zero, List.set_cons_succ, Nat.reduceAdd, Nat.reduceSub, Option.some.injEq, SD.fz.injEq, SD.own.injEq, SD.adr.injEq, PyData.int.injEq, PyData.bool.injEq, PyData.tuple.injEq, PyData.list.injEq, exists_eq_left', exists_eq_left, exists_eq, and_true, true_and, unfz, Option.map_some, and_assoc, exists_and_left, List.cons.injEq, Nat.reduceLeDiff,
  List.map_cons, List.map_nil, Int.reduceLE, Int.reduceToNat, if_true, reduceCtorEq, false_or, or_false, exists_false, ↓reduceIte, Nat.zero_le, Int.zero_le_ofNat, Int.reduceNeg])
local macro_rules | `(tactic| walk_at "wh") => `(tactic| try simp only [vWhile, vSeq, vAsg, vIfS, vRet, vRetN, vRetO, vNext, vPar, vSetO, vApp, vIns, vFrz, vDrop, vNever, vVar, vC, vOp, vUn, vTest, vChain, vIsN, vNotN, vAnd, vOr, vNot, vAndV, vIf, vaNil, vaCons, vaAdr, vTup, vLst, vCB, vCall, vCall0, vCl, vCl0, vgName, vgNil, vgCons, vgTup, vgLst, viAny, viEnum, viEnumT, viRev, viRng1, viRng2, vYes, wipeS, vTru, vOrT, vListRg, vBor, vBorT, vSrtSet, vSlT, vPl, vPl0, vPlen, vPlset, Pl.get, Pl.put,
  qI, qI0, qB0, qNeB, qEqD, qNeD, qEqL, qIn, qInE, qU, qCatL, qCatT, qIx, itemD_T, itemD_L, qLen, qList, qTuple, qSum, qAny, qAll, qSortI, qSortTI, qSortE, qAbs, qInt, qMin2, qGcd, qNotB,
  List.length_cons, List.length_nil, List.replicate_succ, List.replicate_zero, List.cons_append, List.nil_append, List.getElem?_cons_zero, List.getElem?_cons_succ, List.set_cons_zero, List.set_cons_succ, Nat.reduceAdd, Nat.reduceSub, Option.some.injEq, SD.fz.injEq, SD.own.injEq, SD.adr.injEq, PyData.int.injEq, PyData.bool.injEq, PyData.tuple.injEq, PyData.list.injEq, exists_eq_left', exists_eq_left, exists_eq, and_true, true_and, unfz, Option.map_some, and_assoc, exists_and_left, List.cons.injEq, Nat.reduceLeDiff,
  List.map_cons, List.map_nil, Int.reduceLE, Int.reduceToNat, if_true, reduceCtorEq, false_or, or_false, exists_false, ↓reduceIte, Nat.zero_le, Int.zero_le_ofNat, Int.reduceNeg])
local macro_rules | `(tactic| walk_at "sc") => `(tactic| try simp only [vLenSc, vSeq, vAsg, vIfS, vRet, vRetN, vRetO, vNext, vPar, vSetO, vApp, vIns, vFrz, vDrop, vNever, vVar, vC, vOp, vUn, vTest, vChain, vIsN, vNotN, vAnd, vOr, vNot, vAndV, vIf, vaNil, vaCons, vaAdr, vTup, vLst, vCB, vCall, vCall0, vCl, vCl0, vgName, vgNil, vgCons, vgTup, vgLst, viAny, viEnum, viEnumT, viRev, viRng1, viRng2, vYes, wipeS, vTru, vOrT, vListRg, vBor, vBorT, vSrtSet, vSlT, vPl, vPl0, vPlen, vPlset, Pl.get, Pl.put,
  qI, qI0, qB0, qNeB, qEqD, qNeD, qEqL, qIn, qInE, qU, qCatL, qCatT, qIx, itemD_T, itemD_L, qLen, qList, qTuple, qSum, qAny, qAll, qSortI, qSortTI, qSortE, qAbs, qInt, qMin2, qGcd, qNotB,
  List.length_cons, List.length_nil, List.replicate_succ, List.replicate_zero, List.cons_append, List.nil_append, List.getElem?_cons_zero, List.getElem?_cons_succ, List.set_cons_zero, List.set_cons_succ, Nat.reduceAdd, Nat.reduceSub, Option.some.injEq, SD.fz.injEq, SD.own.injEq, SD.adr.injEq, PyData.int.injEq, PyData.bool.injEq, PyData.tuple.injEq, PyData.list.injEq, exists_eq_left', exists_eq_left, exists_eq, and_true, true_and, unfz, Option.map_some, and_assoc, exists_and_left, List.cons.injEq, Nat.reduceLeDiff,
  List.map_cons, List.map_nil, Int.reduceLE, Int.reduceToNat, if_true, reduceCtorEq, false_or, or_false, exists_false, ↓reduceIte, Nat.zero_le, Int.zero_le_ofNat, Int.reduceNeg])


theorem Stp.trans {w w1 w2 : Pl} {a b c : Int} (h1 : Stp w a w1) (h2 : Stp w1 b w2) (h : a + b ≤ c) : Stp w c w2 := ⟨h2.ok, by have := h1.b; have := h2.b; omega⟩
theorem Stp.le {w w1 : Pl} {a c : Int} (h1 : Stp w a w1) (h : a ≤ c) : Stp w c w1 := ⟨h1.ok, by have := h1.b; omega⟩
theorem Stp.bud {w w1 : Pl} {a n c : Int} (h1 : Stp w a w1) (hb : Bud w c) (h : a + n ≤ c) : Bud w1 n := ⟨h1.ok, by have := h1.b; have := hb.b; omega⟩
theorem Bud.le {w : Pl} {n c : Int} (hb : Bud w c) (h : n ≤ c) : Bud w n := ⟨hb.ok, by have := hb.b; omega⟩
theorem Bud.z {w : Pl} {c : Int} (hb : Bud w c) : Stp w 0 w := ⟨hb.ok, by omega⟩
theorem flI {i : Int} : Flat (.int i) := Or.inr (Or.inl ⟨_, rfl⟩)
structure WayOk (n : Nat) (v : Way) : Prop where
  a : v.1 ∈ iota n
  b : v.2.1 ∈ iota n
  c : 1 ≤ v.2.2 ∧ v.2.2 ≤ 10000
theorem netOk {n : Nat} {ws : List Way} (h1 : 1 ≤ n) (h2 : n ≤ 12) (h3 : ws.length ≤ 24) (h : ∀ v ∈ ws, WayOk n v) : NetOk n ws := ⟨h1, h2, h3, fun v hv => ⟨(h v hv).a, (h v hv).b⟩, fun v hv => (h v hv).c⟩

def S__law_pick (pl : Addr × Addr) : Spec (WP pl) := fun xs w R => ∃ (ds : List PyData), xs = [.adr pl.1, .fz (.list ds)] ∧ 0 < ds.length ∧ ds.length ≤ 10000 ∧ Bud w 1 ∧ ∀ d w', d ∈ ds → Stp w 1 w' → R d w'
section
variable {P : Program} {w : World} {K : PySem.W.Frag} {mg : Str → Option Value} {base : Heap}
theorem ok__law_pick (T : Tp K mg) : Cal P w K mg base 2 "_law_pick" (spWx K WP S__law_pick) [] := by
  have c__law_draw := ok__law_draw (P := P) (w := w) (base := base) T
  refine calX (0, 0) T.f__law_pick T.g__law_pick sc__law_pick (fun _ _ _ _ _ _ us hl => match us, hl with | [_, _], _ => rfl) (fun pl xs w Q h => ?_) (fun cdv A outer s H E hr => ⟨_, _, fun pl => (dss_one (ds_ret (de_ixK K (de_var 1) (de_clX K (i := pl) c__law_draw hr (by decide) rfl (da_adr 0 (da_cons (de_cb call_len_seq sc_len rfl T.z_len PySem.boot_len (da_cons (de_var 1) da_nil)) da_nil)))))), ?_⟩)
  · obtain ⟨ds, rfl, _⟩ := h; rfl
  · rintro pl xs w Q ⟨ds, rfl, hn, hn2, hb, q⟩
    walk_at "rd"
    refine ⟨ds.length, rfl, by omega, by omega, hb, fun r w' h1 h2 hw => ?_⟩
    refine ⟨r, rfl, ds[r.toNat]'(by omega), ?_, q _ _ (List.getElem_mem _) hw⟩
    rw [if_pos h1]
    exact List.getElem?_eq_getElem _
end
def S__law_cost (pl : Addr × Addr) : Spec (WP pl) := fun xs w R => xs = [.adr pl.1] ∧ Bud w 2 ∧ ∀ c w', 1 ≤ c → c ≤ 10000 → Stp w 2 w' → R (.int c) w'
section
variable {P : Program} {w : World} {K : PySem.W.Frag} {mg : Str → Option Value} {base : Heap}
theorem ok__law_cost (T : Tp K mg) : Cal P w K mg base 2 "_law_cost" (spWx K WP S__law_cost) [] := by
  have c__law_draw := ok__law_draw (P := P) (w := w) (base := base) T
  refine calX (0, 0) T.f__law_cost T.g__law_cost sc__law_cost (fun _ _ _ _ _ _ us hl => match us, hl with | [_], _ => rfl) (fun pl xs w Q h => ?_) (fun cdv A outer s H E hr => ⟨_, _, fun pl => (dss_cons (dset 1 sc__law_cost.nd (de_clX K (i := pl) c__law_draw hr (by decide) rfl (da_adr 0 (da_cons de_int da_nil))))
      (dss_cons (ds_if (dt_cmp op_eq so_eqI (de_var 1) de_int (nomark _)) (dss_one (ds_ret (de_op op_add so_I0 de_int (de_clX K (i := pl) c__law_draw hr (by decide) rfl (da_adr 0 (da_cons de_int da_nil)))))) dss_nil)
      (dss_cons (ds_if (dt_cmp op_lt so_B0 (de_var 1) de_int (nomark _)) (dss_one (ds_ret (de_ixK K (de_lst (da_cons de_int (da_cons de_int (da_cons de_int (da_cons de_int (da_cons de_int da_nil)))))) (de_clX K (i := pl) c__law_draw hr (by decide) rfl (da_adr 0 (da_cons de_int da_nil)))))) dss_nil)
      (dss_one (ds_ret (de_op op_add so_I0 de_int (de_clX K (i := pl) c__law_draw hr (by decide) rfl (da_adr 0 (da_cons de_int da_nil))))))))), ?_⟩)
  · obtain ⟨rfl, _⟩ := h; rfl
  · rintro pl xs w Q ⟨rfl, hb, q⟩
    walk_at "rd"
    refine ⟨8, rfl, by decide, by decide, hb.le (by decide), fun r w1 h1 h2 hw => ?_⟩
    walk_at "rd"
    by_cases c1 : r = 0
    · rw [if_pos (decide_eq_true c1)]
      exact ⟨10000, rfl, by decide, by decide, hw.bud hb (by decide), fun r2 w2 h3 h4 hw2 => ⟨r2, rfl, q _ _ (by omega) (by omega) (hw.trans hw2 (by decide))⟩⟩
    rw [if_neg (by simpa using c1)]
    by_cases c2 : r < 4
    · rw [if_pos (decide_eq_true c2)]
      refine ⟨5, rfl, by decide, by decide, hw.bud hb (by decide), fun r2 w2 h3 h4 hw2 => ?_⟩
      walk_at "rd"
      have hs := hw.trans hw2 (c := 2) (by decide)
      have : r2 = 0 ∨ r2 = 1 ∨ r2 = 2 ∨ r2 = 3 ∨ r2 = 4 := by omega
      rcases this with rfl | rfl | rfl | rfl | rfl
      · exact ⟨_, rfl, q 1 _ (by decide) (by decide) hs⟩
      · exact ⟨_, rfl, q 2 _ (by decide) (by decide) hs⟩
      · exact ⟨_, rfl, q 2 _ (by decide) (by decide) hs⟩
      · exact ⟨_, rfl, q 3 _ (by decide) (by decide) hs⟩
      · exact ⟨_, rfl, q 4 _ (by decide) (by decide) hs⟩
    · rw [if_neg (by simpa using c2)]
      exact ⟨12, rfl, by decide, by decide, hw.bud hb (by decide), fun r2 w2 h3 h4 hw2 => ⟨r2, rfl, q _ _ (by omega) (by omega) (hw.trans hw2 (by decide))⟩⟩
end
def S__law_way (pl : Addr × Addr) : Spec (WP pl) := fun xs w R => ∃ (n : Nat), xs = [.adr pl.1, .fz (.int n)] ∧ 2 ≤ n ∧ n ≤ 12 ∧ Bud w 4 ∧ ∀ v w', WayOk n v → Stp w 4 w' → R (dW v) w'
section
variable {P : Program} {w : World} {K : PySem.W.Frag} {mg : Str → Option Value} {base : Heap}
theorem ok__law_way (T : Tp K mg) : Cal P w K mg base 3 "_law_way" (spWx K WP S__law_way) [] := by
  have c__law_cost := ok__law_cost (P := P) (w := w) (base := base) T
  have c__law_draw := ok__law_draw (P := P) (w := w) (base := base) T
  refine calX (0, 0) T.f__law_way T.g__law_way sc__law_way (fun _ _ _ _ _ _ us hl => match us, hl with | [_, _], _ => rfl) (fun pl xs w Q h => ?_) (fun cdv A outer s H E hr => ⟨_, _, fun pl => (dss_cons (dset 2 sc__law_way.nd (de_clX K (i := pl) c__law_draw hr (by decide) rfl (da_adr 0 (da_cons (de_op op_sub so_I0 (de_var 1) de_int) da_nil))))
      (dss_one (ds_ret (de_tup (da_cons (de_var 2) (da_cons (de_op op_add so_I0 (de_op op_add so_I0 (de_var 2) de_int) (de_clX K (i := pl) c__law_draw hr (by decide) rfl (da_adr 0 (da_cons (de_op op_sub so_I0 (de_op op_sub so_I0 (de_var 1) de_int) (de_var 2)) da_nil)))) (da_cons (de_clX K (i := pl) c__law_cost hr (by decide) rfl (da_adr 0 da_nil)) da_nil))))))), ?_⟩)
  · obtain ⟨n, rfl, _⟩ := h; rfl
  · rintro pl xs w Q ⟨n, rfl, hn, hn2, hb, q⟩
    walk_at "rd"
    refine ⟨n - 1, rfl, by omega, by omega, hb.le (by decide), fun a w1 h1 h2 hw => ?_⟩
    walk_at "rd"
    refine ⟨n - 1 - a, rfl, by omega, by omega, hw.bud hb (by decide), fun r w2 h3 h4 hw2 => ⟨r, rfl, ?_⟩⟩
    refine ⟨rfl, (hw.trans hw2 (c := 2) (by decide)).bud hb (by decide), fun c w3 h5 h6 hw3 => ?_⟩
    exact q (a, a + 1 + r, c) w3 ⟨mem_iota.mpr ⟨h1, by omega⟩, mem_iota.mpr ⟨by show 0 ≤ a + 1 + r; omega, by show a + 1 + r < n; omega⟩, h5, h6⟩ ((hw.trans hw2 (c := 2) (by decide)).trans hw3 (by decide))
end
def J_net (n : Nat) (w0 : Pl) (m ys : Int) (pl : Addr × Addr) (s : List SD) (w : Pl) : Prop := ∃ (vs : List Way) (o5 o6 : SD), s = [.adr pl.1, .fz (.int m), .fz (.int ys), .fz (.int n), .own (vs.map dW), o5, o6] ∧ (∀ v ∈ vs, WayOk n v) ∧ vs.length ≤ 11 ∧ Stp w0 35 w
def J_net1 (n : Nat) (w0 : Pl) (m ys : Int) (pl : Addr × Addr) (i : Nat) (s : List SD) (w : Pl) : Prop := ∃ (vs : List Way) (o5 o6 : SD), s = [.adr pl.1, .fz (.int m), .fz (.int ys), .fz (.int n), .own (vs.map dW), o5, o6] ∧ (∀ v ∈ vs, WayOk n v) ∧ vs.length = i ∧ Stp w0 (2 + i * 3) w
def J_net2 (n : Nat) (w0 : Pl) (m ys : Int) (pl : Addr × Addr) (i : Nat) (s : List SD) (w : Pl) : Prop := ∃ (vs : List Way) (o5 o6 : SD), s = [.adr pl.1, .fz (.int m), .fz (.int ys), .fz (.int n), .own (vs.map dW), o5, o6] ∧ (∀ v ∈ vs, WayOk n v) ∧ vs.length ≤ 11 + i ∧ Stp w0 (36 + i * 5) w
def J_net3 (n : Nat) (w0 : Pl) (m ys : Int) (pl : Addr × Addr) (s : List SD) (w : Pl) : Prop := ∃ (vs : List Way) (o5 o6 : SD), s = [.adr pl.1, .fz (.int m), .fz (.int ys), .fz (.int n), .own (vs.map dW), o5, o6] ∧ (∀ v ∈ vs, WayOk n v) ∧ Stp w0 180 w
def S__law_net (pl : Addr × Addr) : Spec (WP pl) := fun xs w R => ∃ (m ys : Int), xs = [.adr pl.1, .fz (.int m), .fz (.int ys)] ∧ 1 ≤ m ∧ m ≤ 12 ∧ 1 ≤ ys ∧ ys ≤ 24 ∧ Bud w 200 ∧ ∀ n ws w', NetOk n ws → Stp w 200 w' → R (dN n ws) w'
section
variable {P : Program} {w : World} {K : PySem.W.Frag} {mg : Str → Option Value} {base : Heap}
theorem ok__law_net (T : Tp K mg) : Cal P w K mg base 4 "_law_net" (spWx K WP S__law_net) [] := by
  have c__law_cost := ok__law_cost (P := P) (w := w) (base := base) T
  have c__law_draw := ok__law_draw (P := P) (w := w) (base := base) T
  have c__law_way := ok__law_way (P := P) (w := w) (base := base) T
  refine calX (0, 0) T.f__law_net T.g__law_net sc__law_net (fun _ _ _ _ _ _ us hl => match us, hl with | [_, _, _], _ => rfl) (fun pl xs w Q h => ?_) (fun cdv A outer s H E hr => ⟨_, _, fun pl => (dss_cons (dset 3 sc__law_net.nd (de_op op_add so_I0 de_int (de_clX K (i := pl) c__law_draw hr (by decide) rfl (da_adr 0 (da_cons (de_var 1) da_nil)))))
      (dss_cons (dsetO 4 sc__law_net.nd da_nil)
      (dss_cons (ds_if (DW.dt (dw_and (dt_cmp op_gt so_B0 (de_var 3) de_int (nomark _)) (dw_and1 (dt_cmp op_gt so_B0 (de_clX K (i := pl) c__law_draw hr (by decide) rfl (da_adr 0 (da_cons de_int da_nil))) de_int (nomark _))))) (dss_one (ds_for PassesOwn.never rfl (di_rng2 rfl T.z_range (da_cons de_int (da_cons (de_var 3) da_nil))) (dgn 5 sc__law_net.nd) (dss_one (ds_app 4 (da_cons (de_tup (da_cons (de_clX K (i := pl) c__law_draw hr (by decide) rfl (da_adr 0 (da_cons (de_var 5) da_nil))) (da_cons (de_var 5) (da_cons (de_clX K (i := pl) c__law_cost hr (by decide) rfl (da_adr 0 da_nil)) da_nil)))) da_nil))))) dss_nil)
      (dss_cons (ds_if (dt_cmp op_gt so_B0 (de_var 3) de_int (nomark _)) (dss_one (ds_for PassesOwn.never rfl (di_rng1 rfl T.z_range (da_cons (de_bor 4 (nofP pl) (de_clX K (i := pl) c__law_draw hr (by decide) rfl (da_adr 0 (da_cons (de_op op_sub so_I0 (de_op op_add so_I0 (de_var 2) de_int) (de_cb (call_min2 rfl) sc_min2 rfl T.z_min (by decide +kernel) (da_cons (de_var 2) (da_cons (de_cb call_len_seq sc_len rfl T.z_len PySem.boot_len (da_cons (de_var 4) da_nil)) da_nil)))) da_nil)))) da_nil)) (dgn 6 sc__law_net.nd) (dss_one (ds_ins 4 (da_cons (de_bor 4 (nofP pl) (de_clX K (i := pl) c__law_draw hr (by decide) rfl (da_adr 0 (da_cons (de_op op_add so_I0 (de_cb call_len_seq sc_len rfl T.z_len PySem.boot_len (da_cons (de_var 4) da_nil)) de_int) da_nil)))) (da_cons (de_clX K (i := pl) c__law_way hr (by decide) rfl (da_adr 0 (da_cons (de_var 3) da_nil))) da_nil)))))) dss_nil)
      (dss_frz 4 (dss_one (ds_ret (de_tup (da_cons (de_var 3) (da_cons (de_cty call_tuple_of sc_tuple rfl T.z_tuple (by decide +kernel) (da_cons (de_slT K (de_var 4) (de_var 2)) da_nil)) da_nil)))))))))), ?_⟩)
  · obtain ⟨m, ys, rfl, _⟩ := h; rfl
  · rintro pl xs w Q ⟨m, ys, rfl, hm, hm2, hy, hy2, hb, q⟩
    rw [vSeq_eq]
    walk_at "st"
    refine ⟨m, rfl, by omega, by omega, hb.le (by decide), fun r w1 h1 h2 hw => ?_⟩
    obtain ⟨n, hn⟩ : ∃ n : Nat, 1 + r = (n : Int) := ⟨(1 + r).toNat, by omega⟩
    walk_at "st"
    rw [hn, vSeq_eq]
    walk_at "st"
    refine ⟨own_at rfl, ?_⟩
    refine vseq_cut (J_net n w m ys pl) (fun s w2 hJ => ?_) (fun X hX => ?_)
    · obtain ⟨vs, o5, o6, rfl, hv, hl, hw2⟩ := hJ
      refine vseq_cut (J_net3 n w m ys pl) (fun s w3 hJ => ?_) (fun X hX => ?_)
      · obtain ⟨vs, o5, o6, rfl, hv, hw3⟩ := hJ
        walk_at "rd"
        refine ⟨by omega, ?_⟩
        have hk : ∀ v ∈ vs.take ys.toNat, WayOk n v := fun v h => hv v (List.mem_of_mem_take h)
        have := q n (vs.take ys.toNat) w3 (netOk (by omega) (by omega) (by rw [List.length_take]; omega) hk) (hw3.le (by decide))
        rw [dN, dWs, List.map_take] at this
        exact this
      · walk_at "st"
        by_cases c : (1 : Int) < n
        · rw [if_pos (decide_eq_true c)]
          walk_at "stf"
          refine ⟨ys + 1 - (if (vs.map dW).length < ys then ((vs.map dW).length : Int) else ys), rfl, by split <;> omega, by split <;> omega, hw2.bud hb (by decide), fun r2 w3 h3 h4 hw3 => ?_⟩
          have hr2 : r2 ≤ 24 := by revert h4; split <;> omega
          walk_at "stf"
          refine ⟨flI, by omega, by omega, fun i s w4 => J_net2 n w m ys pl i s w4, ⟨vs, _, _, rfl, hv, by omega, (hw2.trans hw3 (by omega))⟩, fun i s w4 d hd hJ => ?_, fun s w4 hJ => ?_⟩
          · obtain ⟨vs, o5, o6, rfl, hv, hl, hw4⟩ := hJ
            obtain ⟨rfl, hi⟩ := rget hd
            walk_at "st"
            refine ⟨((vs.map dW).length : Int) + 1, rfl, by omega, by rw [List.length_map]; omega, hw4.bud hb (by omega), fun a w5 h5 h6 hw5 => ?_⟩
            rw [List.length_map] at h6
            walk_at "st"
            refine ⟨flI, n, rfl, by omega, by omega, (hw4.trans hw5 (Int.le_refl _)).bud hb (by omega), fun v w6 hvo hw6 => ?_⟩
            walk_at "st"
            refine ⟨by rw [List.length_map]; omega, h5, by omega, ?_⟩
            rw [show (vs.map dW).take a.toNat ++ [dW v] ++ (vs.map dW).drop a.toNat = (vs.take a.toNat ++ [v] ++ vs.drop a.toNat).map dW by simp [List.map_take, List.map_drop]]
            refine ⟨_, _, _, rfl, fun u hu => ?_, ?_, (hw4.trans hw5 (Int.le_refl _)).trans hw6 (by omega)⟩
            · rcases List.mem_append.mp hu with hu | hu
              · rcases List.mem_append.mp hu with hu | hu
                · exact hv u (List.mem_of_mem_take hu)
                · simp only [List.mem_singleton] at hu; subst hu; exact hvo
              · exact hv u (List.mem_of_mem_drop hu)
            · simp only [List.length_append, List.length_take, List.length_drop, List.length_singleton]; omega
          · obtain ⟨vs, o5, o6, rfl, hv, hl, hw4⟩ := hJ
            rw [rng_len] at hw4
            exact hX _ _ ⟨vs, _, _, rfl, hv, hw4.le (by omega)⟩
        · rw [if_neg (by simpa using c)]
          exact hX _ _ ⟨vs, _, _, rfl, hv, hw2.le (by decide)⟩
    · walk_at "st"
      by_cases c : (1 : Int) < n
      · rw [if_pos (decide_eq_true c)]
        refine ⟨5, rfl, by decide, by decide, hw.bud hb (by decide), fun r2 w2 h3 h4 hw2 => ?_⟩
        walk_at "st"
        have hs := hw.trans hw2 (c := 2) (by decide)
        by_cases c2 : 0 < r2
        · rw [if_pos (decide_eq_true c2)]
          walk_at "stf"
          refine ⟨by omega, by omega, fun i s w => J_net1 n _ m ys pl i s w, ⟨[], _, _, rfl, by simp, rfl, hs⟩, fun i s w3 d hd hJ => ?_, fun s w3 hJ => ?_⟩
          · obtain ⟨vs, o5, o6, rfl, hv, hl, hw3⟩ := hJ
            obtain ⟨rfl, hi⟩ := rget hd
            walk_at "st"
            refine ⟨1 + i, rfl, by omega, by omega, hw3.bud hb (by omega), fun a w4 h5 h6 hw4 => ?_⟩
            walk_at "st"
            refine ⟨rfl, (hw3.trans hw4 (Int.le_refl _)).bud hb (by omega), fun cc w5 h7 h8 hw5 => ?_⟩
            walk_at "st"
            refine ⟨by rw [List.length_map]; omega, ?_⟩
            rw [show vs.map dW ++ [.tuple [.int a, .int (1 + i), .int cc]] = (vs ++ [(a, 1 + (i : Int), cc)]).map dW by rw [List.map_append]; rfl]
            refine ⟨_, _, _, rfl, fun u hu => ?_, by rw [List.length_append, List.length_singleton, hl], (hw3.trans hw4 (Int.le_refl _)).trans hw5 (by omega)⟩
            rcases List.mem_append.mp hu with hu | hu
            · exact hv u hu
            · simp only [List.mem_singleton] at hu; subst hu; exact ⟨mem_iota.mpr ⟨h5, by omega⟩, mem_iota.mpr ⟨by show (0 : Int) ≤ 1 + i; omega, by show (1 : Int) + i < n; omega⟩, h7, h8⟩
          · obtain ⟨vs, o5, o6, rfl, hv, hl, hw3⟩ := hJ
            rw [rng_len] at hw3 hl
            exact hX _ _ ⟨vs, _, _, rfl, hv, by omega, hw3.le (by omega)⟩
        · rw [if_neg (by simpa using c2)]
          exact hX _ _ ⟨[], _, _, rfl, by simp, by simp, hs.le (by decide)⟩
      · rw [if_neg (by simpa using c)]
        exact hX _ _ ⟨[], _, _, rfl, by simp, by simp, hw.le (by decide)⟩
end
end L2.VL
/-! part F7 -/
set_option Elab.async false
set_option linter.all false
set_option autoImplicit false
set_option maxRecDepth 100000
set_option maxHeartbeats 4000000
namespace L2.VL
open PySem PySem.Spec PyProof.Rows L2 C8 MW
local macro_rules | `(tactic| walk_at "st") => `(tactic| try simp only [vAsg, vIfS, vRet, vRetN, vRetO, vNext, vPar, vSetO, vApp, vIns, vFrz, vDrop, vNever, vVar, vC, vOp, vUn, vTest, vChain, vIsN, vNotN, vAnd, vOr, vNot, vAndV, vIf, vaNil, vaCons, vaAdr, vTup, vLst, vCB, vCall, vCall0, vCl, vCl0, vgName, vgNil, vgCons, vgTup, vgLst, viAny, viEnum, viEnumT, viRev, viRng1, viRng2, vYes, wipeS, vTru, vOrT, vListRg, vBor, vBorT, vSrtSet, vSlT, vPl, vPl0, vPlen, vPlset, Pl.get, Pl.put,
  qI, qI0, qB0, qNeB, qEqD, qNeD, qEqL, qIn, qInE, qU, qCatL, qCatT, qIx, itemD_T, itemD_L, qLen, qList, qTuple, qSum, qAny, qAll, qSortI, qSortTI, qSortE, qAbs, qInt, qMin2, qGcd, qNotB,
  List.length_cons, List.length_nil, List.replicate_succ, List.replicate_zero, List.cons_append, List.nil_append, List.getElem?_cons_zero, List.getElem?_cons_succ, List.set_cons_zero, List.set_cons_succ, Nat.reduceAdd, Nat.reduceSub, Option.some.injEq, SD.fz.injEq, SD.own.injEq, SD.adr.injEq, PyData.int.injEq, PyData.bool.injEq, PyData.tuple.injEq, PyData.list.injEq, exists_eq_left', exists_eq_left, exists_eq, and_true, true_and, unfz, Option.map_some, and_assoc, exists_and_left, List.cons.injEq, Nat.reduceLeDiff,
  List.map_cons, List.map_nil, Int.reduceLE, Int.reduceToNat, if_true, reduceCtorEq, false_or, or_false, exists_false, ↓reduceIte, Nat.zero_le, Int.zero_le_ofNat, Int.reduceNeg])
local macro_rules | `(tactic| walk_at "stf") => `(tactic| try simp only [vFor, vAsg, vIfS, vRet, vRetN, vRetO, vNext, vPar, vSetO, vApp, vIns, vFrz, vDrop, vNever, vVar, vC, vOp, vUn, vTest, vChain, vIsN, vNotN, vAnd, vOr, vNot, vAndV, vIf, vaNil, vaCons, vaAdr, vTup, vLst, vCB, vCall, vCall0, vCl, vCl0, vgName, vgNil, vgCons, vgTup, vgLst, viAny, viEnum, viEnumT, viRev, viRng1, viRng2, vYes, wipeS, vTru, vOrT, vListRg, vBor, vBorT, vSrtSet, vSlT, vPl, vPl0, vPlen, vPlset, Pl.get, Pl.put,
  qI, qI0, qB0, qNeB, qEqD, qNeD, qEqL, qIn, qInE, qU, qCatL, qCatT, qIx, itemD_T, itemD_L, qLen, qList, qTuple, qSum, qAny, qAll, qSortI, qSortTI, qSortE, qAbs, qInt, qMin2, qGcd, qNotB,
  List.length_cons, List.length_nil, List.replicate_succ, List.replicate_zero, List.cons_append, List.nil_append, List.getElem?_cons_zero, List.getElem?_cons_succ, List.set_cons_zero, List.set_cons_succ, Nat.reduceAdd, Nat.reduceSub, Option.some.injEq, SD.fz.injEq, SD.own.injEq, SD.adr.injEq, PyData.int.injEq, PyData.bool.injEq, PyData.tuple.injEq, PyData.list.injEq, exists_eq_left', exists_eq_left, exists_eq, and_true, true_and, unfz, Option.map_some, and_assoc, exists_and_left, List.cons.injEq, Nat.reduceLeDiff,
  List.map_cons, List.map_nil, Int.reduceLE, Int.reduceToNat, if_true, reduceCtorEq, false_or, or_false, exists_false, ↓reduceIte, Nat.zero_le, Int.zero_le_ofNat, Int.reduceNeg])
local macro_rules | `(tactic| walk_at "stl") => `(tactic| try simp only [vLc, vAsg, vIfS, vRet, vRetN, vRetO, vNext, vPar, vSetO, vApp, vIns, vFrz, vDrop, vNever, vVar, vC, vOp, vUn, vTest, vChain, vIsN, vNotN, vAnd, vOr, vNot, vAndV, vIf, vaNil, vaCons, vaAdr, vTup, vLst, vCB, vCall, vCall0, vCl, vCl0, vgName, vgNil, vgCons, vgTup, vgLst, viAny, viEnum, viEnumT, viRev, viRng1, viRng2, vYes, wipeS, vTru, vOrT, vListRg, vBor, vBorT, vSrtSet, vSlT, vPl, vPl0, vPlen, vPlset, Pl.get, Pl.put,
  qI, qI0, qB0, qNeB, qEqD, qNeD, qEqL, qIn, qInE, qU, qCatL, qCatT, qIx, itemD_T, itemD_L, qLen, qList, qTuple, qSum, qAny, qAll, qSortI, qSortTI, qSortE, qAbs, qInt, qMin2, qGcd, qNotB,
  List.length_cons, List.length_nil, List.replicate_succ, List.replicate_zero, List.cons_append, List.nil_append, List.getElem?_cons_zero, List.getElem?_cons_succ, List.set_cons_zero, List.set_cons_succ, Nat.reduceAdd, Nat.reduceSub, Option.some.injEq, SD.fz.injEq, SD.own.injEq, SD.adr.injEq, PyData.int.injEq, PyData.bool.injEq, PyData.tuple.injEq, PyData.list.injEq, exists_eq_left', exists_eq_left, exists_eq, and_true, true_and, unfz, Option.map_some, and_assoc, exists_and_left, List.cons.injEq, Nat.reduceLeDiff,
  List.map_cons, List.map_nil, Int.reduceLE, Int.reduceToNat, if_true, reduceCtorEq, false_or, or_false, exists_false, ↓reduceIte, Nat.zero_le, Int.zero_le_ofNat, Int.reduceNeg])
local macro_rules | `(tactic| walk_at "stw") => `(tactic| try simp only [vWhile, vAsg, vIfS, vRet, vRetN, vRetO, vNext, vPar, vSetO, vApp, vIns, vFrz, vDrop, vNever, vVar, vC, vOp, vUn, vTest, vChain, vIsN, vNotN, vAnd, vOr, vNot, vAndV, vIf, vaNil, vaCons, vaAdr, vTup, vLst, vCB, vCall, vCall0, vCl, vCl0, vgName, vgNil, vgCons, vgTup, vgLst, viAny, viEnum, viEnumT, viRev, viRng1, viRng2, vYes, wipeS, vTru, vOrT, vListRg, vBor, vBorT, vSrtSet, vSlT, vPl, vPl0, vPlen, vPlset, Pl.get, Pl.put,
  qI, qI0, qB0, qNeB, qEqD, qNeD, qEqL, qIn, qInE, qU, qCatL, qCatT, qIx, itemD_T, itemD_L, qLen, qList, qTuple, qSum, qAny, qAll, qSortI, qSortTI, qSortE, qAbs, qInt, qMin2, qGcd, qNotB,
  List.length_cons, List.length_nil, List.replicate_succ, List.replicate_zero, List.cons_append, List.nil_append, List.getElem?_cons_zero, List.getElem?_cons_succ, List.set_cons_zero, List.set_cons_succ, Nat.reduceAdd, Nat.reduceSub, Option.some.injEq, SD.fz.injEq, SD.own.injEq, SD.adr.injEq, PyData.int.injEq, PyData.bool.injEq, PyData.tuple.injEq, PyData.list.injEq, exists_eq_left', exists_eq_left, exists_eq, and_true, true_and, unfz, Option.map_some, and_assoc, exists_and_left, List.cons.injEq, Nat.reduceLeDiff,
  List.map_cons, List.map_nil, Int.reduceLE, Int.reduceToNat, if_true, reduceCtorEq, false_or, or_false, exists_false, ↓reduceIte, Nat.zero_le, Int.zero_le_ofNat, Int.reduceNeg])
local macro_rules | `(tactic| walk_at "rd") => `(tactic| try simp only [vSeq, vAsg, vIfS, vRet, vRetN, vRetO, vNext, vPar, vSetO, vApp, vIns, vFrz, vDrop, vNever, vVar, vC, vOp, vUn, vTest, vChain, vIsN, vNotN, vAnd, vOr, vNot, vAndV, vIf, vaNil, vaCons, vaAdr, vTup, vLst, vCB, vCall, vCall0, vCl, vCl0, vgName, vgNil, vgCons, vgTup, vgLst, viAny, viEnum, viEnumT, viRev, viRng1, viRng2, vYes, wipeS, vTru, vOrT, vListRg, vBor, vBorT, vSrtSet, vSlT, vPl, vPl0, vPlen, vPlset, Pl.get, Pl.put,
  qI, qI0, qB0, qNeB, qEqD, qNeD, qEqL, qIn, qInE, qU, qCatL, qCatT, qIx, itemD_T, itemD_L, qLen, qList, qTuple, qSum, qAny, qAll, qSortI, qSortTI, qSortE, qAbs, qInt, qMin2, qGcd, qNotB,
  List.length_cons, List.length_nil, List.replicate_succ, List.replicate_zero, List.cons_append, List.nil_append, List.getElem?_cons_zero, List.getElem?_cons_succ, List.set_cons_zero, List.set_cons_succ, Nat.reduceAdd, Nat.reduceSub, Option.some.injEq, SD.fz.injEq, SD.own.injEq, SD.adr.injEq, PyData.int.injEq, PyData.bool.injEq, PyData.tuple.injEq, PyData.list.injEq, exists_eq_left', exists_eq_left, exists_eq, and_true, true_and, unfz, Option.map_some, and_assoc, exists_and_left, List.cons.injEq, Nat.reduceLeDiff,
  List.map_cons, List.map_nil, Int.reduceLE, Int.reduceToNat, if_true, reduceCtorEq, false_or, or_false, exists_false, ↓reduceIte, Nat.zero_le, Int.zero_le_ofNat, Int.reduceNeg])
local macro_rules | `(tactic| walk_at "lc") => `(tactic| try simp only [vLc, vSeq, vAsg, vIfS, vRet, vRetN, vRetO, vNext, vPar, vSetO, vApp, vIns, vFrz, vDrop, vNever, vVar, vC, vOp, vUn, vTest, vChain, vIsN, vNotN, vAnd, vOr, vNot, vAndV, vIf, vaNil, vaCons, vaAdr, vTup, vLst, vCB, vCall, vCall0, vCl, vCl0, vgName, vgNil, vgCons, vgTup, vgLst, viAny, viEnum, viEnumT, viRev, viRng1, viRng2, vYes, wipeS, vTru, vOrT, vListRg, vBor, vBorT, vSrtSet, vSlT, vPl, vPl0, vPlen, vPlset, Pl.get, Pl.put,
  qI, qI0, qB0, qNeB, qEqD, qNeD, qEqL, qIn, qInE, qU, qCatL, qCatT, qIx, itemD_T, itemD_L, qLen, qList, qTuple, qSum, qAny, qAll, qSortI, qSortTI, qSortE, qAbs, qInt, qMin2, qGcd, qNotB,
  List.length_cons, List.length_nil, List.replicate_succ, List.replicate_zero, List.cons_append, List.nil_append, List.getElem?_cons_zero, List.getElem?_cons_succ, List.set_cons_zero, List.set_cons_succ, Nat.reduceAdd, Nat.reduceSub, Option.some.injEq, SD.fz.injEq, SD.own.injEq, SD.adr.injEq, PyData.int.injEq, PyData.bool.injEq, PyData.tuple.injEq, PyData.list.injEq, exists_eq_left', exists_eq_left, exists_eq, and_true, true_and, unfz, Option.map_some, and_assoc, exists_and_left, List.cons.injEq, Nat.reduceLeDiff,
  List.map_cons, List.map_nil, Int.reduceLE, Int.reduceToNat, if_true, reduceCtorEq, false_or, or_false, exists_false, ↓reduceIte, Nat.zero_le, Int.zero_le_ofNat, Int.reduceNeg])
local macro_rules | `(tactic| walk_at "fo") => `(tactic| try simp only [vFor, vSeq, vAsg, vIfS, vRet, vRetN, vRetO, vNext, vPar, vSetO, vApp, vIns, vFrz, vDrop, vNever, vVar, vC, vOp, vUn, vTest, vChain, vIsN, vNotN, vAnd, vOr, vNot, vAndV, vIf, vaNil, vaCons, vaAdr, vTup, vLst, vCB, vCall, vCall0, vCl, vCl0, vgName, vgNil, vgCons, vgTup, vgLst, viAny, viEnum, viEnumT, viRev, viRng1, viRng2, vYes, wipeS, vTru, vOrT, vListRg, vBor, vBorT, vSrtSet, vSlT, vPl, vPl0, vPlen, vPlset, Pl.get, Pl.put,
  qI, qI0, qB0, qNeB, qEqD, qNeD, qEqL, qIn, qInE, qU, qCatL, qCatT, qIx, itemD_T, itemD_L, qLen, qList, qTuple, qSum, qAny, qAll, qSortI, qSortTI, qSortE, qAbs, qInt, qMin2, qGcd, qNotB,
  List.length_cons, List.length_nil, List.replicate_succ, List.replicate_zero, List.cons_append, List.nil_append, List.getElem?_cons_zero, List.getElem?_cons_succ, List.set_cons_zero, List.set_cons_succ, Nat.reduceAdd, Nat.reduceSub, Option.some.injEq, SD.fz.injEq, SD.own.injEq, SD.adr.injEq, PyData.int.injEq, PyData.bool.injEq, PyData.tuple.injEq, PyData.list.injEq, exists_eq_left', exists_eq_left, exists_eq, and_true, true_and, unfz, Option.map_some, and_assoc, exists_and_left, List.cons.injEq, Nat.reduceLeDiff,
  List.map_cons, List.map_nil, Int.reduceLE, Int.reduceToNat, if_true, reduceCtorEq, false_or, or_false, exists_false, ↓reduceIte, Nat.zero_le, Int.zero_le_ofNat, Int.reduceNeg])
local macro_rules | `(tactic| walk_at "wh") => `(tactic| try simp only [vWhile, vSeq, vAsg, vIfS, vRet, vRetN, vRetO, vNext, vPar, vSetO, vApp, vIns, vFrz, vDrop, vNever, vVar, vC, vOp, vUn, vTest, vChain, vIsN, vNotN, vAnd, vOr, vNot, vAndV, vIf, vaNil, vaCons, vaAdr, vTup, vLst, vCB, vCall, vCall0, vCl, vCl0, vgName, vgNil, vgCons, vgTup, vgLst, viAny, viEnum, viEnumT, viRev, viRng1, viRng2, vYes, wipeS, vTru, vOrT, vListRg, vBor, vBorT, vSrtSet, vSlT, vPl, vPl0, vPlen, vPlset, Pl.get, Pl.put,
  qI, qI0, qB0, qNeB, qEqD, qNeD, qEqL, qIn, qInE, qU, qCatL, qCatT, qIx, itemD_T, itemD_L, qLen, qList, qTuple, qSum, qAny, qAll, qSortI, qSortTI, qSortE, qAbs, qInt, qMin2, qGcd, qNotB,
  List.length_cons, List.length_nil, List.replicate_succ, List.replicate_zero, List.cons_append, List.nil_append, List.getElem?_cons_zero, List.getElem?_cons_succ, List.set_cons_zero, List.set_cons_succ, Nat.reduceAdd, Nat.reduceSub, Option.some.injEq, SD.fz.injEq, SD.own.injEq, SD.adr.injEq, PyData.int.injEq, PyData.bool.injEq, PyData.tuple.injEq, PyData.list.injEq, exists_eq_left', exists_eq_left, exists_eq, and_true, true_and, unfz, Option.map_some, and_assoc, exists_and_left, List.cons.injEq, Nat.reduceLeDiff,
  List.map_cons, List.map_nil, Int.reduceLE, Int.reduceToNat, if_true, reduceCtorEq, false_or, or_false, exists_false, ↓reduceIte, Nat.zero_le, Int.zero_le_ofNat, Int.reduceNeg])
local macro_rules | `(tactic| walk_at "sc") => `(tactic| try simp only [vLenSc, vSeq, vAsg, vIfS, vRet, vRetN, vRetO, vNext, vPar, vSetO, vApp, vIns, vFrz, vDrop, vNever, vVar, vC, vOp, vUn, vTest, vChain, vIsN, vNotN, vAnd, vOr, vNot, vAndV, vIf, vaNil, vaCons, vaAdr, vTup, vLst, vCB, vCall, vCall0, vCl, vCl0, vgName, vgNil, vgCons, vgTup, vgLst, viAny, viEnum, viEnumT, viRev, viRng1, viRng2, vYes, wipeS, vTru, vOrT, vListRg, vBor, vBorT, vSrtSet, vSlT, vPl, vPl0, vPlen, vPlset, Pl.get, Pl.put,
  qI, qI0, qB0, qNeB, qEqD, qNeD, qEqL, qIn, qInE, qU, qCatL, qCatT, qIx, itemD_T, itemD_L, qLen, qList, qTuple, qSum, qAny, qAll, qSortI, qSortTI, qSortE, qAbs, qInt, qMin2, qGcd, qNotB,
  List.length_cons, List.length_nil, List.replicate_succ, List.replicate_zero, List.cons_append, List.nil_append, List.getElem?_cons_zero, List.getElem?_cons_succ, List.set_cons_zero, List.set_cons_succ, Nat.reduceAdd, Nat.reduceSub, Option.some.injEq, SD.fz.injEq, SD.own.injEq, SD.adr.injEq, PyData.int.injEq, PyData.bool.injEq, PyData.tuple.injEq, PyData.list.injEq, exists_eq_left', exists_eq_left, exists_eq, and_true, true_and, unfz, Option.map_some, and_assoc, exists_and_left, List.cons.injEq, Nat.reduceLeDiff,
  List.map_cons, List.map_nil, Int.reduceLE, Int.reduceToNat, if_true, reduceCtorEq, false_or, or_false, exists_false, ↓reduceIte, Nat.zero_le, Int.zero_le_ofNat, Int.reduceNeg])


def dPair : Int × Int → List Int := fun p => [p.1, p.2]
theorem dPs_dT (ps : List (Int × Int)) : ps.map dP = (ps.map dPair).map dT := by rw [List.map_map]; rfl
def J_prs (n : Nat) (w0 : Pl) (k : Int) (pl : Addr × Addr) (i : Nat) (s : List SD) (w : Pl) : Prop := ∃ (ps : List (Int × Int)) (o4 o5 o6 : SD), s = [.adr pl.1, .fz (.int n), .fz (.int k), .own (ps.map dP), o4, o5, o6] ∧ PairsOk n ps ∧ ps.length ≤ i ∧ Stp w0 (1 + i * 2) w
theorem pairs_snoc {n : Nat} {ps : List (Int × Int)} (h : PairsOk n ps) {p : Int × Int} (h1 : p.1 ∈ iota n) (h2 : p.2 ∈ iota n) : PairsOk n (ps ++ [p]) := fun q hq => by
  rcases List.mem_append.mp hq with hq | hq
  · exact h q hq
  · simp only [List.mem_singleton] at hq; subst hq; exact ⟨h1, h2⟩
def wholeL (ws : List Way) : List Int := iota ws.length
theorem whole_in (ws : List Way) : InR ws (wholeL ws) := fun i hi => mem_iota.mp hi
theorem jn_each {ws : List Way} {is : List Int} {ps : List (Int × Int)} (h : ∀ p ∈ ps, Reach ws is p.1 p.2) : Jn ws is ps := fun S hS p hp => h p hp S hS

def S__law_pairs (pl : Addr × Addr) : Spec (WP pl) := fun xs w R => ∃ (n : Nat) (k : Int), xs = [.adr pl.1, .fz (.int n), .fz (.int k)] ∧ 1 ≤ n ∧ n ≤ 12 ∧ 0 ≤ k ∧ k ≤ 6 ∧ Bud w 13 ∧ ∀ ps w', PairsOk n ps → ps.length ≤ 6 → Stp w 13 w' → R (dPs ps) w'
section
variable {P : Program} {w : World} {K : PySem.W.Frag} {mg : Str → Option Value} {base : Heap}
theorem ok__law_pairs (T : Tp K mg) : Cal P w K mg base 2 "_law_pairs" (spWx K WP S__law_pairs) [] := by
  have c__law_draw := ok__law_draw (P := P) (w := w) (base := base) T
  refine calX (0, 0) T.f__law_pairs T.g__law_pairs sc__law_pairs (fun _ _ _ _ _ _ us hl => match us, hl with | [_, _, _], _ => rfl) (fun pl xs w Q h => ?_) (fun cdv A outer s H E hr => ⟨_, _, fun pl => (dss_cons (dsetO 3 sc__law_pairs.nd da_nil)
      (dss_cons (ds_for PassesOwn.never rfl (di_rng1 rfl T.z_range (da_cons (de_clX K (i := pl) c__law_draw hr (by decide) rfl (da_adr 0 (da_cons (de_op op_add so_I0 (de_var 2) de_int) da_nil))) da_nil)) (dgn 4 sc__law_pairs.nd) (dss_one (ds_if (dt_cmp op_gt so_B0 (de_var 1) de_int (nomark _)) (dss_cons (dset 5 sc__law_pairs.nd (de_clX K (i := pl) c__law_draw hr (by decide) rfl (da_adr 0 (da_cons (de_op op_sub so_I0 (de_var 1) de_int) da_nil))))
      (dss_cons (dset 6 sc__law_pairs.nd (de_tup (da_cons (de_var 5) (da_cons (de_op op_add so_I0 (de_op op_add so_I0 (de_var 5) de_int) (de_clX K (i := pl) c__law_draw hr (by decide) rfl (da_adr 0 (da_cons (de_op op_sub so_I0 (de_op op_sub so_I0 (de_var 1) de_int) (de_var 5)) da_nil)))) da_nil))))
      (dss_one (ds_if (dt_bor 3 (nofP pl) (dt_cmp (op_notInEK K (hu65 hr)) so_inE (de_var 6) (de_var 3) (by with_unfolding_all rfl))) (dss_one (ds_app 3 (da_cons (de_var 6) da_nil))) dss_nil)))) dss_nil)))
      (dss_frz 3 (dss_one (ds_ret (de_cty call_tuple_of sc_tuple rfl T.z_tuple (by decide +kernel) (da_cons (de_var 3) da_nil))))))), ?_⟩)
  · obtain ⟨n, k, rfl, _⟩ := h; rfl
  · rintro pl xs w Q ⟨n, k, rfl, hn, hn2, hk, hk2, hb, q⟩
    walk_at "rd"
    refine ⟨own_at rfl, ?_⟩
    walk_at "fo"
    refine ⟨k + 1, rfl, by omega, by omega, hb.le (by decide), fun r w1 h1 h2 hw => ?_⟩
    walk_at "fo"
    refine ⟨by omega, by omega, fun i s w1 => J_prs n w k pl i s w1, ⟨[], _, _, _, rfl, fun p hp => by simp at hp, by simp, hw⟩, fun i s w2 d hd hJ => ?_, fun s w2 hJ => ?_⟩
    · obtain ⟨ps, o4, o5, o6, rfl, hp, hl, hw2⟩ := hJ
      obtain ⟨rfl, hi⟩ := rget hd
      walk_at "st"
      by_cases c : (1 : Int) < n
      · rw [if_pos (decide_eq_true c)]
        walk_at "rd"
        refine ⟨n - 1, rfl, by omega, by omega, hw2.bud hb (by omega), fun a w3 h3 h4 hw3 => ?_⟩
        walk_at "rd"
        refine ⟨n - 1 - a, rfl, by omega, by omega, (hw2.trans hw3 (Int.le_refl _)).bud hb (by omega), fun b w4 h5 h6 hw4 => ?_⟩
        walk_at "rd"
        have hs := (hw2.trans hw3 (Int.le_refl _)).trans hw4 (c := 1 + ((i + 1 : Nat) : Int) * 2) (by omega)
        refine ⟨[a, a + 1 + b], rfl, ps.map dPair, dPs_dT ps, ?_⟩
        by_cases cc : [a, a + 1 + b] ∈ ps.map dPair
        · rw [if_neg (by simp [cc])]
          exact ⟨ps, _, _, _, rfl, hp, by omega, hs⟩
        · rw [if_pos (by simp [cc])]
          refine ⟨by rw [List.length_map]; omega, ?_⟩
          rw [show ps.map dP ++ [.tuple [.int a, .int (a + 1 + b)]] = (ps ++ [(a, a + 1 + b)]).map dP by rw [List.map_append]; rfl]
          exact ⟨_, _, _, _, rfl, pairs_snoc hp (mem_iota.mpr ⟨h3, by omega⟩) (mem_iota.mpr ⟨by show 0 ≤ a + 1 + b; omega, by show a + 1 + b < n; omega⟩), by rw [List.length_append, List.length_singleton]; omega, hs⟩
      · rw [if_neg (by simpa using c)]
        exact ⟨ps, _, _, _, rfl, hp, by omega, hw2.le (by omega)⟩
    · obtain ⟨ps, o4, o5, o6, rfl, hp, hl, hw2⟩ := hJ
      rw [rng_len] at hl hw2
      walk_at "rd"
      exact q ps w2 hp (by omega) (hw2.le (by omega))
end
def I_tsk (ws : List Way) (ps : List (Int × Int)) (w : Pl) (i : Nat) (acc : List PyData) (w' : Pl) : Prop := w' = w ∧ ∃ qs : List (Int × Int), acc = qs.map dP ∧ (∀ p ∈ qs, p ∈ ps ∧ Reach ws (wholeL ws) p.1 p.2) ∧ qs.length ≤ i
def S__law_task (pl : Addr × Addr) : Spec (WP pl) := fun xs w R => ∃ (m ys : Int), xs = [.adr pl.1, .fz (.int m), .fz (.int ys)] ∧ 1 ≤ m ∧ m ≤ 12 ∧ 1 ≤ ys ∧ ys ≤ 24 ∧ Bud w 220 ∧ ∀ n ws ps w', NetOk n ws → PairsOk n ps → ps.length ≤ 6 → Jn ws (wholeL ws) ps → Stp w 220 w' → R (.tuple [dN n ws, dPs ps]) w'
section
variable {P : Program} {w : World} {K : PySem.W.Frag} {mg : Str → Option Value} {base : Heap}
theorem ok__law_task (T : Tp K mg) : Cal P w K mg base 5 "_law_task" (spWx K WP S__law_task) [] := by
  have c__law_joins := ok__law_joins (P := P) (w := w) (base := base) T
  have c__law_net := ok__law_net (P := P) (w := w) (base := base) T
  have c__law_pairs := ok__law_pairs (P := P) (w := w) (base := base) T
  refine calX (0, 0) T.f__law_task T.g__law_task sc__law_task (fun _ _ _ _ _ _ us hl => match us, hl with | [_, _, _], _ => rfl) (fun pl xs w Q h => ?_) (fun cdv A outer s H E hr => ⟨_, _, fun pl => (dss_cons (dset 3 sc__law_task.nd (de_clX K (i := pl) c__law_net hr (by decide) rfl (da_adr 0 (da_cons (de_var 1) (da_cons (de_var 2) da_nil)))))
      (dss_cons (dset 4 sc__law_task.nd (de_clX K (i := pl) c__law_pairs hr (by decide) rfl (da_adr 0 (da_cons (de_ixK K (de_var 3) de_int) (da_cons de_int da_nil)))))
      (dss_cons (dset 5 sc__law_task.nd (de_lc (own := [("_law_k", 6)]) rfl sc__law_task.nd (di_rng1 rfl T.z_range (da_cons (de_cb call_len_seq sc_len rfl T.z_len PySem.boot_len (da_cons (de_ixK K (de_var 3) de_int) da_nil)) da_nil)) (blkOk_by (by kernel_rfl)) (fun _ _ _ _ _ => (dgn 6 sc__law_task.nd)) (fun _ _ _ _ _ => dts_nil) (fun _ _ _ _ _ => (de_var 6)) go_name))
      (dss_one (ds_ret (de_tup (da_cons (de_var 3) (da_cons (de_cty call_tuple_of sc_tuple rfl T.z_tuple (by decide +kernel) (da_cons (de_lc (own := [("_law_pair", 7)]) rfl sc__law_task.nd (di_seqK K (de_var 4)) (blkOk_by (by kernel_rfl)) (fun _ _ _ _ _ => (dgn 7 sc__law_task.nd)) (fun _ _ _ _ _ => (dts_one (dt_val (de_cl0K K c__law_joins hr (by decide) rfl (da_cons (de_var 3) (da_cons (de_tup (da_cons (de_var 7) da_nil)) (da_cons (de_var 5) da_nil))))))) (fun _ _ _ _ _ => (de_var 7)) go_name) da_nil)) da_nil)))))))), ?_⟩)
  · obtain ⟨m, ys, rfl, _⟩ := h; rfl
  · rintro pl xs w Q ⟨m, ys, rfl, hm, hm2, hy, hy2, hb, q⟩
    walk_at "rd"
    refine ⟨m, ys, rfl, hm, hm2, hy, hy2, hb.le (by decide), fun n ws w1 hn hw => ?_⟩
    simp only [dN, dWs]
    walk_at "rd"
    have hn1 := hn.n1
    have hn2 := hn.n2
    have hn3 := hn.wl
    refine ⟨n, 6, rfl, hn1, hn2, by decide, by decide, hw.bud hb (by decide), fun ps w2 hp hl hw2 => ?_⟩
    have hs := hw.trans hw2 (c := 220) (by decide)
    walk_at "lc"
    rw [rng0, List.length_map, Int.toNat_natCast]
    refine ⟨by omega, by omega, lc_pure (iota ws.length) .int (fun _ => true) .int (by rw [iota_len]; omega) (fun I j acc x hx h => h) ?_⟩
    rw [filter_tt]
    simp only [dPs]
    walk_at "lc"
    refine ⟨by rw [List.length_map]; omega, fun i acc w' => I_tsk ws ps w2 i acc w', ⟨rfl, [], rfl, fun p hp => by simp at hp, by simp⟩, fun i d acc w' hd ⟨e, qs, ea, hq, hql⟩ => ?_, fun acc w' ⟨e, qs, ea, hq, hql⟩ => ?_⟩
    · obtain ⟨p, hx, rfl⟩ := mget hd
      walk_at "rd"
      have hpm := List.mem_of_getElem? hx
      refine ⟨n, ws, [p], .list ((iota ws.length).map .int), wholeL ws, rfl, hn, Or.inl rfl, whole_in ws, fun p' hp' => by simp only [List.mem_singleton] at hp'; subst hp'; exact hp p' hpm, by simp, fun b hb => ⟨b, rfl, ?_⟩⟩
      cases b with
      | true =>
        rw [if_pos rfl]
        refine ⟨e, qs ++ [p], by rw [ea, List.map_append]; rfl, fun p' hp' => ?_, by rw [List.length_append, List.length_singleton]; omega⟩
        rcases List.mem_append.mp hp' with h | h
        · exact hq p' h
        · simp only [List.mem_singleton] at h; subst h; exact ⟨hpm, fun S hS => hb rfl S hS p' (by simp)⟩
      | false =>
        rw [if_neg (by decide)]
        exact ⟨e, qs, ea, hq, by omega⟩
    · subst e ea
      rw [List.length_map] at hql
      exact fun _ => q n ws qs w' hn (fun p hp' => hp p (hq p hp').1) (by omega) (jn_each fun p hp' => (hq p hp').2) hs
end
def S__law_any_task (pl : Addr × Addr) : Spec (WP pl) := fun xs w R => xs = [.adr pl.1] ∧ Bud w 222 ∧ ∀ n ws ps w', NetOk n ws → PairsOk n ps → ps.length ≤ 6 → Jn ws (wholeL ws) ps → Stp w 222 w' → R (.tuple [dN n ws, dPs ps]) w'
section
variable {P : Program} {w : World} {K : PySem.W.Frag} {mg : Str → Option Value} {base : Heap}
theorem ok__law_any_task (T : Tp K mg) : Cal P w K mg base 6 "_law_any_task" (spWx K WP S__law_any_task) [] := by
  have c__law_pick := ok__law_pick (P := P) (w := w) (base := base) T
  have c__law_task := ok__law_task (P := P) (w := w) (base := base) T
  refine calX (0, 0) T.f__law_any_task T.g__law_any_task sc__law_any_task (fun _ _ _ _ _ _ us hl => match us, hl with | [_], _ => rfl) (fun pl xs w Q h => ?_) (fun cdv A outer s H E hr => ⟨_, _, fun pl => (dss_one (ds_ret (de_clX K (i := pl) c__law_task hr (by decide) rfl (da_adr 0 (da_cons (de_clX K (i := pl) c__law_pick hr (by decide) rfl (da_adr 0 (da_cons (de_lst (da_cons de_int (da_cons de_int (da_cons de_int da_nil)))) da_nil))) (da_cons (de_clX K (i := pl) c__law_pick hr (by decide) rfl (da_adr 0 (da_cons (de_lst (da_cons de_int (da_cons de_int (da_cons de_int da_nil)))) da_nil))) da_nil)))))), ?_⟩)
  · obtain ⟨rfl, _⟩ := h; rfl
  · rintro pl xs w Q ⟨rfl, hb, q⟩
    walk_at "rd"
    refine ⟨_, rfl, by decide, by decide, hb.le (by decide), fun d w1 hd hw => ?_⟩
    walk_at "rd"
    refine ⟨_, rfl, by decide, by decide, hw.bud hb (by decide), fun e w2 he hw2 => ?_⟩
    have hs := hw.trans hw2 (c := 2) (by decide)
    obtain ⟨m, rfl, hm⟩ : ∃ m : Int, d = .int m ∧ 1 ≤ m ∧ m ≤ 12 := by
      simp only [List.mem_cons, List.not_mem_nil, or_false] at hd
      rcases hd with rfl | rfl | rfl <;> exact ⟨_, rfl, by decide, by decide⟩
    obtain ⟨y, rfl, hy⟩ : ∃ m : Int, e = .int m ∧ 1 ≤ m ∧ m ≤ 24 := by
      simp only [List.mem_cons, List.not_mem_nil, or_false] at he
      rcases he with rfl | rfl | rfl <;> exact ⟨_, rfl, by decide, by decide⟩
    exact ⟨m, y, rfl, hm.1, hm.2, hy.1, hy.2, hs.bud hb (by decide), fun n ws ps w3 h1 h2 h3 h4 hw3 => q n ws ps w3 h1 h2 h3 h4 (hs.trans hw3 (by decide))⟩
end
def S__law_set (pl : Addr × Addr) : Spec (WP pl) := fun xs w R => ∃ (n : Nat), xs = [.adr pl.1, .fz (.int n)] ∧ 1 ≤ n ∧ n ≤ 12 ∧ Bud w 13 ∧ ∀ (g : List Int) w', g ≠ [] → (∀ x ∈ g, x ∈ iota n) → g.Pairwise (· < ·) → Stp w 13 w' → R (dT g) w'
section
variable {P : Program} {w : World} {K : PySem.W.Frag} {mg : Str → Option Value} {base : Heap}
theorem ok__law_set (T : Tp K mg) : Cal P w K mg base 2 "_law_set" (spWx K WP S__law_set) [] := by
  have c__law_draw := ok__law_draw (P := P) (w := w) (base := base) T
  refine calX (0, 0) T.f__law_set T.g__law_set sc__law_set (fun _ _ _ _ _ _ us hl => match us, hl with | [_, _], _ => rfl) (fun pl xs w Q h => ?_) (fun cdv A outer s H E hr => ⟨_, _, fun pl => (dss_cons (ds_setLc (i := 2) (own := [("_law_place", 3)]) rfl sc__law_set.nd rfl rfl (sw_true rfl rfl rfl (by decide +kernel)) (di_rng1 rfl T.z_range (da_cons (de_var 1) da_nil)) (blkOk_by (by kernel_rfl)) (fun _ _ _ _ _ => (dgn 3 sc__law_set.nd)) (fun _ _ _ _ _ => (dts_one (dt_cmp op_eq so_eqI (de_clX K (i := pl) c__law_draw hr (by decide) rfl (da_adr 0 (da_cons de_int da_nil))) de_int (nomark _)))) (fun _ _ _ _ _ => (de_var 3)) go_name)
      (dss_cons (ds_if (dt_cmp op_eq so_eqI (de_cb call_len_seq sc_len rfl T.z_len PySem.boot_len (da_cons (de_var 2) da_nil)) de_int (nomark _)) (dss_one (dset 2 sc__law_set.nd (de_lst (da_cons (de_clX K (i := pl) c__law_draw hr (by decide) rfl (da_adr 0 (da_cons (de_var 1) da_nil))) da_nil)))) dss_nil)
      (dss_one (ds_ret (de_cty call_tuple_of sc_tuple rfl T.z_tuple (by decide +kernel) (da_cons (de_var 2) da_nil)))))), ?_⟩)
  · obtain ⟨n, rfl, _⟩ := h; rfl
  · rintro pl xs w Q ⟨n, rfl, hn, hn2, hb, q⟩
    walk_at "lc"
    rw [rng0, Int.toNat_natCast]
    refine ⟨by omega, by omega, by rw [List.length_map, iota_len]; omega, fun i acc w' => ∃ g : List Int, acc = g.map .int ∧ g.Sublist ((iota n).take i) ∧ Stp w i w', ⟨[], rfl, by simp, hb.z⟩, fun i d acc w' hd ⟨g, ea, hg, hw⟩ => ?_, fun acc w' ⟨g, ea, hg, hw⟩ => ?_⟩
    · obtain ⟨x, hx, rfl⟩ := mget hd
      have hi : i < n := by
        have := (List.getElem?_eq_some_iff.mp hx).1
        rwa [iota_len] at this
      walk_at "rd"
      refine ⟨3, rfl, by decide, by decide, hw.bud hb (by omega), fun r w2 h1 h2 hw2 => ⟨r, rfl, ?_⟩⟩
      have hs := hw.trans hw2 (c := ((i + 1 : Nat) : Int)) (by omega)
      have ht : (iota n).take (i + 1) = (iota n).take i ++ [x] := by rw [List.take_add_one, hx]; rfl
      by_cases c : r = 0
      · rw [if_pos (decide_eq_true c)]
        refine ⟨g ++ [x], by rw [ea, List.map_append]; rfl, ?_, hs⟩
        rw [ht]
        exact hg.append (List.Sublist.refl _)
      · rw [if_neg (by simpa using c)]
        refine ⟨g, ea, ?_, hs⟩
        rw [ht]
        exact hg.trans (List.sublist_append_left _ _)
    · subst ea
      rw [List.length_map, iota_len] at hg hw
      rw [List.take_of_length_le (by rw [iota_len]; exact Nat.le_refl _)] at hg
      intro _
      rw [List.length_map]
      by_cases c : g = []
      · subst c
        rw [if_pos (by simp)]
        refine ⟨n, rfl, by omega, by omega, hw.bud hb (by omega), fun r w2 h1 h2 hw2 => ?_⟩
        walk_at "rd"
        exact q [r] w2 (by simp) (fun x hx => by simp only [List.mem_singleton] at hx; subst hx; exact mem_iota.mpr ⟨h1, h2⟩) (List.pairwise_singleton _ _) (hw.trans hw2 (by omega))
      · rw [if_neg (by simpa using c)]
        exact q g w' c (fun x hx => hg.subset hx) ((iota_sorted n).sublist hg) (hw.le (by omega))
end
def J_jo1 (n : Nat) (ws : List Way) (ps : List (Int × Int)) (w0 : Pl) (pl : Addr × Addr) (i : Nat) (s : List SD) (w : Pl) : Prop := ∃ (os : List Int) (o5 : SD), s = [.adr pl.1, .fz (dN n ws), .fz (dPs ps), .fz (.list ((iota ws.length).map .int)), .own (os.map .int), o5, .un, .un, .un] ∧ os.length = i ∧ Stp w0 i w
def J_jo2 (n : Nat) (ws : List Way) (ps : List (Int × Int)) (w1 : Pl) (os : List Int) (pl : Addr × Addr) (s : List SD) (w : Pl) : Prop := w = w1 ∧ ∃ (is : List Int) (o5 o6 o7 : SD), s = [.adr pl.1, .fz (dN n ws), .fz (dPs ps), .fz (.list (is.map .int)), .fz (.list (os.map .int)), o5, o6, o7, .un] ∧ InR ws is ∧ Jn ws is ps ∧ is.length ≤ 24
def S__law_joining (pl : Addr × Addr) : Spec (WP pl) := fun xs w R => ∃ (n : Nat) (ws : List Way) (ps : List (Int × Int)), xs = [.adr pl.1, .fz (dN n ws), .fz (dPs ps)] ∧ NetOk n ws ∧ PairsOk n ps ∧ ps.length ≤ 1000 ∧ Jn ws (wholeL ws) ps ∧ Bud w 24 ∧ ∀ (is : List Int) w', InR ws is → Jn ws is ps → is.length ≤ 24 → Stp w 24 w' → R (.tuple (is.map .int)) w'
section
variable {P : Program} {w : World} {K : PySem.W.Frag} {mg : Str → Option Value} {base : Heap}
theorem ok__law_joining (T : Tp K mg) : Cal P w K mg base 3 "_law_joining" (spWx K WP S__law_joining) [] := by
  have c__law_draw := ok__law_draw (P := P) (w := w) (base := base) T
  have c__law_joins := ok__law_joins (P := P) (w := w) (base := base) T
  refine calX (0, 0) T.f__law_joining T.g__law_joining sc__law_joining (fun _ _ _ _ _ _ us hl => match us, hl with | [_, _, _], _ => rfl) (fun pl xs w Q h => ?_) (fun cdv A outer s H E hr => ⟨_, _, fun pl => (dss_cons (ds_setLc (i := 3) (own := [("_law_k", 5)]) rfl sc__law_joining.nd rfl rfl (sw_true rfl rfl rfl (by decide +kernel)) (di_rng1 rfl T.z_range (da_cons (de_cb call_len_seq sc_len rfl T.z_len PySem.boot_len (da_cons (de_ixK K (de_var 1) de_int) da_nil)) da_nil)) (blkOk_by (by kernel_rfl)) (fun _ _ _ _ _ => (dgn 5 sc__law_joining.nd)) (fun _ _ _ _ _ => dts_nil) (fun _ _ _ _ _ => (de_var 5)) go_name)
      (dss_cons (dsetO 4 sc__law_joining.nd da_nil)
      (dss_cons (ds_for PassesOwn.never rfl (di_seqK K (de_var 3)) (dgn 5 sc__law_joining.nd) (dss_one (ds_ins 4 (da_cons (de_bor 4 (nofP pl) (de_clX K (i := pl) c__law_draw hr (by decide) rfl (da_adr 0 (da_cons (de_op op_add so_I0 (de_cb call_len_seq sc_len rfl T.z_len PySem.boot_len (da_cons (de_var 4) da_nil)) de_int) da_nil)))) (da_cons (de_var 5) da_nil)))))
      (dss_frz 4 (dss_cons (ds_for PassesOwn.never rfl (di_seqK K (de_var 4)) (dgn 6 sc__law_joining.nd) (dss_cons (ds_setLc (i := 7) (own := [("_law_other", 8)]) rfl sc__law_joining.nd rfl rfl (sw_true rfl rfl rfl (by decide +kernel)) (di_seqK K (de_var 3)) (blkOk_by (by kernel_rfl)) (fun _ _ _ _ _ => (dgn 8 sc__law_joining.nd)) (fun _ _ _ _ _ => (dts_one (dt_cmp op_ne so_neI (de_var 8) (de_var 6) (nomark _)))) (fun _ _ _ _ _ => (de_var 8)) go_name)
      (dss_one (ds_if (dt_val (de_cl0K K c__law_joins hr (by decide) rfl (da_cons (de_var 1) (da_cons (de_var 2) (da_cons (de_var 7) da_nil))))) (dss_one (dset 3 sc__law_joining.nd (de_var 7))) dss_nil))))
      (dss_one (ds_ret (de_cty call_tuple_of sc_tuple rfl T.z_tuple (by decide +kernel) (da_cons (de_var 3) da_nil))))))))), ?_⟩)
  · obtain ⟨n, ws, ps, rfl, _⟩ := h; rfl
  · rintro pl xs w Q ⟨n, ws, ps, rfl, hn, hp, hpl, hj, hb, q⟩
    have hwl := hn.wl
    simp only [dN, dWs]
    walk_at "lc"
    rw [rng0, List.length_map, Int.toNat_natCast]
    refine ⟨by omega, by omega, lc_pure (iota ws.length) .int (fun _ => true) .int (by rw [iota_len]; omega) (fun I j acc x hx h => h) ?_⟩
    rw [filter_tt]
    refine ⟨own_at rfl, ?_⟩
    walk_at "fo"
    refine ⟨fun i s w' => J_jo1 n ws ps w pl i s w', ⟨[], _, rfl, rfl, hb.z⟩, fun i s w' d hd hJ => ?_, fun s w' hJ => ?_⟩
    · obtain ⟨os, o5, rfl, hl, hw⟩ := hJ
      obtain ⟨x, hx, rfl⟩ := mget hd
      have hi : i < ws.length := by
        have := (List.getElem?_eq_some_iff.mp hx).1
        rwa [iota_len] at this
      walk_at "rd"
      refine ⟨((os.map PyData.int).length : Int) + 1, rfl, by omega, by rw [List.length_map]; omega, hw.bud hb (by omega), fun r w2 h1 h2 hw2 => ?_⟩
      walk_at "rd"
      refine ⟨flI, by rw [List.length_map]; omega, h1, by rw [List.length_map] at h2; omega, ?_⟩
      rw [show (os.map PyData.int).take r.toNat ++ [.int x] ++ (os.map PyData.int).drop r.toNat = (os.take r.toNat ++ [x] ++ os.drop r.toNat).map .int by simp [List.map_take, List.map_drop]]
      refine ⟨_, _, rfl, ?_, hw.trans hw2 (by omega)⟩
      rw [List.length_map] at h2
      simp only [List.length_append, List.length_take, List.length_drop, List.length_singleton]; omega
    · obtain ⟨os, o5, rfl, hl, hw⟩ := hJ
      rw [List.length_map, iota_len] at hl hw
      walk_at "fo"
      refine ⟨fun i s w2 => J_jo2 n ws ps w' os pl s w2, ⟨rfl, iota ws.length, _, _, _, rfl, whole_in ws, hj, by rw [iota_len]; omega⟩, fun i s w2 d hd hJ => ?_, fun s w2 hJ => ?_⟩
      · obtain ⟨rfl, is, o5, o6, o7, rfl, h1, h2, h3⟩ := hJ
        obtain ⟨x, hx, rfl⟩ := mget hd
        walk_at "lc"
        refine lc_pure is .int (fun y => decide (y ≠ x)) .int (by omega) (fun I j acc y hy h => ?_) ?_
        · refine ⟨y, rfl, ?_⟩
          simpa using h
        · have hr : InR ws (is.filter fun y => decide (y ≠ x)) := fun y hy => h1 y (List.mem_filter.mp hy).1
          refine ⟨n, ws, ps, _, is.filter fun y => decide (y ≠ x), rfl, hn, Or.inl rfl, hr, hp, hpl, fun b hb2 => ⟨b, rfl, ?_⟩⟩
          cases b with
          | true =>
            rw [if_pos rfl]
            exact ⟨rfl, _, _, _, _, rfl, hr, hb2 rfl, Nat.le_trans (List.length_filter_le _ _) h3⟩
          | false =>
            rw [if_neg (by decide)]
            exact ⟨rfl, is, _, _, _, rfl, h1, h2, h3⟩
      · obtain ⟨rfl, is, o5, o6, o7, rfl, h1, h2, h3⟩ := hJ
        walk_at "rd"
        exact q is w2 h1 h2 h3 (hw.le (by omega))
end
end L2.VL
/-! part F8 -/
set_option Elab.async false
set_option linter.all false
set_option autoImplicit false
set_option maxRecDepth 100000
set_option maxHeartbeats 4000000
namespace L2.VL
open PySem PySem.Spec PyProof.Rows L2 C8 MW
local macro_rules | `(tactic| walk_at "st") => `(tactic| try simp only [vAsg, vIfS, vRet, vRetN, vRetO, vNext, vPar, vSetO, vApp, vIns, vFrz, vDrop, vNever, vVar, vC, vOp, vUn, vTest, vChain, vIsN, vNotN, vAnd, vOr, vNot, vAndV, vIf, vaNil, vaCons, vaAdr, vTup, vLst, vCB, vCall, vCall0, vCl, vCl0, vgName, vgNil, vgCons, vgTup, vgLst, viAny, viEnum, viEnumT, viRev, viRng1, viRng2, vYes, wipeS, vTru, vOrT, vListRg, vBor, vBorT, vSrtSet, vSlT, vPl, vPl0, vPlen, vPlset, Pl.get, Pl.put,
  qI, qI0, qB0, qNeB, qEqD, qNeD, qEqL, qIn, qInE, qU, qCatL, qCatT, qIx, itemD_T, itemD_L, qLen, qList, qTuple, qSum, qAny, qAll, qSortI, qSortTI, qSortE, qAbs, qInt, qMin2, qGcd, qNotB,
  List.length_cons, List.length_nil, List.replicate_succ, List.replicate_zero, List.cons_append, List.nil_append, List.getElem?_cons_zero, List.getElem?_cons_succ, List.set_cons_zero, List.set_cons_succ, Nat.reduceAdd, Nat.reduceSub, Option.some.injEq, SD.fz.injEq, SD.own.injEq, SD.adr.injEq, PyData.int.injEq, PyData.bool.injEq, PyData.tuple.injEq, PyData.list.injEq, exists_eq_left', exists_eq_left, exists_eq, and_true, true_and, unfz, Option.map_some, and_assoc, exists_and_left, List.cons.injEq, Nat.reduceLeDiff,
  List.map_cons, List.map_nil, Int.reduceLE, Int.reduceToNat, if_true, reduceCtorEq, false_or, or_false, exists_false, ↓reduceIte, Nat.zero_le, Int.zero_le_ofNat, Int.reduceNeg])
local macro_rules | `(tactic| walk_at "stf") => `(tactic| try simp only [vFor, vAsg, vIfS, vRet, vRetN, vRetO, vNext, vPar, vSetO, vApp, vIns, vFrz, vDrop, vNever, vVar, vC, vOp, vUn, vTest, vChain, vIsN, vNotN, vAnd, vOr, vNot, vAndV, vIf, vaNil, vaCons, vaAdr, vTup, vLst, vCB, vCall, vCall0, vCl, vCl0, vgName, vgNil, vgCons, vgTup, vgLst, viAny, viEnum, viEnumT, viRev, viRng1, viRng2, vYes, wipeS, vTru, vOrT, vListRg, vBor, vBorT, vSrtSet, vSlT, vPl, vPl0, vPlen, vPlset, Pl.get, Pl.put,
  qI, qI0, qB0, qNeB, qEqD, qNeD, qEqL, qIn, qInE, qU, qCatL, qCatT, qIx, itemD_T, itemD_L, qLen, qList, qTuple, qSum, qAny, qAll, qSortI, qSortTI, qSortE, qAbs, qInt, qMin2, qGcd, qNotB,
  List.length_cons, List.length_nil, List.replicate_succ, List.replicate_zero, List.cons_append, List.nil_append, List.getElem?_cons_zero, List.getElem?_cons_succ, List.set_cons_zero, List.set_cons_succ, Nat.reduceAdd, Nat.reduceSub, Option.some.injEq, SD.fz.injEq, SD.own.injEq, SD.adr.injEq, PyData.int.injEq, PyData.bool.injEq, PyData.tuple.injEq, PyData.list.injEq, exists_eq_left', exists_eq_left, exists_eq, and_true, true_and, unfz, Option.map_some, and_assoc, exists_and_left, List.cons.injEq, Nat.reduceLeDiff,
  List.map_cons, List.map_nil, Int.reduceLE, Int.reduceToNat, if_true, reduceCtorEq, false_or, or_false, exists_false, ↓reduceIte, Nat.zero_le, Int.zero_le_ofNat, Int.reduceNeg])
local macro_rules | `(tactic| walk_at "stl") => `(tactic| try simp only [vLc, vAsg, vIfS, vRet, vRetN, vRetO, vNext, vPar, vSetO, vApp, vIns, vFrz, vDrop, vNever, vVar, vC, vOp, vUn, vTest, vChain, vIsN, vNotN, vAnd, vOr, vNot, vAndV, vIf, vaNil, vaCons, vaAdr, vTup, vLst, vCB, vCall, vCall0, vCl, vCl0, vgName, vgNil, vgCons, vgTup, vgLst, viAny, viEnum, viEnumT, viRev, viRng1, viRng2, vYes, wipeS, vTru, vOrT, vListRg, vBor, vBorT, vSrtSet, vSlT, vPl, vPl0, vPlen, vPlset, Pl.get, Pl.put,
  qI, qI0, qB0, qNeB, qEqD, qNeD, qEqL, qIn, qInE, qU, qCatL, qCatT, qIx, itemD_T, itemD_L, qLen, qList, qTuple, qSum, qAny, qAll, qSortI, qSortTI, qSortE, qAbs, qInt, qMin2, qGcd, qNotB,
  List.length_cons, List.length_nil, List.replicate_succ, List.replicate_zero, List.cons_append, List.nil_append, List.getElem?_cons_zero, List.getElem?_cons_succ, List.set_cons_zero, List.set_cons_succ, Nat.reduceAdd, Nat.reduceSub, Option.some.injEq, SD.fz.injEq, SD.own.injEq, SD.adr.injEq, PyData.int.injEq, PyData.bool.injEq, PyData.tuple.injEq, PyData.list.injEq, exists_eq_left', exists_eq_left, exists_eq, and_true, true_and, unfz, Option.map_some, and_assoc, exists_and_left, List.cons.injEq, Nat.reduceLeDiff,
  List.map_cons, List.map_nil, Int.reduceLE, Int.reduceToNat, if_true, reduceCtorEq, false_or, or_false, exists_false, ↓reduceIte, Nat.zero_le, Int.zero_le_ofNat, Int.reduceNeg])
local macro_rules | `(tactic| walk_at "stw") => `(tactic| try simp only [vWhile, vAsg, vIfS, vRet, vRetN, vRetO, vNext, vPar, vSetO, vApp, vIns, vFrz, vDrop, vNever, vVar, vC, vOp, vUn, vTest, vChain, vIsN, vNotN, vAnd, vOr, vNot, vAndV, vIf, vaNil, vaCons, vaAdr, vTup, vLst, vCB, vCall, vCall0, vCl, vCl0, vgName, vgNil, vgCons, vgTup, vgLst, viAny, viEnum, viEnumT, viRev, viRng1, viRng2, vYes, wipeS, vTru, vOrT, vListRg, vBor, vBorT, vSrtSet, vSlT, vPl, vPl0, vPlen, vPlset, Pl.get, Pl.put,
  qI, qI0, qB0, qNeB, qEqD, qNeD, qEqL, qIn, qInE, qU, qCatL, qCatT, qIx, itemD_T, itemD_L, qLen, qList, qTuple, qSum, qAny, qAll, qSortI, qSortTI, qSortE, qAbs, qInt, qMin2, qGcd, qNotB,
  List.length_cons, List.length_nil, List.replicate_succ, List.replicate_zero, List.cons_append, List.nil_append, List.getElem?_cons_zero, List.getElem?_cons_succ, List.set_cons_zero, List.set_cons_succ, Nat.reduceAdd, Nat.reduceSub, Option.some.injEq, SD.fz.injEq, SD.own.injEq, SD.adr.injEq, PyData.int.injEq, PyData.bool.injEq, PyData.tuple.injEq, PyData.list.injEq, exists_eq_left', exists_eq_left, exists_eq, and_true, true_and, unfz, Option.map_some, and_assoc, exists_and_left, List.cons.injEq, Nat.reduceLeDiff,
  List.map_cons, List.map_nil, Int.reduceLE, Int.reduceToNat, if_true, reduceCtorEq, false_or, or_false, exists_false, ↓reduceIte, Nat.zero_le, Int.zero_le_ofNat, Int.reduceNeg])
local macro_rules | `(tactic| walk_at "rd") => `(tactic| try simp only [vSeq, vAsg, vIfS, vRet, vRetN, vRetO, vNext, vPar, vSetO, vApp, vIns, vFrz, vDrop, vNever, vVar, vC, vOp, vUn, vTest, vChain, vIsN, vNotN, vAnd, vOr, vNot, vAndV, vIf, vaNil, vaCons, vaAdr, vTup, vLst, vCB, vCall, vCall0, vCl, vCl0, vgName, vgNil, vgCons, vgTup, vgLst, viAny, viEnum, viEnumT, viRev, viRng1, viRng2, vYes, wipeS, vTru, vOrT, vListRg, vBor, vBorT, vSrtSet, vSlT, vPl, vPl0, vPlen, vPlset, Pl.get, Pl.put,
  qI, qI0, qB0, qNeB, qEqD, qNeD, qEqL, qIn, qInE, qU, qCatL, qCatT, qIx, itemD_T, itemD_L, qLen, qList, qTuple, qSum, qAny, qAll, qSortI, qSortTI, qSortE, qAbs, qInt, qMin2, qGcd, qNotB,
  List.length_cons, List.length_nil, List.replicate_succ, List.replicate_zero, List.cons_append, List.nil_append, List.getElem?_cons_zero, List.getElem?_cons_succ, List.set_cons_zero, List.set_cons_succ, Nat.reduceAdd, Nat.reduceSub, Option.some.injEq, SD.fz.injEq, SD.own.injEq, SD.adr.injEq, PyData.int.injEq, PyData.bool.injEq, PyData.tuple.injEq, PyData.list.injEq, exists_eq_left', exists_eq_left, exists_eq, and_true, true_and, unfz, Option.map_some, and_assoc, exists_and_left, List.cons.injEq, Nat.reduceLeDiff,
  List.map_cons, List.map_nil, Int.reduceLE, Int.reduceToNat, if_true, reduceCtorEq, false_or, or_false, exists_false, ↓reduceIte, Nat.zero_le, Int.zero_le_ofNat, Int.reduceNeg])
local macro_rules | `(tactic| walk_at "lc") => `(tactic| try simp only [vLc, vSeq, vAsg, vIfS, vRet, vRetN, vRetO, vNext, vPar, vSetO, vApp, vIns, vFrz, vDrop, vNever, vVar, vC, vOp, vUn, vTest, vChain, vIsN, vNotN, vAnd, vOr, vNot, vAndV, vIf, vaNil, vaCons, vaAdr, vTup, vLst, vCB, vCall, vCall0, vCl, vCl0, vgName, vgNil, vgCons, vgTup, vgLst, viAny, viEnum, viEnumT, viRev, viRng1, viRng2, vYes, wipeS, vTru, vOrT, vListRg, vBor, vBorT, vSrtSet, vSlT, vPl, vPl0, vPlen, vPlset, Pl.get, Pl.put,
  qI, qI0, qB0, qNeB, qEqD, qNeD, qEqL, qIn, qInE, qU, qCatL, qCatT, qIx, itemD_T, itemD_L, qLen, qList, qTuple, qSum, qAny, qAll, qSortI, qSortTI, qSortE, qAbs, qInt, qMin2, qGcd, qNotB,
  List.length_cons, List.length_nil, List.replicate_succ, List.replicate_zero, List.cons_append, List.nil_append, List.getElem?_cons_zero, List.getElem?_cons_succ, List.set_cons_zero, List.set_cons_succ, Nat.reduceAdd, Nat.reduceSub, Option.some.injEq, SD.fz.injEq, SD.own.injEq, SD.adr.injEq, PyData.int.injEq, PyData.bool.injEq, PyData.tuple.injEq, PyData.list.injEq, exists_eq_left', exists_eq_left, exists_eq, and_true, true_and, unfz, Option.map_some, and_assoc, exists_and_left, List.cons.injEq, Nat.reduceLeDiff,
  List.map_cons, List.map_nil, Int.reduceLE, Int.reduceToNat, if_true, reduceCtorEq, false_or, or_false, exists_false, ↓reduceIte, Nat.zero_le, Int.zero_le_ofNat, Int.reduceNeg])
local macro_rules | `(tactic| walk_at "fo") => `(tactic| try simp only [vFor, vSeq, vAsg, vIfS, vRet, vRetN, vRetO, vNext, vPar, vSetO, vApp, vIns, vFrz, vDrop, vNever, vVar, vC, vOp, vUn, vTest, vChain, vIsN, vNotN, vAnd, vOr, vNot, vAndV, vIf, vaNil, vaCons, vaAdr, vTup, vLst, vCB, vCall, vCall0, vCl, vCl0, vgName, vgNil, vgCons, vgTup, vgLst, viAny, viEnum, viEnumT, viRev, viRng1, viRng2, vYes, wipeS, vTru, vOrT, vListRg, vBor, vBorT, vSrtSet, vSlT, vPl, vPl0, vPlen, vPlset, Pl.get, Pl.put,
  qI, qI0, qB0, qNeB, qEqD, qNeD, qEqL, qIn, qInE, qU, qCatL, qCatT, qIx, itemD_T, itemD_L, qLen, qList, qTuple, qSum, qAny, qAll, qSortI, qSortTI, qSortE, qAbs, qInt, qMin2, qGcd, qNotB,
  List.length_cons, List.length_nil, List.replicate_succ, List.replicate_zero, List.cons_append, List.nil_append, List.getElem?_cons_zero, List.getElem?_cons_succ, List.set_cons_zero, List.set_cons_succ, Nat.reduceAdd, Nat.reduceSub, Option.some.injEq, SD.fz.injEq, SD.own.injEq, SD.adr.injEq, PyData.int.injEq, PyData.bool.injEq, PyData.tuple.injEq, PyData.list.injEq, exists_eq_left', exists_eq_left, exists_eq, and_true, true_and, unfz, Option.map_some, and_assoc, exists_and_left, List.cons.injEq, Nat.reduceLeDiff,
  List.map_cons, List.map_nil, Int.reduceLE, Int.reduceToNat, if_true, reduceCtorEq, false_or, or_false, exists_false, ↓reduceIte, Nat.zero_le, Int.zero_le_ofNat, Int.reduceNeg])
local macro_rules | `(tactic| walk_at "wh") => `(tactic| try simp only [vWhile, vSeq, vAsg, vIfS, vRet, vRetN, vRetO, vNext, vPar, vSetO, vApp, vIns, vFrz, vDrop, vNever, vVar, vC, vOp, vUn, vTest, vChain, vIsN, vNotN, vAnd, vOr, vNot, vAndV, vIf, vaNil, vaCons, vaAdr, vTup, vLst, vCB, vCall, vCall0, vCl, vCl0, vgName, vgNil, vgCons, vgTup, vgLst, viAny, viEnum, viEnumT, viRev, viRng1, viRng2, vYes, wipeS, vTru, vOrT, vListRg, vBor, vBorT, vSrtSet, vSlT, vPl, vPl0, vPlen, vPlset, Pl.get, Pl.put,
  qI, qI0, qB0, qNeB, qEqD, qNeD, qEqL, qIn, qInE, qU, qCatL, qCatT, qIx, itemD_T, itemD_L, qLen, qList, qTuple, qSum, qAny, qAll, qSortI, qSortTI, qSortE, qAbs, qInt, qMin2, qGcd, qNotB,
  List.length_cons, List.length_nil, List.replicate_succ, List.replicate_zero, List.cons_append, List.nil_append, List.getElem?_cons_zero, List.getElem?_cons_succ, List.set_cons_zero, List.set_cons_succ, Nat.reduceAdd, Nat.reduceSub, Option.some.injEq, SD.fz.injEq, SD.own.injEq, SD.adr.injEq, PyData.int.injEq, PyData.bool.injEq, PyData.tuple.injEq, PyData.list.injEq, exists_eq_left', exists_eq_left, exists_eq, and_true, true_and, unfz, Option.map_some, and_assoc, exists_and_left, List.cons.injEq, Nat.reduceLeDiff,
  List.map_cons, List.map_nil, Int.reduceLE, Int.reduceToNat, if_true, reduceCtorEq, false_or, or_false, exists_false, ↓reduceIte, Nat.zero_le, Int.zero_le_ofNat, Int.reduceNeg])
local macro_rules | `(tactic| walk_at "sc") => `(tactic| try simp only [vLenSc, vSeq, vAsg, vIfS, vRet, vRetN, vRetO, vNext, vPar, vSetO, vApp, vIns, vFrz, vDrop, vNever, vVar, vC, vOp, vUn, vTest, vChain, vIsN, vNotN, vAnd, vOr, vNot, vAndV, vIf, vaNil, vaCons, vaAdr, vTup, vLst, vCB, vCall, vCall0, vCl, vCl0, vgName, vgNil, vgCons, vgTup, vgLst, viAny, viEnum, viEnumT, viRev, viRng1, viRng2, vYes, wipeS, vTru, vOrT, vListRg, vBor, vBorT, vSrtSet, vSlT, vPl, vPl0, vPlen, vPlset, Pl.get, Pl.put,
  qI, qI0, qB0, qNeB, qEqD, qNeD, qEqL, qIn, qInE, qU, qCatL, qCatT, qIx, itemD_T, itemD_L, qLen, qList, qTuple, qSum, qAny, qAll, qSortI, qSortTI, qSortE, qAbs, qInt, qMin2, qGcd, qNotB,
  List.length_cons, List.length_nil, List.replicate_succ, List.replicate_zero, List.cons_append, List.nil_append, List.getElem?_cons_zero, List.getElem?_cons_succ, List.set_cons_zero, List.set_cons_succ, Nat.reduceAdd, Nat.reduceSub, Option.some.injEq, SD.fz.injEq, SD.own.injEq, SD.adr.injEq, PyData.int.injEq, PyData.bool.injEq, PyData.tuple.injEq, PyData.list.injEq, exists_eq_left', exists_eq_left, exists_eq, and_true, true_and, unfz, Option.map_some, and_assoc, exists_and_left, List.cons.injEq, Nat.reduceLeDiff,
  List.map_cons, List.map_nil, Int.reduceLE, Int.reduceToNat, if_true, reduceCtorEq, false_or, or_false, exists_false, ↓reduceIte, Nat.zero_le, Int.zero_le_ofNat, Int.reduceNeg])


def dRo : Option Rat → PyData
  | none => .none
  | some q => dR q
structure Room' (ws : List Way) (P : List Moat) (g : List Int) (k : Nat) (r : Option Rat) : Prop where
  z : r = none → ∀ w ∈ ws.take k, crW w g = false
  s : ∀ q, r = some q → (∃ w ∈ ws, crW w g = true ∧ q = (w.2.2 : Rat) - load w P) ∧ ∀ w ∈ ws.take k, crW w g = true → q ≤ (w.2.2 : Rat) - load w P
def I_dp (n : Nat) (ws : List Way) (ps : List (Int × Int)) (w0 : Pl) (pl : Addr × Addr) (i : Nat) (s : List SD) (w : Pl) : Prop := ∃ P o4 o5 o6 o7 o8 o9 o10 o11, s = [.adr pl.1, .fz (dN n ws), .fz (dPs ps), .own (P.map dM), o4, o5, o6, o7, o8, o9, o10, o11] ∧ DrP n ws ps P i ∧ Stp w0 (2 + i * 20) w
def J_dr (n : Nat) (ws : List Way) (ps : List (Int × Int)) (P : List Moat) (g : List Int) (w1 : Pl) (pl : Addr × Addr) (k : Nat) (s : List SD) (w : Pl) : Prop := w = w1 ∧ ∃ r o4 o7 o8 o9 o10 o11, s = [.adr pl.1, .fz (dN n ws), .fz (dPs ps), .own (P.map dM), o4, .fz (dT g), .fz (dRo r), o7, o8, o9, o10, o11] ∧ Room' ws P g k r
def J_dq (n : Nat) (ws : List Way) (ps : List (Int × Int)) (P : List Moat) (i : Nat) (g : List Int) (w1 : Pl) (pl : Addr × Addr) (s : List SD) (w : Pl) : Prop := Stp w1 2 w ∧ ∃ q o4 o7 o8 o9 o10 o11, s = [.adr pl.1, .fz (dN n ws), .fz (dPs ps), .own (P.map dM), o4, .fz (dT g), .fz (dR q), o7, o8, o9, o10, o11] ∧
  IsI (DD i * 2520) q ∧ Sm q ∧ q ≤ 10000 ∧ ∀ w ∈ ws, crW w g = true → q ≤ (w.2.2 : Rat) - load w P

section
variable {ws : List Way} {P : List Moat} {g : List Int} {k : Nat} {r : Option Rat} {v : Way} {q0 : Rat}
theorem take_mem {w : Way} (hv : ws[k]? = some v) (h : w ∈ ws.take (k + 1)) : w ∈ ws.take k ∨ w = v := by
  rw [List.take_add_one, hv] at h
  rcases List.mem_append.mp h with h | h
  · exact .inl h
  · simp only [Option.toList, List.mem_singleton] at h; exact .inr h
theorem Room'.skip (h : Room' ws P g k r) (hv : ws[k]? = some v) (hc : ¬ crW v g = true) : Room' ws P g (k + 1) r := ⟨fun e w hw => by
  rcases take_mem hv hw with hw | rfl
  · exact h.z e w hw
  · simpa using hc, fun q e => ⟨(h.s q e).1, fun w hw hcw => by
  rcases take_mem hv hw with hw | rfl
  · exact (h.s q e).2 w hw hcw
  · exact absurd hcw hc⟩⟩
theorem Room'.fst (h : Room' ws P g k none) (hv : ws[k]? = some v) (hc : crW v g = true) : Room' ws P g (k + 1) (some ((v.2.2 : Rat) - load v P)) := ⟨(fun e => by cases e), fun q e => by
  cases e
  refine ⟨⟨v, List.mem_of_getElem? hv, hc, rfl⟩, fun w hw hcw => ?_⟩
  rcases take_mem hv hw with hw | rfl
  · rw [h.z rfl w hw] at hcw; cases hcw
  · exact Rat.le_refl⟩
theorem Room'.lt (h : Room' ws P g k (some q0)) (hv : ws[k]? = some v) (hc : crW v g = true) (hl : (v.2.2 : Rat) - load v P < q0) : Room' ws P g (k + 1) (some ((v.2.2 : Rat) - load v P)) := ⟨(fun e => by cases e), fun q e => by
  cases e
  refine ⟨⟨v, List.mem_of_getElem? hv, hc, rfl⟩, fun w hw hcw => ?_⟩
  rcases take_mem hv hw with hw | rfl
  · exact Rat.le_trans (Rat.le_of_lt hl) ((h.s q0 rfl).2 w hw hcw)
  · exact Rat.le_refl⟩
theorem Room'.ge (h : Room' ws P g k (some q0)) (hv : ws[k]? = some v) (hl : ¬ (v.2.2 : Rat) - load v P < q0) : Room' ws P g (k + 1) (some q0) := ⟨(fun e => by cases e), fun q e => by
  cases e
  refine ⟨(h.s q0 rfl).1, fun w hw hcw => ?_⟩
  rcases take_mem hv hw with hw | rfl
  · exact (h.s q0 rfl).2 w hw hcw
  · exact Rat.not_lt.mp hl⟩
end
theorem dR_int (c : Int) : dR (c : Rat) = .tuple [.int c, .int 1] := by simp [dR]
theorem shares {d : PyData} (h : d ∈ [PyData.tuple [.int 1, .int 1], .tuple [.int 1, .int 1], .tuple [.int 1, .int 2], .tuple [.int 2, .int 3], .tuple [.int 1, .int 7], .tuple [.int 1, .int 40]]) : ∃ s, d = dR s ∧ Share s := by
  simp only [List.mem_cons, List.not_mem_nil, or_false] at h
  rcases h with rfl | rfl | rfl | rfl | rfl | rfl
  · exact ⟨Rat.divInt 1 1, rfl, share_of (by decide) (by decide) (by decide +kernel) (by decide +kernel)⟩
  · exact ⟨Rat.divInt 1 1, rfl, share_of (by decide) (by decide) (by decide +kernel) (by decide +kernel)⟩
  · exact ⟨Rat.divInt 1 2, rfl, share_of (by decide) (by decide) (by decide +kernel) (by decide +kernel)⟩
  · exact ⟨Rat.divInt 2 3, rfl, share_of (by decide) (by decide) (by decide +kernel) (by decide +kernel)⟩
  · exact ⟨Rat.divInt 1 7, rfl, share_of (by decide) (by decide) (by decide +kernel) (by decide +kernel)⟩
  · exact ⟨Rat.divInt 1 40, rfl, share_of (by decide) (by decide) (by decide +kernel) (by decide +kernel)⟩
theorem flR (q : Rat) : Flat (dR q) := Or.inr (Or.inr (Or.inr ⟨_, rfl⟩))

def S__law_drawn_paper (pl : Addr × Addr) : Spec (WP pl) := fun xs w R => ∃ (n : Nat) (ws : List Way) (ps : List (Int × Int)), xs = [.adr pl.1, .fz (dN n ws), .fz (dPs ps)] ∧ NetOk n ws ∧ ps.length ≤ 6 ∧ Bud w 900 ∧ ∀ P w', PapOk n ws ps P → Stp w 900 w' → R (dPp P) w'
section
variable {P : Program} {w : World} {K : PySem.W.Frag} {mg : Str → Option Value} {base : Heap}
theorem ok__law_drawn_paper (T : Tp K mg) : Cal P w K mg base 5 "_law_drawn_paper" (spWx K WP S__law_drawn_paper) [] := by
  have c__law_draw := ok__law_draw (P := P) (w := w) (base := base) T
  have c__law_less := ok__law_less (P := P) (w := w) (base := base) T
  have c__law_minus := ok__law_minus (P := P) (w := w) (base := base) T
  have c__law_open := ok__law_open (P := P) (w := w) (base := base) T
  have c__law_pick := ok__law_pick (P := P) (w := w) (base := base) T
  have c__law_ratio := ok__law_ratio (P := P) (w := w) (base := base) T
  have c__law_set := ok__law_set (P := P) (w := w) (base := base) T
  have c__law_sum := ok__law_sum (P := P) (w := w) (base := base) T
  have c__law_times := ok__law_times (P := P) (w := w) (base := base) T
  refine calX (0, 0) T.f__law_drawn_paper T.g__law_drawn_paper sc__law_drawn_paper (fun _ _ _ _ _ _ us hl => match us, hl with | [_, _, _], _ => rfl) (fun pl xs w Q h => ?_) (fun cdv A outer s H E hr => ⟨_, _, fun pl => (dss_cons (dsetO 3 sc__law_drawn_paper.nd da_nil)
      (dss_cons (ds_for PassesOwn.never rfl (di_rng1 rfl T.z_range (da_cons (de_op op_add so_I0 de_int (de_clX K (i := pl) c__law_draw hr (by decide) rfl (da_adr 0 (da_cons (de_clX K (i := pl) c__law_pick hr (by decide) rfl (da_adr 0 (da_cons (de_lst (da_cons de_int (da_cons de_int (da_cons de_int da_nil)))) da_nil))) da_nil)))) da_nil)) (dgn 4 sc__law_drawn_paper.nd) (dss_cons (dset 5 sc__law_drawn_paper.nd (de_clX K (i := pl) c__law_set hr (by decide) rfl (da_adr 0 (da_cons (de_ixK K (de_var 1) de_int) da_nil))))
      (dss_cons (dset 6 sc__law_drawn_paper.nd de_non)
      (dss_cons (ds_for PassesOwn.never rfl (di_seqK K (de_ixK K (de_var 1) de_int)) (dgn 7 sc__law_drawn_paper.nd) (dss_one (ds_if (dt_cmp op_ne so_neB (de_cmp (op_inK K) so_in (de_ixK K (de_var 7) de_int) (de_var 5) (by with_unfolding_all rfl)) (de_cmp (op_inK K) so_in (de_ixK K (de_var 7) de_int) (de_var 5) (by with_unfolding_all rfl)) (nomark _)) (dss_cons (dset 8 sc__law_drawn_paper.nd (de_bor 3 (nofP pl) (de_cl0K K c__law_sum hr (by decide) rfl (da_cons (de_lc (own := [("_law_row", 11)]) rfl sc__law_drawn_paper.nd (di_seqK K (de_var 3)) (blkOk_by (by kernel_rfl)) (fun _ _ _ _ _ => (dgn 11 sc__law_drawn_paper.nd)) (fun _ _ _ _ _ => (dts_one (dt_cmp op_ne so_neB (de_cmp (op_inK K) so_in (de_ixK K (de_var 7) de_int) (de_ixK K (de_var 11) de_int) (by with_unfolding_all rfl)) (de_cmp (op_inK K) so_in (de_ixK K (de_var 7) de_int) (de_ixK K (de_var 11) de_int) (by with_unfolding_all rfl)) (nomark _)))) (fun _ _ _ _ _ => (de_ixK K (de_var 11) de_int)) go_name) da_nil))))
      (dss_cons (dset 9 sc__law_drawn_paper.nd (de_cl0K K c__law_minus hr (by decide) rfl (da_cons (de_tup (da_cons (de_ixK K (de_var 7) de_int) (da_cons de_int da_nil))) (da_cons (de_var 8) da_nil))))
      (dss_one (ds_if (DW.dt (dw_or (dt_isN (de_var 6)) (dw_or1 (dt_val (de_cl0K K c__law_less hr (by decide) rfl (da_cons (de_var 9) (da_cons (de_var 6) da_nil))))))) (dss_one (dset 6 sc__law_drawn_paper.nd (de_var 9))) dss_nil)))) dss_nil)))
      (dss_cons (ds_if (dt_isN (de_var 6)) (dss_one (dset 6 sc__law_drawn_paper.nd (de_cl0K K c__law_ratio hr (by decide) rfl (da_cons (de_op op_add so_I0 de_int (de_clX K (i := pl) c__law_draw hr (by decide) rfl (da_adr 0 (da_cons de_int da_nil)))) (da_cons (de_op op_add so_I0 de_int (de_clX K (i := pl) c__law_draw hr (by decide) rfl (da_adr 0 (da_cons de_int da_nil)))) da_nil))))) dss_nil)
      (dss_one (ds_if (dt_bor 3 (nofP pl) (DW.dt (dw_and (dt_cmp op_gt so_B0 (de_ixK K (de_var 6) de_int) de_int (nomark _)) (dw_and (dt_cmp (op_notInEK K (hu65 hr)) so_inE (de_var 5) (de_lc (own := [("_law_row", 11)]) rfl sc__law_drawn_paper.nd (di_seqK K (de_var 3)) (blkOk_by (by kernel_rfl)) (fun _ _ _ _ _ => (dgn 11 sc__law_drawn_paper.nd)) (fun _ _ _ _ _ => dts_nil) (fun _ _ _ _ _ => (de_ixK K (de_var 11) de_int)) go_name) (by with_unfolding_all rfl)) (dw_and1 (dt_val (de_cl0K K c__law_open hr (by decide) rfl (da_cons (de_var 2) (da_cons (de_var 5) da_nil))))))))) (dss_cons (dset 10 sc__law_drawn_paper.nd (de_clX K (i := pl) c__law_pick hr (by decide) rfl (da_adr 0 (da_cons (de_lst (da_cons (de_tup (da_cons de_int (da_cons de_int da_nil))) (da_cons (de_tup (da_cons de_int (da_cons de_int da_nil))) (da_cons (de_tup (da_cons de_int (da_cons de_int da_nil))) (da_cons (de_tup (da_cons de_int (da_cons de_int da_nil))) (da_cons (de_tup (da_cons de_int (da_cons de_int da_nil))) (da_cons (de_tup (da_cons de_int (da_cons de_int da_nil))) da_nil))))))) da_nil))))
      (dss_one (ds_app 3 (da_cons (de_tup (da_cons (de_var 5) (da_cons (de_cl0K K c__law_times hr (by decide) rfl (da_cons (de_var 6) (da_cons (de_var 10) da_nil))) da_nil))) da_nil)))) dss_nil)))))))
      (dss_frz 3 (dss_one (ds_ret (de_cty call_tuple_of sc_tuple rfl T.z_tuple (by decide +kernel) (da_cons (de_var 3) da_nil))))))), ?_⟩)
  · obtain ⟨n, ws, ps, rfl, _⟩ := h; rfl
  · rintro pl xs w Q ⟨n, ws, ps, rfl, hn, hpl, hb, q⟩
    have hn1 := hn.n1
    have hn2 := hn.n2
    rw [vSeq_eq]
    walk_at "st"
    refine ⟨own_at rfl, ?_⟩
    rw [vSeq_eq]
    walk_at "stf"
    refine ⟨_, rfl, by decide, by decide, hb.le (by decide), fun d w1 hd hw => ?_⟩
    obtain ⟨y, rfl, hy⟩ : ∃ m : Int, d = .int m ∧ 5 ≤ m ∧ m ≤ 40 := by
      simp only [List.mem_cons, List.not_mem_nil, or_false] at hd
      rcases hd with rfl | rfl | rfl <;> exact ⟨_, rfl, by decide, by decide⟩
    refine ⟨y, rfl, by omega, by omega, hw.bud hb (by decide), fun r w2 h1 h2 hw2 => ?_⟩
    walk_at "stf"
    refine ⟨by omega, by omega, fun i s w' => I_dp n ws ps w pl i s w', ⟨[], _, _, _, _, _, _, _, _, rfl, DrP.nil hn, hw.trans hw2 (by decide)⟩, fun i s w3 d hd hJ => ?_, fun s w3 hJ => ?_⟩
    · obtain ⟨P, o4, o5, o6, o7, o8, o9, o10, o11, rfl, hP, hw3⟩ := hJ
      obtain ⟨rfl, hi⟩ := rget hd
      have hi40 : i < 40 := by omega
      rw [vSeq_eq]
      simp only [dN]
      walk_at "st"
      refine ⟨n, rfl, hn1, hn2, hw3.bud hb (by omega), fun g w4 hg hr hs hw4 => ?_⟩
      walk_at "st"
      rw [vSeq_eq]
      walk_at "st"
      refine vseq_cut (J_dr n ws ps P g w4 pl ws.length) (fun s w5 hJ => ?_) (fun X hX => ?_)
      · obtain ⟨rfl, rr, o4, o7, o8, o9, o10, o11, rfl, hR⟩ := hJ
        refine vseq_cut (J_dq n ws ps P i g w5 pl) (fun s w6 hJ => ?_) (fun X hX => ?_)
        · obtain ⟨hw6, q1, o4, o7, o8, o9, o10, o11, rfl, z1, z2, z3, z4⟩ := hJ
          have hs6 := (hw3.trans hw4 (Int.le_refl _)).trans hw6 (Int.le_refl _)
          have hk : ∀ s, s = [SD.adr pl.1, .fz (dN n ws), .fz (dPs ps), .own (P.map dM), o4, .fz (dT g), .fz (dR q1), o7, o8, o9, o10, o11] → I_dp n ws ps w pl (i + 1) s w6 := fun s e => ⟨P, _, _, _, _, _, _, _, _, e, hP.keep, hs6.le (by omega)⟩
          walk_at "st"
          refine ⟨_, rfl, _, rfl, ?_⟩
          by_cases c1 : 0 < q1.num
          · rw [if_pos (decide_eq_true c1)]
            walk_at "stl"
            have hl := hP.ln
            refine lc_pure P dM (fun _ => true) (fun m => dT m.1) (by omega) (fun I j acc m hx h => ?_) ?_
            · simp only [dM]
              walk_at "st"
              exact h
            · refine ⟨g, rfl, P.map (·.1), by rw [filter_tt, List.map_map]; rfl, ?_⟩
              by_cases c2 : g ∈ P.map (·.1)
              · rw [if_neg (by simp only [decide_eq_true c2]; decide)]
                exact hk _ rfl
              · rw [if_pos (by simp only [decide_eq_false c2]; rfl)]
                refine ⟨ps, g, rfl, by omega, _, rfl, ?_⟩
                by_cases c3 : ps.any (fun p => crP p g) = true
                · rw [if_pos c3]
                  walk_at "rd"
                  refine ⟨_, rfl, by decide, by decide, hs6.bud hb (by omega), fun d w7 hd hw7 => ?_⟩
                  obtain ⟨sh, rfl, hsh⟩ := shares hd
                  walk_at "rd"
                  refine ⟨q1, sh, rfl, z2, hsh.m, ?_⟩
                  walk_at "rd"
                  refine ⟨by rw [List.length_map]; omega, ?_⟩
                  rw [show P.map dM ++ [.tuple [dT g, dR (q1 * sh)]] = (P ++ [(g, q1 * sh)]).map dM by rw [List.map_append]; rfl]
                  have q0 : 0 < q1 := num_pos' c1
                  exact ⟨_, _, _, _, _, _, _, _, _, rfl, hP.add hn hg hr hs c2 (by obtain ⟨p, h1, h2⟩ := List.any_eq_true.mp c3; exact ⟨p, h1, h2⟩) q0 z1 z3 z4 hsh.p hsh.l hsh.z, hs6.trans hw7 (by omega)⟩
                · rw [if_neg c3]
                  exact hk _ rfl
          · rw [if_neg (by simpa using c1)]
            exact hk _ rfl
        · walk_at "st"
          cases rr with
          | none =>
            rw [if_pos (show isNon (dRo none) = true from rfl)]
            refine ⟨40, rfl, by decide, by decide, (hw3.trans hw4 (Int.le_refl _)).bud hb (by omega), fun x w6 h3 h4 hw6 => ⟨x, rfl, ?_⟩⟩
            refine ⟨9, rfl, by decide, by decide, ((hw3.trans hw4 (Int.le_refl _)).trans hw6 (Int.le_refl _)).bud hb (by omega), fun y2 w7 h5 h6 hw7 => ⟨y2, rfl, ?_⟩⟩
            obtain ⟨a1, a2, a3⟩ := small_ratio (n := 1 + x) (d := 1 + y2) (by omega) (by omega) (by omega) (by omega)
            refine ⟨1 + x, 1 + y2, rfl, by omega, Nat.lt_of_lt_of_le (show (1 + x).natAbs < 2 ^ 20 by omega) (Nat.pow_le_pow_right (by decide) (by decide)), Nat.lt_of_lt_of_le (show (1 + y2).natAbs < 2 ^ 20 by omega) (Nat.pow_le_pow_right (by decide) (by decide)), ?_⟩
            refine hX _ _ ⟨hw6.trans hw7 (by decide), _, _, _, _, _, _, _, rfl, ?_, a3, a2, fun v hv hc => ?_⟩
            · rw [Nat.mul_comm]; exact a1.up (DD i)
            · have := hR.z rfl v (by rw [List.take_length]; exact hv)
              rw [this] at hc; cases hc
          | some q1 =>
            rw [if_neg (show ¬ isNon (dRo (some q1)) = true from fun z => by cases z)]
            obtain ⟨⟨v, hv, hc, e⟩, h5⟩ := hR.s q1 rfl
            have hd1 := hP.left hn hv
            refine hX _ _ ⟨⟨hw4.ok, by omega⟩, q1, _, _, _, _, _, _, rfl, ?_, ?_, ?_, fun u hu hcu => h5 u (by rw [List.take_length]; exact hu) hcu⟩
            · rw [e]; exact hd1.z.up 2520
            · rw [e]; exact hd1.sm (dd_pos' i) (dd_lt' (by omega)) (b900 (by omega))
            · have hln := hP.load_nn v
              have e2 : (v.2.2 : Rat) ≤ ((10000 : Int) : Rat) := Rat.intCast_le_intCast.mpr (hn.cost v hv).2
              have e3 : ((10000 : Int) : Rat) = 10000 := rfl
              rw [e]; grind
      · walk_at "stf"
        refine ⟨ws.map dW, Or.inr rfl, fun k s w' => J_dr n ws ps P g w4 pl k s w', ⟨rfl, none, _, _, _, _, _, _, rfl, ⟨fun _ w hw => by simp at hw, fun q e => by cases e⟩⟩, fun k s w5 d hd hJ => ?_, fun s w5 hJ => hX _ _ (by rw [List.length_map] at hJ; exact hJ)⟩
        obtain ⟨rfl, rr, o4, o7, o8, o9, o10, o11, rfl, hR⟩ := hJ
        obtain ⟨v, hv, rfl⟩ := mget hd
        have hvm := List.mem_of_getElem? hv
        simp only [dW_eq]
        walk_at "st"
        refine ⟨g, rfl, g, rfl, ?_⟩
        by_cases cc : crW v g = true
        · rw [if_pos (show (decide (v.1 ∈ g) != decide (v.2.1 ∈ g)) = true from cc)]
          rw [vSeq_eq]
          walk_at "stl"
          have hl := hP.ln
          have hsub := hP.sub (by omega)
          have hss : SubSm (loads v P) := fun l h => hsub l (h.trans (loads_sub v P))
          refine lc_pure P dM (fun m => crW v m.1) (fun m => dR m.2) (by omega) (fun I j acc m hx h => ?_) ?_
          · simp only [dM]
            walk_at "st"
            exact ⟨m.1, rfl, m.1, rfl, h⟩
          · refine ⟨loads v P, by rw [loads, List.map_map]; rfl, fun q hq => hss.mem hq, fun i => hss _ (List.take_sublist _ _), flR _, ?_⟩
            rw [vSeq_eq]
            walk_at "st"
            have hsl := (hP.loadDn v).sm (dd_pos' i) (dd_lt' (by omega)) (b900 (by omega))
            have hsd := (hP.left hn hvm).sm (dd_pos' i) (dd_lt' (by omega)) (b900 (by omega))
            refine ⟨(v.2.2 : Rat), load v P, by rw [dR_int]; rfl, sm_cost (hn.cost v hvm), hsl, ?_⟩
            walk_at "st"
            cases rr with
            | none =>
              rw [if_pos (show isNon (dRo none) = true from rfl)]
              exact ⟨rfl, some _, _, _, _, _, _, _, rfl, hR.fst hv cc⟩
            | some q0 =>
              rw [if_neg (show ¬ isNon (dRo (some q0)) = true from fun z => by cases z)]
              obtain ⟨⟨u, hu, _, e⟩, _⟩ := hR.s q0 rfl
              have hsq : Sm q0 := by rw [e]; exact (hP.left hn hu).sm (dd_pos' i) (dd_lt' (by omega)) (b900 (by omega))
              refine ⟨_, q0, rfl, hsd, hsq, _, rfl, ?_⟩
              by_cases c5 : (v.2.2 : Rat) - load v P < q0
              · rw [if_pos (decide_eq_true c5)]
                exact ⟨rfl, some _, _, _, _, _, _, _, rfl, hR.lt hv cc c5⟩
              · rw [if_neg (by simpa using c5)]
                exact ⟨rfl, some q0, _, _, _, _, _, _, rfl, hR.ge hv c5⟩
        · rw [if_neg (show ¬ (decide (v.1 ∈ g) != decide (v.2.1 ∈ g)) = true from cc)]
          exact ⟨rfl, rr, _, _, _, _, _, _, rfl, hR.skip hv cc⟩
    · obtain ⟨P, o4, o5, o6, o7, o8, o9, o10, o11, rfl, hP, hw3⟩ := hJ
      rw [rng_len] at hP hw3
      walk_at "rd"
      exact q P w3 (hP.pap (by omega)) (hw3.le (by omega))
end
end L2.VL
/-! part VD -/
set_option Elab.async false
set_option linter.all false
set_option autoImplicit false
set_option maxRecDepth 100000
set_option maxHeartbeats 4000000
namespace L2.VL
open PySem PySem.Spec PyProof.Rows L2 C8 MW
/-! ### a dict whose keys are tuples of ints -/
abbrev WL := List (List Int × Addr × Addr)
def tv (L : WL) : List (List Int × Addr × Value) := L.map fun x => (x.1, x.2.1, Value.ref x.2.2)
def WdP (P : Program) (w : World) (a : Addr) (L : WL) (h : Heap) : Prop := (a == sysModules) = false ∧ L.length ≤ 1000 ∧ (L.map (·.1)).Nodup ∧
  ∃ o es ep, h.get? a = some o ∧ o.ExactDict ∧ o.data = .dict es ep ∧ es.toList = (tv L).map (entryOfKey (tupleKind (intKind P w)))
def WdO (P : Program) (w : World) (a : Addr) (L : WL) : HO := .ext (WdP P w a L)
theorem wdO_new {P : Program} {w : World} {H : Hp} {h : Heap} {a : Addr} {L : WL} (R : WdP P w a L h) : ObjOk P w H h a (WdO P w a L) := by
  obtain ⟨r1, r2, r3, o, es, ep, ho, r4⟩ := id R
  refine ⟨R, ⟨o, ho⟩, fun h1 h2 p k => ?_⟩
  obtain ⟨p1, p2, p3, o', es', ep', ho', p4⟩ := p
  exact ⟨p1, p2, p3, o', es', ep', k o' ho', p4⟩
def lookW (L : WL) (k : List Int) : Option V := (L.find? fun x => decide (x.1 = k)).map fun x => V.ref x.2.2
def putW : WL → List Int → Addr → Addr → WL
  | [], k, b, v => [(k, b, v)]
  | x :: r, k, b, v => if x.1 = k then (k, x.2.1, v) :: r else x :: putW r k b v
/-- the keys' own tuples -/
def KeysW (K : PySem.W.Frag) (H : Hp) (L : WL) : Prop := ∀ x ∈ L, SqT K H x.2.1 (x.1.map V.int)
theorem tv_keys (L : WL) : (tv L).map (·.1) = L.map (·.1) := by unfold tv; rw [List.map_map]; rfl
theorem at_tv (k : List Int) : ∀ L : WL, (atKey (tv L) k).map (·.2) = (L.find? fun x => decide (x.1 = k)).map fun x => Value.ref x.2.2
  | [] => rfl
  | x :: r => by
    have ih := at_tv k r
    unfold atKey tv at ih ⊢
    by_cases c : x.1 = k
    · simp [c]
    · simp [c] at ih ⊢
      exact ih
theorem stored_new (k : List Int) (b v : Addr) : ∀ L : WL, k ∉ L.map (·.1) → putW L k b v = L ++ [(k, b, v)]
  | [], _ => rfl
  | x :: r, h => by
    rw [List.map_cons, List.mem_cons, not_or] at h
    unfold putW
    rw [if_neg (fun e => h.1 e.symm), stored_new k b v r h.2]; rfl
theorem putAt_id {k : List Int} {v : Value} : ∀ L : List (List Int × Addr × Value), k ∉ L.map (·.1) → L.map (putAt k v) = L
  | [], _ => rfl
  | x :: r, h => by
    rw [List.map_cons, List.mem_cons, not_or] at h
    rw [List.map_cons, putAt_id r h.2]
    unfold putAt
    rw [if_neg (fun e => h.1 e.symm)]
theorem stored_old (k : List Int) (b v : Addr) : ∀ L : WL, (L.map (·.1)).Nodup → k ∈ L.map (·.1) → (tv L).map (putAt k (Value.ref v)) = tv (putW L k b v)
  | [], _, h => by simp at h
  | x :: r, hn, h => by
    rw [List.map_cons, List.nodup_cons] at hn
    unfold putW
    by_cases c : x.1 = k
    · rw [if_pos c]
      have e : k ∉ (tv r).map (·.1) := by rw [tv_keys, ← c]; exact hn.1
      show putAt k (Value.ref v) (x.1, x.2.1, Value.ref x.2.2) :: (tv r).map (putAt k (Value.ref v)) = (k, x.2.1, Value.ref v) :: tv r
      rw [putAt_id _ e]
      unfold putAt
      rw [if_pos c]
      simp [c]
    · rw [if_neg c]
      rw [List.map_cons, List.mem_cons] at h
      have ih := stored_old k b v r hn.2 (h.resolve_left fun e => c e.symm)
      show putAt k (Value.ref v) (x.1, x.2.1, Value.ref x.2.2) :: (tv r).map (putAt k (Value.ref v)) = (x.1, x.2.1, Value.ref x.2.2) :: tv (putW r k b v)
      rw [ih]
      unfold putAt
      rw [if_neg c]
theorem at_none {k : List Int} : ∀ L : WL, atKey (tv L) k = none ↔ k ∉ L.map (·.1)
  | L => by
    have e := at_tv k L
    constructor
    · intro h
      rw [h] at e
      intro hm
      have : (L.find? fun x => decide (x.1 = k)) = none := by
        cases z : L.find? fun x => decide (x.1 = k) with
        | none => rfl
        | some x => rw [z] at e; cases e
      rw [List.find?_eq_none] at this
      obtain ⟨x, hx, ex⟩ := List.mem_map.mp hm
      exact this x hx (by simpa using ex)
    · intro h
      have : (L.find? fun x => decide (x.1 = k)) = none := by
        rw [List.find?_eq_none]
        intro x hx c
        exact h (List.mem_map.mpr ⟨x, hx, by simpa using c⟩)
      rw [this] at e
      cases z : atKey (tv L) k with
      | none => rfl
      | some x => rw [z] at e; cases e
theorem stored_tv (k : List Int) (b v : Addr) (L : WL) (hn : (L.map (·.1)).Nodup) : storedH (tv L) k b (Value.ref v) = tv (putW L k b v) := by
  cases z : atKey (tv L) k with
  | none =>
    rw [storedH_new z, stored_new k b v L ((at_none L).mp z)]
    unfold tv
    rw [List.map_append]; rfl
  | some p =>
    rw [storedH_old z]
    refine stored_old k b v L hn ?_
    apply Classical.byContradiction
    intro c
    rw [(at_none L).mpr c] at z
    cases z
theorem putW_keys (k : List Int) (b v : Addr) : ∀ L : WL, (putW L k b v).map (·.1) = if k ∈ L.map (·.1) then L.map (·.1) else L.map (·.1) ++ [k]
  | [] => rfl
  | x :: r => by
    unfold putW
    by_cases c : x.1 = k
    · rw [if_pos c, if_pos (by simp [c])]
      simp [c]
    · rw [if_neg c, List.map_cons, putW_keys k b v r]
      by_cases d : k ∈ r.map (·.1)
      · rw [if_pos d, if_pos (by rw [List.map_cons]; exact List.mem_cons_of_mem _ d), List.map_cons]
      · rw [if_neg d, if_neg (by
          rw [List.map_cons, List.mem_cons]
          rintro (e | e)
          · exact c e.symm
          · exact d e), List.map_cons]
        rfl
theorem putW_len (k : List Int) (b v : Addr) (L : WL) : (putW L k b v).length ≤ L.length + 1 := by
  have := congrArg List.length (putW_keys k b v L)
  rw [List.length_map] at this
  rw [this]
  split
  · rw [List.length_map]; omega
  · rw [List.length_append, List.length_map]; exact Nat.le_refl _
theorem putW_nodup {k : List Int} {b v : Addr} {L : WL} (hn : (L.map (·.1)).Nodup) : ((putW L k b v).map (·.1)).Nodup := by
  rw [putW_keys]
  split
  · exact hn
  · rename_i c
    rw [List.nodup_append]
    exact ⟨hn, by simp, fun x hx y hy e => c (by rw [List.mem_singleton] at hy; rw [← hy, ← e]; exact hx)⟩
section
variable {X : Cx} {pins : List (Addr × Obj)} {σ : L2.St} {H : Hp} {s : Shared} {a b : Addr} {L : WL} {k : List Int} {A : Around} {E : Value → Shared → Prop}
theorem wd_of (I : Inv X pins σ H s) (ha : H a = some (WdO X.prog X.w a L)) : WdP X.prog X.w a L s.heap := (I.hok a _ ha).1
theorem wd_at (I : Inv X pins σ H s) (ha : H a = some (WdO X.prog X.w a L)) (hk : KeysW X.K H L) : (a == sysModules) = false ∧ L.length ≤ 1000 ∧ (L.map (·.1)).Nodup ∧ s.heap.DictOfH (tupleKind (intKind X.prog X.w)) a (tv L) := by
  obtain ⟨r1, r2, r3, o, es, ep, ho, hx, hd, he⟩ := wd_of I ha
  refine ⟨r1, r2, r3, o, es, ep, ho, hx, hd, he, fun x hx => ?_, by rw [tv_keys]; exact r3⟩
  obtain ⟨y, hy, rfl⟩ := List.mem_map.mp hx
  exact I.isT (hk y hy)
theorem wd_dict (I : Inv X pins σ H s) (ha : H a = some (WdO X.prog X.w a L)) : s.TypeIs (.ref a) "dict" ∧ ∀ c, Value.ref a = .ref c → ∃ ob, s.heap.get? c = some ob ∧ ob.dict = none := by
  obtain ⟨r1, r2, r3, o, es, ep, ho, hx, hd, he⟩ := wd_of I ha
  exact ⟨⟨o, ho, hx.1⟩, fun c q => by cases q; exact ⟨o, ho, hx.2.1⟩⟩
theorem look_rel {z : V} {r : Value} (rz : RelV z r) (k : List Int) (L : WL) : RelV ((lookW L k).getD z) (((atKey (tv L) k).map (·.2)).getD r) := by
  rw [at_tv]
  unfold lookW
  cases L.find? fun x => decide (x.1 = k) with
  | none => exact rz
  | some x => rfl
theorem w_get {z : V} {r : Value} {Q : Value → Shared → Prop} (hu : A.units + 1 < cLine) (I : Inv X pins σ H s) (ha : H a = some (WdO X.prog X.w a L)) (hk : KeysW X.K H L) (hb : SqT X.K H b (k.map V.int)) (rz : RelV z r)
    (h : ∀ w' s', Inv X pins σ H s' → RelV ((lookW L k).getD z) w' → Q w' s') : wpAny (model X.prog X.w) A (call (.builtin "dict.get") [.ref a, .ref b, r]) Q E s := by
  obtain ⟨r1, r2, r3, dd⟩ := wd_at I ha hk
  exact call_meetsIn PySem.F.slot_dict_get dd.typeIs PySem.F.entry_dict_get (PySem.F.args_dict_get_3 _ _ _) (meetsH_dict_get_default (tupleKind (intKind X.prog X.w)) a b r1 r) ⟨tupleKind_room_in1 hu, k, tv L, I.isT hb, dd, h _ _ (I.tok _) (look_rel rz k L)⟩
theorem w_item {v : V} {Q : Value → Shared → Prop} (hu : A.units + 1 < cLine) (I : Inv X pins σ H s) (ha : H a = some (WdO X.prog X.w a L)) (hk : KeysW X.K H L) (hb : SqT X.K H b (k.map V.int)) (hv : lookW L k = some v)
    (h : ∀ w' s', Inv X pins σ H s' → RelV v w' → Q w' s') : wpAny (model X.prog X.w) A (getItem (.ref a) (.ref b)) Q E s := by
  obtain ⟨r1, r2, r3, dd⟩ := wd_at I ha hk
  have e := at_tv k L
  unfold lookW at hv
  cases z : L.find? fun x => decide (x.1 = k) with
  | none => rw [z] at hv; cases hv
  | some x =>
    rw [z] at e hv
    cases hv
    obtain ⟨p, hp, hp2⟩ := Option.map_eq_some_iff.mp e
    refine wpAny_getItem_heap (tupleKind_room_in1 hu) (I.isT hb) dd hp ?_
    rw [hp2]
    exact h _ _ (I.tok _) rfl
theorem w_set {c : Addr} {Q : Unit → Shared → Prop} (hu : A.units + 1 < cLine) (I : Inv X pins σ H s) (ha : H a = some (WdO X.prog X.w a L)) (hk : KeysW X.K H L) (hb : SqT X.K H b (k.map V.int)) (hl : L.length < 1000)
    (h : ∀ s', Inv X pins σ (upd H a (WdO X.prog X.w a (putW L k b c))) s' → Q () s') : wpAny (model X.prog X.w) A (setItem (.ref a) (.ref b) (.ref c)) Q E s := by
  obtain ⟨r1, r2, r3, dd⟩ := wd_at I ha hk
  have hz : (tv L).length ≤ sizeLine := by unfold tv; rw [List.length_map, sizeLine_eq]; omega
  refine wpAny_setItem_heap (hsz := hz) (tupleKind_room_in1 hu) (I.isT hb) dd fun h' dd' hs => h _ ?_
  obtain ⟨q, es, ep, hq, h2, h3, h4, _, _⟩ := dd'
  rw [stored_tv k b c L r3] at h4
  exact d_write I (by rw [ha]; exact True.intro) hs ⟨q, hq⟩ (wdO_new ⟨r1, by have := putW_len k b c L; omega, putW_nodup r3, q, es, ep, hq, h2, h3, h4⟩)
end
section
variable {X : Cx} {o e f i value : Expr} {apos cpos pos pos' : Pos} {td ty tx tvl : TE}
def tWNew (P : Program) (w : World) : TE := fun _ H Q => ∀ p, H p = none → Q (.ref p) (upd H p (WdO P w p []))
theorem pe_wnew : PE X (.Dict [] [] pos) (tWNew X.prog X.w) := ⟨fun pins s σ H Q I h =>
  wpAny_Dict_empty ⟨.ref s.heap.objs.size, upd H s.heap.objs.size (WdO X.prog X.w s.heap.objs.size []), I.laid (t' := s.toks) (fun _ _ q => Heap.get?_push_of_some _ q) (Nat.le_refl _)
    (wdO_new ⟨beq_eq_false_iff_ne.mpr (Ne.symm (Nat.ne_of_lt I.big)), Nat.zero_le _, List.nodup_nil, _, #[], 0, Heap.get?_push_size _ rfl, ⟨rfl, rfl, rfl⟩, rfl, rfl⟩), rfl, h _ (I.hok.fresh (Nat.le_refl _))⟩⟩
/-- d.get(y, z) -/
def tWGet (K : PySem.W.Frag) (P : Program) (w : World) (td ty tx : TE) : TE := fun σ H Q => td σ H fun x H1 => ∃ a L0, x = .ref a ∧ H1 a = some (WdO P w a L0) ∧ ty σ H1 fun y H2 => tx σ H2 fun z H3 => ∃ b k L, y = .ref b ∧ SqT K H3 b (k.map V.int) ∧ H3 a = some (WdO P w a L) ∧ KeysW K H3 L ∧ Q ((lookW L k).getD z) H3
theorem pe_wget (hu : X.A.units + 1 < cLine) (ho : PE X o td) (he : PE X e ty) (hf : PE X f tx) (m : M2 X o "get" apos e f cpos) : PE X (.Call (.Attribute o "get" apos) [e, f] [] cpos) (tWGet X.K X.prog X.w td ty tx) := by
  refine ⟨fun pins s σ H Q I h => ?_⟩
  refine wpAny_Call_method m.base m.few m.line PySem.F.plainAttrs_dict PySem.F.slot_dict_get PySem.F.type_dict_get (thn (ho.run pins s σ H _ I h) fun u s1 ⟨x, H1, I1, rx, a, L0, ex, ha, q1⟩ => ?_)
  subst ex
  obtain rfl : u = Value.ref a := rx
  obtain ⟨t1, t2⟩ := wd_dict I1 ha
  refine ⟨t1, t2, ?_⟩
  rw [m.trees]
  refine Calls.callWith_builtin rfl (Calls.evalArgs_plain (Calls.spliced_cons (thn (he.run pins s1 σ H1 _ I1 q1) fun iv s2 ⟨y, H2, I2, ry, q2⟩ =>
    Calls.spliced_cons (thn (hf.run pins s2 σ H2 _ I2 q2) fun fv s3 ⟨z, H3, I3, rz, b, k, L, ey, hb, hL, hk, q3⟩ => Calls.spliced_nil ?_))))
  subst ey
  cases (show iv = Value.ref b from ry)
  exact w_get hu I3 hL hk hb rz fun w' s4 I4 rw' => ⟨_, H3, I4, rw', q3⟩
/-- d[y] -/
def tWIx (K : PySem.W.Frag) (P : Program) (w : World) (td ty : TE) : TE := fun σ H Q => td σ H fun x H1 => ty σ H1 fun y H2 => ∃ a b k L v, x = .ref a ∧ y = .ref b ∧ SqT K H2 b (k.map V.int) ∧ H2 a = some (WdO P w a L) ∧ KeysW K H2 L ∧ lookW L k = some v ∧ Q v H2
theorem pe_wix (hu : X.A.units + 1 < cLine) (ho : PE X o td) (hi : PE X i ty) (hs : NoSl i) : PE X (.Subscript o i pos) (tWIx X.K X.prog X.w td ty) := by
  refine ⟨fun pins s σ H Q I h => ?_⟩
  refine subD_of PySem.F.slot_dict_getitem.lookup hs (thn (ho.run pins s σ H _ I h) fun u s1 ⟨x, H1, I1, rx, q1⟩ => thn (hi.run pins s1 σ H1 _ I1 q1) fun iv s2 ⟨y, H2, I2, ry, a, b, k, L, v, ex, ey, hb, hL, hk, hv, q2⟩ => ?_)
  subst ex ey
  obtain rfl : u = Value.ref a := rx
  cases (show iv = Value.ref b from ry)
  exact ⟨(wd_dict I2 hL).1, w_item hu I2 hL hk hb hv fun w' s3 I3 rw' => ⟨v, H2, I3, rw', q2⟩⟩
/-- d[y] = v -/
def sWPut (K : PySem.W.Frag) (P : Program) (w : World) (td ty tvl : TE) : TS := fun D σ H => tvl σ H fun v H1 => td σ H1 fun x H2 => ty σ H2 fun y H3 => ∃ a b c k L, x = .ref a ∧ y = .ref b ∧ v = .ref c ∧ SqT K H3 b (k.map V.int) ∧ H3 a = some (WdO P w a L) ∧ KeysW K H3 L ∧ L.length < 1000 ∧ D.nx σ (upd H3 a (WdO P w a (putW L k b c)))
theorem ps_wput (hu : X.A.units + 1 < cLine) (ho : PE X o td) (hi : PE X i ty) (hv : PE X value tvl) (hs : swapsWith value (some (.Subscript o i pos')) pos.line X.env = pure false) :
    PS X (.Assign [.Subscript o i pos'] value pos) (sWPut X.K X.prog X.w td ty tvl) := by
  refine ⟨fun pins s σ H D I h => ?_⟩
  refine wpAny_Assign_Subscript (thn (hv.run pins s σ H _ I h) fun r s1 ⟨v, H1, I1, rv, q1⟩ => thn (ho.run pins s1 σ H1 _ I1 q1) fun u s2 ⟨x, H2, I2, rx, q2⟩ => thn (hi.run pins s2 σ H2 _ I2 q2) fun iv s3 ⟨y, H3, I3, ry, a, b, c, k, L, ex, ey, ev, hb, hL, hk, hl, q3⟩ => ?_) hs
  subst ex ey ev
  obtain rfl : u = Value.ref a := rx
  cases (show iv = Value.ref b from ry)
  cases (show r = Value.ref c from rv)
  exact w_set hu I3 hL hk hb hl fun s4 I4 => ⟨σ, _, I4, q3⟩
/-- sorted(d) -/
def rSortW (K : PySem.W.Frag) (P : Program) (w : World) : List V → Hp → VK → Prop := fun vs H Q => ∃ (a : Addr) (L : WL), vs = [.ref a] ∧ H a = some (WdO P w a L) ∧ KeysW K H L ∧ (∀ x ∈ L, x.1 ≠ []) ∧
  ∀ (L' : WL) (p : Addr), L'.Perm L → H p = none → Q (.ref p) (upd H p (.lst (L'.map fun x => V.ref x.2.1)))
theorem each_refs {h : List Value} {L : WL} (e : PySem.W.EachIs (fun v (x : List Int × Addr × Addr) => v = Value.ref x.2.1) h L) : Vals (L.map fun x => V.ref x.2.1) h := by
  induction e with
  | nil => exact .nil
  | cons r _ ih => exact .cons r ih
theorem refs_each : ∀ L : WL, PySem.W.EachIs (fun v (x : List Int × Addr × Addr) => v = Value.ref x.2.1) (L.map fun x => Value.ref x.2.1) L
  | [] => .nil
  | _ :: r => .cons rfl (refs_each r)
theorem cr_sortW (hc : X.calm = true) (hu : X.A.units + 64 < cLine) : CallR X (.builtin "sorted") (rSortW X.K X.prog X.w) := by
  intro pins s σ H vs us Q I r h
  obtain ⟨a, L, rfl, ha, hk, hne, q⟩ := h
  rw [Vals.ref1 r]
  obtain ⟨r1, r2, r3, o, es, ep, ho, hx, hdat, hes⟩ := wd_of I ha
  have hsz : es.size = L.length := by rw [size_of_entries hes]; unfold tv; rw [List.length_map]
  refine Calls.call_function_entry PyProof.Rows.kind_sorted PyProof.Rows.plain_sorted PyProof.Rows.entry_sorted (PyProof.Rows.args_sorted1 _) ?_
  unfold Builtin.«sorted»
  refine wpAny_bind (m := checkCount "sorted" 1 1 _) (wpAny_pure ?_)
  refine wpAny_bind (PySem.W.kdu_collect (A := X.A.in1) (PySem.KdlSrc.rawDict (ep := ep) r1) (I.ok.hd hc) (show s.heap.DictRaw a es ep from ⟨o, ho, hx, hdat⟩) (by rw [hsz, sizeLine_eq]; omega) fun h' tk acc hkp hacc => ?_)
  have eacc : acc.toList = L.map fun x => Value.ref x.2.1 := by
    refine List.ext_getElem? fun j => ?_
    rw [List.getElem?_map]
    cases z : acc.toList[j]? with
    | none =>
      have : acc.toList.length ≤ j := List.getElem?_eq_none_iff.mp z
      rw [Array.length_toList, hacc.1, hsz] at this
      rw [List.getElem?_eq_none this]; rfl
    | some v =>
      obtain ⟨hi, ev⟩ := hacc.2 j v (by rw [← Array.getElem?_toList]; exact z)
      have hL : j < L.length := by rw [← hsz]; exact hi
      have e1 := entry_at hes j
      unfold tv at e1
      rw [List.getElem?_map, List.getElem?_eq_getElem hL, Array.getElem?_eq_getElem hi] at e1
      rw [List.getElem?_eq_getElem hL, ev, Option.some.inj e1]
      rfl
  have I1 : Inv X pins σ H { s with heap := h', toks := tk } := I.kept hkp
  have hlen : acc.toList.length = L.length := by rw [eacc, List.length_map]
  refine wpAny_bind (wpAny_newList ?_ (by rw [hlen, sizeLine_eq]; omega))
  have hoL : (h'.push (seqObj "list" acc.toList.toArray 0)).get? h'.objs.size = some (seqObj "list" acc.toList.toArray 0) := Heap.get?_push_size _ rfl
  have er : PySem.W.EachIs (fun v (x : List Int × Addr × Addr) => ∃ as, Reads (PySem.W.sortingHeap (h'.push (seqObj "list" acc.toList.toArray 0)) h'.objs.size acc.toList) v (dT x.1) as) acc.toList L := by
    rw [eacc]
    refine (PySem.W.each_mem (refs_each L)).mono fun v x ⟨ev, hx⟩ => ?_
    obtain ⟨as, R⟩ := reads_dT (s := { s with heap := h', toks := tk }) I1 ⟨_, ev, hk x hx⟩
    refine ⟨as, PyProof.Rows.Reads.keeps (fun b ob eb => ?_) R⟩
    have hlt : b < h'.objs.size := Heap.lt_size eb
    rw [PySem.W.sortingHeap_old (Nat.ne_of_lt hlt) (Heap.get?_push_of_some _ eb)]
  have hal : PySem.W.AllAlike (L.map fun x => dT x.1) := .of fun b b' => by simp only [PySem.W.alike]; exact PySem.W.alike_ints b.1 b'.1
  show wpAny _ _ _ _ _ { s with heap := h'.push (seqObj "list" acc.toList.toArray 0), toks := tk }
  have fin : ∀ out : List Value, out.length = L.length → PySem.W.EachIs (fun v (x : List Int × Addr × Addr) => v = Value.ref x.2.1) out (L.mergeSort (PySem.W.dataLe false fun x => dT x.1)) →
      EP X pins σ Q (.ref h'.objs.size) { s with heap := sortedHeap (h'.push (seqObj "list" acc.toList.toArray 0)) h'.objs.size acc.toList out.toArray, toks := tk } := fun out ho eo => by
    have pp : (L.mergeSort (PySem.W.dataLe false fun x => dT x.1)).Perm L := List.mergeSort_perm _ _
    obtain ⟨c, hc'⟩ := PyProof.Rows.sortedHeap_at (vs := acc.toList) (out := out.toArray) hoL
    refine ⟨.ref h'.objs.size, upd H h'.objs.size (.lst ((L.mergeSort (PySem.W.dataLe false fun x => dT x.1)).map fun x => V.ref x.2.1)), I1.laid (t' := tk) (fun b u e => ?_) (Nat.le_refl _) ⟨?_, out, c, each_refs eo, hc'⟩, rfl, q _ _ pp (I1.hok.fresh (Nat.le_refl _))⟩
    · have hb : b < h'.objs.size := Heap.lt_size e
      rw [PyProof.Rows.sortedHeap_old (Nat.ne_of_lt hb) (by rw [size_push']; exact Nat.lt_succ_of_lt hb)]
      exact Heap.get?_push_of_some _ e
    · rw [List.length_map, pp.length_eq, sizeLine_eq]; omega
  have S := PySem.W.SortsAt.data (prog := X.prog) (w := X.w) (A := X.A.in1.in1) (s := { s with heap := PySem.W.sortingHeap (h'.push (seqObj "list" acc.toList.toArray 0)) h'.objs.size acc.toList, toks := tk })
    (PySem.W.each_map (R := fun v d => ∃ as, Reads (PySem.W.sortingHeap (h'.push (seqObj "list" acc.toList.toArray 0)) h'.objs.size acc.toList) v d as) (fun x : List Int × Addr × Addr => dT x.1) er) hal
    (.inl fun d hd => by
      obtain ⟨x, hx, rfl⟩ := List.mem_map.mp hd
      have := hne x hx
      cases e : x.1 with
      | nil => exact absurd e this
      | cons y r => exact ⟨_, _, rfl⟩) (PySem.W.bound_map fun b _ => by have := depth_dT b.1; show X.A.units + 1 + 1 + _ < _; omega)
  refine wpAny_bind (wpAny_holding (wpAny_call_entry PyProof.Rows.slot_list_sort ⟨_, hoL, rfl⟩ PyProof.Rows.entry_list_sort
    (PySem.W.list_sort_vals hoL S (by rw [hlen, sizeLine_eq]; omega) ⟨.none, rfl, ?_⟩) (PyProof.Rows.args_list_sort _)))
  exact wpAny_pure ⟨_, rfl, fin _ (by rw [PySem.W.sortVals_length false rfl]; exact hlen) (PySem.W.sortVals_data false (by rw [eacc]; exact refs_each L) er hal)⟩
end
end L2.VL
/-! part VO -/
set_option Elab.async false
set_option linter.all false
set_option autoImplicit false
set_option maxRecDepth 100000
set_option maxHeartbeats 4000000
namespace L2.VL
open PySem PySem.Spec PyProof.Rows L2 C8 MW
/-! ### the world of one growth -/
def dTk (t : Rat × Int) : PyData := .tuple [dR t.1, .int t.2]
structure GIx where
  sa : Addr
  dx : Addr
  fa : Addr
  wa : Addr
  ta : Addr
  ra : Addr
  n : Nat
  ws : List Way
  ps : List (Int × Int)
structure GX where
  g : GS
  rn : Nat
def fldG (g : GIx) (vn vw vt vp vq : V) : List (Str × V) := [("net", vn), ("ways", vw), ("time", vt), ("parts", vp), ("filled", .ref g.fa), ("widths", .ref g.wa), ("taken", .ref g.ta), ("rows", .ref g.ra), ("pairs", vq)]
def GIx.ads (g : GIx) : List Addr := [g.sa, g.dx, g.fa, g.wa, g.ta, g.ra]
def RowW (K : PySem.W.Frag) (F : Hp) (x : List Int × Addr × Addr) (m : Moat) : Prop := x.1 = m.1 ∧ Dp K F (.ref x.2.1) (dT x.1) ∧ Dp K F (.ref x.2.2) (dR m.2)
structure GAp (g : GIx) : Prop where
  sd : g.sa ≠ g.dx
  sf : g.sa ≠ g.fa
  sw : g.sa ≠ g.wa
  st : g.sa ≠ g.ta
  sr : g.sa ≠ g.ra
  df : g.dx ≠ g.fa
  dw : g.dx ≠ g.wa
  dt : g.dx ≠ g.ta
  dr : g.dx ≠ g.ra
  fw : g.fa ≠ g.wa
  ft : g.fa ≠ g.ta
  fr : g.fa ≠ g.ra
  wt : g.wa ≠ g.ta
  wr : g.wa ≠ g.ra
  tr : g.ta ≠ g.ra
structure GR (K : PySem.W.Frag) (P : Program) (w : World) (g : GIx) (st : GX) (F H : Hp) (vn vw vt vp vq : V) (vs us rs : List V) (L : WL) : Prop where
  ap : GAp g
  nf : ∀ a ∈ g.ads, F a = none
  hs : H g.sa = some (.ins (gC K) g.dx (fldG g vn vw vt vp vq))
  hd : H g.dx ≠ none
  pn : Dp K F vn (dN g.n g.ws)
  pw : Dp K F vw (dWs g.ws)
  pt : Dp K F vt (dR st.g.time)
  pp : Dp K F vp (dGs st.g.parts)
  pq : Dp K F vq (dPs g.ps)
  hf : H g.fa = some (.lst vs)
  pf : DpAll K F vs (st.g.filled.map dR)
  hw : H g.wa = some (WdO P w g.wa L)
  pd : Paired (RowW K F) L st.g.wid
  ht : H g.ta = some (.lst us)
  pu : DpAll K F us (st.g.taken.map dTk)
  hr : H g.ra = some (.lst rs)
  lr : rs.length = st.rn
theorem paired_imp {α β : Type} {R R' : α → β → Prop} (h : ∀ a b, R a b → R' a b) : ∀ {l : List α} {m : List β}, Paired R l m → Paired R' l m
  | _, _, .nil => .nil
  | _, _, .cons a r => .cons (h _ _ a) (paired_imp h r)
theorem mem_ads {g : GIx} {a : Addr} : a ∈ g.ads ↔ a = g.sa ∨ a = g.dx ∨ a = g.fa ∨ a = g.wa ∨ a = g.ta ∨ a = g.ra := by simp [GIx.ads]
section
variable {K : PySem.W.Frag} {P : Program} {w : World} {g : GIx} {st : GX} {F H F' H' : Hp} {vn vw vt vp vq : V} {vs us rs : List V} {L : WL}
theorem GR.keep (r : GR K P w g st F H vn vw vt vp vq vs us rs L) (hF : Same F F') (nf : ∀ a ∈ g.ads, F' a = none) (hH : ∀ a ∈ g.ads, H' a = H a) : GR K P w g st F' H' vn vw vt vp vq vs us rs L :=
  ⟨r.ap, nf, (hH _ (by simp [GIx.ads])).trans r.hs, fun e => r.hd ((hH _ (by simp [GIx.ads])).symm.trans e), dp_mono hF r.pn, dp_mono hF r.pw, dp_mono hF r.pt, dp_mono hF r.pp, dp_mono hF r.pq,
   (hH _ (by simp [GIx.ads])).trans r.hf, dpa_mono hF r.pf, (hH _ (by simp [GIx.ads])).trans r.hw, paired_imp (fun _ _ ⟨a, b, c⟩ => ⟨a, dp_mono hF b, dp_mono hF c⟩) r.pd, (hH _ (by simp [GIx.ads])).trans r.ht, dpa_mono hF r.pu, (hH _ (by simp [GIx.ads])).trans r.hr, r.lr⟩
theorem GR.dom (r : GR K P w g st F H vn vw vt vp vq vs us rs L) : ∀ a ∈ g.ads, F a = none ∧ H a ≠ none := fun a ha => by
  refine ⟨r.nf a ha, ?_⟩
  rcases mem_ads.mp ha with rfl | rfl | rfl | rfl | rfl | rfl
  · exact ne_some r.hs
  · exact r.hd
  · exact ne_some r.hf
  · exact ne_some r.hw
  · exact ne_some r.ht
  · exact ne_some r.hr
end
abbrev WG (K : PySem.W.Frag) (P : Program) (w : World) (g : GIx) : Wo where
  S := GX
  fp := fun a => a ∈ g.ads
  R := fun st F H => ∃ vn vw vt vp vq vs us rs L, GR K P w g st F H vn vw vt vp vq vs us rs L
  keep := fun ⟨vn, vw, vt, vp, vq, vs, us, rs, L, r⟩ hF nf hH => ⟨vn, vw, vt, vp, vq, vs, us, rs, L, r.keep hF nf hH⟩
  dom := fun ⟨_, _, _, _, _, _, _, _, _, r⟩ => r.dom
/-! ### what of the class is needed -/
structure ClsF (K : PySem.W.Frag) : Prop where
  c : Cls K (gC K)
  net : NoAttr K (gC K) "net"
  ways : NoAttr K (gC K) "ways"
  time : NoAttr K (gC K) "time"
  parts : NoAttr K (gC K) "parts"
  filled : NoAttr K (gC K) "filled"
  widths : NoAttr K (gC K) "widths"
  taken : NoAttr K (gC K) "taken"
  rows : NoAttr K (gC K) "rows"
  pairs : NoAttr K (gC K) "pairs"
inductive Gf where
  | net
  | ways
  | time
  | parts
  | pairs
def Gf.nm : Gf → Str
  | .net => "net"
  | .ways => "ways"
  | .time => "time"
  | .parts => "parts"
  | .pairs => "pairs"
def Gf.d (g : GIx) (st : GX) : Gf → PyData
  | .net => dN g.n g.ws
  | .ways => dWs g.ws
  | .time => dR st.g.time
  | .parts => dGs st.g.parts
  | .pairs => dPs g.ps
theorem dT_inv {K : PySem.W.Frag} {F : Hp} {v : V} {k : List Int} (h : Dp K F v (dT k)) : ∃ a, v = .ref a ∧ SqT K F a (k.map V.int) := by
  cases h with
  | tup hs ha =>
    rw [dpa_ints ha] at hs
    exact ⟨_, rfl, hs⟩
theorem look_none {K : PySem.W.Frag} {F : Hp} {k : List Int} : ∀ {L : WL} {wd : List Moat}, Paired (RowW K F) L wd → (lookW L k = none ∧ k ∉ wd.map (·.1)) ∨ ∃ c, lookW L k = some (.ref c) ∧ Dp K F (.ref c) (dR (getM wd k)) ∧ k ∈ wd.map (·.1)
  | _, _, .nil => .inl ⟨rfl, by simp⟩
  | _, _, .cons (a := x) (b := m) (l₁ := L) (l₂ := wd) ⟨e1, e2, e3⟩ r => by
    by_cases c : m.1 = k
    · right
      refine ⟨x.2.2, ?_, ?_, by simp [c]⟩
      · unfold lookW
        rw [List.find?_cons_of_pos (by simp [e1, c])]; rfl
      · unfold getM
        rw [if_pos c]; exact e3
    · have h1 : lookW (x :: L) k = lookW L k := by
        unfold lookW
        rw [List.find?_cons_of_neg (by simp [e1, c])]
      have h2 : getM (m :: wd) k = getM wd k := by
        rw [getM, if_neg c]
      rw [h1, h2]
      rcases look_none r with ⟨a, b⟩ | ⟨d, a, b, e⟩
      · exact .inl ⟨a, by rw [List.map_cons, List.mem_cons, not_or]; exact ⟨fun z => c z.symm, b⟩⟩
      · exact .inr ⟨d, a, b, by rw [List.map_cons]; exact List.mem_cons_of_mem _ e⟩
theorem put_rows {K : PySem.W.Frag} {F : Hp} {k : List Int} {b c : Addr} {q : Rat} (hb : Dp K F (.ref b) (dT k)) (hc : Dp K F (.ref c) (dR q)) : ∀ {L : WL} {wd : List Moat}, Paired (RowW K F) L wd → Paired (RowW K F) (putW L k b c) (putM wd k q)
  | _, _, .nil => .cons ⟨rfl, hb, hc⟩ .nil
  | _, _, .cons (a := x) (b := m) ⟨e1, e2, e3⟩ r => by
    unfold putW putM
    by_cases d : x.1 = k
    · rw [if_pos d, if_pos (by rw [← e1]; exact d)]
      exact .cons ⟨rfl, by rw [← d]; exact e2, hc⟩ r
    · rw [if_neg d, if_neg (by rw [← e1]; exact d)]
      exact .cons ⟨e1, e2, e3⟩ (put_rows hb hc r)
theorem keysW_of {K : PySem.W.Frag} {F H : Hp} (sf : Same F H) : ∀ {L : WL} {wd : List Moat}, Paired (RowW K F) L wd → KeysW K H L
  | _, _, .nil => fun _ h => by simp at h
  | _, _, .cons ⟨_, e2, _⟩ r => fun y hy => by
    rcases List.mem_cons.mp hy with rfl | hy
    · obtain ⟨a, ea, hs⟩ := dT_inv e2
      cases ea
      exact sqT_up sf hs
    · exact keysW_of sf r y hy
theorem rows_keys {K : PySem.W.Frag} {F : Hp} : ∀ {L : WL} {wd : List Moat}, Paired (RowW K F) L wd → L.map (·.1) = wd.map (·.1)
  | _, _, .nil => rfl
  | _, _, .cons ⟨e1, _, _⟩ r => by rw [List.map_cons, List.map_cons, e1, rows_keys r]
theorem rows_dp {K : PySem.W.Frag} {F : Hp} : ∀ {L : WL} {wd : List Moat}, Paired (RowW K F) L wd → ∀ x ∈ L, Dp K F (.ref x.2.1) (dT x.1)
  | _, _, .nil => fun _ h => by simp at h
  | _, _, .cons ⟨_, e2, _⟩ r => fun y hy => by
    rcases List.mem_cons.mp hy with rfl | hy
    · exact e2
    · exact rows_dp r y hy
theorem keys_dpa {K : PySem.W.Frag} {F : Hp} : ∀ {L : WL}, (∀ x ∈ L, Dp K F (.ref x.2.1) (dT x.1)) → DpAll K F (L.map fun x => V.ref x.2.1) ((L.map (·.1)).map dT)
  | [], _ => .nil
  | x :: r, h => .cons (h x (by simp)) (keys_dpa fun y hy => h y (List.mem_cons_of_mem _ hy))
section
variable {X : Cx} {g : GIx} {p pos pos' apos cpos : Pos} {x : Str} {f : Str} {e e1 e2 : Expr} {te t1 t2 : TE}
/-! ### a field that is data -/
def vGf (g : GIx) (i : Nat) (φ : Gf) : List SD → GX → (PyData → GX → Prop) → Prop := fun s st Q => s[i]? = some (.adr g.sa) ∧ Q (φ.d g st) st
theorem gf_look {K : PySem.W.Frag} {P : Program} {w : World} {st : GX} {F H : Hp} {vn vw vt vp vq : V} {vs us rs : List V} {L : WL} (cf : ClsF K) (r : GR K P w g st F H vn vw vt vp vq vs us rs L) (φ : Gf) :
    ∃ v, (fldG g vn vw vt vp vq).lookup φ.nm = some v ∧ NoAttr K (gC K) φ.nm ∧ Dp K F v (φ.d g st) := by
  cases φ with
  | net => exact ⟨_, rfl, cf.net, r.pn⟩
  | ways => exact ⟨_, rfl, cf.ways, r.pw⟩
  | time => exact ⟨_, rfl, cf.time, r.pt⟩
  | parts => exact ⟨_, rfl, cf.parts, r.pp⟩
  | pairs => exact ⟨_, rfl, cf.pairs, r.pq⟩
theorem de_gf (K : PySem.W.Frag) (P : Program) (w : World) (cf : ClsF K) (i : Nat) (φ : Gf) (hK : X.K = K := by rfl) (hf : f = φ.nm := by rfl) (hN : X.N[i]? = some x := by rfl)
    (hv : Vis X.env.scope x := by first | exact Or.inl rfl | exact Or.inr (Or.inl rfl) | exact Or.inr (Or.inr rfl)) (hd : (x == ("__debug__" : Str)) = false := by decide) (hcd : (x == ("__classdict__" : Str)) = false := by decide)
    (hb : attributeBase (.Name x p) f X.env (eval (.Name x p) X.env) = eval (.Name x p) X.env := by rfl) : DE X (WG K P w g) (.Attribute (.Name x p) f pos) (tFld K (tVar i) f) (vGf g i φ) := by
  subst hK hf
  refine ⟨pe_fld (pe_var hN hv hd hcd) hb, fun F0 H0 F H σ s st Q' Q R q k => ?_⟩
  obtain ⟨e, q⟩ := q
  obtain ⟨vn, vw, vt, vp, vq, vs, us, rs, L, r⟩ := R.wr
  obtain ⟨v, h1, h2, h3⟩ := gf_look cf r φ
  exact ⟨.ref g.sa, R.sl i _ e, g.sa, gC X.K, g.dx, _, v, rfl, r.hs, cf.c, h2, h1, k v F H _ st (Ext.refl R.sub) R.wr h3 q⟩
/-! ### self.time = .., self.parts = .. -/
def setG : GX → Gf → PyData → GX → Prop
  | st, .time, d, st' => ∃ q, d = dR q ∧ st' = ⟨{ st.g with time := q }, st.rn⟩
  | st, .parts, d, st' => ∃ gs, d = dGs gs ∧ st' = ⟨{ st.g with parts := gs }, st.rn⟩
  | _, _, _, _ => False
def vGset (K : PySem.W.Frag) (P : Program) (w : World) (g : GIx) (i : Nat) (φ : Gf) (t : VE (WG K P w g)) : VS (WG K P w g) := fun D s st => t s st fun d st1 => s[i]? = some (.adr g.sa) ∧ ∃ st', setG st1 φ d st' ∧ D.nx s st'
theorem ds_gset (K : PySem.W.Frag) (P : Program) (w : World) (cf : ClsF K) (i : Nat) (φ : Gf) {t : VE (WG K P w g)} (h : DE X (WG K P w g) e te t) (hK : X.K = K := by rfl) (hf : f = φ.nm := by rfl) (hN : X.N[i]? = some x := by rfl)
    (hv : Vis X.env.scope x := by first | exact Or.inl rfl | exact Or.inr (Or.inl rfl) | exact Or.inr (Or.inr rfl)) (hd : (x == ("__debug__" : Str)) = false := by decide) (hcd : (x == ("__classdict__" : Str)) = false := by decide)
    (hs : swapsWith e (some (.Attribute (.Name x p) f pos')) pos.line X.env = pure false := by rfl) : DS X (WG K P w g) (.Assign [.Attribute (.Name x p) f pos'] e pos) (sFld K (tVar i) te f) (vGset K P w g i φ t) := by
  subst hK hf
  refine ⟨ps_fld (pe_var hN hv hd hcd) h.pe hs, fun F0 H0 F H σ s st D' D R q k => ?_⟩
  refine h.sn _ _ _ _ _ _ _ _ _ R q fun v F1 H1 d st1 x1 r1 p1 q1 => ?_
  obtain ⟨e0, st', hset, q1⟩ := q1
  have R1 := R.up x1 r1
  obtain ⟨vn, vw, vt, vp, vq, vs, us, rs, L, r⟩ := R1.wr
  have ha := r.ap
  have fin : ∀ {vt' vp' : V} {st' : GX}, putF φ.nm v (fldG g vn vw vt vp vq) = fldG g vn vw vt' vp' vq → Dp X.K F1 vt' (dR st'.g.time) → Dp X.K F1 vp' (dGs st'.g.parts) → st'.g.filled = st1.g.filled → st'.g.wid = st1.g.wid → st'.g.taken = st1.g.taken → st'.rn = st1.rn → NoAttr X.K (gC X.K) φ.nm → D'.nx s st' →
      (sFld X.K (tVar i) (fun _ _ Q => Q v H1) φ.nm) D σ H := fun {vt' vp' st'} e1 e2 e3 e4 e5 e6 e7 na q1 => by
    refine ⟨.ref g.sa, R1.sl i _ e0, g.sa, gC X.K, g.dx, _, rfl, r.hs, cf.c, na, by show (9 : Nat) < 1000; decide, ?_⟩
    have r2 : (WG X.K P w g).R st' F1 (upd H1 g.sa (.ins (gC X.K) g.dx (fldG g vn vw vt' vp' vq))) := ⟨vn, vw, vt', vp', vq, vs, us, rs, L, ⟨ha, r.nf, upd_same, by rw [upd_ne ha.sd.symm]; exact r.hd, r.pn, r.pw, e2, e3, r.pq,
      by rw [upd_ne ha.sf.symm]; exact r.hf, by rw [e4]; exact r.pf, by rw [upd_ne ha.sw.symm]; exact r.hw, by rw [e5]; exact r.pd, by rw [upd_ne ha.st.symm]; exact r.ht, by rw [e6]; exact r.pu, by rw [upd_ne ha.sr.symm]; exact r.hr, by rw [e7]; exact r.lr⟩⟩
    rw [e1]
    exact k.nx σ s F1 _ st' x1.ff (R1.up (Ext.wr R1.sub R1.wr (by show g.sa ∈ g.ads; simp [GIx.ads])) r2) q1
  cases φ with
  | time =>
    obtain ⟨q, rfl, rfl⟩ := hset
    exact fin (vt' := v) (vp' := vp) (st' := ⟨{ st1.g with time := q }, st1.rn⟩) rfl p1 r.pp rfl rfl rfl rfl cf.time q1
  | parts =>
    obtain ⟨gs, rfl, rfl⟩ := hset
    exact fin (vt' := vt) (vp' := v) (st' := ⟨{ st1.g with parts := gs }, st1.rn⟩) rfl r.pt p1 rfl rfl rfl rfl cf.parts q1
  | net => exact hset.elim
  | ways => exact hset.elim
  | pairs => exact hset.elim
/-! ### self.filled -/
def vGfil (K : PySem.W.Frag) (P : Program) (w : World) (g : GIx) (i : Nat) (t : VE (WG K P w g)) : VE (WG K P w g) := fun s st Q => s[i]? = some (.adr g.sa) ∧ t s st fun d st1 => ∃ n : Int, d = .int n ∧ 0 ≤ n ∧ ∃ q, st1.g.filled[n.toNat]? = some q ∧ Q (dR q) st1
theorem de_gfil (K : PySem.W.Frag) (P : Program) (w : World) (cf : ClsF K) (i : Nat) {t : VE (WG K P w g)} (h : DE X (WG K P w g) e te t) (hK : X.K = K := by rfl) (hN : X.N[i]? = some x := by rfl)
    (hv : Vis X.env.scope x := by first | exact Or.inl rfl | exact Or.inr (Or.inl rfl) | exact Or.inr (Or.inr rfl)) (hd : (x == ("__debug__" : Str)) = false := by decide) (hcd : (x == ("__classdict__" : Str)) = false := by decide)
    (hb : attributeBase (.Name x p) "filled" X.env (eval (.Name x p) X.env) = eval (.Name x p) X.env := by rfl) (hs : PlainIx e := by intro _ _; rfl) :
    DE X (WG K P w g) (.Subscript (.Attribute (.Name x p) "filled" apos) e pos) (tOp (rIx K) (tFld K (tVar i) "filled") te) (vGfil K P w g i t) := by
  subst hK
  refine ⟨pe_ix ix_seq (pe_fld (pe_var hN hv hd hcd) hb) h.pe hs, fun F0 H0 F H σ s st Q' Q R q k => ?_⟩
  obtain ⟨e0, q⟩ := q
  obtain ⟨vn, vw, vt, vp, vq, vs, us, rs, L, r⟩ := R.wr
  refine ⟨.ref g.sa, R.sl i _ e0, g.sa, gC X.K, g.dx, _, .ref g.fa, rfl, r.hs, cf.c, cf.filled, rfl, ?_⟩
  refine h.sn _ _ _ _ _ _ _ _ _ R q fun v F1 H1 d st1 x1 r1 p1 q1 => ?_
  obtain ⟨n, rfl, hn, q0, hq, q1⟩ := q1
  cases p1
  obtain ⟨m, rfl⟩ : ∃ m : Nat, n = m := ⟨n.toNat, by omega⟩
  obtain ⟨_, _, _, _, _, vs1, _, _, _, r'⟩ := r1
  obtain ⟨v, hv', pv⟩ := dpa_getD r'.pf (i := m) (d := dR q0) (by rw [List.getElem?_map, show st1.g.filled[m]? = some q0 from hq]; rfl)
  exact .inl ⟨g.fa, vs1, _, v, rfl, rfl, .inl (.inl r'.hf), atI_nat hv', k v F1 H1 _ st1 x1 ⟨_, _, _, _, _, _, _, _, _, r'⟩ pv q1⟩
def vGfs (K : PySem.W.Frag) (P : Program) (w : World) (g : GIx) (i : Nat) (t1 t : VE (WG K P w g)) : VS (WG K P w g) := fun D s st => t s st fun d st1 => s[i]? = some (.adr g.sa) ∧ t1 s st1 fun d1 st2 => ∃ (n : Int) (q : Rat), d1 = .int n ∧ 0 ≤ n ∧ n < st2.g.filled.length ∧ d = dR q ∧ D.nx s ⟨{ st2.g with filled := st2.g.filled.set n.toNat q }, st2.rn⟩
theorem ds_gfs (K : PySem.W.Frag) (P : Program) (w : World) (cf : ClsF K) (i : Nat) {u1 u : VE (WG K P w g)} (h1 : DE X (WG K P w g) e1 t1 u1) (h : DE X (WG K P w g) e te u) (hK : X.K = K := by rfl) (hN : X.N[i]? = some x := by rfl)
    (hv : Vis X.env.scope x := by first | exact Or.inl rfl | exact Or.inr (Or.inl rfl) | exact Or.inr (Or.inr rfl)) (hd : (x == ("__debug__" : Str)) = false := by decide) (hcd : (x == ("__classdict__" : Str)) = false := by decide)
    (hb : attributeBase (.Name x p) "filled" X.env (eval (.Name x p) X.env) = eval (.Name x p) X.env := by rfl)
    (hs : swapsWithSole [.Subscript (.Attribute (.Name x p) "filled" apos) e1 pos'] e pos.line X.env = pure false := by rfl) (hw : swappedStores [.Subscript (.Attribute (.Name x p) "filled" apos) e1 pos'] e X.env = pure none := by rfl)
    (hu : ∀ v, assign (.Subscript (.Attribute (.Name x p) "filled" apos) e1 pos') X.env v = (do
      let ov ← holding [v] (eval (.Attribute (.Name x p) "filled" apos) X.env)
      let iv ← holding [v, ov] (eval e1 X.env)
      standAt pos'
      holding [v, ov, iv] (setItem ov iv v)
      release [v, ov, iv] []) := by intro _; rfl)
    (ha : (assignEach [.Subscript (.Attribute (.Name x p) "filled" apos) e1 pos'] X.env).map (·.2) = [assign (.Subscript (.Attribute (.Name x p) "filled" apos) e1 pos') X.env] := by rfl) :
    DS X (WG K P w g) (.Assign [.Subscript (.Attribute (.Name x p) "filled" apos) e1 pos'] e pos) (tAsg te (gSub (tFld K (tVar i) "filled") t1 rSetL)) (vGfs K P w g i u1 u) := by
  subst hK
  refine ⟨ps_asg h.pe (pg_sub (pe_fld (pe_var hN hv hd hcd) hb) h1.pe set_list hu) hs hw ha, fun F0 H0 F H σ s st D' D R q k => ?_⟩
  refine h.sn _ _ _ _ _ _ _ _ _ R q fun v F1 H1 d st1 x1 r1 p1 q1 => ?_
  obtain ⟨e0, q1⟩ := q1
  have R1 := R.up x1 r1
  obtain ⟨vn, vw, vt, vp, vq, vs, us, rs, L, r⟩ := id r1
  refine ⟨.ref g.sa, R1.sl i _ e0, g.sa, gC X.K, g.dx, _, .ref g.fa, rfl, r.hs, cf.c, cf.filled, rfl, ?_⟩
  refine h1.sn _ _ _ _ _ _ _ _ _ R1 q1 fun v2 F2 H2 d2 st2 x2 r2 p2 q2 => ?_
  obtain ⟨n, q0, rfl, hn, hl, rfl, q2⟩ := q2
  cases p2
  obtain ⟨m, rfl⟩ : ∃ m : Nat, n = m := ⟨n.toNat, by omega⟩
  obtain ⟨vn, vw, vt, vp, vq, vs, us, rs, L, r⟩ := id r2
  have hlen : vs.length = st2.g.filled.length := by rw [dpa_len r.pf, List.length_map]
  have ap := r.ap
  refine ⟨g.fa, vs, m, m, rfl, rfl, r.hf, ?_, ?_⟩
  · unfold ixN; rw [if_pos hn, if_pos (by omega)]; rfl
  have r3 : (WG X.K P w g).R ⟨{ st2.g with filled := st2.g.filled.set m q0 }, st2.rn⟩ F2 (upd H2 g.fa (.lst (vs.set m v))) := ⟨vn, vw, vt, vp, vq, vs.set m v, us, rs, L, ⟨ap, r.nf, by rw [upd_ne ap.sf]; exact r.hs, by rw [upd_ne ap.df]; exact r.hd, r.pn, r.pw, r.pt, r.pp, r.pq,
    upd_same, by rw [List.map_set]; exact dpa_set m r.pf (dp_mono x2.ff p1), by rw [upd_ne ap.fw.symm]; exact r.hw, r.pd, by rw [upd_ne ap.ft.symm]; exact r.ht, r.pu, by rw [upd_ne ap.fr.symm]; exact r.hr, r.lr⟩⟩
  have R2 := R1.up x2 r2
  exact k.nx σ s F2 _ _ (x1.ff.trans x2.ff) (R2.up (Ext.wr R2.sub R2.wr (by show g.fa ∈ g.ads; simp [GIx.ads])) r3) q2
/-! ### self.widths -/
def vGwg (K : PySem.W.Frag) (P : Program) (w : World) (g : GIx) (i : Nat) (u1 u2 : VE (WG K P w g)) : VE (WG K P w g) := fun s st Q => s[i]? = some (.adr g.sa) ∧ u1 s st fun d st1 => u2 s st1 fun e st2 => ∃ k, d = dT k ∧ e = dR 0 ∧ Q (dR (getM st2.g.wid k)) st2
theorem de_gwg (K : PySem.W.Frag) (P : Program) (w : World) (cf : ClsF K) (i : Nat) {u1 u2 : VE (WG K P w g)} (h1 : DE X (WG K P w g) e1 t1 u1) (h2 : DE X (WG K P w g) e2 t2 u2) (hu : X.A.units + 1 < cLine)
    (m : M2 X (.Attribute (.Name x p) "widths" pos') "get" apos e1 e2 cpos := by exact ⟨by rfl, by rfl, by rfl, by rfl⟩) (hK : X.K = K := by rfl) (hP : X.prog = P := by rfl) (hW : X.w = w := by rfl) (hN : X.N[i]? = some x := by rfl)
    (hv : Vis X.env.scope x := by first | exact Or.inl rfl | exact Or.inr (Or.inl rfl) | exact Or.inr (Or.inr rfl)) (hd : (x == ("__debug__" : Str)) = false := by decide) (hcd : (x == ("__classdict__" : Str)) = false := by decide)
    (hb : attributeBase (.Name x p) "widths" X.env (eval (.Name x p) X.env) = eval (.Name x p) X.env := by rfl) :
    DE X (WG K P w g) (.Call (.Attribute (.Attribute (.Name x p) "widths" pos') "get" apos) [e1, e2] [] cpos) (tWGet K P w (tFld K (tVar i) "widths") t1 t2) (vGwg K P w g i u1 u2) := by
  subst hK hP hW
  refine ⟨pe_wget hu (pe_fld (pe_var hN hv hd hcd) hb) h1.pe h2.pe m, fun F0 H0 F H σ s st Q' Q R q k => ?_⟩
  obtain ⟨e0, q⟩ := q
  obtain ⟨vn, vw, vt, vp, vq, vs, us, rs, L, r⟩ := R.wr
  refine ⟨.ref g.sa, R.sl i _ e0, g.sa, gC X.K, g.dx, _, .ref g.wa, rfl, r.hs, cf.c, cf.widths, rfl, g.wa, L, rfl, r.hw, ?_⟩
  refine h1.sn _ _ _ _ _ _ _ _ _ R q fun v F1 H1 d st1 x1 r1 p1 q1 => ?_
  refine h2.sn _ _ _ _ _ _ _ _ _ (R.up x1 r1) q1 fun v2 F2 H2 d2 st2 x2 r2 p2 q2 => ?_
  obtain ⟨ks, rfl, rfl, q2⟩ := q2
  obtain ⟨b, rfl, hb⟩ := dT_inv (dp_mono x2.ff p1)
  obtain ⟨_, _, _, _, _, _, _, _, L2, r'⟩ := id r2
  refine ⟨b, ks, L2, rfl, sqT_up x2.sub hb, r'.hw, keysW_of x2.sub r'.pd, ?_⟩
  rcases look_none (k := ks) r'.pd with ⟨a1, a2⟩ | ⟨c, a1, a2, _⟩
  · rw [get_not a2] at q2
    rw [a1]
    exact k v2 F2 H2 _ st2 (x1.trans x2) r2 p2 q2
  · rw [a1]
    exact k (.ref c) F2 H2 _ st2 (x1.trans x2) r2 a2 q2
def vGwi (K : PySem.W.Frag) (P : Program) (w : World) (g : GIx) (i : Nat) (u1 : VE (WG K P w g)) : VE (WG K P w g) := fun s st Q => s[i]? = some (.adr g.sa) ∧ u1 s st fun d st1 => ∃ k, d = dT k ∧ k ∈ st1.g.wid.map (·.1) ∧ Q (dR (getM st1.g.wid k)) st1
theorem de_gwi (K : PySem.W.Frag) (P : Program) (w : World) (cf : ClsF K) (i : Nat) {u1 : VE (WG K P w g)} (h1 : DE X (WG K P w g) e1 t1 u1) (hu : X.A.units + 1 < cLine)
    (hK : X.K = K := by rfl) (hP : X.prog = P := by rfl) (hW : X.w = w := by rfl) (hN : X.N[i]? = some x := by rfl)
    (hv : Vis X.env.scope x := by first | exact Or.inl rfl | exact Or.inr (Or.inl rfl) | exact Or.inr (Or.inr rfl)) (hd : (x == ("__debug__" : Str)) = false := by decide) (hcd : (x == ("__classdict__" : Str)) = false := by decide)
    (hb : attributeBase (.Name x p) "widths" X.env (eval (.Name x p) X.env) = eval (.Name x p) X.env := by rfl) (hs : NoSl e1 := by intro _ _; rfl) :
    DE X (WG K P w g) (.Subscript (.Attribute (.Name x p) "widths" apos) e1 pos) (tWIx K P w (tFld K (tVar i) "widths") t1) (vGwi K P w g i u1) := by
  subst hK hP hW
  refine ⟨pe_wix hu (pe_fld (pe_var hN hv hd hcd) hb) h1.pe hs, fun F0 H0 F H σ s st Q' Q R q k => ?_⟩
  obtain ⟨e0, q⟩ := q
  obtain ⟨vn, vw, vt, vp, vq, vs, us, rs, L, r⟩ := R.wr
  refine ⟨.ref g.sa, R.sl i _ e0, g.sa, gC X.K, g.dx, _, .ref g.wa, rfl, r.hs, cf.c, cf.widths, rfl, ?_⟩
  refine h1.sn _ _ _ _ _ _ _ _ _ R q fun v F1 H1 d st1 x1 r1 p1 q1 => ?_
  obtain ⟨ks, rfl, hm, q1⟩ := q1
  obtain ⟨b, rfl, hb⟩ := dT_inv p1
  obtain ⟨_, _, _, _, _, _, _, _, L2, r'⟩ := id r1
  rcases look_none (k := ks) r'.pd with ⟨a1, a2⟩ | ⟨c, a1, a2, _⟩
  · exact absurd hm a2
  · exact ⟨g.wa, b, ks, L2, .ref c, rfl, rfl, sqT_up x1.sub hb, r'.hw, keysW_of x1.sub r'.pd, a1, k (.ref c) F1 H1 _ st1 x1 r1 a2 q1⟩
def vGws (K : PySem.W.Frag) (P : Program) (w : World) (g : GIx) (i : Nat) (u1 u : VE (WG K P w g)) : VS (WG K P w g) := fun D s st => u s st fun d st1 => s[i]? = some (.adr g.sa) ∧ u1 s st1 fun d1 st2 => ∃ (k : List Int) (q : Rat), d1 = dT k ∧ d = dR q ∧ st2.g.wid.length < 1000 ∧ D.nx s ⟨{ st2.g with wid := putM st2.g.wid k q }, st2.rn⟩
theorem ds_gws (K : PySem.W.Frag) (P : Program) (w : World) (cf : ClsF K) (i : Nat) {u1 u : VE (WG K P w g)} (h1 : DE X (WG K P w g) e1 t1 u1) (h : DE X (WG K P w g) e te u) (hu : X.A.units + 1 < cLine)
    (hK : X.K = K := by rfl) (hP : X.prog = P := by rfl) (hW : X.w = w := by rfl) (hN : X.N[i]? = some x := by rfl)
    (hv : Vis X.env.scope x := by first | exact Or.inl rfl | exact Or.inr (Or.inl rfl) | exact Or.inr (Or.inr rfl)) (hd : (x == ("__debug__" : Str)) = false := by decide) (hcd : (x == ("__classdict__" : Str)) = false := by decide)
    (hb : attributeBase (.Name x p) "widths" X.env (eval (.Name x p) X.env) = eval (.Name x p) X.env := by rfl)
    (hs : swapsWith e (some (.Subscript (.Attribute (.Name x p) "widths" apos) e1 pos')) pos.line X.env = pure false := by rfl) :
    DS X (WG K P w g) (.Assign [.Subscript (.Attribute (.Name x p) "widths" apos) e1 pos'] e pos) (sWPut K P w (tFld K (tVar i) "widths") t1 te) (vGws K P w g i u1 u) := by
  subst hK hP hW
  refine ⟨ps_wput hu (pe_fld (pe_var hN hv hd hcd) hb) h1.pe h.pe hs, fun F0 H0 F H σ s st D' D R q k => ?_⟩
  refine h.sn _ _ _ _ _ _ _ _ _ R q fun v F1 H1 d st1 x1 r1 p1 q1 => ?_
  obtain ⟨e0, q1⟩ := q1
  have R1 := R.up x1 r1
  obtain ⟨vn, vw, vt, vp, vq, vs, us, rs, L, r⟩ := id r1
  refine ⟨.ref g.sa, R1.sl i _ e0, g.sa, gC X.K, g.dx, _, .ref g.wa, rfl, r.hs, cf.c, cf.widths, rfl, ?_⟩
  refine h1.sn _ _ _ _ _ _ _ _ _ R1 q1 fun v2 F2 H2 d2 st2 x2 r2 p2 q2 => ?_
  obtain ⟨ks, q0, rfl, rfl, hl, q2⟩ := q2
  obtain ⟨b, rfl, hb⟩ := dT_inv p2
  have p1' := dp_mono x2.ff p1
  obtain ⟨c, rfl, hc⟩ := dT_inv p1'
  obtain ⟨vn, vw, vt, vp, vq, vs, us, rs, L, r⟩ := id r2
  have hlen : L.length = st2.g.wid.length := by
    have := congrArg List.length (rows_keys r.pd)
    rwa [List.length_map, List.length_map] at this
  have ap := r.ap
  refine ⟨g.wa, b, c, ks, L, rfl, rfl, rfl, sqT_up x2.sub hb, r.hw, keysW_of x2.sub r.pd, by omega, ?_⟩
  have r3 : (WG X.K X.prog X.w g).R ⟨{ st2.g with wid := putM st2.g.wid ks q0 }, st2.rn⟩ F2 (upd H2 g.wa (WdO X.prog X.w g.wa (putW L ks b c))) := ⟨vn, vw, vt, vp, vq, vs, us, rs, putW L ks b c, ⟨ap, r.nf, by rw [upd_ne ap.sw]; exact r.hs, by rw [upd_ne ap.dw]; exact r.hd, r.pn, r.pw, r.pt, r.pp, r.pq,
    by rw [upd_ne ap.fw]; exact r.hf, r.pf, upd_same, put_rows p2 p1' r.pd, by rw [upd_ne ap.wt.symm]; exact r.ht, r.pu, by rw [upd_ne ap.wr.symm]; exact r.hr, r.lr⟩⟩
  have R2 := R1.up x2 r2
  exact k.nx σ s F2 _ _ (x1.ff.trans x2.ff) (R2.up (Ext.wr R2.sub R2.wr (by show g.wa ∈ g.ads; simp [GIx.ads])) r3) q2
/-- sorted(self.widths) -/
def vGwo (K : PySem.W.Frag) (P : Program) (w : World) (g : GIx) (i : Nat) : VE (WG K P w g) := fun s st Q => s[i]? = some (.adr g.sa) ∧ (∀ m ∈ st.g.wid, m.1 ≠ []) ∧ ∀ ks : List (List Int), ks.Perm (st.g.wid.map (·.1)) → Q (.list (ks.map dT)) st
theorem de_gwo (K : PySem.W.Frag) (P : Program) (w : World) (cf : ClsF K) (i : Nat) (hc : X.calm = true) (hu : X.A.units + 64 < cLine) (hg : Gl X "sorted") (hm : X.mg "sorted" = none) (hK : X.K = K := by rfl) (hP : X.prog = P := by rfl) (hW : X.w = w := by rfl) (hN : X.N[i]? = some x := by rfl)
    (hv : Vis X.env.scope x := by first | exact Or.inl rfl | exact Or.inr (Or.inl rfl) | exact Or.inr (Or.inr rfl)) (hd : (x == ("__debug__" : Str)) = false := by decide) (hcd : (x == ("__classdict__" : Str)) = false := by decide)
    (hb : attributeBase (.Name x p) "widths" X.env (eval (.Name x p) X.env) = eval (.Name x p) X.env := by rfl)
    (hs : starEach [.Attribute (.Name x p) "widths" apos] X.env = (false, eval (.Attribute (.Name x p) "widths" apos) X.env) :: starEach [] X.env := by rfl) :
    DE X (WG K P w g) (.Call (.Name "sorted" pos') [.Attribute (.Name x p) "widths" apos] [] pos) (tCB (rSortW K P w) (tCons (tFld K (tVar i) "widths") tNil)) (vGwo K P w g i) := by
  subst hK hP hW
  refine ⟨pe_callB (cr_sortW hc hu) hg hm (by decide +kernel) (pa_cons (pe_fld (pe_var hN hv hd hcd) hb) pa_nil hs), fun F0 H0 F H σ s st Q' Q R q k => ?_⟩
  obtain ⟨e0, hne, q⟩ := q
  obtain ⟨vn, vw, vt, vp, vq, vs, us, rs, L, r⟩ := R.wr
  refine ⟨.ref g.sa, R.sl i _ e0, g.sa, gC X.K, g.dx, _, .ref g.wa, rfl, r.hs, cf.c, cf.widths, rfl, ?_⟩
  refine ⟨g.wa, L, rfl, r.hw, keysW_of R.sub r.pd, fun x hx => ?_, fun L' b hp hb => ?_⟩
  · have : x.1 ∈ st.g.wid.map (·.1) := by rw [← rows_keys r.pd]; exact List.mem_map_of_mem hx
    obtain ⟨m, hm, e⟩ := List.mem_map.mp this
    rw [← e]; exact hne m hm
  · have pl := hp.map (·.1)
    rw [rows_keys r.pd] at pl
    obtain ⟨x, y⟩ := new_lst (K := X.K) R.sub hb (keys_dpa (L := L') fun z hz => rows_dp r.pd z (hp.mem_iff.mp hz))
    exact k _ _ _ _ st x.lift (x.keepR R.wr) y (q _ pl)
end
end L2.VL
/-! part VO2 -/
set_option Elab.async false
set_option linter.all false
set_option autoImplicit false
set_option maxRecDepth 100000
set_option maxHeartbeats 4000000
namespace L2.VL
open PySem PySem.Spec PyProof.Rows L2 C8 MW
section
variable {X : Cx} {g : GIx} {p pos pos' apos bpos cpos : Pos} {x : Str} {f : Str} {e : Expr} {te : TE} {tas : TA}
/-! ### self.taken, self.rows -/
def vGta (K : PySem.W.Frag) (P : Program) (w : World) (g : GIx) (i : Nat) (us : VA (WG K P w g)) : VS (WG K P w g) := fun D s st => s[i]? = some (.adr g.sa) ∧ us s st fun xs st1 => ∃ t, xs = [SD.fz (dTk t)] ∧ st1.g.taken.length ≤ 1000 ∧ D.nx s ⟨{ st1.g with taken := st1.g.taken ++ [t] }, st1.rn⟩
theorem ds_gta (K : PySem.W.Frag) (P : Program) (w : World) (cf : ClsF K) (i : Nat) {us : VA (WG K P w g)} (h : DA X (WG K P w g) [e] tas us) (hK : X.K = K := by rfl) (hN : X.N[i]? = some x := by rfl)
    (hv : Vis X.env.scope x := by first | exact Or.inl rfl | exact Or.inr (Or.inl rfl) | exact Or.inr (Or.inr rfl)) (hd : (x == ("__debug__" : Str)) = false := by decide) (hcd : (x == ("__classdict__" : Str)) = false := by decide)
    (hb : attributeBase (.Name x p) "taken" X.env (eval (.Name x p) X.env) = eval (.Name x p) X.env := by rfl)
    (hbase : attributeBase (.Attribute (.Name x p) "taken" bpos) "append" X.env (eval (.Attribute (.Name x p) "taken" bpos) X.env) = eval (.Attribute (.Name x p) "taken" bpos) X.env := by rfl)
    (hfew : ((backTo cpos (starEach [e] X.env)).all (fun x => !x.1) && (backToKw cpos (keywordEach [] X.env)).all (fun x => x.1.isSome)
      && decide ([e].length + ([] : List Keyword).length + (if ([] : List Keyword).isEmpty then 0 else 1) < 30)) = true := by rfl)
    (hline : (apos.endLine == cpos.line) = true := by rfl) (hs : starEach [e] X.env = (false, eval e X.env) :: starEach [] X.env := by rfl) (hplain : (backTo cpos (starEach [] X.env)).any (·.1) = false := by rfl)
    (hsw : swapsWith (.Call (.Attribute (.Attribute (.Name x p) "taken" bpos) "append" apos) [e] [] cpos) none pos.line X.env = pure false := by rfl) :
    DS X (WG K P w g) (.Expr (.Call (.Attribute (.Attribute (.Name x p) "taken" bpos) "append" apos) [e] [] cpos) pos) (tDrop (tBM K "list" rAppend (tFld K (tVar i) "taken") tas)) (vGta K P w g i us) := by
  subst hK
  refine ⟨ps_expr (pe_bm PySem.F.plainAttrs_list PySem.F.slot_list_append PySem.F.type_list_append mt_append (pe_fld (pe_var hN hv hd hcd) hb) h.pe hbase hfew hline hs hplain) hsw, fun F0 H0 F H σ s st D' D R q k => ?_⟩
  obtain ⟨e0, q⟩ := q
  obtain ⟨vn, vw, vt, vp, vq, vs, ts, rs, L, r⟩ := R.wr
  refine ⟨.ref g.sa, R.sl i _ e0, g.sa, gC X.K, g.dx, _, .ref g.ta, rfl, r.hs, cf.c, cf.taken, rfl, .inl ⟨rfl, ts, .inl (.inl r.ht)⟩, ?_⟩
  refine h.sn _ _ _ _ _ _ _ _ _ R q fun us2 F1 H1 xs st1 x1 r1 p1 q1 => ?_
  obtain ⟨t, rfl, hl, q1⟩ := q1
  obtain ⟨v, rfl, pv⟩ := dpa_inv1' p1
  obtain ⟨vn, vw, vt, vp, vq, vs, ts, rs, L, r⟩ := id r1
  have ap := r.ap
  refine ⟨g.ta, ts, v, rfl, rfl, r.ht, ?_, ?_⟩
  · have := dpa_len r.pu
    rw [List.length_map] at this
    rw [this]; exact small1000 hl
  have r3 : (WG X.K P w g).R ⟨{ st1.g with taken := st1.g.taken ++ [t] }, st1.rn⟩ F1 (upd H1 g.ta (.lst (ts ++ [v]))) := ⟨vn, vw, vt, vp, vq, vs, ts ++ [v], rs, L, ⟨ap, r.nf, by rw [upd_ne ap.st]; exact r.hs, by rw [upd_ne ap.dt]; exact r.hd, r.pn, r.pw, r.pt, r.pp, r.pq,
    by rw [upd_ne ap.ft]; exact r.hf, r.pf, by rw [upd_ne ap.wt]; exact r.hw, r.pd, upd_same, by rw [List.map_append]; exact dpa_app r.pu (dpa_one pv), by rw [upd_ne ap.tr.symm]; exact r.hr, r.lr⟩⟩
  have R1 := R.up x1 r1
  exact k.nx σ s F1 _ _ x1.ff (R1.up (Ext.wr R1.sub R1.wr (by show g.ta ∈ g.ads; simp [GIx.ads])) r3) q1
def vGra (K : PySem.W.Frag) (P : Program) (w : World) (g : GIx) (i : Nat) (us : VA (WG K P w g)) : VS (WG K P w g) := fun D s st => s[i]? = some (.adr g.sa) ∧ us s st fun xs st1 => ∃ d, xs = [SD.fz d] ∧ st1.rn ≤ 1000 ∧ D.nx s ⟨st1.g, st1.rn + 1⟩
theorem ds_gra (K : PySem.W.Frag) (P : Program) (w : World) (cf : ClsF K) (i : Nat) {us : VA (WG K P w g)} (h : DA X (WG K P w g) [e] tas us) (hK : X.K = K := by rfl) (hN : X.N[i]? = some x := by rfl)
    (hv : Vis X.env.scope x := by first | exact Or.inl rfl | exact Or.inr (Or.inl rfl) | exact Or.inr (Or.inr rfl)) (hd : (x == ("__debug__" : Str)) = false := by decide) (hcd : (x == ("__classdict__" : Str)) = false := by decide)
    (hb : attributeBase (.Name x p) "rows" X.env (eval (.Name x p) X.env) = eval (.Name x p) X.env := by rfl)
    (hbase : attributeBase (.Attribute (.Name x p) "rows" bpos) "append" X.env (eval (.Attribute (.Name x p) "rows" bpos) X.env) = eval (.Attribute (.Name x p) "rows" bpos) X.env := by rfl)
    (hfew : ((backTo cpos (starEach [e] X.env)).all (fun x => !x.1) && (backToKw cpos (keywordEach [] X.env)).all (fun x => x.1.isSome)
      && decide ([e].length + ([] : List Keyword).length + (if ([] : List Keyword).isEmpty then 0 else 1) < 30)) = true := by rfl)
    (hline : (apos.endLine == cpos.line) = true := by rfl) (hs : starEach [e] X.env = (false, eval e X.env) :: starEach [] X.env := by rfl) (hplain : (backTo cpos (starEach [] X.env)).any (·.1) = false := by rfl)
    (hsw : swapsWith (.Call (.Attribute (.Attribute (.Name x p) "rows" bpos) "append" apos) [e] [] cpos) none pos.line X.env = pure false := by rfl) :
    DS X (WG K P w g) (.Expr (.Call (.Attribute (.Attribute (.Name x p) "rows" bpos) "append" apos) [e] [] cpos) pos) (tDrop (tBM K "list" rAppend (tFld K (tVar i) "rows") tas)) (vGra K P w g i us) := by
  subst hK
  refine ⟨ps_expr (pe_bm PySem.F.plainAttrs_list PySem.F.slot_list_append PySem.F.type_list_append mt_append (pe_fld (pe_var hN hv hd hcd) hb) h.pe hbase hfew hline hs hplain) hsw, fun F0 H0 F H σ s st D' D R q k => ?_⟩
  obtain ⟨e0, q⟩ := q
  obtain ⟨vn, vw, vt, vp, vq, vs, ts, rs, L, r⟩ := R.wr
  refine ⟨.ref g.sa, R.sl i _ e0, g.sa, gC X.K, g.dx, _, .ref g.ra, rfl, r.hs, cf.c, cf.rows, rfl, .inl ⟨rfl, rs, .inl (.inl r.hr)⟩, ?_⟩
  refine h.sn _ _ _ _ _ _ _ _ _ R q fun us2 F1 H1 xs st1 x1 r1 p1 q1 => ?_
  obtain ⟨d, rfl, hl, q1⟩ := q1
  obtain ⟨v, rfl, pv⟩ := dpa_inv1' p1
  obtain ⟨vn, vw, vt, vp, vq, vs, ts, rs, L, r⟩ := id r1
  have ap := r.ap
  refine ⟨g.ra, rs, v, rfl, rfl, r.hr, ?_, ?_⟩
  · have := r.lr
    rw [this]; exact small1000 hl
  have r3 : (WG X.K P w g).R ⟨st1.g, st1.rn + 1⟩ F1 (upd H1 g.ra (.lst (rs ++ [v]))) := ⟨vn, vw, vt, vp, vq, vs, ts, rs ++ [v], L, ⟨ap, r.nf, by rw [upd_ne ap.sr]; exact r.hs, by rw [upd_ne ap.dr]; exact r.hd, r.pn, r.pw, r.pt, r.pp, r.pq,
    by rw [upd_ne ap.fr]; exact r.hf, r.pf, by rw [upd_ne ap.wr]; exact r.hw, r.pd, by rw [upd_ne ap.tr]; exact r.ht, r.pu, upd_same, by rw [List.length_append, r.lr]; rfl⟩⟩
  have R1 := R.up x1 r1
  exact k.nx σ s F1 _ _ x1.ff (R1.up (Ext.wr R1.sub R1.wr (by show g.ra ∈ g.ads; simp [GIx.ads])) r3) q1
/-- len(self.taken) -/
def vGtl (K : PySem.W.Frag) (P : Program) (w : World) (g : GIx) (i : Nat) : VE (WG K P w g) := fun s st Q => s[i]? = some (.adr g.sa) ∧ Q (.int st.g.taken.length) st
theorem de_gtl (K : PySem.W.Frag) (P : Program) (w : World) (cf : ClsF K) (i : Nat) (hg : Gl X "len") (hm : X.mg "len" = none) (hK : X.K = K := by rfl) (hN : X.N[i]? = some x := by rfl)
    (hv : Vis X.env.scope x := by first | exact Or.inl rfl | exact Or.inr (Or.inl rfl) | exact Or.inr (Or.inr rfl)) (hd : (x == ("__debug__" : Str)) = false := by decide) (hcd : (x == ("__classdict__" : Str)) = false := by decide)
    (hb : attributeBase (.Name x p) "taken" X.env (eval (.Name x p) X.env) = eval (.Name x p) X.env := by rfl)
    (hs : starEach [.Attribute (.Name x p) "taken" apos] X.env = (false, eval (.Attribute (.Name x p) "taken" apos) X.env) :: starEach [] X.env := by rfl) :
    DE X (WG K P w g) (.Call (.Name "len" pos') [.Attribute (.Name x p) "taken" apos] [] pos) (tCB (fun xs H Q => ∃ p ys, xs = [.ref p] ∧ (SqL K H p ys ∨ SqT K H p ys) ∧ Q (.int ys.length) H) (tCons (tFld K (tVar i) "taken") tNil)) (vGtl K P w g i) := by
  subst hK
  refine ⟨pe_callB call_len_seq hg hm PySem.boot_len (pa_cons (pe_fld (pe_var hN hv hd hcd) hb) pa_nil hs), fun F0 H0 F H σ s st Q' Q R q k => ?_⟩
  obtain ⟨e0, q⟩ := q
  obtain ⟨vn, vw, vt, vp, vq, vs, ts, rs, L, r⟩ := R.wr
  refine ⟨.ref g.sa, R.sl i _ e0, g.sa, gC X.K, g.dx, _, .ref g.ta, rfl, r.hs, cf.c, cf.taken, rfl, g.ta, ts, rfl, .inl (.inl (.inl r.ht)), ?_⟩
  have := dpa_len r.pu
  rw [List.length_map] at this
  rw [this]
  exact k _ F H _ st (Ext.refl R.sub) R.wr (.int _) q
/-! ### methods -/
abbrev SpG (K : PySem.W.Frag) (P : Program) (w : World) (S : ∀ g, Spec (WG K P w g)) : Sp := spWx K (WG K P w) S
def NoFld (m : Str) : Prop := ∀ (g : GIx) (vn vw vt vp vq : V), (fldG g vn vw vt vp vq).lookup m = none
def vGm {K : PySem.W.Frag} {P : Program} {w : World} (g : GIx) (i : Nat) (S : ∀ g, Spec (WG K P w g)) (us : VA (WG K P w g)) : VE (WG K P w g) := fun s st Q => s[i]? = some (.adr g.sa) ∧ us s st fun xs st1 => S g (.adr g.sa :: xs) st1 Q
theorem snd_gm {K : PySem.W.Frag} {P : Program} {w : World} {i : Nat} {m : Str} {S : ∀ g, Spec (WG K P w g)} {us : VA (WG K P w g)} (hm : NoFld m) (h : SndA K (WG K P w g) tas us) :
    SndE K (WG K P w g) (tMeth (gC K) m (SpG K P w S) [] E0 (tVar i) tas) (vGm g i S us) := by
  intro F0 H0 F H σ s st Q' Q R q k
  obtain ⟨e0, q⟩ := q
  obtain ⟨vn, vw, vt, vp, vq, vs, ts, rs, L, r⟩ := R.wr
  refine ⟨.ref g.sa, R.sl i _ e0, g.sa, g.dx, _, rfl, r.hs, hm _ _ _ _ _ _, ?_⟩
  refine h _ _ _ _ _ _ _ _ _ R q fun vs2 F1 H1 xs st1 x1 r1 p1 q1 => ?_
  refine ⟨g, F1, .adr g.sa :: xs, st1, Q', x1.sub, r1, by rw [List.append_nil]; exact .cons rfl p1, q1, fun v F' H' d st' e' r' p' q' => k v F' H' d st' (x1.trans e') r' p' q'⟩
theorem de_gm (K : PySem.W.Frag) (P : Program) (w : World) {mg : Str → Option Value} {base : Heap} {k j : Nat} {m : Str} {S : ∀ g, Spec (WG K P w g)} {es : List Expr} {us : VA (WG K P w g)} (i : Nat) (c : Met P w K mg base k (gC K) m (SpG K P w S) []) (hr : Room j X.A) (hk : k ≤ j) (hm : NoFld m) (h : DA X (WG K P w g) (e :: es) tas us)
    (hK : X.K = K := by rfl) (hP : X.prog = P := by rfl) (hW : X.w = w := by rfl) (hG : X.mg = mg := by rfl) (hB : X.base = base := by rfl) (hN : X.N[i]? = some x := by rfl)
    (hv : Vis X.env.scope x := by first | exact Or.inl rfl | exact Or.inr (Or.inl rfl) | exact Or.inr (Or.inr rfl)) (hd : (x == ("__debug__" : Str)) = false := by decide) (hcd : (x == ("__classdict__" : Str)) = false := by decide)
    {pl : Sem Bool} (hst : starEach (e :: es) X.env = (false, eval e X.env) :: starEach es X.env := by rfl) (hpl : (backTo pos (starEach es X.env)).any (·.1) = false := by rfl)
    (ht : eval (.Call (.Attribute (.Name x p) m apos) (e :: es) [] pos) X.env = (do
      let ov ← eval (.Name x p) X.env
      standAt apos.atName
      let (f, first) ← holding [ov] (getMethod ov m pl)
      callWith pos f first (backTo pos (starEach (e :: es) X.env)) (backToKw pos (keywordEach [] X.env))) := by rfl) :
    DE X (WG K P w g) (.Call (.Attribute (.Name x p) m apos) (e :: es) [] pos) (tMeth (gC K) m (SpG K P w S) [] E0 (tVar i) tas) (vGm g i S us) := by
  subst hK hP hW hG hB
  exact ⟨pe_mt (pl := pl) c hr hk (pe_var hN hv hd hcd) h.pe hst hpl ht, snd_gm hm h.sn⟩
theorem snd_nil {K : PySem.W.Frag} {W : Wo} : SndA K W tNil (vaNil W) := fun F0 H0 F H σ s w Q' Q R q k => k [] F H [] w (Ext.refl R.sub) R.wr .nil q
theorem de_gm0 (K : PySem.W.Frag) (P : Program) (w : World) {mg : Str → Option Value} {base : Heap} {k j : Nat} {m : Str} {S : ∀ g, Spec (WG K P w g)} (i : Nat) (c : Met P w K mg base k (gC K) m (SpG K P w S) []) (hr : Room j X.A) (hk : k ≤ j) (hm : NoFld m)
    (hK : X.K = K := by rfl) (hP : X.prog = P := by rfl) (hW : X.w = w := by rfl) (hG : X.mg = mg := by rfl) (hB : X.base = base := by rfl) (hN : X.N[i]? = some x := by rfl)
    (hv : Vis X.env.scope x := by first | exact Or.inl rfl | exact Or.inr (Or.inl rfl) | exact Or.inr (Or.inr rfl)) (hd : (x == ("__debug__" : Str)) = false := by decide) (hcd : (x == ("__classdict__" : Str)) = false := by decide)
    {pl : Sem Bool} (ht : eval (.Call (.Attribute (.Name x p) m apos) [] [] pos) X.env = (do
      let ov ← eval (.Name x p) X.env
      standAt apos.atName
      let (f, first) ← holding [ov] (getMethod ov m pl)
      callWith pos f first (backTo pos (starEach [] X.env)) (backToKw pos (keywordEach [] X.env))) := by rfl) :
    DE X (WG K P w g) (.Call (.Attribute (.Name x p) m apos) [] [] pos) (tMeth (gC K) m (SpG K P w S) [] E0 (tVar i) tNil) (vGm g i S (vaNil _)) := by
  subst hK hP hW hG hB
  exact ⟨pe_mt0 (pl := pl) c hr hk (pe_var hN hv hd hcd) ht, snd_gm hm snd_nil⟩
/-! ### times_left = self.waits(still): a new list that is one's own -/
def spWaits : Sp := fun vs H Q _ => vs.length = 2 ∧ ∀ b, H b = none → Q (.ref b) (upd H b (.lst []))
def vGwt (K : PySem.W.Frag) (P : Program) (w : World) (g : GIx) (i j : Nat) (us : VA (WG K P w g)) : VS (WG K P w g) := fun D s st => s[i]? = some (.adr g.sa) ∧ us s st fun xs st1 => xs.length = 1 ∧ (∀ (j' : Nat) es, s[j']? = some (SD.own es) → j' = j) ∧ D.nx (s.set j (.own [])) st1
end
section
variable {P : Program} {w : World} {K : PySem.W.Frag} {mg : Str → Option Value} {base : Heap}
theorem metX {ι : Type} {W : ι → Wo} (i0 : ι) {N ps : List Str} {k : Nat} {S : ∀ i, Spec (W i)} {C : Addr} {m qual : Str} {st : Stmt} {f : Addr} (cl : Cls K C) (me : Meth K C m f) (F : ∃ fd, FunD K m qual (defArgs st) (defBody st) (defScope st) [] [] f fd) (SC : FnScope N ps (defScope st))
    (hb : ∀ (kV doc pm : Value) (an : Option Addr) (cdv ct : Value) (us : List Value), us.length = ps.length → bindArgs (PySem.W.fnOf m qual (defArgs st) (defBody st) (defScope st) .none kV doc pm an cdv ct) ⟨us, []⟩ = pure (ps.zip us))
    (hlen : ∀ i xs w Q, S i xs w Q → xs.length = ps.length)
    (hbody : ∀ (cdv : Value) (A : Around) (outer : List Env) (s : Shared) (H : Hp) (E : XK), Room k (A.deeper (envOfC qual (defScope st) s.heap.objs.size f cdv)) →
      ∃ ts, ∃ t : ∀ i, VS (W i), (∀ i, DSs (cxOf CX0 P w K mg base N qual (defScope st) f cdv A outer s H E).nox (W i) (defBody st) ts (t i)) ∧ ∀ i xs w Q, S i xs w Q → t i { nx := fun _ w => Q .none w, rt := Q } (xs ++ List.replicate (N.length - xs.length) .un) w) :
    Met P w K mg base (k + 1) C m (spWx K W S) [] := by
  obtain ⟨fd, F⟩ := F
  refine ⟨f, fd, ps, [], cl, me, fnX F SC hlen (fun cdv A outer s H E hr => ?_), F.bindsN hb, .nil⟩
  obtain ⟨ts, t, hd, hv⟩ := hbody cdv A outer s H E hr
  exact ⟨ts, (hd i0).pe, fun i => ⟨t i, (hd i).sn, hv i⟩⟩
end
end L2.VL
/-! part VO3 -/
set_option Elab.async false
set_option linter.all false
set_option autoImplicit false
set_option maxRecDepth 100000
set_option maxHeartbeats 4000000
namespace L2.VL
open PySem PySem.Spec PyProof.Rows L2 C8 MW
section
variable {X : Cx} {g : GIx} {p pos pos' apos cpos : Pos} {x y : Str} {e : Expr} {te : TE} {tas : TA}
theorem ds_gwt (K : PySem.W.Frag) (P : Program) (w : World) {mg : Str → Option Value} {base : Heap} {k l : Nat} (i j : Nat) {us : VA (WG K P w g)} (c : Met P w K mg base k (gC K) "waits" spWaits []) (hr : Room l X.A) (hk : k ≤ l) (nd : X.N.Nodup) (h : DA X (WG K P w g) [e] tas us)
    (hK : X.K = K := by rfl) (hP : X.prog = P := by rfl) (hW : X.w = w := by rfl) (hG : X.mg = mg := by rfl) (hB : X.base = base := by rfl) (hN : X.N[i]? = some x := by rfl)
    (hv : Vis X.env.scope x := by first | exact Or.inl rfl | exact Or.inr (Or.inl rfl) | exact Or.inr (Or.inr rfl)) (hd : (x == ("__debug__" : Str)) = false := by decide) (hcd : (x == ("__classdict__" : Str)) = false := by decide)
    {pl : Sem Bool} (hst : starEach [e] X.env = (false, eval e X.env) :: starEach [] X.env := by rfl) (hpl : (backTo cpos (starEach [] X.env)).any (·.1) = false := by rfl)
    (ht : eval (.Call (.Attribute (.Name x p) "waits" apos) [e] [] cpos) X.env = (do
      let ov ← eval (.Name x p) X.env
      standAt apos.atName
      let (f, first) ← holding [ov] (getMethod ov "waits" pl)
      callWith cpos f first (backTo cpos (starEach [e] X.env)) (backToKw cpos (keywordEach [] X.env))) := by rfl)
    (hN2 : X.N[j]? = some y := by rfl) (hx : Loc X.env.scope y := by first | exact Or.inl rfl | exact Or.inr rfl) (hs : swapsWith (.Call (.Attribute (.Name x p) "waits" apos) [e] [] cpos) (some (.Name y pos')) pos.line X.env = pure false := by rfl)
    (hf : X.fn y = true ∨ X.env.scope.names.lookup y = some .local := by first | exact .inl rfl | exact .inr rfl | assumption) :
    DS X (WG K P w g) (.Assign [.Name y pos'] (.Call (.Attribute (.Name x p) "waits" apos) [e] [] cpos) pos) (tAsg (tMeth (gC K) "waits" spWaits [] E0 (tVar i) tas) (gName j)) (vGwt K P w g i j us) := by
  subst hK hP hW hG hB
  refine ⟨ps_set nd hN2 hx (pe_mt (pl := pl) c hr hk (pe_var hN hv hd hcd) h.pe hst hpl ht) hs hf, fun F0 H0 F H σ s st D' D R q k => ?_⟩
  obtain ⟨e0, q⟩ := q
  obtain ⟨vn, vw, vt, vp, vq, vs, ts, rs, L, r⟩ := R.wr
  refine ⟨.ref g.sa, R.sl i _ e0, g.sa, g.dx, _, rfl, r.hs, rfl, ?_⟩
  refine h.sn _ _ _ _ _ _ _ _ _ R q fun us2 F' H' xs st1 x1 r1 p1 q1 => ?_
  obtain ⟨hl, ho, q1⟩ := q1
  have hlen : us2.length = 1 := by rw [args_len p1]; exact hl
  refine ⟨by simp [hlen], fun b hb => ?_⟩
  have z := Ext.newOwn (W := W0) (o := .lst []) x1.sub hb
  have R2 := (R.up x1 r1).upP z
  have hF : F' b = none := x1.sub.free hb
  have h0 : H0 b = none := by
    cases q0 : H0 b with
    | none => rfl
    | some o => exact absurd hb ((R.up x1 r1).ext.dm b (ne_some q0))
  exact k.nx _ _ F' _ st1 x1.ff (R2.setOwn j upd_same .nil hF h0 (fun z => ((WG X.K X.prog X.w g).dom r1 b z).2 hb) ho) q1
end
/-! ### what of the class the walk asks -/
structure Tc (K : PySem.W.Frag) : Prop where
  cf : ClsF K
  m_came : Meth K (gC K) "came" (fA K "came")
  m_rested : Meth K (gC K) "rested" (fA K "rested")
  m_waits : Meth K (gC K) "waits" (fA K "waits")
  m_between : Meth K (gC K) "between" (fA K "between")
  m_full_way : Meth K (gC K) "full_way" (fA K "full_way")
  m_take_full_ways : Meth K (gC K) "take_full_ways" (fA K "take_full_ways")
  m_rates : Meth K (gC K) "rates" (fA K "rates")
  m_step : Meth K (gC K) "step" (fA K "step")
  m_pass_time : Meth K (gC K) "pass_time" (fA K "pass_time")
  m_still_open : Meth K (gC K) "still_open" (fA K "still_open")
  m_grow : Meth K (gC K) "grow" (fA K "grow")
  m_paper : Meth K (gC K) "paper" (fA K "paper")
  m_is_open : Meth K (gC K) "is_open" (fA K "is_open")
section
variable {P : Program} {w : World} {K : PySem.W.Frag} {mg : Str → Option Value} {base : Heap}
/-- waits: a new empty list -/
theorem ok_waits (T : Tp K mg) (C : Tc K) : Met P w K mg base 1 (gC K) "waits" spWaits [] := by
  obtain ⟨fd, F⟩ := T.f_Growth_waits
  refine ⟨_, fd, ["self", "still"], [], C.cf.c, C.m_waits, F.ok sc_Growth_waits (fun vs H Q E h => h.1) (fun cdv A outer s H vs Q E hr h => ?_), F.bindsN (fun _ _ _ _ _ _ us hl => match us, hl with | [_, _], _ => rfl), .nil⟩
  have b : PSs (cxOf CX0 P w K mg base ["self", "still"] "Growth.waits" (defScope s_Growth_waits) (fA K "waits") cdv A outer s H E).nox (defBody s_Growth_waits) (tRet (tLst tNil)) := pss_one (ps_ret (pe_lst pa_nil))
  exact ⟨_, b.nox, by decide, fun b hb => h.2 b hb⟩
end
end L2.VL
/-! part O1 -/
set_option Elab.async false
set_option linter.all false
set_option autoImplicit false
set_option maxRecDepth 100000
set_option maxHeartbeats 4000000
namespace L2.VL
open PySem PySem.Spec PyProof.Rows L2 C8 MW
local macro_rules | `(tactic| walk_at "st") => `(tactic| try simp only [vAsg, vIfS, vRet, vRetN, vRetO, vNext, vPar, vSetO, vApp, vIns, vFrz, vDrop, vNever, vVar, vC, vOp, vUn, vTest, vChain, vIsN, vNotN, vAnd, vOr, vNot, vAndV, vIf, vaNil, vaCons, vaAdr, vTup, vLst, vCB, vCall, vCall0, vCl, vCl0, vgName, vgNil, vgCons, vgTup, vgLst, viAny, viEnum, viEnumT, viRev, viRng1, viRng2, vYes, wipeS, vTru, vOrT, vListRg, vBor, vBorT, vSrtSet, vSlT, vPl, vPl0, vPlen, vPlset, vGf, vGset, setG, Gf.d, vGfil, vGfs, vGwg, vGwi, vGws, vGwo, vGta, vGra, vGtl, vGm, vGwt, Pl.get, Pl.put,
  qI, qI0, qB0, qNeB, qEqD, qNeD, qEqL, qIn, qInE, qU, qCatL, qCatT, qIx, itemD_T, itemD_L, qLen, qList, qTuple, qSum, qAny, qAll, qSortI, qSortTI, qSortE, qAbs, qInt, qMin2, qGcd, qNotB,
  List.length_cons, List.length_nil, List.replicate_succ, List.replicate_zero, List.cons_append, List.nil_append, List.getElem?_cons_zero, List.getElem?_cons_succ, List.set_cons_zero, List.set_cons_succ, Nat.reduceAdd, Nat.reduceSub, Option.some.injEq, SD.fz.injEq, SD.own.injEq, SD.adr.injEq, PyData.int.injEq, PyData.bool.injEq, PyData.tuple.injEq, PyData.list.injEq, exists_eq_left', exists_eq_left, exists_eq, and_true, true_and, unfz, Option.map_some, and_assoc, exists_and_left, List.cons.injEq, Nat.reduceLeDiff,
  List.map_cons, List.map_nil, Int.reduceLE, Int.reduceToNat, if_true, reduceCtorEq, false_or, or_false, exists_false, ↓reduceIte, Nat.zero_le, Int.zero_le_ofNat, Int.reduceNeg])
local macro_rules | `(tactic| walk_at "stf") => `(tactic| try simp only [vFor, vAsg, vIfS, vRet, vRetN, vRetO, vNext, vPar, vSetO, vApp, vIns, vFrz, vDrop, vNever, vVar, vC, vOp, vUn, vTest, vChain, vIsN, vNotN, vAnd, vOr, vNot, vAndV, vIf, vaNil, vaCons, vaAdr, vTup, vLst, vCB, vCall, vCall0, vCl, vCl0, vgName, vgNil, vgCons, vgTup, vgLst, viAny, viEnum, viEnumT, viRev, viRng1, viRng2, vYes, wipeS, vTru, vOrT, vListRg, vBor, vBorT, vSrtSet, vSlT, vPl, vPl0, vPlen, vPlset, vGf, vGset, setG, Gf.d, vGfil, vGfs, vGwg, vGwi, vGws, vGwo, vGta, vGra, vGtl, vGm, vGwt, Pl.get, Pl.put,
  qI, qI0, qB0, qNeB, qEqD, qNeD, qEqL, qIn, qInE, qU, qCatL, qCatT, qIx, itemD_T, itemD_L, qLen, qList, qTuple, qSum, qAny, qAll, qSortI, qSortTI, qSortE, qAbs, qInt, qMin2, qGcd, qNotB,
  List.length_cons, List.length_nil, List.replicate_succ, List.replicate_zero, List.cons_append, List.nil_append, List.getElem?_cons_zero, List.getElem?_cons_succ, List.set_cons_zero, List.set_cons_succ, Nat.reduceAdd, Nat.reduceSub, Option.some.injEq, SD.fz.injEq, SD.own.injEq, SD.adr.injEq, PyData.int.injEq, PyData.bool.injEq, PyData.tuple.injEq, PyData.list.injEq, exists_eq_left', exists_eq_left, exists_eq, and_true, true_and, unfz, Option.map_some, and_assoc, exists_and_left, List.cons.injEq, Nat.reduceLeDiff,
  List.map_cons, List.map_nil, Int.reduceLE, Int.reduceToNat, if_true, reduceCtorEq, false_or, or_false, exists_false, ↓reduceIte, Nat.zero_le, Int.zero_le_ofNat, Int.reduceNeg])
local macro_rules | `(tactic| walk_at "stl") => `(tactic| try simp only [vLc, vAsg, vIfS, vRet, vRetN, vRetO, vNext, vPar, vSetO, vApp, vIns, vFrz, vDrop, vNever, vVar, vC, vOp, vUn, vTest, vChain, vIsN, vNotN, vAnd, vOr, vNot, vAndV, vIf, vaNil, vaCons, vaAdr, vTup, vLst, vCB, vCall, vCall0, vCl, vCl0, vgName, vgNil, vgCons, vgTup, vgLst, viAny, viEnum, viEnumT, viRev, viRng1, viRng2, vYes, wipeS, vTru, vOrT, vListRg, vBor, vBorT, vSrtSet, vSlT, vPl, vPl0, vPlen, vPlset, vGf, vGset, setG, Gf.d, vGfil, vGfs, vGwg, vGwi, vGws, vGwo, vGta, vGra, vGtl, vGm, vGwt, Pl.get, Pl.put,
  qI, qI0, qB0, qNeB, qEqD, qNeD, qEqL, qIn, qInE, qU, qCatL, qCatT, qIx, itemD_T, itemD_L, qLen, qList, qTuple, qSum, qAny, qAll, qSortI, qSortTI, qSortE, qAbs, qInt, qMin2, qGcd, qNotB,
  List.length_cons, List.length_nil, List.replicate_succ, List.replicate_zero, List.cons_append, List.nil_append, List.getElem?_cons_zero, List.getElem?_cons_succ, List.set_cons_zero, List.set_cons_succ, Nat.reduceAdd, Nat.reduceSub, Option.some.injEq, SD.fz.injEq, SD.own.injEq, SD.adr.injEq, PyData.int.injEq, PyData.bool.injEq, PyData.tuple.injEq, PyData.list.injEq, exists_eq_left', exists_eq_left, exists_eq, and_true, true_and, unfz, Option.map_some, and_assoc, exists_and_left, List.cons.injEq, Nat.reduceLeDiff,
  List.map_cons, List.map_nil, Int.reduceLE, Int.reduceToNat, if_true, reduceCtorEq, false_or, or_false, exists_false, ↓reduceIte, Nat.zero_le, Int.zero_le_ofNat, Int.reduceNeg])
local macro_rules | `(tactic| walk_at "stw") => `(tactic| try simp only [vWhile, vAsg, vIfS, vRet, vRetN, vRetO, vNext, vPar, vSetO, vApp, vIns, vFrz, vDrop, vNever, vVar, vC, vOp, vUn, vTest, vChain, vIsN, vNotN, vAnd, vOr, vNot, vAndV, vIf, vaNil, vaCons, vaAdr, vTup, vLst, vCB, vCall, vCall0, vCl, vCl0, vgName, vgNil, vgCons, vgTup, vgLst, viAny, viEnum, viEnumT, viRev, viRng1, viRng2, vYes, wipeS, vTru, vOrT, vListRg, vBor, vBorT, vSrtSet, vSlT, vPl, vPl0, vPlen, vPlset, vGf, vGset, setG, Gf.d, vGfil, vGfs, vGwg, vGwi, vGws, vGwo, vGta, vGra, vGtl, vGm, vGwt, Pl.get, Pl.put,
  qI, qI0, qB0, qNeB, qEqD, qNeD, qEqL, qIn, qInE, qU, qCatL, qCatT, qIx, itemD_T, itemD_L, qLen, qList, qTuple, qSum, qAny, qAll, qSortI, qSortTI, qSortE, qAbs, qInt, qMin2, qGcd, qNotB,
  List.length_cons, List.length_nil, List.replicate_succ, List.replicate_zero, List.cons_append, List.nil_append, List.getElem?_cons_zero, List.getElem?_cons_succ, List.set_cons_zero, List.set_cons_succ, Nat.reduceAdd, Nat.reduceSub, Option.some.injEq, SD.fz.injEq, SD.own.injEq, SD.adr.injEq, PyData.int.injEq, PyData.bool.injEq, PyData.tuple.injEq, PyData.list.injEq, exists_eq_left', exists_eq_left, exists_eq, and_true, true_and, unfz, Option.map_some, and_assoc, exists_and_left, List.cons.injEq, Nat.reduceLeDiff,
  List.map_cons, List.map_nil, Int.reduceLE, Int.reduceToNat, if_true, reduceCtorEq, false_or, or_false, exists_false, ↓reduceIte, Nat.zero_le, Int.zero_le_ofNat, Int.reduceNeg])
local macro_rules | `(tactic| walk_at "rd") => `(tactic| try simp only [vSeq, vAsg, vIfS, vRet, vRetN, vRetO, vNext, vPar, vSetO, vApp, vIns, vFrz, vDrop, vNever, vVar, vC, vOp, vUn, vTest, vChain, vIsN, vNotN, vAnd, vOr, vNot, vAndV, vIf, vaNil, vaCons, vaAdr, vTup, vLst, vCB, vCall, vCall0, vCl, vCl0, vgName, vgNil, vgCons, vgTup, vgLst, viAny, viEnum, viEnumT, viRev, viRng1, viRng2, vYes, wipeS, vTru, vOrT, vListRg, vBor, vBorT, vSrtSet, vSlT, vPl, vPl0, vPlen, vPlset, vGf, vGset, setG, Gf.d, vGfil, vGfs, vGwg, vGwi, vGws, vGwo, vGta, vGra, vGtl, vGm, vGwt, Pl.get, Pl.put,
  qI, qI0, qB0, qNeB, qEqD, qNeD, qEqL, qIn, qInE, qU, qCatL, qCatT, qIx, itemD_T, itemD_L, qLen, qList, qTuple, qSum, qAny, qAll, qSortI, qSortTI, qSortE, qAbs, qInt, qMin2, qGcd, qNotB,
  List.length_cons, List.length_nil, List.replicate_succ, List.replicate_zero, List.cons_append, List.nil_append, List.getElem?_cons_zero, List.getElem?_cons_succ, List.set_cons_zero, List.set_cons_succ, Nat.reduceAdd, Nat.reduceSub, Option.some.injEq, SD.fz.injEq, SD.own.injEq, SD.adr.injEq, PyData.int.injEq, PyData.bool.injEq, PyData.tuple.injEq, PyData.list.injEq, exists_eq_left', exists_eq_left, exists_eq, and_true, true_and, unfz, Option.map_some, and_assoc, exists_and_left, List.cons.injEq, Nat.reduceLeDiff,
  List.map_cons, List.map_nil, Int.reduceLE, Int.reduceToNat, if_true, reduceCtorEq, false_or, or_false, exists_false, ↓reduceIte, Nat.zero_le, Int.zero_le_ofNat, Int.reduceNeg])
local macro_rules | `(tactic| walk_at "lc") => `(tactic| try simp only [vLc, vSeq, vAsg, vIfS, vRet, vRetN, vRetO, vNext, vPar, vSetO, vApp, vIns, vFrz, vDrop, vNever, vVar, vC, vOp, vUn, vTest, vChain, vIsN, vNotN, vAnd, vOr, vNot, vAndV, vIf, vaNil, vaCons, vaAdr, vTup, vLst, vCB, vCall, vCall0, vCl, vCl0, vgName, vgNil, vgCons, vgTup, vgLst, viAny, viEnum, viEnumT, viRev, viRng1, viRng2, vYes, wipeS, vTru, vOrT, vListRg, vBor, vBorT, vSrtSet, vSlT, vPl, vPl0, vPlen, vPlset, vGf, vGset, setG, Gf.d, vGfil, vGfs, vGwg, vGwi, vGws, vGwo, vGta, vGra, vGtl, vGm, vGwt, Pl.get, Pl.put,
  qI, qI0, qB0, qNeB, qEqD, qNeD, qEqL, qIn, qInE, qU, qCatL, qCatT, qIx, itemD_T, itemD_L, qLen, qList, qTuple, qSum, qAny, qAll, qSortI, qSortTI, qSortE, qAbs, qInt, qMin2, qGcd, qNotB,
  List.length_cons, List.length_nil, List.replicate_succ, List.replicate_zero, List.cons_append, List.nil_append, List.getElem?_cons_zero, List.getElem?_cons_succ, List.set_cons_zero, List.set_cons_succ, Nat.reduceAdd, Nat.reduceSub, Option.some.injEq, SD.fz.injEq, SD.own.injEq, SD.adr.injEq, PyData.int.injEq, PyData.bool.injEq, PyData.tuple.injEq, PyData.list.injEq, exists_eq_left', exists_eq_left, exists_eq, and_true, true_and, unfz, Option.map_some, and_assoc, exists_and_left, List.cons.injEq, Nat.reduceLeDiff,
  List.map_cons, List.map_nil, Int.reduceLE, Int.reduceToNat, if_true, reduceCtorEq, false_or, or_false, exists_false, ↓reduceIte, Nat.zero_le, Int.zero_le_ofNat, Int.reduceNeg])
local macro_rules | `(tactic| walk_at "fo") => `(tactic| try simp only [vFor, vSeq, vAsg, vIfS, vRet, vRetN, vRetO, vNext, vPar, vSetO, vApp, vIns, vFrz, vDrop, vNever, vVar, vC, vOp, vUn, vTest, vChain, vIsN, vNotN, vAnd, vOr, vNot, vAndV, vIf, vaNil, vaCons, vaAdr, vTup, vLst, vCB, vCall, vCall0, vCl, vCl0, vgName, vgNil, vgCons, vgTup, vgLst, viAny, viEnum, viEnumT, viRev, viRng1, viRng2, vYes, wipeS, vTru, vOrT, vListRg, vBor, vBorT, vSrtSet, vSlT, vPl, vPl0, vPlen, vPlset, vGf, vGset, setG, Gf.d, vGfil, vGfs, vGwg, vGwi, vGws, vGwo, vGta, vGra, vGtl, vGm, vGwt, Pl.get, Pl.put,
  qI, qI0, qB0, qNeB, qEqD, qNeD, qEqL, qIn, qInE, qU, qCatL, qCatT, qIx, itemD_T, itemD_L, qLen, qList, qTuple, qSum, qAny, qAll, qSortI, qSortTI, qSortE, qAbs, qInt, qMin2, qGcd, qNotB,
  List.length_cons, List.length_nil, List.replicate_succ, List.replicate_zero, List.cons_append, List.nil_append, List.getElem?_cons_zero, List.getElem?_cons_succ, List.set_cons_zero, List.set_cons_succ, Nat.reduceAdd, Nat.reduceSub, Option.some.injEq, SD.fz.injEq, SD.own.injEq, SD.adr.injEq, PyData.int.injEq, PyData.bool.injEq, PyData.tuple.injEq, PyData.list.injEq, exists_eq_left', exists_eq_left, exists_eq, and_true, true_and, unfz, Option.map_some, and_assoc, exists_and_left, List.cons.injEq, Nat.reduceLeDiff,
  List.map_cons, List.map_nil, Int.reduceLE, Int.reduceToNat, if_true, reduceCtorEq, false_or, or_false, exists_false, ↓reduceIte, Nat.zero_le, Int.zero_le_ofNat, Int.reduceNeg])
local macro_rules | `(tactic| walk_at "wh") => `(tactic| try simp only [vWhile, vSeq, vAsg, vIfS, vRet, vRetN, vRetO, vNext, vPar, vSetO, vApp, vIns, vFrz, vDrop, vNever, vVar, vC, vOp, vUn, vTest, vChain, vIsN, vNotN, vAnd, vOr, vNot, vAndV, vIf, vaNil, vaCons, vaAdr, vTup, vLst, vCB, vCall, vCall0, vCl, vCl0, vgName, vgNil, vgCons, vgTup, vgLst, viAny, viEnum, viEnumT, viRev, viRng1, viRng2, vYes, wipeS, vTru, vOrT, vListRg, vBor, vBorT, vSrtSet, vSlT, vPl, vPl0, vPlen, vPlset, vGf, vGset, setG, Gf.d, vGfil, vGfs, vGwg, vGwi, vGws, vGwo, vGta, vGra, vGtl, vGm, vGwt, Pl.get, Pl.put,
  qI, qI0, qB0, qNeB, qEqD, qNeD, qEqL, qIn, qInE, qU, qCatL, qCatT, qIx, itemD_T, itemD_L, qLen, qList, qTuple, qSum, qAny, qAll, qSortI, qSortTI, qSortE, qAbs, qInt, qMin2, qGcd, qNotB,
  List.length_cons, List.length_nil, List.replicate_succ, List.replicate_zero, List.cons_append, List.nil_append, List.getElem?_cons_zero, List.getElem?_cons_succ, List.set_cons_zero, List.set_cons_succ, Nat.reduceAdd, Nat.reduceSub, Option.some.injEq, SD.fz.injEq, SD.own.injEq, SD.adr.injEq, PyData.int.injEq, PyData.bool.injEq, PyData.tuple.injEq, PyData.list.injEq, exists_eq_left', exists_eq_left, exists_eq, and_true, true_and, unfz, Option.map_some, and_assoc, exists_and_left, List.cons.injEq, Nat.reduceLeDiff,
  List.map_cons, List.map_nil, Int.reduceLE, Int.reduceToNat, if_true, reduceCtorEq, false_or, or_false, exists_false, ↓reduceIte, Nat.zero_le, Int.zero_le_ofNat, Int.reduceNeg])
local macro_rules | `(tactic| walk_at "sc") => `(tactic| try simp only [vLenSc, vSeq, vAsg, vIfS, vRet, vRetN, vRetO, vNext, vPar, vSetO, vApp, vIns, vFrz, vDrop, vNever, vVar, vC, vOp, vUn, vTest, vChain, vIsN, vNotN, vAnd, vOr, vNot, vAndV, vIf, vaNil, vaCons, vaAdr, vTup, vLst, vCB, vCall, vCall0, vCl, vCl0, vgName, vgNil, vgCons, vgTup, vgLst, viAny, viEnum, viEnumT, viRev, viRng1, viRng2, vYes, wipeS, vTru, vOrT, vListRg, vBor, vBorT, vSrtSet, vSlT, vPl, vPl0, vPlen, vPlset, vGf, vGset, setG, Gf.d, vGfil, vGfs, vGwg, vGwi, vGws, vGwo, vGta, vGra, vGtl, vGm, vGwt, Pl.get, Pl.put,
  qI, qI0, qB0, qNeB, qEqD, qNeD, qEqL, qIn, qInE, qU, qCatL, qCatT, qIx, itemD_T, itemD_L, qLen, qList, qTuple, qSum, qAny, qAll, qSortI, qSortTI, qSortE, qAbs, qInt, qMin2, qGcd, qNotB,
  List.length_cons, List.length_nil, List.replicate_succ, List.replicate_zero, List.cons_append, List.nil_append, List.getElem?_cons_zero, List.getElem?_cons_succ, List.set_cons_zero, List.set_cons_succ, Nat.reduceAdd, Nat.reduceSub, Option.some.injEq, SD.fz.injEq, SD.own.injEq, SD.adr.injEq, PyData.int.injEq, PyData.bool.injEq, PyData.tuple.injEq, PyData.list.injEq, exists_eq_left', exists_eq_left, exists_eq, and_true, true_and, unfz, Option.map_some, and_assoc, exists_and_left, List.cons.injEq, Nat.reduceLeDiff,
  List.map_cons, List.map_nil, Int.reduceLE, Int.reduceToNat, if_true, reduceCtorEq, false_or, or_false, exists_false, ↓reduceIte, Nat.zero_le, Int.zero_le_ofNat, Int.reduceNeg])


theorem hu1 {A : Around} {k : Nat} (hr : Room k A) : A.units + 1 < cLine := by have := hr.units; omega
def S_Growth_came (K : PySem.W.Frag) (P : Program) (w : World) (g : GIx) : Spec (WG K P w g) := fun xs st R => ∃ d, xs = [.adr g.sa, .fz d] ∧ R .none st
def S_Growth_rested (K : PySem.W.Frag) (P : Program) (w : World) (g : GIx) : Spec (WG K P w g) := fun xs st R => xs = [.adr g.sa] ∧ R .none st
structure Pre (g : GIx) (k : Nat) (st : GX) : Prop where
  hn : NetOk g.n g.ws
  hl : g.ps.length ≤ 6
  hg : GOk g.n g.ws g.ps k st.g
theorem Pre.pl {g : GIx} {k : Nat} {st : GX} (h : Pre g k st) : st.g.parts.length ≤ 12 := by have := h.hg.tl; have := h.hn.n2; omega
theorem Pre.tl {g : GIx} {k : Nat} {st : GX} (h : Pre g k st) : st.g.taken.length ≤ 12 := by have := h.hg.tl; have := h.hn.n2; omega
theorem Pre.wl {g : GIx} {k : Nat} {st : GX} (h : Pre g k st) : g.ws.length ≤ 24 := h.hn.wl
theorem numden_iff {a b : Rat} : [a.num, (a.den : Int)] = [b.num, (b.den : Int)] ↔ a = b := by
  constructor
  · intro h
    have h1 : a.num = b.num := (List.cons.inj h).1
    have h2 : (a.den : Int) = b.den := (List.cons.inj (List.cons.inj h).2).1
    exact Rat.ext h1 (by omega)
  · rintro rfl; rfl
def btw (G : GS) (v : Way) : PyData := if (ends v G.parts).length = 2 then .list ((ends v G.parts).map dT) else .none

section
variable {P : Program} {w : World} {K : PySem.W.Frag} {mg : Str → Option Value} {base : Heap}
theorem ok_Growth_came (T : Tp K mg) (C : Tc K) : Met P w K mg base 1 (gC K) "came" (SpG K P w (S_Growth_came K P w)) [] := by
  refine metX (⟨0, 0, 0, 0, 0, 0, 0, [], []⟩ : GIx) C.cf.c C.m_came T.f_Growth_came sc_Growth_came (fun _ _ _ _ _ _ us hl => match us, hl with | [_, _], _ => rfl) (fun g xs st Q h => ?_) (fun cdv A outer s H E hr => ⟨_, _, fun g => (dss_one ds_pass), ?_⟩)
  · obtain ⟨d, rfl, _⟩ := h; rfl
  · rintro g xs st Q ⟨d, rfl, q⟩
    walk_at "rd"
    exact q
end
section
variable {P : Program} {w : World} {K : PySem.W.Frag} {mg : Str → Option Value} {base : Heap}
theorem ok_Growth_rested (T : Tp K mg) (C : Tc K) : Met P w K mg base 1 (gC K) "rested" (SpG K P w (S_Growth_rested K P w)) [] := by
  refine metX (⟨0, 0, 0, 0, 0, 0, 0, [], []⟩ : GIx) C.cf.c C.m_rested T.f_Growth_rested sc_Growth_rested (fun _ _ _ _ _ _ us hl => match us, hl with | [_], _ => rfl) (fun g xs st Q h => ?_) (fun cdv A outer s H E hr => ⟨_, _, fun g => (dss_one ds_pass), ?_⟩)
  · obtain ⟨rfl, _⟩ := h; rfl
  · rintro g xs st Q ⟨rfl, q⟩
    walk_at "rd"
    exact q
end
def S_PairGrowth_is_open (K : PySem.W.Frag) (P : Program) (w : World) (g : GIx) : Spec (WG K P w g) := fun xs st R => ∃ (part : List Int), xs = [.adr g.sa, .fz (dT part)] ∧ g.ps.length ≤ 6 ∧ R (.bool (opn g.ps part)) st
section
variable {P : Program} {w : World} {K : PySem.W.Frag} {mg : Str → Option Value} {base : Heap}
theorem ok_PairGrowth_is_open (T : Tp K mg) (C : Tc K) : Met P w K mg base 1 (gC K) "is_open" (SpG K P w (S_PairGrowth_is_open K P w)) [] := by
  refine metX (⟨0, 0, 0, 0, 0, 0, 0, [], []⟩ : GIx) C.cf.c C.m_is_open T.f_PairGrowth_is_open sc_PairGrowth_is_open (fun _ _ _ _ _ _ us hl => match us, hl with | [_, _], _ => rfl) (fun g xs st Q h => ?_) (fun cdv A outer s H E hr => ⟨_, _, fun g => (dss_one (ds_ret (de_cb (cr_anyK K rfl) sc_any rfl T.z_any (by decide +kernel) (da_cons (de_lc (own := [("a", 2), ("b", 3)]) rfl sc_PairGrowth_is_open.nd (di_seqK K (de_gf K P w C.cf 0 .pairs)) (blkOk_by (by kernel_rfl)) (fun _ _ _ _ _ => (dg_tupK K (n := 2) rfl (dgs_cons (dgn 2 sc_PairGrowth_is_open.nd) (dgs_cons (dgn 3 sc_PairGrowth_is_open.nd) dgs_nil)))) (fun _ _ _ _ _ => dts_nil) (fun _ _ _ _ _ => (de_cmp op_ne so_neB (de_cmp (op_inK K) so_in (de_var 2) (de_var 1) (by with_unfolding_all rfl)) (de_cmp (op_inK K) so_in (de_var 3) (de_var 1) (by with_unfolding_all rfl)) (nomark _))) (go_tup (gos_name (by decide) (gos_name (by decide) gos_nil)))) da_nil)))), ?_⟩)
  · obtain ⟨part, rfl, _⟩ := h; rfl
  · rintro g xs st Q ⟨part, rfl, hl, q⟩
    walk_at "stl"
    refine ⟨g.ps.map dP, .inr rfl, lc_pure g.ps dP (fun _ => true) (fun p => .bool (crP p part)) (by omega) (fun I j acc p hx h => ?_) ?_⟩
    · simp only [dP_eq]
      walk_at "rd"
      exact ⟨part, rfl, part, rfl, h⟩
    · refine ⟨g.ps.map fun p => crP p part, by rw [filter_tt]; exact bmap _ _, ?_⟩
      rw [List.any_map]
      exact q
end
def S_Growth_between (K : PySem.W.Frag) (P : Program) (w : World) (g : GIx) : Spec (WG K P w g) := fun xs st R => ∃ (i : Int) (k : Nat) (v : Way), xs = [.adr g.sa, .fz (.int i)] ∧ Pre g k st ∧ 0 ≤ i ∧ g.ws[i.toNat]? = some v ∧ R (btw st.g v) st
section
variable {P : Program} {w : World} {K : PySem.W.Frag} {mg : Str → Option Value} {base : Heap}
theorem ok_Growth_between (T : Tp K mg) (C : Tc K) : Met P w K mg base 1 (gC K) "between" (SpG K P w (S_Growth_between K P w)) [] := by
  refine metX (⟨0, 0, 0, 0, 0, 0, 0, [], []⟩ : GIx) C.cf.c C.m_between T.f_Growth_between sc_Growth_between (fun _ _ _ _ _ _ us hl => match us, hl with | [_, _], _ => rfl) (fun g xs st Q h => ?_) (fun cdv A outer s H E hr => ⟨_, _, fun g => (dss_cons (ds_asg (de_ixK K (de_gf K P w C.cf 0 .ways) (de_var 1)) (dg_tupK K (n := 3) rfl (dgs_cons (dgn 2 sc_Growth_between.nd) (dgs_cons (dgn 3 sc_Growth_between.nd) (dgs_cons (dgn 4 sc_Growth_between.nd) dgs_nil)))))
      (dss_cons (ds_setLc (i := 5) (own := [("part", 6)]) rfl sc_Growth_between.nd rfl rfl (sw_true rfl rfl rfl (by decide +kernel)) (di_seqK K (de_gf K P w C.cf 0 .parts)) (blkOk_by (by kernel_rfl)) (fun _ _ _ _ _ => (dgn 6 sc_Growth_between.nd)) (fun _ _ _ _ _ => (dts_one (DW.dt (dw_or (dt_cmp (op_inK K) so_in (de_var 2) (de_var 6) (by with_unfolding_all rfl)) (dw_or1 (dt_cmp (op_inK K) so_in (de_var 3) (de_var 6) (by with_unfolding_all rfl))))))) (fun _ _ _ _ _ => (de_var 6)) go_name)
      (dss_one (ds_ret (de_if (dt_cmp op_eq so_eqI (de_cb call_len_seq sc_len rfl T.z_len PySem.boot_len (da_cons (de_var 5) da_nil)) de_int (nomark _)) (de_var 5) de_non))))), ?_⟩)
  · obtain ⟨i, k, v, rfl, _⟩ := h; rfl
  · rintro g xs st Q ⟨i, k, v, rfl, hp, h0, hv, q⟩
    have hpl := hp.pl
    rw [vSeq_eq]
    walk_at "st"
    simp only [dWs]
    walk_at "st"
    refine ⟨dW v, by rw [if_pos h0, List.getElem?_map, hv]; rfl, ?_⟩
    simp only [dW]
    walk_at "st"
    rw [vSeq_eq]
    walk_at "stl"
    refine ⟨st.g.parts.map dT, .inr rfl, lc_pure st.g.parts dT (fun y => decide (v.1 ∈ y) || decide (v.2.1 ∈ y)) dT (by omega) (fun I j acc y hx h => ?_) ?_⟩
    · walk_at "st"
      refine ⟨y, rfl, ?_⟩
      by_cases c1 : v.1 ∈ y
      · rw [if_pos (decide_eq_true c1)]
        rw [if_pos (by simp [c1])] at h
        exact h
      · rw [if_neg (by simp [c1])]
        refine ⟨y, rfl, ?_⟩
        by_cases c2 : v.2.1 ∈ y
        · rw [if_pos (decide_eq_true c2)]
          rw [if_pos (by simp [c2])] at h
          exact h
        · rw [if_neg (by simp [c2])]
          rw [if_neg (by simp [c1, c2])] at h
          exact h
    · walk_at "st"
      rw [show (st.g.parts.filter fun y => decide (v.1 ∈ y) || decide (v.2.1 ∈ y)) = ends v st.g.parts from rfl, List.length_map]
      unfold btw at q
      by_cases c : (ends v st.g.parts).length = 2
      · rw [if_pos (by rw [c]; rfl)]
        rw [if_pos c] at q
        exact q
      · rw [if_neg (by simp only [decide_eq_true_eq]; omega)]
        rw [if_neg c] at q
        exact q
end
def I_fw (g : GIx) (st : GX) (j : Nat) (s : List SD) (w : GX) : Prop := w = st ∧ ∃ o1 o2, s = [.adr g.sa, o1, o2] ∧ ∀ i, i < j → ∀ v, g.ws[i]? = some v → st.g.filled[i]? = some (v.2.2 : Rat) → (ends v st.g.parts).length ≠ 2
def S_Growth_full_way (K : PySem.W.Frag) (P : Program) (w : World) (g : GIx) : Spec (WG K P w g) := fun xs st R => ∃ (k : Nat), xs = [.adr g.sa] ∧ Pre g k st ∧ (∀ (i : Nat) v, g.ws[i]? = some v → st.g.filled[i]? = some (v.2.2 : Rat) → (ends v st.g.parts).length = 2 → R (.int i) st) ∧ (¬ Full g.ws st.g → R .none st)
section
variable {P : Program} {w : World} {K : PySem.W.Frag} {mg : Str → Option Value} {base : Heap}
theorem ok_Growth_full_way (T : Tp K mg) (C : Tc K) : Met P w K mg base 2 (gC K) "full_way" (SpG K P w (S_Growth_full_way K P w)) [] := by
  have c_Growth_between := ok_Growth_between (P := P) (w := w) (base := base) T C
  have c_ratio := ok_ratio (P := P) (w := w) (base := base) T
  have c_ratiod := ok_ratiod (P := P) (w := w) (base := base) T
  refine metX (⟨0, 0, 0, 0, 0, 0, 0, [], []⟩ : GIx) C.cf.c C.m_full_way T.f_Growth_full_way sc_Growth_full_way (fun _ _ _ _ _ _ us hl => match us, hl with | [_], _ => rfl) (fun g xs st Q h => ?_) (fun cdv A outer s H E hr => ⟨_, _, fun g => (dss_cons (ds_for PassesOwn.never rfl (di_enumT rfl T.z_enumerate (da_cons (de_gf K P w C.cf 0 .ways) da_nil)) (dg_tupK K (n := 2) rfl (dgs_cons (dgn 1 sc_Growth_full_way.nd) (dgs_cons (dgn 2 sc_Growth_full_way.nd) dgs_nil))) (dss_one (ds_if (DW.dt (dw_and (dt_cmp (op_eqD (hu64 hr)) so_eqD (de_gfil K P w C.cf 0 (de_var 1)) (de_call0K K c_ratiod (fun _ => .cons (.int 1) .nil) hr (by decide) rfl (da_cons (de_ixK K (de_var 2) de_int) da_nil)) (nomark _)) (dw_and1 (dt_notN (de_gm K P w 0 c_Growth_between hr (by decide) (fun _ _ _ _ _ _ => rfl) (da_cons (de_var 1) da_nil)))))) (dss_one (ds_ret (de_var 1))) dss_nil)))
      (dss_one (ds_ret de_non))), ?_⟩)
  · obtain ⟨k, rfl, _⟩ := h; rfl
  · rintro g xs st Q ⟨k, rfl, hp, q1, q2⟩
    rw [vSeq_eq]
    walk_at "stf"
    refine ⟨g.ws.map dW, rfl, fun j s w' => I_fw g st j s w', ⟨rfl, _, _, rfl, fun i hi => absurd hi (Nat.not_lt_zero _)⟩, fun j s w' d hd hJ => ?_, fun s w' hJ => ?_⟩
    · obtain ⟨rfl, o1, o2, rfl, hI⟩ := hJ
      obtain ⟨v, hv, rfl⟩ := eget hd
      simp only [dW]
      walk_at "st"
      obtain ⟨q, hq⟩ := hp.hg.get hv
      refine ⟨Int.natCast_nonneg j, q, by rw [Int.toNat_natCast]; exact hq, ?_⟩
      simp only [S_ratio]
      refine ⟨v.2.2, 1, rfl, by decide, Nat.lt_of_lt_of_le (show (1 : Int).natAbs < 2 ^ 1 by decide) (Nat.pow_le_pow_right (by decide) (by decide)), [q.num, q.den], rfl, [(Rat.divInt v.2.2 1).num, (Rat.divInt v.2.2 1).den], rfl, ?_⟩
      have nx : (q = (v.2.2 : Rat) → (ends v w'.g.parts).length ≠ 2) → I_fw g w' (j + 1) [SD.adr g.sa, SD.fz (PyData.int j), SD.fz (dT [v.1, v.2.1, v.2.2])] w' := fun hne => ⟨rfl, _, _, rfl, fun i hi u hu hf => by
        rcases Nat.lt_or_ge i j with h | h
        · exact hI i h u hu hf
        · have e : i = j := by omega
          subst e
          rw [hv] at hu
          cases hu
          rw [hq] at hf
          exact hne (Option.some.inj hf)⟩
      by_cases c : q = (v.2.2 : Rat)
      · rw [if_pos (decide_eq_true (numden_iff.mpr (c.trans (divInt_one' _).symm)))]
        simp only [S_Growth_between]
        refine ⟨j, k, v, rfl, hp, Int.natCast_nonneg j, by rw [Int.toNat_natCast]; exact hv, ?_⟩
        unfold btw
        by_cases c2 : (ends v w'.g.parts).length = 2
        · rw [if_pos c2, if_pos (show (!isNon (PyData.list _)) = true from rfl)]
          exact q1 j v hv (c ▸ hq) c2
        · rw [if_neg c2, if_neg (show ¬ (!isNon PyData.none) = true from fun z => by cases z)]
          exact nx fun _ => c2
      · rw [if_neg (by rw [decide_eq_true_eq, numden_iff, divInt_one']; exact c)]
        exact nx fun z => absurd z c
    · obtain ⟨rfl, o1, o2, rfl, hI⟩ := hJ
      walk_at "st"
      refine q2 ?_
      rintro ⟨i, v, hv, hf, he⟩
      rw [enum_len, List.length_map] at hI
      exact hI i (List.getElem?_eq_some_iff.mp hv).1 v hv hf he
end
def I_ra (g : GIx) (st : GX) (o : List Int → Bool) (j : Nat) (s : List SD) (w : GX) : Prop := w = st ∧ ∃ o3 o4 o5 o6, s = [.adr g.sa, .fz (dGs (st.g.parts.filter o)), .own ((g.ws.take j).map fun v => .int (cnt v (st.g.parts.filter o))), o3, o4, o5, o6]
def S_Growth_rates (K : PySem.W.Frag) (P : Program) (w : World) (g : GIx) : Spec (WG K P w g) := fun xs st R => ∃ (k : Nat) (o : List Int → Bool), xs = [.adr g.sa, .fz (dGs (st.g.parts.filter o))] ∧ Pre g k st ∧ R (.list (g.ws.map fun v => .int (cnt v (st.g.parts.filter o)))) st
section
variable {P : Program} {w : World} {K : PySem.W.Frag} {mg : Str → Option Value} {base : Heap}
theorem ok_Growth_rates (T : Tp K mg) (C : Tc K) : Met P w K mg base 2 (gC K) "rates" (SpG K P w (S_Growth_rates K P w)) [] := by
  have c_Growth_between := ok_Growth_between (P := P) (w := w) (base := base) T C
  refine metX (⟨0, 0, 0, 0, 0, 0, 0, [], []⟩ : GIx) C.cf.c C.m_rates T.f_Growth_rates sc_Growth_rates (fun _ _ _ _ _ _ us hl => match us, hl with | [_, _], _ => rfl) (fun g xs st Q h => ?_) (fun cdv A outer s H E hr => ⟨_, _, fun g => (dss_cons (dsetO 2 sc_Growth_rates.nd da_nil)
      (dss_cons (ds_for PassesOwn.never rfl (di_enumT rfl T.z_enumerate (da_cons (de_gf K P w C.cf 0 .ways) da_nil)) (dg_tupK K (n := 2) rfl (dgs_cons (dgn 3 sc_Growth_rates.nd) (dgs_cons (dgn 4 sc_Growth_rates.nd) dgs_nil))) (dss_cons (dset 5 sc_Growth_rates.nd (de_orT (de_gm K P w 0 c_Growth_between hr (by decide) (fun _ _ _ _ _ _ => rfl) (da_cons (de_var 3) da_nil)) (de_one (de_lst da_nil))))
      (dss_one (ds_app 2 (da_cons (de_cb call_len_seq sc_len rfl T.z_len PySem.boot_len (da_cons (de_lc (own := [("part", 6)]) rfl sc_Growth_rates.nd (di_seqK K (de_var 5)) (blkOk_by (by kernel_rfl)) (fun _ _ _ _ _ => (dgn 6 sc_Growth_rates.nd)) (fun _ _ _ _ _ => (dts_one (dt_cmp (op_inEK K (hu65 hr)) so_inE (de_var 6) (de_var 1) (by with_unfolding_all rfl)))) (fun _ _ _ _ _ => (de_var 6)) go_name) da_nil)) da_nil)))))
      (dss_one (ds_retO 2)))), ?_⟩)
  · obtain ⟨k, o, rfl, _⟩ := h; rfl
  · rintro g xs st Q ⟨k, o, rfl, hp, q⟩
    have hwl := hp.wl
    rw [vSeq_eq]
    walk_at "st"
    refine ⟨own_at rfl, ?_⟩
    rw [vSeq_eq]
    walk_at "stf"
    refine ⟨g.ws.map dW, rfl, fun j s w' => I_ra g st o j s w', ⟨rfl, _, _, _, _, rfl⟩, fun j s w' d hd hJ => ?_, fun s w' hJ => ?_⟩
    · obtain ⟨rfl, o3, o4, o5, o6, rfl⟩ := hJ
      obtain ⟨v, hv, rfl⟩ := eget hd
      have hj : j < g.ws.length := (List.getElem?_eq_some_iff.mp hv).1
      have hm := hp.hn.ends v (List.mem_of_getElem? hv)
      walk_at "st"
      rw [vSeq_eq]
      walk_at "st"
      refine ⟨j, k, v, rfl, hp, Int.natCast_nonneg j, by rw [Int.toNat_natCast]; exact hv, ?_⟩
      have fin : ∀ (xs : List PyData) (o3 o4 o5 o6 : SD), xs.length = cnt v (w'.g.parts.filter o) → I_ra g w' o (j + 1) [.adr g.sa, .fz (dGs (w'.g.parts.filter o)), .own ((g.ws.take j).map (fun v => PyData.int (cnt v (w'.g.parts.filter o))) ++ [PyData.int xs.length]), o3, o4, o5, o6] w' := fun xs o3 o4 o5 o6 e =>
        ⟨rfl, _, _, _, _, by rw [List.take_add_one, hv, e, List.map_append]; rfl⟩
      have re := rate_eq hp.hg.po hm.1 hm.2 o
      show ∃ b, truD (btw w'.g v) = some b ∧ _
      unfold btw
      by_cases c : (ends v w'.g.parts).length = 2
      · rw [if_pos c] at re
        rw [if_pos c]
        refine ⟨true, ?_, ?_⟩
        · match he : ends v w'.g.parts, c with
          | [a, b], _ => rfl
        · rw [if_pos rfl]
          walk_at "stl"
          refine lc_pure (ends v w'.g.parts) dT (fun y => decide (y ∈ w'.g.parts.filter o)) dT (by omega) (fun I j acc y hx h => ?_) ?_
          · walk_at "st"
            exact ⟨y, rfl, _, .inr rfl, h⟩
          · refine ⟨by rw [List.length_map, List.length_take]; omega, fin _ _ _ _ _ (by rw [List.length_map]; exact re)⟩
      · rw [if_neg c, List.filter_nil] at re
        rw [if_neg c]
        refine ⟨false, rfl, ?_⟩
        rw [if_neg (by decide)]
        walk_at "stl"
        refine (lc_pure ([] : List (List Int)) dT (fun _ => true) dT (by decide) (fun I j acc y hx h => by simp at hx) ?_).2
        refine ⟨by rw [List.length_map, List.length_take]; omega, fin _ _ _ _ _ (by rw [← re]; rfl)⟩
    · obtain ⟨rfl, o3, o4, o5, o6, rfl⟩ := hJ
      rw [enum_len, List.length_map, List.take_length]
      walk_at "st"
      exact q
end
def S_Growth_still_open (K : PySem.W.Frag) (P : Program) (w : World) (g : GIx) : Spec (WG K P w g) := fun xs st R => ∃ (k : Nat), xs = [.adr g.sa] ∧ Pre g k st ∧ R (dGs (st.g.parts.filter (opn g.ps))) st
section
variable {P : Program} {w : World} {K : PySem.W.Frag} {mg : Str → Option Value} {base : Heap}
theorem ok_Growth_still_open (T : Tp K mg) (C : Tc K) : Met P w K mg base 2 (gC K) "still_open" (SpG K P w (S_Growth_still_open K P w)) [] := by
  have c_PairGrowth_is_open := ok_PairGrowth_is_open (P := P) (w := w) (base := base) T C
  refine metX (⟨0, 0, 0, 0, 0, 0, 0, [], []⟩ : GIx) C.cf.c C.m_still_open T.f_Growth_still_open sc_Growth_still_open (fun _ _ _ _ _ _ us hl => match us, hl with | [_], _ => rfl) (fun g xs st Q h => ?_) (fun cdv A outer s H E hr => ⟨_, _, fun g => (dss_one (ds_ret (de_cty call_tuple_of sc_tuple rfl T.z_tuple (by decide +kernel) (da_cons (de_lc (own := [("part", 1)]) rfl sc_Growth_still_open.nd (di_seqK K (de_gf K P w C.cf 0 .parts)) (blkOk_by (by kernel_rfl)) (fun _ _ _ _ _ => (dgn 1 sc_Growth_still_open.nd)) (fun _ _ _ _ _ => (dts_one (dt_val (de_gm K P w 0 c_PairGrowth_is_open hr (by decide) (fun _ _ _ _ _ _ => rfl) (da_cons (de_var 1) da_nil))))) (fun _ _ _ _ _ => (de_var 1)) go_name) da_nil)))), ?_⟩)
  · obtain ⟨k, rfl, _⟩ := h; rfl
  · rintro g xs st Q ⟨k, rfl, hp, q⟩
    have hpl := hp.pl
    walk_at "stl"
    refine ⟨st.g.parts.map dT, .inr rfl, lc_pure st.g.parts dT (opn g.ps) dT (by omega) (fun I j acc y hx h => ?_) ?_⟩
    · simp only [S_PairGrowth_is_open]
      exact ⟨y, rfl, hp.hl, _, rfl, h⟩
    · exact q
end
end L2.VL
/-! part O2 -/
set_option Elab.async false
set_option linter.all false
set_option autoImplicit false
set_option maxRecDepth 100000
set_option maxHeartbeats 4000000
namespace L2.VL
open PySem PySem.Spec PyProof.Rows L2 C8 MW
local macro_rules | `(tactic| walk_at "st") => `(tactic| try simp only [vAsg, vIfS, vRet, vRetN, vRetO, vNext, vPar, vSetO, vApp, vIns, vFrz, vDrop, vNever, vVar, vC, vOp, vUn, vTest, vChain, vIsN, vNotN, vAnd, vOr, vNot, vAndV, vIf, vaNil, vaCons, vaAdr, vTup, vLst, vCB, vCall, vCall0, vCl, vCl0, vgName, vgNil, vgCons, vgTup, vgLst, viAny, viEnum, viEnumT, viRev, viRng1, viRng2, vYes, wipeS, vTru, vOrT, vListRg, vBor, vBorT, vSrtSet, vSlT, vPl, vPl0, vPlen, vPlset, vGf, vGset, setG, Gf.d, vGfil, vGfs, vGwg, vGwi, vGws, vGwo, vGta, vGra, vGtl, vGm, vGwt, Pl.get, Pl.put,
  qI, qI0, qB0, qNeB, qEqD, qNeD, qEqL, qIn, qInE, qU, qCatL, qCatT, qIx, itemD_T, itemD_L, qLen, qList, qTuple, qSum, qAny, qAll, qSortI, qSortTI, qSortE, qAbs, qInt, qMin2, qGcd, qNotB,
  List.length_cons, List.length_nil, List.replicate_succ, List.replicate_zero, List.cons_append, List.nil_append, List.getElem?_cons_zero, List.getElem?_cons_succ, List.set_cons_zero, List.set_cons_succ, Nat.reduceAdd, Nat.reduceSub, Option.some.injEq, SD.fz.injEq, SD.own.injEq, SD.adr.injEq, PyData.int.injEq, PyData.bool.injEq, PyData.tuple.injEq, PyData.list.injEq, exists_eq_left', exists_eq_left, exists_eq, and_true, true_and, unfz, Option.map_some, and_assoc, exists_and_left, List.cons.injEq, Nat.reduceLeDiff,
  List.map_cons, List.map_nil, Int.reduceLE, Int.reduceToNat, if_true, reduceCtorEq, false_or, or_false, exists_false, ↓reduceIte, Nat.zero_le, Int.zero_le_ofNat, Int.reduceNeg])
local macro_rules | `(tactic| walk_at "stf") => `(tactic| try simp only [vFor, vAsg, vIfS, vRet, vRetN, vRetO, vNext, vPar, vSetO, vApp, vIns, vFrz, vDrop, vNever, vVar, vC, vOp, vUn, vTest, vChain, vIsN, vNotN, vAnd, vOr, vNot, vAndV, vIf, vaNil, vaCons, vaAdr, vTup, vLst, vCB, vCall, vCall0, vCl, vCl0, vgName, vgNil, vgCons, vgTup, vgLst, viAny, viEnum, viEnumT, viRev, viRng1, viRng2, vYes, wipeS, vTru, vOrT, vListRg, vBor, vBorT, vSrtSet, vSlT, vPl, vPl0, vPlen, vPlset, vGf, vGset, setG, Gf.d, vGfil, vGfs, vGwg, vGwi, vGws, vGwo, vGta, vGra, vGtl, vGm, vGwt, Pl.get, Pl.put,
  qI, qI0, qB0, qNeB, qEqD, qNeD, qEqL, qIn, qInE, qU, qCatL, qCatT, qIx, itemD_T, itemD_L, qLen, qList, qTuple, qSum, qAny, qAll, qSortI, qSortTI, qSortE, qAbs, qInt, qMin2, qGcd, qNotB,
  List.length_cons, List.length_nil, List.replicate_succ, List.replicate_zero, List.cons_append, List.nil_append, List.getElem?_cons_zero, List.getElem?_cons_succ, List.set_cons_zero, List.set_cons_succ, Nat.reduceAdd, Nat.reduceSub, Option.some.injEq, SD.fz.injEq, SD.own.injEq, SD.adr.injEq, PyData.int.injEq, PyData.bool.injEq, PyData.tuple.injEq, PyData.list.injEq, exists_eq_left', exists_eq_left, exists_eq, and_true, true_and, unfz, Option.map_some, and_assoc, exists_and_left, List.cons.injEq, Nat.reduceLeDiff,
  List.map_cons, List.map_nil, Int.reduceLE, Int.reduceToNat, if_true, reduceCtorEq, false_or, or_false, exists_false, ↓reduceIte, Nat.zero_le, Int.zero_le_ofNat, Int.reduceNeg])
local macro_rules | `(tactic| walk_at "stl") => `(tactic| try simp only [vLc, vAsg, vIfS, vRet, vRetN, vRetO, vNext, vPar, vSetO, vApp, vIns, vFrz, vDrop, vNever, vVar, vC, vOp, vUn, vTest, vChain, vIsN, vNotN, vAnd, vOr, vNot, vAndV, vIf, vaNil, vaCons, vaAdr, vTup, vLst, vCB, vCall, vCall0, vCl, vCl0, vgName, vgNil, vgCons, vgTup, vgLst, viAny, viEnum, viEnumT, viRev, viRng1, viRng2, vYes, wipeS, vTru, vOrT, vListRg, vBor, vBorT, vSrtSet, vSlT, vPl, vPl0, vPlen, vPlset, vGf, vGset, setG, Gf.d, vGfil, vGfs, vGwg, vGwi, vGws, vGwo, vGta, vGra, vGtl, vGm, vGwt, Pl.get, Pl.put,
  qI, qI0, qB0, qNeB, qEqD, qNeD, qEqL, qIn, qInE, qU, qCatL, qCatT, qIx, itemD_T, itemD_L, qLen, qList, qTuple, qSum, qAny, qAll, qSortI, qSortTI, qSortE, qAbs, qInt, qMin2, qGcd, qNotB,
  List.length_cons, List.length_nil, List.replicate_succ, List.replicate_zero, List.cons_append, List.nil_append, List.getElem?_cons_zero, List.getElem?_cons_succ, List.set_cons_zero, List.set_cons_succ, Nat.reduceAdd, Nat.reduceSub, Option.some.injEq, SD.fz.injEq, SD.own.injEq, SD.adr.injEq, PyData.int.injEq, PyData.bool.injEq, PyData.tuple.injEq, PyData.list.injEq, exists_eq_left', exists_eq_left, exists_eq, and_true, true_and, unfz, Option.map_some, and_assoc, exists_and_left, List.cons.injEq, Nat.reduceLeDiff,
  List.map_cons, List.map_nil, Int.reduceLE, Int.reduceToNat, if_true, reduceCtorEq, false_or, or_false, exists_false, ↓reduceIte, Nat.zero_le, Int.zero_le_ofNat, Int.reduceNeg])
local macro_rules | `(tactic| walk_at "stw") => `(tactic| try simp only [vWhile, vAsg, vIfS, vRet, vRetN, vRetO, vNext, vPar, vSetO, vApp, vIns, vFrz, vDrop, vNever, vVar, vC, vOp, vUn, vTest, vChain, vIsN, vNotN, vAnd, vOr, vNot, vAndV, vIf, vaNil, vaCons, vaAdr, vTup, vLst, vCB, vCall, vCall0, vCl, vCl0, vgName, vgNil, vgCons, vgTup, vgLst, viAny, viEnum, viEnumT, viRev, viRng1, viRng2, vYes, wipeS, vTru, vOrT, vListRg, vBor, vBorT, vSrtSet, vSlT, vPl, vPl0, vPlen, vPlset, vGf, vGset, setG, Gf.d, vGfil, vGfs, vGwg, vGwi, vGws, vGwo, vGta, vGra, vGtl, vGm, vGwt, Pl.get, Pl.put,
  qI, qI0, qB0, qNeB, qEqD, qNeD, qEqL, qIn, qInE, qU, qCatL, qCatT, qIx, itemD_T, itemD_L, qLen, qList, qTuple, qSum, qAny, qAll, qSortI, qSortTI, qSortE, qAbs, qInt, qMin2, qGcd, qNotB,
  List.length_cons, List.length_nil, List.replicate_succ, List.replicate_zero, List.cons_append, List.nil_append, List.getElem?_cons_zero, List.getElem?_cons_succ, List.set_cons_zero, List.set_cons_succ, Nat.reduceAdd, Nat.reduceSub, Option.some.injEq, SD.fz.injEq, SD.own.injEq, SD.adr.injEq, PyData.int.injEq, PyData.bool.injEq, PyData.tuple.injEq, PyData.list.injEq, exists_eq_left', exists_eq_left, exists_eq, and_true, true_and, unfz, Option.map_some, and_assoc, exists_and_left, List.cons.injEq, Nat.reduceLeDiff,
  List.map_cons, List.map_nil, Int.reduceLE, Int.reduceToNat, if_true, reduceCtorEq, false_or, or_false, exists_false, ↓reduceIte, Nat.zero_le, Int.zero_le_ofNat, Int.reduceNeg])
local macro_rules | `(tactic| walk_at "rd") => `(tactic| try simp only [vSeq, vAsg, vIfS, vRet, vRetN, vRetO, vNext, vPar, vSetO, vApp, vIns, vFrz, vDrop, vNever, vVar, vC, vOp, vUn, vTest, vChain, vIsN, vNotN, vAnd, vOr, vNot, vAndV, vIf, vaNil, vaCons, vaAdr, vTup, vLst, vCB, vCall, vCall0, vCl, vCl0, vgName, vgNil, vgCons, vgTup, vgLst, viAny, viEnum, viEnumT, viRev, viRng1, viRng2, vYes, wipeS, vTru, vOrT, vListRg, vBor, vBorT, vSrtSet, vSlT, vPl, vPl0, vPlen, vPlset, vGf, vGset, setG, Gf.d, vGfil, vGfs, vGwg, vGwi, vGws, vGwo, vGta, vGra, vGtl, vGm, vGwt, Pl.get, Pl.put,
  qI, qI0, qB0, qNeB, qEqD, qNeD, qEqL, qIn, qInE, qU, qCatL, qCatT, qIx, itemD_T, itemD_L, qLen, qList, qTuple, qSum, qAny, qAll, qSortI, qSortTI, qSortE, qAbs, qInt, qMin2, qGcd, qNotB,
  List.length_cons, List.length_nil, List.replicate_succ, List.replicate_zero, List.cons_append, List.nil_append, List.getElem?_cons_zero, List.getElem?_cons_succ, List.set_cons_zero, List.set_cons_succ, Nat.reduceAdd, Nat.reduceSub, Option.some.injEq, SD.fz.injEq, SD.own.injEq, SD.adr.injEq, PyData.int.injEq, PyData.bool.injEq, PyData.tuple.injEq, PyData.list.injEq, exists_eq_left', exists_eq_left, exists_eq, and_true, true_and, unfz, Option.map_some, and_assoc, exists_and_left, List.cons.injEq, Nat.reduceLeDiff,
  List.map_cons, List.map_nil, Int.reduceLE, Int.reduceToNat, if_true, reduceCtorEq, false_or, or_false, exists_false, ↓reduceIte, Nat.zero_le, Int.zero_le_ofNat, Int.reduceNeg])
local macro_rules | `(tactic| walk_at "lc") => `(tactic| try simp only [vLc, vSeq, vAsg, vIfS, vRet, vRetN, vRetO, vNext, vPar, vSetO, vApp, vIns, vFrz, vDrop, vNever, vVar, vC, vOp, vUn, vTest, vChain, vIsN, vNotN, vAnd, vOr, vNot, vAndV, vIf, vaNil, vaCons, vaAdr, vTup, vLst, vCB, vCall, vCall0, vCl, vCl0, vgName, vgNil, vgCons, vgTup, vgLst, viAny, viEnum, viEnumT, viRev, viRng1, viRng2, vYes, wipeS, vTru, vOrT, vListRg, vBor, vBorT, vSrtSet, vSlT, vPl, vPl0, vPlen, vPlset, vGf, vGset, setG, Gf.d, vGfil, vGfs, vGwg, vGwi, vGws, vGwo, vGta, vGra, vGtl, vGm, vGwt, Pl.get, Pl.put,
  qI, qI0, qB0, qNeB, qEqD, qNeD, qEqL, qIn, qInE, qU, qCatL, qCatT, qIx, itemD_T, itemD_L, qLen, qList, qTuple, qSum, qAny, qAll, qSortI, qSortTI, qSortE, qAbs, qInt, qMin2, qGcd, qNotB,
  List.length_cons, List.length_nil, List.replicate_succ, List.replicate_zero, List.cons_append, List.nil_append, List.getElem?_cons_zero, List.getElem?_cons_succ, List.set_cons_zero, List.set_cons_succ, Nat.reduceAdd, Nat.reduceSub, Option.some.injEq, SD.fz.injEq, SD.own.injEq, SD.adr.injEq, PyData.int.injEq, PyData.bool.injEq, PyData.tuple.injEq, PyData.list.injEq, exists_eq_left', exists_eq_left, exists_eq, and_true, true_and, unfz, Option.map_some, and_assoc, exists_and_left, List.cons.injEq, Nat.reduceLeDiff,
  List.map_cons, List.map_nil, Int.reduceLE, Int.reduceToNat, if_true, reduceCtorEq, false_or, or_false, exists_false, ↓reduceIte, Nat.zero_le, Int.zero_le_ofNat, Int.reduceNeg])
local macro_rules | `(tactic| walk_at "fo") => `(tactic| try simp only [vFor, vSeq, vAsg, vIfS, vRet, vRetN, vRetO, vNext, vPar, vSetO, vApp, vIns, vFrz, vDrop, vNever, vVar, vC, vOp, vUn, vTest, vChain, vIsN, vNotN, vAnd, vOr, vNot, vAndV, vIf, vaNil, vaCons, vaAdr, vTup, vLst, vCB, vCall, vCall0, vCl, vCl0, vgName, vgNil, vgCons, vgTup, vgLst, viAny, viEnum, viEnumT, viRev, viRng1, viRng2, vYes, wipeS, vTru, vOrT, vListRg, vBor, vBorT, vSrtSet, vSlT, vPl, vPl0, vPlen, vPlset, vGf, vGset, setG, Gf.d, vGfil, vGfs, vGwg, vGwi, vGws, vGwo, vGta, vGra, vGtl, vGm, vGwt, Pl.get, Pl.put,
  qI, qI0, qB0, qNeB, qEqD, qNeD, qEqL, qIn, qInE, qU, qCatL, qCatT, qIx, itemD_T, itemD_L, qLen, qList, qTuple, qSum, qAny, qAll, qSortI, qSortTI, qSortE, qAbs, qInt, qMin2, qGcd, qNotB,
  List.length_cons, List.length_nil, List.replicate_succ, List.replicate_zero, List.cons_append, List.nil_append, List.getElem?_cons_zero, List.getElem?_cons_succ, List.set_cons_zero, List.set_cons_succ, Nat.reduceAdd, Nat.reduceSub, Option.some.injEq, SD.fz.injEq, SD.own.injEq, SD.adr.injEq, PyData.int.injEq, PyData.bool.injEq, PyData.tuple.injEq, PyData.list.injEq, exists_eq_left', exists_eq_left, exists_eq, and_true, true_and, unfz, Option.map_some, and_assoc, exists_and_left, List.cons.injEq, Nat.reduceLeDiff,
  List.map_cons, List.map_nil, Int.reduceLE, Int.reduceToNat, if_true, reduceCtorEq, false_or, or_false, exists_false, ↓reduceIte, Nat.zero_le, Int.zero_le_ofNat, Int.reduceNeg])
local macro_rules | `(tactic| walk_at "wh") => `(tactic| try simp only [vWhile, vSeq, vAsg, vIfS, vRet, vRetN, vRetO, vNext, vPar, vSetO, vApp, vIns, vFrz, vDrop, vNever, vVar, vC, vOp, vUn, vTest, vChain, vIsN, vNotN, vAnd, vOr, vNot, vAndV, vIf, vaNil, vaCons, vaAdr, vTup, vLst, vCB, vCall, vCall0, vCl, vCl0, vgName, vgNil, vgCons, vgTup, vgLst, viAny, viEnum, viEnumT, viRev, viRng1, viRng2, vYes, wipeS, vTru, vOrT, vListRg, vBor, vBorT, vSrtSet, vSlT, vPl, vPl0, vPlen, vPlset, vGf, vGset, setG, Gf.d, vGfil, vGfs, vGwg, vGwi, vGws, vGwo, vGta, vGra, vGtl, vGm, vGwt, Pl.get, Pl.put,
  qI, qI0, qB0, qNeB, qEqD, qNeD, qEqL, qIn, qInE, qU, qCatL, qCatT, qIx, itemD_T, itemD_L, qLen, qList, qTuple, qSum, qAny, qAll, qSortI, qSortTI, qSortE, qAbs, qInt, qMin2, qGcd, qNotB,
  List.length_cons, List.length_nil, List.replicate_succ, List.replicate_zero, List.cons_append, List.nil_append, List.getElem?_cons_zero, List.getElem?_cons_succ, List.set_cons_zero, List.set_cons_succ, Nat.reduceAdd, Nat.reduceSub, Option.some.injEq, SD.fz.injEq, SD.own.injEq, SD.adr.injEq, PyData.int.injEq, PyData.bool.injEq, PyData.tuple.injEq, PyData.list.injEq, exists_eq_left', exists_eq_left, exists_eq, and_true, true_and, unfz, Option.map_some, and_assoc, exists_and_left, List.cons.injEq, Nat.reduceLeDiff,
  List.map_cons, List.map_nil, Int.reduceLE, Int.reduceToNat, if_true, reduceCtorEq, false_or, or_false, exists_false, ↓reduceIte, Nat.zero_le, Int.zero_le_ofNat, Int.reduceNeg])
local macro_rules | `(tactic| walk_at "sc") => `(tactic| try simp only [vLenSc, vSeq, vAsg, vIfS, vRet, vRetN, vRetO, vNext, vPar, vSetO, vApp, vIns, vFrz, vDrop, vNever, vVar, vC, vOp, vUn, vTest, vChain, vIsN, vNotN, vAnd, vOr, vNot, vAndV, vIf, vaNil, vaCons, vaAdr, vTup, vLst, vCB, vCall, vCall0, vCl, vCl0, vgName, vgNil, vgCons, vgTup, vgLst, viAny, viEnum, viEnumT, viRev, viRng1, viRng2, vYes, wipeS, vTru, vOrT, vListRg, vBor, vBorT, vSrtSet, vSlT, vPl, vPl0, vPlen, vPlset, vGf, vGset, setG, Gf.d, vGfil, vGfs, vGwg, vGwi, vGws, vGwo, vGta, vGra, vGtl, vGm, vGwt, Pl.get, Pl.put,
  qI, qI0, qB0, qNeB, qEqD, qNeD, qEqL, qIn, qInE, qU, qCatL, qCatT, qIx, itemD_T, itemD_L, qLen, qList, qTuple, qSum, qAny, qAll, qSortI, qSortTI, qSortE, qAbs, qInt, qMin2, qGcd, qNotB,
  List.length_cons, List.length_nil, List.replicate_succ, List.replicate_zero, List.cons_append, List.nil_append, List.getElem?_cons_zero, List.getElem?_cons_succ, List.set_cons_zero, List.set_cons_succ, Nat.reduceAdd, Nat.reduceSub, Option.some.injEq, SD.fz.injEq, SD.own.injEq, SD.adr.injEq, PyData.int.injEq, PyData.bool.injEq, PyData.tuple.injEq, PyData.list.injEq, exists_eq_left', exists_eq_left, exists_eq, and_true, true_and, unfz, Option.map_some, and_assoc, exists_and_left, List.cons.injEq, Nat.reduceLeDiff,
  List.map_cons, List.map_nil, Int.reduceLE, Int.reduceToNat, if_true, reduceCtorEq, false_or, or_false, exists_false, ↓reduceIte, Nat.zero_le, Int.zero_le_ofNat, Int.reduceNeg])


theorem one_sz : (1 : Int).natAbs < 2 ^ 8000 := Nat.lt_of_lt_of_le (show (1 : Int).natAbs < 2 ^ 1 by decide) (Nat.pow_le_pow_right (by decide) (by decide))
theorem tls_len {ws : List Way} {fl : List Rat} {still : List (List Int)} {j : Nat} : (tls ws fl still j).length ≤ ws.length := by
  unfold tls
  refine Nat.le_trans (List.length_filterMap_le _ _) ?_
  rw [List.length_take, List.length_zip]; omega
structure Tkn (g : GIx) (k : Nat) (st st' : GX) : Prop where
  ok : GOk g.n g.ws g.ps k st'.g
  rn : st'.rn = st.rn
  le : st'.g.parts.length ≤ st.g.parts.length
def I_tf (g : GIx) (k : Nat) (st : GX) (m : Nat) (s : List SD) (w : GX) : Prop := m = w.g.parts.length ∧ Tkn g k st w ∧ ∃ d o2 o3 o4 o5, s = [.adr g.sa, .fz d, o2, o3, o4, o5] ∧
  ((d = .none ∧ (Full g.ws st.g → w.g.parts.length < st.g.parts.length)) ∨ ∃ (i : Nat) (v : Way), d = .int i ∧ g.ws[i]? = some v ∧ w.g.filled[i]? = some (v.2.2 : Rat) ∧ (ends v w.g.parts).length = 2)

def S_Growth_take_full_ways (K : PySem.W.Frag) (P : Program) (w : World) (g : GIx) : Spec (WG K P w g) := fun xs st R => ∃ (k : Nat), xs = [.adr g.sa] ∧ Pre g k st ∧ ∀ st', Tkn g k st st' → (Full g.ws st.g → st'.g.parts.length < st.g.parts.length) → R .none st'
section
variable {P : Program} {w : World} {K : PySem.W.Frag} {mg : Str → Option Value} {base : Heap}
theorem ok_Growth_take_full_ways (T : Tp K mg) (C : Tc K) : Met P w K mg base 3 (gC K) "take_full_ways" (SpG K P w (S_Growth_take_full_ways K P w)) [] := by
  have c_Growth_between := ok_Growth_between (P := P) (w := w) (base := base) T C
  have c_Growth_came := ok_Growth_came (P := P) (w := w) (base := base) T C
  have c_Growth_full_way := ok_Growth_full_way (P := P) (w := w) (base := base) T C
  refine metX (⟨0, 0, 0, 0, 0, 0, 0, [], []⟩ : GIx) C.cf.c C.m_take_full_ways T.f_Growth_take_full_ways sc_Growth_take_full_ways (fun _ _ _ _ _ _ us hl => match us, hl with | [_], _ => rfl) (fun g xs st Q h => ?_) (fun cdv A outer s H E hr => ⟨_, _, fun g => (dss_cons (dset 1 sc_Growth_take_full_ways.nd (de_gm0 K P w 0 c_Growth_full_way hr (by decide) (fun _ _ _ _ _ _ => rfl)))
      (dss_one (ds_while PassesOwn.never (dt_notN (de_var 1)) (dss_cons (ds_asg (de_gm K P w 0 c_Growth_between hr (by decide) (fun _ _ _ _ _ _ => rfl) (da_cons (de_var 1) da_nil)) (dg_lstK K (n := 2) rfl (dgs_cons (dgn 2 sc_Growth_take_full_ways.nd) (dgs_cons (dgn 3 sc_Growth_take_full_ways.nd) dgs_nil))))
      (dss_cons (dset 4 sc_Growth_take_full_ways.nd (de_cty call_tuple_of sc_tuple rfl T.z_tuple (by decide +kernel) (da_cons (de_cb (cr_sortTI (hu64 hr)) sc_sortTI rfl T.z_sorted (by decide +kernel) (da_cons (de_op op_catT so_catT (de_var 2) (de_var 3)) da_nil)) da_nil)))
      (dss_cons (ds_gset K P w C.cf 0 .parts (de_cty call_tuple_of sc_tuple rfl T.z_tuple (by decide +kernel) (da_cons (de_cb (cr_sortE (hu64 hr)) sc_sortE rfl T.z_sorted (by decide +kernel) (da_cons (de_op op_catL so_catL (de_lc (own := [("part", 5)]) rfl sc_Growth_take_full_ways.nd (di_seqK K (de_gf K P w C.cf 0 .parts)) (blkOk_by (by kernel_rfl)) (fun _ _ _ _ _ => (dgn 5 sc_Growth_take_full_ways.nd)) (fun _ _ _ _ _ => (dts_one (dt_cmp (op_notInEK K (hu65 hr)) so_inE (de_var 5) (de_tup (da_cons (de_var 2) (da_cons (de_var 3) da_nil))) (by with_unfolding_all rfl)))) (fun _ _ _ _ _ => (de_var 5)) go_name) (de_lst (da_cons (de_var 4) da_nil))) da_nil)) da_nil)))
      (dss_cons (ds_gta K P w C.cf 0 (da_cons (de_tup (da_cons (de_gf K P w C.cf 0 .time) (da_cons (de_var 1) da_nil))) da_nil))
      (dss_cons (ds_expr (de_gm K P w 0 c_Growth_came hr (by decide) (fun _ _ _ _ _ _ => rfl) (da_cons (de_var 4) da_nil)))
      (dss_one (dset 1 sc_Growth_take_full_ways.nd (de_gm0 K P w 0 c_Growth_full_way hr (by decide) (fun _ _ _ _ _ _ => rfl)))))))))))), ?_⟩)
  · obtain ⟨k, rfl, _⟩ := h; rfl
  · rintro g xs st Q ⟨k, rfl, hp, q⟩
    have hpl := hp.pl
    refine vseq_cut (fun s w' => I_tf g k st st.g.parts.length s w') (fun s w' hJ => ?_) (fun X hX => ?_)
    · walk_at "stw"
      refine ⟨fun m s w' => I_tf g k st m s w', ⟨_, hJ⟩, fun m s w' hI => ?_⟩
      clear hJ
      obtain ⟨rfl, hT, d, o2, o3, o4, o5, rfl, hd⟩ := hI
      walk_at "st"
      rcases hd with ⟨rfl, hF⟩ | ⟨i, v, rfl, hv, hf, he⟩
      · rw [if_neg (show ¬ (!isNon PyData.none) = true from fun z => by cases z)]
        exact q _ hT hF
      · rw [if_pos (show (!isNon (PyData.int _)) = true from rfl)]
        have hp' : Pre g k w' := ⟨hp.hn, hp.hl, hT.ok⟩
        have hpl' := hp'.pl
        have hm := hp.hn.ends v (List.mem_of_getElem? hv)
        rcases ends_spec hT.ok.po hm.1 hm.2 with ⟨z, _⟩ | ⟨a, b, ea, ha, hb, hab, hx, _⟩
        · exact absurd he z
        rw [vSeq_eq]
        walk_at "st"
        simp only [S_Growth_between]
        refine ⟨i, k, v, by trivial, hp', Int.natCast_nonneg i, by rw [Int.toNat_natCast]; exact hv, ?_⟩
        unfold btw
        rw [if_pos he, ea]
        walk_at "st"
        have la := len_iota (hT.ok.po.rg a ha) (hT.ok.po.so a ha)
        have lb := len_iota (hT.ok.po.rg b hb) (hT.ok.po.so b hb)
        have n12 := hp.hn.n2
        have hane := hT.ok.po.ne a ha
        rw [vSeq_eq]
        walk_at "st"
        refine ⟨by simpa using hane, by rw [List.length_map]; omega, by rw [List.length_map]; omega, a ++ b, by rw [List.map_append], fun jn pj sj => ?_⟩
        rw [vSeq_eq]
        walk_at "stl"
        refine ⟨w'.g.parts.map dT, .inr rfl, lc_pure w'.g.parts dT (fun y => !decide (y ∈ [a, b])) dT (by omega) (fun I j acc y hx h => ⟨y, rfl, [a, b], rfl, h⟩) ?_⟩
        refine ⟨by
          rw [List.length_map]
          have := List.length_filter_le (fun y => !decide (y ∈ [a, b])) w'.g.parts
          omega, (w'.g.parts.filter fun y => !decide (y ∈ [a, b])) ++ [jn], by rw [List.map_append]; rfl, fun t ht => ?_, fun ts' hp2 => ⟨_, ⟨ts', rfl, rfl⟩, ?_⟩⟩
        · rcases List.mem_append.mp ht with ht | ht
          · exact hT.ok.po.ne t (List.mem_filter.mp ht).1
          · rw [List.mem_singleton] at ht
            subst ht
            obtain ⟨x, r, e⟩ := List.exists_cons_of_ne_nil hane
            exact List.ne_nil_of_mem (a := x) (pj.mem_iff.mpr (by rw [e]; simp))
        · obtain ⟨ok2, len2⟩ := hT.ok.take hv (t := w'.g.time) ea hp.hn pj sj hp2
          have hle := hT.le
          rw [vSeq_eq]
          walk_at "st"
          refine ⟨(w'.g.time, (i : Int)), rfl, ?_, ?_⟩
          · have := hp'.tl
            show w'.g.taken.length ≤ 1000
            omega
          rw [vSeq_eq]
          walk_at "st"
          simp only [S_Growth_came, S_Growth_full_way]
          refine ⟨_, by trivial, k, by trivial, ⟨hp.hn, hp.hl, ok2⟩, fun i2 v2 g1 g2 g3 => ?_, fun hn2 => ?_⟩
          · exact ⟨_, by show ts'.length < _; omega, rfl, ⟨ok2, hT.rn, by show ts'.length ≤ _; omega⟩, _, _, _, _, _, rfl, .inr ⟨i2, v2, rfl, g1, g2, g3⟩⟩
          · exact ⟨_, by show ts'.length < _; omega, rfl, ⟨ok2, hT.rn, by show ts'.length ≤ _; omega⟩, _, _, _, _, _, rfl, .inl ⟨rfl, fun _ => by show ts'.length < _; omega⟩⟩
    · walk_at "st"
      simp only [S_Growth_full_way]
      refine ⟨k, by trivial, hp, fun i v h1 h2 h3 => hX _ _ ⟨rfl, ⟨hp.hg, rfl, Nat.le_refl _⟩, _, _, _, _, _, rfl, .inr ⟨i, v, rfl, h1, h2, h3⟩⟩, fun hn => hX _ _ ⟨rfl, ⟨hp.hg, rfl, Nat.le_refl _⟩, _, _, _, _, _, rfl, .inl ⟨rfl, fun f => absurd f hn⟩⟩⟩
end
def I_s1 (g : GIx) (st : GX) (still : List (List Int)) (j : Nat) (s : List SD) (w : GX) : Prop := w = st ∧ ∃ o3 o4 o5 o6 o7, s = [.adr g.sa, .fz (dGs still), .own ((tls g.ws st.g.filled still j).map dR), o3, o4, o5, o6, o7]
def I_s2 (g : GIx) (st : GX) (still : List (List Int)) (j : Nat) (s : List SD) (w : GX) : Prop := w = st ∧ ∃ b o3 o4 o5 o7, s = [.adr g.sa, .fz (dGs still), .fz (.list ((tls g.ws st.g.filled still g.ws.length).map dR)), o3, o4, o5, .fz (dR b), o7] ∧ b ∈ tls g.ws st.g.filled still g.ws.length ∧ ∀ t ∈ (tls g.ws st.g.filled still g.ws.length).take j, b ≤ t
def S_Growth_step (K : PySem.W.Frag) (P : Program) (w : World) (g : GIx) : Spec (WG K P w g) := fun xs st R => ∃ (k : Nat), xs = [.adr g.sa, .fz (dGs (st.g.parts.filter (opn g.ps)))] ∧ Pre g k st ∧ k ≤ 13 ∧ Jn g.ws (wholeI g.ws) g.ps ∧ st.g.parts.filter (opn g.ps) ≠ [] ∧ ∀ s, Spn g.n g.ws k st.g (st.g.parts.filter (opn g.ps)) s → R (dR s) st
section
variable {P : Program} {w : World} {K : PySem.W.Frag} {mg : Str → Option Value} {base : Heap}
theorem ok_Growth_step (T : Tp K mg) (C : Tc K) : Met P w K mg base 3 (gC K) "step" (SpG K P w (S_Growth_step K P w)) [] := by
  have c_Growth_rates := ok_Growth_rates (P := P) (w := w) (base := base) T C
  have c_Growth_waits := ok_waits (P := P) (w := w) (base := base) T C
  have c_less := ok_less (P := P) (w := w) (base := base) T
  have c_minus := ok_minus (P := P) (w := w) (base := base) T
  have c_over := ok_over (P := P) (w := w) (base := base) T
  have c_ratio := ok_ratio (P := P) (w := w) (base := base) T
  have c_ratiod := ok_ratiod (P := P) (w := w) (base := base) T
  refine metX (⟨0, 0, 0, 0, 0, 0, 0, [], []⟩ : GIx) C.cf.c C.m_step T.f_Growth_step sc_Growth_step (fun _ _ _ _ _ _ us hl => match us, hl with | [_, _], _ => rfl) (fun g xs st Q h => ?_) (fun cdv A outer s H E hr => ⟨_, _, fun g => (dss_cons (ds_gwt K P w 0 2 c_Growth_waits hr (by decide) sc_Growth_step.nd (da_cons (de_var 1) da_nil))
      (dss_cons (ds_for PassesOwn.never rfl (di_enum rfl T.z_enumerate (da_cons (de_gm K P w 0 c_Growth_rates hr (by decide) (fun _ _ _ _ _ _ => rfl) (da_cons (de_var 1) da_nil)) da_nil)) (dg_tupK K (n := 2) rfl (dgs_cons (dgn 3 sc_Growth_step.nd) (dgs_cons (dgn 4 sc_Growth_step.nd) dgs_nil))) (dss_one (ds_if (dt_cmp op_gt so_B0 (de_var 4) de_int (nomark _)) (dss_cons (dset 5 sc_Growth_step.nd (de_cl0K K c_minus hr (by decide) rfl (da_cons (de_call0K K c_ratiod (fun _ => .cons (.int 1) .nil) hr (by decide) rfl (da_cons (de_ixK K (de_ixK K (de_gf K P w C.cf 0 .ways) (de_var 3)) de_int) da_nil)) (da_cons (de_gfil K P w C.cf 0 (de_var 3)) da_nil))))
      (dss_one (ds_app 2 (da_cons (de_cl0K K c_over hr (by decide) rfl (da_cons (de_var 5) (da_cons (de_call0K K c_ratiod (fun _ => .cons (.int 1) .nil) hr (by decide) rfl (da_cons (de_var 4) da_nil)) da_nil))) da_nil)))) dss_nil)))
      (dss_frz 2 (dss_cons (dset 6 sc_Growth_step.nd (de_ixK K (de_var 2) de_int))
      (dss_cons (ds_for PassesOwn.never rfl (di_seqK K (de_var 2)) (dgn 7 sc_Growth_step.nd) (dss_one (ds_if (dt_val (de_cl0K K c_less hr (by decide) rfl (da_cons (de_var 7) (da_cons (de_var 6) da_nil)))) (dss_one (dset 6 sc_Growth_step.nd (de_var 7))) dss_nil)))
      (dss_one (ds_ret (de_var 6)))))))), ?_⟩)
  · obtain ⟨k, rfl, _⟩ := h; rfl
  · rintro g xs st Q ⟨k, rfl, hp, hk, hj, hne, q⟩
    have hwl := hp.wl
    rw [vSeq_eq]
    walk_at "st"
    refine ⟨own_at rfl, ?_⟩
    rw [vSeq_eq]
    walk_at "stf"
    simp only [S_Growth_rates]
    refine ⟨k, opn g.ps, by trivial, hp, ?_⟩
    refine ⟨_, rfl, fun j s w' => I_s1 g st (st.g.parts.filter (opn g.ps)) j s w', ⟨rfl, _, _, _, _, _, rfl⟩, fun j s w' d hd hJ => ?_, fun s w' hJ => ?_⟩
    · obtain ⟨rfl, o3, o4, o5, o6, o7, rfl⟩ := hJ
      obtain ⟨v, hv, rfl⟩ := eget hd
      have hj' : j < g.ws.length := (List.getElem?_eq_some_iff.mp hv).1
      obtain ⟨q0, hq⟩ := hp.hg.get hv
      have ts := tls_succ (still := w'.g.parts.filter (opn g.ps)) hv hq
      walk_at "st"
      by_cases c : 0 < cnt v (w'.g.parts.filter (opn g.ps))
      · rw [if_pos (decide_eq_true (by omega))]
        rw [if_pos c] at ts
        rw [vSeq_eq]
        walk_at "st"
        have hm := List.mem_of_getElem? hv
        have c2 := cnt_le hp.hg.po (hp.hn.ends v hm).1 (hp.hn.ends v hm).2 (opn g.ps)
        obtain ⟨_, b1, b2⟩ := hp.hg.ld j v q0 hv hq
        have b0 := hp.hg.fnn hv hq
        have b3 := (cost_q hp.hn hv).2
        refine ⟨dW v, by simp only [dWs]; exact itemD_t (by rw [List.getElem?_map, hv]; rfl), .int v.2.2, rfl, ?_⟩
        simp only [S_ratio]
        refine ⟨v.2.2, 1, by trivial, by decide, one_sz, Int.natCast_nonneg j, q0, by rw [Int.toNat_natCast]; exact hq, ?_⟩
        simp only [S_minus]
        refine ⟨Rat.divInt v.2.2 1, q0, by trivial, by rw [divInt_one']; exact sm_cost (hp.hn.cost v hm), dn_sm (hp.hg.fdn hp.hn hv hq) (by omega) (by decide), (cnt v (w'.g.parts.filter (opn g.ps)) : Int), 1, by trivial, by decide, one_sz, ?_⟩
        simp only [S_over]
        refine ⟨Rat.divInt v.2.2 1 - q0, Rat.divInt (cnt v (w'.g.parts.filter (opn g.ps)) : Int) 1, by trivial, ?_, ?_, ?_, ?_, ?_⟩
        · rw [divInt_one']
          exact dn_sm (B := 10000) (dn_of ((isI_int _ _).sub b2) (by grind) (by show _ ≤ (10000 : Rat); grind)) (by omega) (by decide)
        · rw [divInt_one']
          exact sm_int (Nat.lt_of_lt_of_le (show ((cnt v (w'.g.parts.filter (opn g.ps)) : Nat) : Int).natAbs < 2 ^ 20 by omega) two20)
        · rw [divInt_one']
          have := cnt_pos c
          intro z; rw [z] at this; exact absurd this (by decide)
        · rw [List.length_map]
          have := tls_len (ws := g.ws) (fl := w'.g.filled) (still := w'.g.parts.filter (opn g.ps)) (j := j)
          omega
        · exact ⟨rfl, _, _, _, _, _, by rw [ts, List.map_append, divInt_one', divInt_one']; rfl⟩
      · rw [if_neg (by simp only [decide_eq_true_eq]; omega)]
        rw [if_neg c, List.append_nil] at ts
        exact ⟨rfl, _, _, _, _, _, by rw [ts]⟩
    · obtain ⟨rfl, o3, o4, o5, o6, o7, rfl⟩ := hJ
      rw [enum_len, List.length_map]
      walk_at "st"
      rw [vSeq_eq]
      walk_at "st"
      obtain ⟨t0, r, et⟩ := List.exists_cons_of_ne_nil (tls_ne hj hp.hg hne)
      refine ⟨dR t0, by rw [et]; rfl, ?_⟩
      rw [vSeq_eq]
      walk_at "stf"
      have sm : ∀ t ∈ tls g.ws w'.g.filled (w'.g.parts.filter (opn g.ps)) g.ws.length, Sm t := fun t ht => by
        obtain ⟨i, v, q0, hv, hq, hc, rfl⟩ := tls_mem ht
        obtain ⟨f1, f2, f3⟩ := tl_facts hp.hn hp.hg hv hq hc
        exact dn_sm (B := 10000) (dn_of f3 f1 f2) (by omega) (by decide)
      refine ⟨fun j s w'' => I_s2 g w' (w'.g.parts.filter (opn g.ps)) j s w'', ⟨rfl, t0, _, _, _, _, rfl, by rw [et]; simp, fun t ht => by simp at ht⟩, fun j s w'' d hd hJ => ?_, fun s w'' hJ => ?_⟩
      · obtain ⟨rfl, b, o3, o4, o5, o7, rfl, hb, hI⟩ := hJ
        obtain ⟨t, ht, rfl⟩ := mget hd
        have htm := List.mem_of_getElem? ht
        walk_at "st"
        simp only [S_less]
        refine ⟨t, b, by trivial, sm t htm, sm b hb, ?_⟩
        have tk : ∀ u ∈ (tls g.ws w''.g.filled (w''.g.parts.filter (opn g.ps)) g.ws.length).take (j + 1), u ∈ (tls g.ws w''.g.filled (w''.g.parts.filter (opn g.ps)) g.ws.length).take j ∨ u = t := fun u hu => by
          rw [List.take_add_one, ht] at hu
          rcases List.mem_append.mp hu with hu | hu
          · exact .inl hu
          · exact .inr (by simpa using hu)
        by_cases c : t < b
        · refine ⟨_, rfl, ?_⟩
          rw [if_pos (decide_eq_true c)]
          walk_at "st"
          refine ⟨rfl, t, _, _, _, _, rfl, htm, fun u hu => ?_⟩
          rcases tk u hu with hu | rfl
          · exact Rat.le_trans (Rat.le_of_lt c) (hI u hu)
          · exact Rat.le_refl
        · refine ⟨_, rfl, ?_⟩
          rw [if_neg (by simpa using c)]
          refine ⟨rfl, b, _, _, _, _, rfl, hb, fun u hu => ?_⟩
          rcases tk u hu with hu | rfl
          · exact hI u hu
          · exact Rat.not_lt.mp c
      · obtain ⟨rfl, b, o3, o4, o5, o7, rfl, hb, hI⟩ := hJ
        rw [List.length_map, List.take_length] at hI
        walk_at "st"
        exact q b (spn_of hp.hn hp.hg hb hI)
end
end L2.VL
/-! part O3 -/
set_option Elab.async false
set_option linter.all false
set_option autoImplicit false
set_option maxRecDepth 100000
set_option maxHeartbeats 4000000
namespace L2.VL
open PySem PySem.Spec PyProof.Rows L2 C8 MW
local macro_rules | `(tactic| walk_at "st") => `(tactic| try simp only [vAsg, vIfS, vRet, vRetN, vRetO, vNext, vPar, vSetO, vApp, vIns, vFrz, vDrop, vNever, vVar, vC, vOp, vUn, vTest, vChain, vIsN, vNotN, vAnd, vOr, vNot, vAndV, vIf, vaNil, vaCons, vaAdr, vTup, vLst, vCB, vCall, vCall0, vCl, vCl0, vgName, vgNil, vgCons, vgTup, vgLst, viAny, viEnum, viEnumT, viRev, viRng1, viRng2, vYes, wipeS, vTru, vOrT, vListRg, vBor, vBorT, vSrtSet, vSlT, vPl, vPl0, vPlen, vPlset, vGf, vGset, setG, Gf.d, vGfil, vGfs, vGwg, vGwi, vGws, vGwo, vGta, vGra, vGtl, vGm, vGwt, Pl.get, Pl.put,
  qI, qI0, qB0, qNeB, qEqD, qNeD, qEqL, qIn, qInE, qU, qCatL, qCatT, qIx, itemD_T, itemD_L, qLen, qList, qTuple, qSum, qAny, qAll, qSortI, qSortTI, qSortE, qAbs, qInt, qMin2, qGcd, qNotB,
  List.length_cons, List.length_nil, List.replicate_succ, List.replicate_zero, List.cons_append, List.nil_append, List.getElem?_cons_zero, List.getElem?_cons_succ, List.set_cons_zero, List.set_cons_succ, Nat.reduceAdd, Nat.reduceSub, Option.some.injEq, SD.fz.injEq, SD.own.injEq, SD.adr.injEq, PyData.int.injEq, PyData.bool.injEq, PyData.tuple.injEq, PyData.list.injEq, exists_eq_left', exists_eq_left, exists_eq, and_true, true_and, unfz, Option.map_some, and_assoc, exists_and_left, List.cons.injEq, Nat.reduceLeDiff,
  List.map_cons, List.map_nil, Int.reduceLE, Int.reduceToNat, if_true, reduceCtorEq, false_or, or_false, exists_false, ↓reduceIte, Nat.zero_le, Int.zero_le_ofNat, Int.reduceNeg])
local macro_rules | `(tactic| walk_at "stf") => `(tactic| try simp only [vFor, vAsg, vIfS, vRet, vRetN, vRetO, vNext, vPar, vSetO, vApp, vIns, vFrz, vDrop, vNever, vVar, vC, vOp, vUn, vTest, vChain, vIsN, vNotN, vAnd, vOr, vNot, vAndV, vIf, vaNil, vaCons, vaAdr, vTup, vLst, vCB, vCall, vCall0, vCl, vCl0, vgName, vgNil, vgCons, vgTup, vgLst, viAny, viEnum, viEnumT, viRev, viRng1, viRng2, vYes, wipeS, vTru, vOrT, vListRg, vBor, vBorT, vSrtSet, vSlT, vPl, vPl0, vPlen, vPlset, vGf, vGset, setG, Gf.d, vGfil, vGfs, vGwg, vGwi, vGws, vGwo, vGta, vGra, vGtl, vGm, vGwt, Pl.get, Pl.put,
  qI, qI0, qB0, qNeB, qEqD, qNeD, qEqL, qIn, qInE, qU, qCatL, qCatT, qIx, itemD_T, itemD_L, qLen, qList, qTuple, qSum, qAny, qAll, qSortI, qSortTI, qSortE, qAbs, qInt, qMin2, qGcd, qNotB,
  List.length_cons, List.length_nil, List.replicate_succ, List.replicate_zero, List.cons_append, List.nil_append, List.getElem?_cons_zero, List.getElem?_cons_succ, List.set_cons_zero, List.set_cons_succ, Nat.reduceAdd, Nat.reduceSub, Option.some.injEq, SD.fz.injEq, SD.own.injEq, SD.adr.injEq, PyData.int.injEq, PyData.bool.injEq, PyData.tuple.injEq, PyData.list.injEq, exists_eq_left', exists_eq_left, exists_eq, and_true, true_and, unfz, Option.map_some, and_assoc, exists_and_left, List.cons.injEq, Nat.reduceLeDiff,
  List.map_cons, List.map_nil, Int.reduceLE, Int.reduceToNat, if_true, reduceCtorEq, false_or, or_false, exists_false, ↓reduceIte, Nat.zero_le, Int.zero_le_ofNat, Int.reduceNeg])
local macro_rules | `(tactic| walk_at "stl") => `(tactic| try simp only [vLc, vAsg, vIfS, vRet, vRetN, vRetO, vNext, vPar, vSetO, vApp, vIns, vFrz, vDrop, vNever, vVar, vC, vOp, vUn, vTest, vChain, vIsN, vNotN, vAnd, vOr, vNot, vAndV, vIf, vaNil, vaCons, vaAdr, vTup, vLst, vCB, vCall, vCall0, vCl, vCl0, vgName, vgNil, vgCons, vgTup, vgLst, viAny, viEnum, viEnumT, viRev, viRng1, viRng2, vYes, wipeS, vTru, vOrT, vListRg, vBor, vBorT, vSrtSet, vSlT, vPl, vPl0, vPlen, vPlset, vGf, vGset, setG, Gf.d, vGfil, vGfs, vGwg, vGwi, vGws, vGwo, vGta, vGra, vGtl, vGm, vGwt, Pl.get, Pl.put,
  qI, qI0, qB0, qNeB, qEqD, qNeD, qEqL, qIn, qInE, qU, qCatL, qCatT, qIx, itemD_T, itemD_L, qLen, qList, qTuple, qSum, qAny, qAll, qSortI, qSortTI, qSortE, qAbs, qInt, qMin2, qGcd, qNotB,
  List.length_cons, List.length_nil, List.replicate_succ, List.replicate_zero, List.cons_append, List.nil_append, List.getElem?_cons_zero, List.getElem?_cons_succ, List.set_cons_zero, List.set_cons_succ, Nat.reduceAdd, Nat.reduceSub, Option.some.injEq, SD.fz.injEq, SD.own.injEq, SD.adr.injEq, PyData.int.injEq, PyData.bool.injEq, PyData.tuple.injEq, PyData.list.injEq, exists_eq_left', exists_eq_left, exists_eq, and_true, true_and, unfz, Option.map_some, and_assoc, exists_and_left, List.cons.injEq, Nat.reduceLeDiff,
  List.map_cons, List.map_nil, Int.reduceLE, Int.reduceToNat, if_true, reduceCtorEq, false_or, or_false, exists_false, ↓reduceIte, Nat.zero_le, Int.zero_le_ofNat, Int.reduceNeg])
local macro_rules | `(tactic| walk_at "stw") => `(tactic| try simp only [vWhile, vAsg, vIfS, vRet, vRetN, vRetO, vNext, vPar, vSetO, vApp, vIns, vFrz, vDrop, vNever, vVar, vC, vOp, vUn, vTest, vChain, vIsN, vNotN, vAnd, vOr, vNot, vAndV, vIf, vaNil, vaCons, vaAdr, vTup, vLst, vCB, vCall, vCall0, vCl, vCl0, vgName, vgNil, vgCons, vgTup, vgLst, viAny, viEnum, viEnumT, viRev, viRng1, viRng2, vYes, wipeS, vTru, vOrT, vListRg, vBor, vBorT, vSrtSet, vSlT, vPl, vPl0, vPlen, vPlset, vGf, vGset, setG, Gf.d, vGfil, vGfs, vGwg, vGwi, vGws, vGwo, vGta, vGra, vGtl, vGm, vGwt, Pl.get, Pl.put,
  qI, qI0, qB0, qNeB, qEqD, qNeD, qEqL, qIn, qInE, qU, qCatL, qCatT, qIx, itemD_T, itemD_L, qLen, qList, qTuple, qSum, qAny, qAll, qSortI, qSortTI, qSortE, qAbs, qInt, qMin2, qGcd, qNotB,
  List.length_cons, List.length_nil, List.replicate_succ, List.replicate_zero, List.cons_append, List.nil_append, List.getElem?_cons_zero, List.getElem?_cons_succ, List.set_cons_zero, List.set_cons_succ, Nat.reduceAdd, Nat.reduceSub, Option.some.injEq, SD.fz.injEq, SD.own.injEq, SD.adr.injEq, PyData.int.injEq, PyData.bool.injEq, PyData.tuple.injEq, PyData.list.injEq, exists_eq_left', exists_eq_left, exists_eq, and_true, true_and, unfz, Option.map_some, and_assoc, exists_and_left, List.cons.injEq, Nat.reduceLeDiff,
  List.map_cons, List.map_nil, Int.reduceLE, Int.reduceToNat, if_true, reduceCtorEq, false_or, or_false, exists_false, ↓reduceIte, Nat.zero_le, Int.zero_le_ofNat, Int.reduceNeg])
local macro_rules | `(tactic| walk_at "rd") => `(tactic| try simp only [vSeq, vAsg, vIfS, vRet, vRetN, vRetO, vNext, vPar, vSetO, vApp, vIns, vFrz, vDrop, vNever, vVar, vC, vOp, vUn, vTest, vChain, vIsN, vNotN, vAnd, vOr, vNot, vAndV, vIf, vaNil, vaCons, vaAdr, vTup, vLst, vCB, vCall, vCall0, vCl, vCl0, vgName, vgNil, vgCons, vgTup, vgLst, viAny, viEnum, viEnumT, viRev, viRng1, viRng2, vYes, wipeS, vTru, vOrT, vListRg, vBor, vBorT, vSrtSet, vSlT, vPl, vPl0, vPlen, vPlset, vGf, vGset, setG, Gf.d, vGfil, vGfs, vGwg, vGwi, vGws, vGwo, vGta, vGra, vGtl, vGm, vGwt, Pl.get, Pl.put,
  qI, qI0, qB0, qNeB, qEqD, qNeD, qEqL, qIn, qInE, qU, qCatL, qCatT, qIx, itemD_T, itemD_L, qLen, qList, qTuple, qSum, qAny, qAll, qSortI, qSortTI, qSortE, qAbs, qInt, qMin2, qGcd, qNotB,
  List.length_cons, List.length_nil, List.replicate_succ, List.replicate_zero, List.cons_append, List.nil_append, List.getElem?_cons_zero, List.getElem?_cons_succ, List.set_cons_zero, List.set_cons_succ, Nat.reduceAdd, Nat.reduceSub, Option.some.injEq, SD.fz.injEq, SD.own.injEq, SD.adr.injEq, PyData.int.injEq, PyData.bool.injEq, PyData.tuple.injEq, PyData.list.injEq, exists_eq_left', exists_eq_left, exists_eq, and_true, true_and, unfz, Option.map_some, and_assoc, exists_and_left, List.cons.injEq, Nat.reduceLeDiff,
  List.map_cons, List.map_nil, Int.reduceLE, Int.reduceToNat, if_true, reduceCtorEq, false_or, or_false, exists_false, ↓reduceIte, Nat.zero_le, Int.zero_le_ofNat, Int.reduceNeg])
local macro_rules | `(tactic| walk_at "lc") => `(tactic| try simp only [vLc, vSeq, vAsg, vIfS, vRet, vRetN, vRetO, vNext, vPar, vSetO, vApp, vIns, vFrz, vDrop, vNever, vVar, vC, vOp, vUn, vTest, vChain, vIsN, vNotN, vAnd, vOr, vNot, vAndV, vIf, vaNil, vaCons, vaAdr, vTup, vLst, vCB, vCall, vCall0, vCl, vCl0, vgName, vgNil, vgCons, vgTup, vgLst, viAny, viEnum, viEnumT, viRev, viRng1, viRng2, vYes, wipeS, vTru, vOrT, vListRg, vBor, vBorT, vSrtSet, vSlT, vPl, vPl0, vPlen, vPlset, vGf, vGset, setG, Gf.d, vGfil, vGfs, vGwg, vGwi, vGws, vGwo, vGta, vGra, vGtl, vGm, vGwt, Pl.get, Pl.put,
  qI, qI0, qB0, qNeB, qEqD, qNeD, qEqL, qIn, qInE, qU, qCatL, qCatT, qIx, itemD_T, itemD_L, qLen, qList, qTuple, qSum, qAny, qAll, qSortI, qSortTI, qSortE, qAbs, qInt, qMin2, qGcd, qNotB,
  List.length_cons, List.length_nil, List.replicate_succ, List.replicate_zero, List.cons_append, List.nil_append, List.getElem?_cons_zero, List.getElem?_cons_succ, List.set_cons_zero, List.set_cons_succ, Nat.reduceAdd, Nat.reduceSub, Option.some.injEq, SD.fz.injEq, SD.own.injEq, SD.adr.injEq, PyData.int.injEq, PyData.bool.injEq, PyData.tuple.injEq, PyData.list.injEq, exists_eq_left', exists_eq_left, exists_eq, and_true, true_and, unfz, Option.map_some, and_assoc, exists_and_left, List.cons.injEq, Nat.reduceLeDiff,
  List.map_cons, List.map_nil, Int.reduceLE, Int.reduceToNat, if_true, reduceCtorEq, false_or, or_false, exists_false, ↓reduceIte, Nat.zero_le, Int.zero_le_ofNat, Int.reduceNeg])
local macro_rules | `(tactic| walk_at "fo") => `(tactic| try simp only [vFor, vSeq, vAsg, vIfS, vRet, vRetN, vRetO, vNext, vPar, vSetO, vApp, vIns, vFrz, vDrop, vNever, vVar, vC, vOp, vUn, vTest, vChain, vIsN, vNotN, vAnd, vOr, vNot, vAndV, vIf, vaNil, vaCons, vaAdr, vTup, vLst, vCB, vCall, vCall0, vCl, vCl0, vgName, vgNil, vgCons, vgTup, vgLst, viAny, viEnum, viEnumT, viRev, viRng1, viRng2, vYes, wipeS, vTru, vOrT, vListRg, vBor, vBorT, vSrtSet, vSlT, vPl, vPl0, vPlen, vPlset, vGf, vGset, setG, Gf.d, vGfil, vGfs, vGwg, vGwi, vGws, vGwo, vGta, vGra, vGtl, vGm, vGwt, Pl.get, Pl.put,
  qI, qI0, qB0, qNeB, qEqD, qNeD, qEqL, qIn, qInE, qU, qCatL, qCatT, qIx, itemD_T, itemD_L, qLen, qList, qTuple, qSum, qAny, qAll, qSortI, qSortTI, qSortE, qAbs, qInt, qMin2, qGcd, qNotB,
  List.length_cons, List.length_nil, List.replicate_succ, List.replicate_zero, List.cons_append, List.nil_append, List.getElem?_cons_zero, List.getElem?_cons_succ, List.set_cons_zero, List.set_cons_succ, Nat.reduceAdd, Nat.reduceSub, Option.some.injEq, SD.fz.injEq, SD.own.injEq, SD.adr.injEq, PyData.int.injEq, PyData.bool.injEq, PyData.tuple.injEq, PyData.list.injEq, exists_eq_left', exists_eq_left, exists_eq, and_true, true_and, unfz, Option.map_some, and_assoc, exists_and_left, List.cons.injEq, Nat.reduceLeDiff,
  List.map_cons, List.map_nil, Int.reduceLE, Int.reduceToNat, if_true, reduceCtorEq, false_or, or_false, exists_false, ↓reduceIte, Nat.zero_le, Int.zero_le_ofNat, Int.reduceNeg])
local macro_rules | `(tactic| walk_at "wh") => `(tactic| try simp only [vWhile, vSeq, vAsg, vIfS, vRet, vRetN, vRetO, vNext, vPar, vSetO, vApp, vIns, vFrz, vDrop, vNever, vVar, vC, vOp, vUn, vTest, vChain, vIsN, vNotN, vAnd, vOr, vNot, vAndV, vIf, vaNil, vaCons, vaAdr, vTup, vLst, vCB, vCall, vCall0, vCl, vCl0, vgName, vgNil, vgCons, vgTup, vgLst, viAny, viEnum, viEnumT, viRev, viRng1, viRng2, vYes, wipeS, vTru, vOrT, vListRg, vBor, vBorT, vSrtSet, vSlT, vPl, vPl0, vPlen, vPlset, vGf, vGset, setG, Gf.d, vGfil, vGfs, vGwg, vGwi, vGws, vGwo, vGta, vGra, vGtl, vGm, vGwt, Pl.get, Pl.put,
  qI, qI0, qB0, qNeB, qEqD, qNeD, qEqL, qIn, qInE, qU, qCatL, qCatT, qIx, itemD_T, itemD_L, qLen, qList, qTuple, qSum, qAny, qAll, qSortI, qSortTI, qSortE, qAbs, qInt, qMin2, qGcd, qNotB,
  List.length_cons, List.length_nil, List.replicate_succ, List.replicate_zero, List.cons_append, List.nil_append, List.getElem?_cons_zero, List.getElem?_cons_succ, List.set_cons_zero, List.set_cons_succ, Nat.reduceAdd, Nat.reduceSub, Option.some.injEq, SD.fz.injEq, SD.own.injEq, SD.adr.injEq, PyData.int.injEq, PyData.bool.injEq, PyData.tuple.injEq, PyData.list.injEq, exists_eq_left', exists_eq_left, exists_eq, and_true, true_and, unfz, Option.map_some, and_assoc, exists_and_left, List.cons.injEq, Nat.reduceLeDiff,
  List.map_cons, List.map_nil, Int.reduceLE, Int.reduceToNat, if_true, reduceCtorEq, false_or, or_false, exists_false, ↓reduceIte, Nat.zero_le, Int.zero_le_ofNat, Int.reduceNeg])
local macro_rules | `(tactic| walk_at "sc") => `(tactic| try simp only [vLenSc, vSeq, vAsg, vIfS, vRet, vRetN, vRetO, vNext, vPar, vSetO, vApp, vIns, vFrz, vDrop, vNever, vVar, vC, vOp, vUn, vTest, vChain, vIsN, vNotN, vAnd, vOr, vNot, vAndV, vIf, vaNil, vaCons, vaAdr, vTup, vLst, vCB, vCall, vCall0, vCl, vCl0, vgName, vgNil, vgCons, vgTup, vgLst, viAny, viEnum, viEnumT, viRev, viRng1, viRng2, vYes, wipeS, vTru, vOrT, vListRg, vBor, vBorT, vSrtSet, vSlT, vPl, vPl0, vPlen, vPlset, vGf, vGset, setG, Gf.d, vGfil, vGfs, vGwg, vGwi, vGws, vGwo, vGta, vGra, vGtl, vGm, vGwt, Pl.get, Pl.put,
  qI, qI0, qB0, qNeB, qEqD, qNeD, qEqL, qIn, qInE, qU, qCatL, qCatT, qIx, itemD_T, itemD_L, qLen, qList, qTuple, qSum, qAny, qAll, qSortI, qSortTI, qSortE, qAbs, qInt, qMin2, qGcd, qNotB,
  List.length_cons, List.length_nil, List.replicate_succ, List.replicate_zero, List.cons_append, List.nil_append, List.getElem?_cons_zero, List.getElem?_cons_succ, List.set_cons_zero, List.set_cons_succ, Nat.reduceAdd, Nat.reduceSub, Option.some.injEq, SD.fz.injEq, SD.own.injEq, SD.adr.injEq, PyData.int.injEq, PyData.bool.injEq, PyData.tuple.injEq, PyData.list.injEq, exists_eq_left', exists_eq_left, exists_eq, and_true, true_and, unfz, Option.map_some, and_assoc, exists_and_left, List.cons.injEq, Nat.reduceLeDiff,
  List.map_cons, List.map_nil, Int.reduceLE, Int.reduceToNat, if_true, reduceCtorEq, false_or, or_false, exists_false, ↓reduceIte, Nat.zero_le, Int.zero_le_ofNat, Int.reduceNeg])


theorem op_neDK (K : PySem.W.Frag) {X : Cx} (hu : X.A.units + 64 < cLine) (hK : X.K = K := by rfl) : OpR X (compareOp .NotEq) (rNeD K) := by subst hK; exact op_neD hu
def p1S (g : GIx) (st : GX) (still : List (List Int)) (s : Rat) (j : Nat) : GX := ⟨{ st.g with filled := pasF g.ws st.g.filled still s j }, st.rn⟩
def p2S (g : GIx) (st : GX) (still : List (List Int)) (s : Rat) (j : Nat) : GX := ⟨{ st.g with filled := pasF g.ws st.g.filled still s g.ws.length, wid := (still.take j).foldl (bump s) st.g.wid }, st.rn⟩
def I_p1 (g : GIx) (st : GX) (still : List (List Int)) (q : Rat) (j : Nat) (s : List SD) (w : GX) : Prop := w = p1S g st still q j ∧ ∃ o3 o4 o5, s = [.adr g.sa, .fz (dR q), .fz (dGs still), o3, o4, o5]
def I_p2 (g : GIx) (st : GX) (still : List (List Int)) (q : Rat) (j : Nat) (s : List SD) (w : GX) : Prop := w = p2S g st still q j ∧ ∃ o3 o4 o5, s = [.adr g.sa, .fz (dR q), .fz (dGs still), o3, o4, o5]
def I_gr (g : GIx) (m : Nat) (s : List SD) (w : GX) : Prop := m = w.g.parts.length ∧ ∃ k o1 o2, s = [.adr g.sa, o1, o2] ∧ GOk g.n g.ws g.ps k w.g ∧ k + w.g.parts.length ≤ g.n ∧ w.rn ≤ k + 1

def S_Growth_pass_time (K : PySem.W.Frag) (P : Program) (w : World) (g : GIx) : Spec (WG K P w g) := fun xs st R => ∃ (k : Nat) (s : Rat), xs = [.adr g.sa, .fz (dR s), .fz (dGs (st.g.parts.filter (opn g.ps)))] ∧ Pre g k st ∧ k ≤ 13 ∧ Jn g.ws (wholeI g.ws) g.ps ∧ Spn g.n g.ws k st.g (st.g.parts.filter (opn g.ps)) s ∧ R .none ⟨passed g.ws st.g (st.g.parts.filter (opn g.ps)) s, st.rn⟩
section
variable {P : Program} {w : World} {K : PySem.W.Frag} {mg : Str → Option Value} {base : Heap}
theorem ok_Growth_pass_time (T : Tp K mg) (C : Tc K) : Met P w K mg base 3 (gC K) "pass_time" (SpG K P w (S_Growth_pass_time K P w)) [] := by
  have c_Growth_rates := ok_Growth_rates (P := P) (w := w) (base := base) T C
  have c_plus := ok_plus (P := P) (w := w) (base := base) T
  have c_ratio := ok_ratio (P := P) (w := w) (base := base) T
  have c_ratiod := ok_ratiod (P := P) (w := w) (base := base) T
  have c_times := ok_times (P := P) (w := w) (base := base) T
  refine metX (⟨0, 0, 0, 0, 0, 0, 0, [], []⟩ : GIx) C.cf.c C.m_pass_time T.f_Growth_pass_time sc_Growth_pass_time (fun _ _ _ _ _ _ us hl => match us, hl with | [_, _, _], _ => rfl) (fun g xs st Q h => ?_) (fun cdv A outer s H E hr => ⟨_, _, fun g => (dss_cons (ds_for PassesOwn.never rfl (di_enum rfl T.z_enumerate (da_cons (de_gm K P w 0 c_Growth_rates hr (by decide) (fun _ _ _ _ _ _ => rfl) (da_cons (de_var 2) da_nil)) da_nil)) (dg_tupK K (n := 2) rfl (dgs_cons (dgn 3 sc_Growth_pass_time.nd) (dgs_cons (dgn 4 sc_Growth_pass_time.nd) dgs_nil))) (dss_one (ds_gfs K P w C.cf 0 (de_var 3) (de_cl0K K c_plus hr (by decide) rfl (da_cons (de_gfil K P w C.cf 0 (de_var 3)) (da_cons (de_cl0K K c_times hr (by decide) rfl (da_cons (de_var 1) (da_cons (de_call0K K c_ratiod (fun _ => .cons (.int 1) .nil) hr (by decide) rfl (da_cons (de_var 4) da_nil)) da_nil))) da_nil))))))
      (dss_cons (ds_for PassesOwn.never rfl (di_seqK K (de_var 2)) (dgn 5 sc_Growth_pass_time.nd) (dss_one (ds_gws K P w C.cf 0 (de_var 5) (de_cl0K K c_plus hr (by decide) rfl (da_cons (de_gwg K P w C.cf 0 (de_var 5) (de_glob rfl T.g_ZERO (fun F => zeroD T F)) (hu1 hr)) (da_cons (de_var 1) da_nil))) (hu1 hr))))
      (dss_one (ds_gset K P w C.cf 0 .time (de_cl0K K c_plus hr (by decide) rfl (da_cons (de_gf K P w C.cf 0 .time) (da_cons (de_var 1) da_nil))))))), ?_⟩)
  · obtain ⟨k, s1, rfl, _⟩ := h; rfl
  · rintro g xs st Q ⟨k, s1, rfl, hp, hk, hj, hs, q⟩
    have hwl := hp.wl
    have hpl := hp.pl
    have sms : Sm s1 := dn_sm (B := 10000) (dn_of hs.z hs.nn hs.le) (by omega) (by decide)
    rw [vSeq_eq]
    walk_at "stf"
    simp only [S_Growth_rates]
    refine ⟨k, opn g.ps, by trivial, hp, ?_⟩
    refine ⟨_, rfl, fun j s w' => I_p1 g st (st.g.parts.filter (opn g.ps)) s1 j s w', ⟨rfl, _, _, _, rfl⟩, fun j s w' d hd hJ => ?_, fun s w' hJ => ?_⟩
    · obtain ⟨rfl, o3, o4, o5, rfl⟩ := hJ
      obtain ⟨v, hv, rfl⟩ := eget hd
      have hj' : j < g.ws.length := (List.getElem?_eq_some_iff.mp hv).1
      obtain ⟨q0, hq⟩ := hp.hg.get hv
      have hm := List.mem_of_getElem? hv
      have c2 := cnt_le hp.hg.po (hp.hn.ends v hm).1 (hp.hn.ends v hm).2 (opn g.ps)
      have b0 := hp.hg.fnn hv hq
      have b3 := (cost_q hp.hn hv).2
      have b4 := hs.ok j v q0 hv hq
      have fl := hp.hg.fl
      have snn := hs.nn
      have c0 : (0 : Rat) ≤ ((cnt v (st.g.parts.filter (opn g.ps)) : Int) : Rat) := by
        have : ((0 : Int) : Rat) ≤ ((cnt v (st.g.parts.filter (opn g.ps)) : Int) : Rat) := Rat.intCast_le_intCast.mpr (by omega)
        exact this
      have m0 := Rat.mul_nonneg snn c0
      walk_at "st"
      have hq' : (p1S g st (st.g.parts.filter (opn g.ps)) s1 j).g.filled[j]? = some q0 := (pasF_get fl hj').trans hq
      refine ⟨Int.natCast_nonneg j, q0, by rw [Int.toNat_natCast]; exact hq', ?_⟩
      simp only [S_ratio]
      refine ⟨(cnt v (st.g.parts.filter (opn g.ps)) : Int), 1, by trivial, by decide, one_sz, ?_⟩
      simp only [S_times]
      refine ⟨s1, Rat.divInt (cnt v (st.g.parts.filter (opn g.ps)) : Int) 1, by trivial, sms, ?_, ?_⟩
      · rw [divInt_one']
        exact sm_int (Nat.lt_of_lt_of_le (show ((cnt v (st.g.parts.filter (opn g.ps)) : Nat) : Int).natAbs < 2 ^ 20 by omega) two20)
      simp only [S_plus]
      refine ⟨q0, s1 * Rat.divInt (cnt v (st.g.parts.filter (opn g.ps)) : Int) 1, by trivial, dn_sm (hp.hg.fdn hp.hn hv hq) (by omega) (by decide), ?_, Int.natCast_nonneg j, ?_, _, rfl, ?_⟩
      · rw [divInt_one']
        obtain ⟨z, hz⟩ := hs.z
        exact dn_sm (k := k + 1) (B := 10000) (dn_of ⟨z * (cnt v (st.g.parts.filter (opn g.ps)) : Int), by rw [Rat.intCast_mul, ← hz]; grind⟩ m0 (by show _ ≤ (10000 : Rat); grind)) (by omega) (by decide)
      · show (j : Int) < ((pasF g.ws st.g.filled (st.g.parts.filter (opn g.ps)) s1 j).length : Int)
        rw [pasF_len fl (by omega)]; omega
      · refine ⟨?_, _, _, _, rfl⟩
        rw [Int.toNat_natCast, divInt_one']
        show GX.mk { st.g with filled := (pasF g.ws st.g.filled (st.g.parts.filter (opn g.ps)) s1 j).set j _ } st.rn = _
        rw [pasF_set fl hv hq]; rfl
    · obtain ⟨rfl, o3, o4, o5, rfl⟩ := hJ
      rw [enum_len, List.length_map]
      rw [vSeq_eq]
      walk_at "stf"
      refine ⟨(st.g.parts.filter (opn g.ps)).map dT, .inr rfl, fun j s w' => I_p2 g st (st.g.parts.filter (opn g.ps)) s1 j s w', ⟨rfl, _, _, _, rfl⟩, fun j s w' d hd hJ => ?_, fun s w' hJ => ?_⟩
      · obtain ⟨rfl, o3, o4, o5, rfl⟩ := hJ
        obtain ⟨y, hy, rfl⟩ := mget hd
        have md := mid_of hp.hn hj hp.hg hs j
        walk_at "st"
        refine ⟨y, rfl, by trivial, ?_⟩
        simp only [S_plus]
        refine ⟨_, s1, by trivial, md.sm (by omega) y, sms, y, rfl, _, rfl, ?_, ?_⟩
        · have := md.ln
          have := hp.hn.n2
          show (((st.g.parts.filter (opn g.ps)).take j).foldl (bump s1) st.g.wid).length < 1000
          omega
        · refine ⟨?_, _, _, _, rfl⟩
          unfold p2S
          rw [foldl_take _ _ hy]; rfl
      · obtain ⟨rfl, o3, o4, o5, rfl⟩ := hJ
        rw [List.length_map]
        walk_at "st"
        simp only [S_plus]
        refine ⟨_, s1, by trivial, dn_sm hp.hg.tm (by omega) (by omega), sms, _, ⟨_, rfl, rfl⟩, ?_⟩
        unfold p2S
        rw [List.take_length]
        exact q
end
def S_Growth_paper (K : PySem.W.Frag) (P : Program) (w : World) (g : GIx) : Spec (WG K P w g) := fun xs st R => ∃ (k : Nat), xs = [.adr g.sa] ∧ Pre g k st ∧ k ≤ 13 ∧ Jn g.ws (wholeI g.ws) g.ps ∧ ∀ P, PapOk g.n g.ws g.ps P → R (dPp P) st
section
variable {P : Program} {w : World} {K : PySem.W.Frag} {mg : Str → Option Value} {base : Heap}
theorem ok_Growth_paper (T : Tp K mg) (C : Tc K) : Met P w K mg base 1 (gC K) "paper" (SpG K P w (S_Growth_paper K P w)) [] := by
  refine metX (⟨0, 0, 0, 0, 0, 0, 0, [], []⟩ : GIx) C.cf.c C.m_paper T.f_Growth_paper sc_Growth_paper (fun _ _ _ _ _ _ us hl => match us, hl with | [_], _ => rfl) (fun g xs st Q h => ?_) (fun cdv A outer s H E hr => ⟨_, _, fun g => (dss_one (ds_ret (de_cty call_tuple_of sc_tuple rfl T.z_tuple (by decide +kernel) (da_cons (de_lc (own := [("part", 1)]) rfl sc_Growth_paper.nd (di_seqK K (de_gwo K P w C.cf 0 rfl (hu64 hr) rfl T.z_sorted)) (blkOk_by (by kernel_rfl)) (fun _ _ _ _ _ => (dgn 1 sc_Growth_paper.nd)) (fun _ _ _ _ _ => (dts_one (dt_cmp (op_neDK K (hu64 hr)) so_neD (de_gwi K P w C.cf 0 (de_var 1) (hu1 hr)) (de_glob rfl T.g_ZERO (fun F => zeroD T F)) (nomark _)))) (fun _ _ _ _ _ => (de_tup (da_cons (de_var 1) (da_cons (de_gwi K P w C.cf 0 (de_var 1) (hu1 hr)) da_nil)))) go_name) da_nil)))), ?_⟩)
  · obtain ⟨k, rfl, _⟩ := h; rfl
  · rintro g xs st Q ⟨k, rfl, hp, hk, hj, q⟩
    walk_at "stl"
    refine ⟨fun m hm => (hp.hg.wk m hm).1, fun ks hks => ?_⟩
    have hlen : ks.length ≤ 24 := by
      obtain ⟨U, u1, u2, u3⟩ := hp.hg.us
      have := sub_len hp.hg.wn u3
      have l := hks.length_eq
      rw [List.length_map] at l
      have := hp.hg.nt
      have := hp.hn.n2
      omega
    refine lc_pure ks dT (fun y => !decide (getM st.g.wid y = 0)) (fun y => dM (y, getM st.g.wid y)) (by omega) (fun I j acc y hx h => ?_) ?_
    · have hm := hks.mem_iff.mp hx
      refine ⟨y, rfl, hm, [(getM st.g.wid y).num, (getM st.g.wid y).den], rfl, [0, 1], rfl, ?_⟩
      by_cases c : getM st.g.wid y = 0
      · rw [if_neg (by rw [c]; decide)]
        rw [if_neg (by simp [c])] at h
        exact h
      · rw [if_pos (by
          have : ¬ [(getM st.g.wid y).num, ((getM st.g.wid y).den : Int)] = [0, 1] := fun z => c (numden_iff.mp (z.trans (show [0, 1] = [(0 : Rat).num, ((0 : Rat).den : Int)] from rfl)))
          rw [decide_eq_false this]; rfl)]
        rw [if_pos (by simp [c])] at h
        exact ⟨y, rfl, hm, h⟩
    · have := q _ (hp.hg.paper hp.hn hj (by omega) hks)
      unfold dPp at this
      rw [List.map_map] at this
      exact this
end
def S_Growth_grow (K : PySem.W.Frag) (P : Program) (w : World) (g : GIx) : Spec (WG K P w g) := fun xs st R => xs = [.adr g.sa] ∧ Pre g 0 st ∧ st.rn = 0 ∧ PairsOk g.n g.ps ∧ Jn g.ws (wholeI g.ws) g.ps ∧ ∀ st' k, k ≤ 12 → GOk g.n g.ws g.ps k st'.g → st'.g.parts.filter (opn g.ps) = [] → R .none st'
section
variable {P : Program} {w : World} {K : PySem.W.Frag} {mg : Str → Option Value} {base : Heap}
theorem ok_Growth_grow (T : Tp K mg) (C : Tc K) : Met P w K mg base 4 (gC K) "grow" (SpG K P w (S_Growth_grow K P w)) [] := by
  have c_Growth_pass_time := ok_Growth_pass_time (P := P) (w := w) (base := base) T C
  have c_Growth_rested := ok_Growth_rested (P := P) (w := w) (base := base) T C
  have c_Growth_step := ok_Growth_step (P := P) (w := w) (base := base) T C
  have c_Growth_still_open := ok_Growth_still_open (P := P) (w := w) (base := base) T C
  have c_Growth_take_full_ways := ok_Growth_take_full_ways (P := P) (w := w) (base := base) T C
  refine metX (⟨0, 0, 0, 0, 0, 0, 0, [], []⟩ : GIx) C.cf.c C.m_grow T.f_Growth_grow sc_Growth_grow (fun _ _ _ _ _ _ us hl => match us, hl with | [_], _ => rfl) (fun g xs st Q h => ?_) (fun cdv A outer s H E hr => ⟨_, _, fun g => (dss_cons (ds_gra K P w C.cf 0 (da_cons (de_tup (da_cons (de_gf K P w C.cf 0 .time) (da_cons (de_gf K P w C.cf 0 .parts) (da_cons (de_gm0 K P w 0 c_Growth_still_open hr (by decide) (fun _ _ _ _ _ _ => rfl)) da_nil)))) da_nil))
      (dss_one (ds_while PassesOwn.never (dt_truK K (de_gm0 K P w 0 c_Growth_still_open hr (by decide) (fun _ _ _ _ _ _ => rfl))) (dss_cons (dset 1 sc_Growth_grow.nd (de_gm0 K P w 0 c_Growth_still_open hr (by decide) (fun _ _ _ _ _ _ => rfl)))
      (dss_cons (ds_expr (de_gm K P w 0 c_Growth_pass_time hr (by decide) (fun _ _ _ _ _ _ => rfl) (da_cons (de_gm K P w 0 c_Growth_step hr (by decide) (fun _ _ _ _ _ _ => rfl) (da_cons (de_var 1) da_nil)) (da_cons (de_var 1) da_nil))))
      (dss_cons (dset 2 sc_Growth_grow.nd (de_gtl K P w C.cf 0 rfl T.z_len))
      (dss_cons (ds_expr (de_gm0 K P w 0 c_Growth_take_full_ways hr (by decide) (fun _ _ _ _ _ _ => rfl)))
      (dss_cons (ds_expr (de_gm0 K P w 0 c_Growth_rested hr (by decide) (fun _ _ _ _ _ _ => rfl)))
      (dss_one (ds_if (dt_cmp op_gt so_B0 (de_gtl K P w C.cf 0 rfl T.z_len) (de_var 2) (nomark _)) (dss_one (ds_gra K P w C.cf 0 (da_cons (de_tup (da_cons (de_gf K P w C.cf 0 .time) (da_cons (de_gf K P w C.cf 0 .parts) (da_cons (de_gm0 K P w 0 c_Growth_still_open hr (by decide) (fun _ _ _ _ _ _ => rfl)) da_nil)))) da_nil))) dss_nil)))))))))), ?_⟩)
  · obtain ⟨rfl, _⟩ := h; rfl
  · rintro g xs st Q ⟨rfl, hp, h0, ho, hj, q⟩
    have n12 := hp.hn.n2
    rw [vSeq_eq]
    walk_at "st"
    simp only [S_Growth_still_open]
    refine ⟨0, by trivial, hp, by omega, ?_⟩
    walk_at "stw"
    refine ⟨fun m s w' => I_gr g m s w', ⟨_, rfl, 0, _, _, rfl, hp.hg, by have := hp.hg.tl; show 0 + st.g.parts.length ≤ _; omega, by show st.rn + 1 ≤ 0 + 1; omega⟩, fun m s w' hI => ?_⟩
    obtain ⟨rfl, k, o1, o2, rfl, hG, hkn, hrn⟩ := hI
    have hp' : Pre g k w' := ⟨hp.hn, hp.hl, hG⟩
    walk_at "st"
    simp only [S_Growth_still_open]
    refine ⟨k, by trivial, hp', ?_⟩
    have tr : ∀ l : List (List Int), truD (dGs l) = some (!l.isEmpty) := fun l => by cases l <;> rfl
    refine ⟨_, tr _, ?_⟩
    by_cases c : w'.g.parts.filter (opn g.ps) = []
    · rw [if_neg (by rw [c]; decide)]
      exact q _ k (by omega) hG c
    · rw [if_pos (by
        cases e : w'.g.parts.filter (opn g.ps) with
        | nil => exact absurd e c
        | cons _ _ => rfl)]
      rw [vSeq_eq]
      walk_at "st"
      simp only [S_Growth_still_open]
      refine ⟨k, by trivial, hp', ?_⟩
      rw [vSeq_eq]
      walk_at "st"
      simp only [S_Growth_step]
      refine ⟨k, by trivial, hp', by omega, hj, c, fun s hs => ?_⟩
      simp only [S_Growth_pass_time]
      refine ⟨k, s, by trivial, hp', by omega, hj, hs, ?_⟩
      rw [vSeq_eq]
      walk_at "st"
      rw [vSeq_eq]
      walk_at "st"
      simp only [S_Growth_take_full_ways]
      have hG1 := hG.pass hp.hn hj hs
      refine ⟨k + 1, by trivial, ⟨hp.hn, hp.hl, hG1⟩, fun st2 hT hF => ?_⟩
      have hlt := hF (pass_full hp.hn hG hs)
      have hlt' : st2.g.parts.length < w'.g.parts.length := hlt
      have hrn2 : st2.rn = w'.rn := hT.rn
      have fin : ∀ (o1 o2 : SD) (rn : Nat), rn ≤ st2.rn + 1 → ∃ m', m' < w'.g.parts.length ∧ I_gr g m' [.adr g.sa, o1, o2] ⟨st2.g, rn⟩ := fun o1 o2 rn h => ⟨_, hlt', rfl, k + 1, _, _, rfl, hT.ok, by show k + 1 + st2.g.parts.length ≤ _; omega, by show rn ≤ _; omega⟩
      rw [vSeq_eq]
      walk_at "st"
      simp only [S_Growth_rested]
      refine ⟨by trivial, ?_⟩
      split
      · simp only [S_Growth_still_open]
        exact ⟨k + 1, by trivial, ⟨hp.hn, hp.hl, hT.ok⟩, by omega, fin _ _ _ (Nat.le_refl _)⟩
      · exact fin _ _ _ (Nat.le_succ _)
end
end L2.VL
/-! part OI0 -/
set_option Elab.async false
set_option linter.all false
set_option autoImplicit false
set_option maxRecDepth 100000
set_option maxHeartbeats 4000000
namespace L2.VL
open PySem PySem.Spec PyProof.Rows L2 C8 MW
section
variable {W : Wo} {K : PySem.W.Frag} {wi : TI} {vi : VI W} {g : TG} {vg : VG W} {tt : TT} {vt : VT W} {te : TE} {t : VE W}
/-- a comprehension whose list is one's own -/
theorem snd_lcO {own : List Nat} (hi : SndI K W wi vi) (hg : SndG K W g vg) (ht : SndT K W tt vt) (he : SndE K W te t) (go : GOnly g own) : ∀ F0 H0 F H σ s w (Q' : List PyData → W.S → Prop) (Q : VK), Rel K W F0 H0 F H σ s w →
    vLc vi vg vt t own s w (fun d w => ∃ acc, d = .list acc ∧ Q' acc w) → (∀ D F' H' acc us w', Ext W F H F' H' → W.R w' F' H' → H D = none → H' D = some (.lst us) → DpAll K F' us acc → F' D = none → Q' acc w' → Q (.ref D) H') → tLc wi g tt te own σ H Q := by
  intro F0 H0 F H_ σ s w Q' Q R q k
  refine hi _ _ _ _ _ _ _ _ _ R q fun J F1 H1 ds w1 e1 r1 wk q1 => ?_
  obtain ⟨hz, I, i0, step, last⟩ := q1
  have R1 := R.up e1 r1
  intro D hD
  have nfp : ¬ W.fp D := fun z => (W.dom r1 D z).2 hD
  have fD : F1 D = none := e1.sub.free hD
  have x0 := Ext.newOwn (W := W0) (o := .lst []) e1.sub hD
  refine lc_it wk (fun i H => ∃ F acc us w, Ext W F1 H1 F H ∧ W.R w F H ∧ H D = some (.lst us) ∧ DpAll K F us acc ∧ acc.length ≤ i ∧ F D = none ∧ I i acc w) ⟨F1, [], [], w1, x0.lift, x0.keepR r1, upd_same, .nil, Nat.le_refl _, fD, i0⟩
    (fun i H _ ⟨F, acc, us, w, e, _⟩ => e.ff.trans e.sub) (fun i x H H' hi ⟨F, acc, us, w, e, r, hd, ha, hl, fd, q⟩ y => ?_) (fun H ⟨F, acc, us, w, e, r, hd, ha, hl, fd, q⟩ => ?_)
  · have R2 := R1.up e r
    obtain ⟨d, F2, ed, e2, p2⟩ := yd_step y e.ff R2.sub
    have R3 := (R2.upP e2).wipe own
    have q2 := step i d acc w ed q
    have key := hg _ _ _ _ _ _ _ _ _ _ (fun σ2 H2 => tt σ2 H2 fun b H3 => if b = true then te σ2 H3 fun y H4 => ∃ acc, H4 D = some (.lst acc) ∧ acc.length < sizeLine ∧ ∃ F acc_1 us w, Ext W F1 H1 F (upd H4 D (.lst (acc ++ [y]))) ∧ W.R w F (upd H4 D (.lst (acc ++ [y]))) ∧ upd H4 D (.lst (acc ++ [y])) D = some (.lst us) ∧ DpAll K F us acc_1 ∧ acc_1.length ≤ i + 1 ∧ F D = none ∧ I (i + 1) acc_1 w else ∃ F acc us w, Ext W F1 H1 F H3 ∧ W.R w F H3 ∧ H3 D = some (.lst us) ∧ DpAll K F us acc ∧ acc.length ≤ i + 1 ∧ F D = none ∧ I (i + 1) acc w) R3 p2 q2 fun σ3 s3 w3 R4 q3 => ?_
    · have z := go _ _ _ _ key
      rw [wipe_wipe] at z
      exact z
    · have e02 := e.trans e2.lift
      have hd2 := e2.hh _ _ hd id
      have fd2 := e2.nw _ (ne_some hd) fd
      refine ht _ _ _ _ _ _ _ _ _ R4 q3 fun b F5 H5 w5 e5 r5 q5 => ?_
      have hd5 := e5.hh _ _ hd2 nfp
      have fd5 := e5.nw _ (ne_some hd2) fd2
      cases b with
      | false => exact ⟨F5, acc, us, w5, e02.trans e5, r5, hd5, dpa_mono (e2.ff.trans e5.ff) ha, by omega, fd5, q5⟩
      | true =>
        refine he _ _ _ _ _ _ _ _ _ (R4.up e5 r5) q5 fun v F6 H6 d6 w6 e6 r6 p6 q6 => ?_
        have hd6 := e6.hh _ _ hd5 nfp
        have fd6 := e6.nw _ (ne_some hd5) fd5
        have e06 := (e02.trans e5).trans e6
        refine ⟨us, hd6, by rw [dpa_len ha]; exact small1000 (by omega), F6, acc ++ [d6], us ++ [v], w6, e06.mut hD fd6, W.keep r6 (Same.refl _) (fun b hb => (W.dom r6 b hb).1) fun b hb => upd_ne (fun z => nfp (z ▸ hb)), upd_same, dpa_app (dpa_mono ((e2.ff.trans e5.ff).trans e6.ff) ha) (dpa_one p6), by rw [List.length_append, List.length_singleton]; omega, fd6, q6⟩
  · obtain ⟨acc', ea, q9⟩ := last acc w q hl
    cases ea
    refine k D F H acc us w (e1.trans e) r ?_ hd ha fd q9
    cases z : H_ D with
    | none => rfl
    | some o => exact absurd hD (e1.dm D (ne_some z))
end
end L2.VL
/-! part OI1 -/
set_option Elab.async false
set_option linter.all false
set_option autoImplicit false
set_option maxRecDepth 100000
set_option maxHeartbeats 4000000
namespace L2.VL
open PySem PySem.Spec PyProof.Rows L2 C8 MW
/-! ### an object all of whose fields so far are data -/
def RowF (K : PySem.W.Frag) (F : Hp) (x : Str × V) (y : Str × PyData) : Prop := x.1 = y.1 ∧ Dp K F x.2 y.2
abbrev WF (K : PySem.W.Frag) (oa : Addr × Addr) : Wo where
  S := List (Str × PyData)
  fp := fun a => a = oa.1
  R := fun fs F H => F oa.1 = none ∧ ∃ vs, H oa.1 = some (.ins (gC K) oa.2 vs) ∧ Paired (RowF K F) vs fs
  keep := fun ⟨h1, vs, h2, h3⟩ hF nf hH => ⟨nf _ rfl, vs, (hH _ rfl).trans h2, paired_imp (fun _ _ ⟨a, b⟩ => ⟨a, dp_mono hF b⟩) h3⟩
  dom := fun ⟨h1, vs, h2, h3⟩ a ha => by subst ha; exact ⟨h1, ne_some h2⟩
def putD (f : Str) (d : PyData) : List (Str × PyData) → List (Str × PyData)
  | [] => [(f, d)]
  | (g, x) :: r => if g = f then (g, d) :: r else (g, x) :: putD f d r
theorem row_look {K : PySem.W.Frag} {F : Hp} {f : Str} : ∀ {vs : List (Str × V)} {fs : List (Str × PyData)}, Paired (RowF K F) vs fs → ∀ {d : PyData}, fs.lookup f = some d → ∃ v, vs.lookup f = some v ∧ Dp K F v d
  | _, _, .nil, _, h => by cases h
  | _, _, .cons (a := x) (b := y) ⟨e1, e2⟩ r, d, h => by
    obtain ⟨x1, x2⟩ := x
    obtain ⟨y1, y2⟩ := y
    have e1 : x1 = y1 := e1
    subst e1
    unfold List.lookup at h ⊢
    cases c : f == x1 with
    | true => rw [c] at h; cases h; exact ⟨x2, rfl, e2⟩
    | false => rw [c] at h; exact row_look r h
theorem row_put {K : PySem.W.Frag} {F : Hp} {f : Str} {v : V} {d : PyData} (hv : Dp K F v d) : ∀ {vs : List (Str × V)} {fs : List (Str × PyData)}, Paired (RowF K F) vs fs → Paired (RowF K F) (putF f v vs) (putD f d fs)
  | _, _, .nil => .cons ⟨rfl, hv⟩ .nil
  | _, _, .cons (a := x) (b := y) ⟨e1, e2⟩ r => by
    obtain ⟨x1, x2⟩ := x
    obtain ⟨y1, y2⟩ := y
    have e1 : x1 = y1 := e1
    subst e1
    unfold putF putD
    by_cases c : x1 = f
    · rw [if_pos c, if_pos c]; exact .cons ⟨rfl, hv⟩ r
    · rw [if_neg c, if_neg c]; exact .cons ⟨rfl, e2⟩ (row_put hv r)
theorem row_len {K : PySem.W.Frag} {F : Hp} : ∀ {vs : List (Str × V)} {fs : List (Str × PyData)}, Paired (RowF K F) vs fs → vs.length = fs.length
  | _, _, .nil => rfl
  | _, _, .cons _ r => by rw [List.length_cons, List.length_cons, row_len r]
section
variable {X : Cx} {oa : Addr × Addr} {p pos pos' : Pos} {x : Str} {f : Str} {e : Expr} {te : TE}
def vWf (oa : Addr × Addr) (i : Nat) (f : Str) : List SD → List (Str × PyData) → (PyData → List (Str × PyData) → Prop) → Prop := fun s st Q => s[i]? = some (.adr oa.1) ∧ ∃ d, st.lookup f = some d ∧ Q d st
theorem de_wf (K : PySem.W.Frag) (c : Cls K (gC K)) (i : Nat) (na : NoAttr K (gC K) f) (hK : X.K = K := by rfl) (hN : X.N[i]? = some x := by rfl)
    (hv : Vis X.env.scope x := by first | exact Or.inl rfl | exact Or.inr (Or.inl rfl) | exact Or.inr (Or.inr rfl)) (hd : (x == ("__debug__" : Str)) = false := by decide) (hcd : (x == ("__classdict__" : Str)) = false := by decide)
    (hb : attributeBase (.Name x p) f X.env (eval (.Name x p) X.env) = eval (.Name x p) X.env := by rfl) : DE X (WF K oa) (.Attribute (.Name x p) f pos) (tFld K (tVar i) f) (vWf oa i f) := by
  subst hK
  refine ⟨pe_fld (pe_var hN hv hd hcd) hb, fun F0 H0 F H σ s st Q' Q R q k => ?_⟩
  obtain ⟨e, d, hl, q⟩ := q
  obtain ⟨_, vs, h2, h3⟩ := R.wr
  obtain ⟨v, hv, pv⟩ := row_look h3 hl
  exact ⟨.ref oa.1, R.sl i _ e, oa.1, gC X.K, oa.2, _, v, rfl, h2, c, na, hv, k v F H _ st (Ext.refl R.sub) R.wr pv q⟩
def vWs (K : PySem.W.Frag) (oa : Addr × Addr) (i : Nat) (f : Str) (t : VE (WF K oa)) : VS (WF K oa) := fun D s st => t s st fun d st1 => s[i]? = some (.adr oa.1) ∧ st1.length < 900 ∧ D.nx s (putD f d st1)
theorem ds_wf (K : PySem.W.Frag) (c : Cls K (gC K)) (i : Nat) (na : NoAttr K (gC K) f) {t : VE (WF K oa)} (h : DE X (WF K oa) e te t) (hK : X.K = K := by rfl) (hN : X.N[i]? = some x := by rfl)
    (hv : Vis X.env.scope x := by first | exact Or.inl rfl | exact Or.inr (Or.inl rfl) | exact Or.inr (Or.inr rfl)) (hd : (x == ("__debug__" : Str)) = false := by decide) (hcd : (x == ("__classdict__" : Str)) = false := by decide)
    (hs : swapsWith e (some (.Attribute (.Name x p) f pos')) pos.line X.env = pure false := by rfl) : DS X (WF K oa) (.Assign [.Attribute (.Name x p) f pos'] e pos) (sFld K (tVar i) te f) (vWs K oa i f t) := by
  subst hK
  refine ⟨ps_fld (pe_var hN hv hd hcd) h.pe hs, fun F0 H0 F H σ s st D' D R q k => ?_⟩
  refine h.sn _ _ _ _ _ _ _ _ _ R q fun v F1 H1 d st1 x1 r1 p1 q1 => ?_
  obtain ⟨e0, hl, q1⟩ := q1
  have R1 := R.up x1 r1
  obtain ⟨h1, vs, h2, h3⟩ := id r1
  refine ⟨.ref oa.1, R1.sl i _ e0, oa.1, gC X.K, oa.2, vs, rfl, h2, c, na, by rw [row_len h3]; omega, ?_⟩
  have r2 : (WF X.K oa).R (putD f d st1) F1 (upd H1 oa.1 (.ins (gC X.K) oa.2 (putF f v vs))) := ⟨h1, _, upd_same, row_put p1 h3⟩
  exact k.nx σ s F1 _ _ x1.ff (R1.up (Ext.wr R1.sub R1.wr rfl) r2) q1
end
/-! ### Growth.__init__ -/
structure GIo (K : PySem.W.Frag) (P : Program) (w : World) (oa : Addr × Addr) (n : Nat) (ws : List Way) (F H F' H' : Hp) (vn vw vt vp : V) (fa wa ta ra : Addr) (us : List V) (gs : List (List Int)) : Prop where
  ex : Ext (WF K oa) F H F' H'
  hs : H' oa.1 = some (.ins (gC K) oa.2 [("net", vn), ("ways", vw), ("time", vt), ("parts", vp), ("filled", .ref fa), ("widths", .ref wa), ("taken", .ref ta), ("rows", .ref ra)])
  so : F' oa.1 = none
  pn : Dp K F' vn (dN n ws)
  pw : Dp K F' vw (dWs ws)
  pt : Dp K F' vt (dR 0)
  pp : Dp K F' vp (dGs gs)
  hg : Groups n ws [] gs
  hf : H' fa = some (.lst us)
  pf : DpAll K F' us ((ws.map fun _ => (0 : Rat)).map dR)
  hw : H' wa = some (WdO P w wa [])
  ht : H' ta = some (.lst [])
  hr : H' ra = some (.lst [])
  nf : ∀ a ∈ [fa, wa, ta, ra], F' a = none ∧ H a = none
  ne : fa ≠ wa ∧ fa ≠ ta ∧ fa ≠ ra ∧ wa ≠ ta ∧ wa ≠ ra ∧ ta ≠ ra
def spGI (K : PySem.W.Frag) (P : Program) (w : World) : Sp := fun vs H Q _ => ∃ F oa v n ws, vs = [.ref oa.1, v] ∧ Same F H ∧ F oa.1 = none ∧ H oa.1 = some (.ins (gC K) oa.2 []) ∧ Dp K F v (dN n ws) ∧ NetOk n ws ∧
  ∀ F' H' vn vw vt vp fa wa ta ra us gs, GIo K P w oa n ws F H F' H' vn vw vt vp fa wa ta ra us gs → Q .non H'
local macro_rules | `(tactic| walk_at "st") => `(tactic| try simp only [vAsg, vIfS, vRet, vRetN, vRetO, vNext, vPar, vSetO, vApp, vIns, vFrz, vDrop, vNever, vVar, vC, vOp, vUn, vTest, vChain, vIsN, vNotN, vAnd, vOr, vNot, vAndV, vIf, vaNil, vaCons, vaAdr, vTup, vLst, vCB, vCall, vCall0, vCl, vCl0, vgName, vgNil, vgCons, vgTup, vgLst, viAny, viEnum, viEnumT, viRev, viRng1, viRng2, vYes, wipeS, vTru, vOrT, vListRg, vBor, vBorT, vSrtSet, vSlT, vPl, vPl0, vPlen, vPlset, vWf, vWs, vGf, vGset, setG, Gf.d, vGfil, vGfs, vGwg, vGwi, vGws, vGwo, vGta, vGra, vGtl, vGm, vGwt, Pl.get, Pl.put,
  qI, qI0, qB0, qNeB, qEqD, qNeD, qEqL, qIn, qInE, qU, qCatL, qCatT, qIx, itemD_T, itemD_L, qLen, qList, qTuple, qSum, qAny, qAll, qSortI, qSortTI, qSortE, qAbs, qInt, qMin2, qGcd, qNotB,
  List.length_cons, List.length_nil, List.replicate_succ, List.replicate_zero, List.cons_append, List.nil_append, List.getElem?_cons_zero, List.getElem?_cons_succ, List.set_cons_zero, List.set_cons_succ, Nat.reduceAdd, Nat.reduceSub, Option.some.injEq, SD.fz.injEq, SD.own.injEq, SD.adr.injEq, PyData.int.injEq, PyData.bool.injEq, PyData.tuple.injEq, PyData.list.injEq, exists_eq_left', exists_eq_left, exists_eq, and_true, true_and, unfz, Option.map_some, and_assoc, exists_and_left, List.cons.injEq, Nat.reduceLeDiff,
  List.map_cons, List.map_nil, Int.reduceLE, Int.reduceToNat, if_true, reduceCtorEq, false_or, or_false, exists_false, ↓reduceIte, Nat.zero_le, Int.zero_le_ofNat, Int.reduceNeg])
local macro_rules | `(tactic| walk_at "stf") => `(tactic| try simp only [vFor, vAsg, vIfS, vRet, vRetN, vRetO, vNext, vPar, vSetO, vApp, vIns, vFrz, vDrop, vNever, vVar, vC, vOp, vUn, vTest, vChain, vIsN, vNotN, vAnd, vOr, vNot, vAndV, vIf, vaNil, vaCons, vaAdr, vTup, vLst, vCB, vCall, vCall0, vCl, vCl0, vgName, vgNil, vgCons, vgTup, vgLst, viAny, viEnum, viEnumT, viRev, viRng1, viRng2, vYes, wipeS, vTru, vOrT, vListRg, vBor, vBorT, vSrtSet, vSlT, vPl, vPl0, vPlen, vPlset, vWf, vWs, vGf, vGset, setG, Gf.d, vGfil, vGfs, vGwg, vGwi, vGws, vGwo, vGta, vGra, vGtl, vGm, vGwt, Pl.get, Pl.put,
  qI, qI0, qB0, qNeB, qEqD, qNeD, qEqL, qIn, qInE, qU, qCatL, qCatT, qIx, itemD_T, itemD_L, qLen, qList, qTuple, qSum, qAny, qAll, qSortI, qSortTI, qSortE, qAbs, qInt, qMin2, qGcd, qNotB,
  List.length_cons, List.length_nil, List.replicate_succ, List.replicate_zero, List.cons_append, List.nil_append, List.getElem?_cons_zero, List.getElem?_cons_succ, List.set_cons_zero, List.set_cons_succ, Nat.reduceAdd, Nat.reduceSub, Option.some.injEq, SD.fz.injEq, SD.own.injEq, SD.adr.injEq, PyData.int.injEq, PyData.bool.injEq, PyData.tuple.injEq, PyData.list.injEq, exists_eq_left', exists_eq_left, exists_eq, and_true, true_and, unfz, Option.map_some, and_assoc, exists_and_left, List.cons.injEq, Nat.reduceLeDiff,
  List.map_cons, List.map_nil, Int.reduceLE, Int.reduceToNat, if_true, reduceCtorEq, false_or, or_false, exists_false, ↓reduceIte, Nat.zero_le, Int.zero_le_ofNat, Int.reduceNeg])
local macro_rules | `(tactic| walk_at "stl") => `(tactic| try simp only [vLc, vAsg, vIfS, vRet, vRetN, vRetO, vNext, vPar, vSetO, vApp, vIns, vFrz, vDrop, vNever, vVar, vC, vOp, vUn, vTest, vChain, vIsN, vNotN, vAnd, vOr, vNot, vAndV, vIf, vaNil, vaCons, vaAdr, vTup, vLst, vCB, vCall, vCall0, vCl, vCl0, vgName, vgNil, vgCons, vgTup, vgLst, viAny, viEnum, viEnumT, viRev, viRng1, viRng2, vYes, wipeS, vTru, vOrT, vListRg, vBor, vBorT, vSrtSet, vSlT, vPl, vPl0, vPlen, vPlset, vWf, vWs, vGf, vGset, setG, Gf.d, vGfil, vGfs, vGwg, vGwi, vGws, vGwo, vGta, vGra, vGtl, vGm, vGwt, Pl.get, Pl.put,
  qI, qI0, qB0, qNeB, qEqD, qNeD, qEqL, qIn, qInE, qU, qCatL, qCatT, qIx, itemD_T, itemD_L, qLen, qList, qTuple, qSum, qAny, qAll, qSortI, qSortTI, qSortE, qAbs, qInt, qMin2, qGcd, qNotB,
  List.length_cons, List.length_nil, List.replicate_succ, List.replicate_zero, List.cons_append, List.nil_append, List.getElem?_cons_zero, List.getElem?_cons_succ, List.set_cons_zero, List.set_cons_succ, Nat.reduceAdd, Nat.reduceSub, Option.some.injEq, SD.fz.injEq, SD.own.injEq, SD.adr.injEq, PyData.int.injEq, PyData.bool.injEq, PyData.tuple.injEq, PyData.list.injEq, exists_eq_left', exists_eq_left, exists_eq, and_true, true_and, unfz, Option.map_some, and_assoc, exists_and_left, List.cons.injEq, Nat.reduceLeDiff,
  List.map_cons, List.map_nil, Int.reduceLE, Int.reduceToNat, if_true, reduceCtorEq, false_or, or_false, exists_false, ↓reduceIte, Nat.zero_le, Int.zero_le_ofNat, Int.reduceNeg])
local macro_rules | `(tactic| walk_at "stw") => `(tactic| try simp only [vWhile, vAsg, vIfS, vRet, vRetN, vRetO, vNext, vPar, vSetO, vApp, vIns, vFrz, vDrop, vNever, vVar, vC, vOp, vUn, vTest, vChain, vIsN, vNotN, vAnd, vOr, vNot, vAndV, vIf, vaNil, vaCons, vaAdr, vTup, vLst, vCB, vCall, vCall0, vCl, vCl0, vgName, vgNil, vgCons, vgTup, vgLst, viAny, viEnum, viEnumT, viRev, viRng1, viRng2, vYes, wipeS, vTru, vOrT, vListRg, vBor, vBorT, vSrtSet, vSlT, vPl, vPl0, vPlen, vPlset, vWf, vWs, vGf, vGset, setG, Gf.d, vGfil, vGfs, vGwg, vGwi, vGws, vGwo, vGta, vGra, vGtl, vGm, vGwt, Pl.get, Pl.put,
  qI, qI0, qB0, qNeB, qEqD, qNeD, qEqL, qIn, qInE, qU, qCatL, qCatT, qIx, itemD_T, itemD_L, qLen, qList, qTuple, qSum, qAny, qAll, qSortI, qSortTI, qSortE, qAbs, qInt, qMin2, qGcd, qNotB,
  List.length_cons, List.length_nil, List.replicate_succ, List.replicate_zero, List.cons_append, List.nil_append, List.getElem?_cons_zero, List.getElem?_cons_succ, List.set_cons_zero, List.set_cons_succ, Nat.reduceAdd, Nat.reduceSub, Option.some.injEq, SD.fz.injEq, SD.own.injEq, SD.adr.injEq, PyData.int.injEq, PyData.bool.injEq, PyData.tuple.injEq, PyData.list.injEq, exists_eq_left', exists_eq_left, exists_eq, and_true, true_and, unfz, Option.map_some, and_assoc, exists_and_left, List.cons.injEq, Nat.reduceLeDiff,
  List.map_cons, List.map_nil, Int.reduceLE, Int.reduceToNat, if_true, reduceCtorEq, false_or, or_false, exists_false, ↓reduceIte, Nat.zero_le, Int.zero_le_ofNat, Int.reduceNeg])
local macro_rules | `(tactic| walk_at "rd") => `(tactic| try simp only [vSeq, vAsg, vIfS, vRet, vRetN, vRetO, vNext, vPar, vSetO, vApp, vIns, vFrz, vDrop, vNever, vVar, vC, vOp, vUn, vTest, vChain, vIsN, vNotN, vAnd, vOr, vNot, vAndV, vIf, vaNil, vaCons, vaAdr, vTup, vLst, vCB, vCall, vCall0, vCl, vCl0, vgName, vgNil, vgCons, vgTup, vgLst, viAny, viEnum, viEnumT, viRev, viRng1, viRng2, vYes, wipeS, vTru, vOrT, vListRg, vBor, vBorT, vSrtSet, vSlT, vPl, vPl0, vPlen, vPlset, vWf, vWs, vGf, vGset, setG, Gf.d, vGfil, vGfs, vGwg, vGwi, vGws, vGwo, vGta, vGra, vGtl, vGm, vGwt, Pl.get, Pl.put,
  qI, qI0, qB0, qNeB, qEqD, qNeD, qEqL, qIn, qInE, qU, qCatL, qCatT, qIx, itemD_T, itemD_L, qLen, qList, qTuple, qSum, qAny, qAll, qSortI, qSortTI, qSortE, qAbs, qInt, qMin2, qGcd, qNotB,
  List.length_cons, List.length_nil, List.replicate_succ, List.replicate_zero, List.cons_append, List.nil_append, List.getElem?_cons_zero, List.getElem?_cons_succ, List.set_cons_zero, List.set_cons_succ, Nat.reduceAdd, Nat.reduceSub, Option.some.injEq, SD.fz.injEq, SD.own.injEq, SD.adr.injEq, PyData.int.injEq, PyData.bool.injEq, PyData.tuple.injEq, PyData.list.injEq, exists_eq_left', exists_eq_left, exists_eq, and_true, true_and, unfz, Option.map_some, and_assoc, exists_and_left, List.cons.injEq, Nat.reduceLeDiff,
  List.map_cons, List.map_nil, Int.reduceLE, Int.reduceToNat, if_true, reduceCtorEq, false_or, or_false, exists_false, ↓reduceIte, Nat.zero_le, Int.zero_le_ofNat, Int.reduceNeg])
local macro_rules | `(tactic| walk_at "lc") => `(tactic| try simp only [vLc, vSeq, vAsg, vIfS, vRet, vRetN, vRetO, vNext, vPar, vSetO, vApp, vIns, vFrz, vDrop, vNever, vVar, vC, vOp, vUn, vTest, vChain, vIsN, vNotN, vAnd, vOr, vNot, vAndV, vIf, vaNil, vaCons, vaAdr, vTup, vLst, vCB, vCall, vCall0, vCl, vCl0, vgName, vgNil, vgCons, vgTup, vgLst, viAny, viEnum, viEnumT, viRev, viRng1, viRng2, vYes, wipeS, vTru, vOrT, vListRg, vBor, vBorT, vSrtSet, vSlT, vPl, vPl0, vPlen, vPlset, vWf, vWs, vGf, vGset, setG, Gf.d, vGfil, vGfs, vGwg, vGwi, vGws, vGwo, vGta, vGra, vGtl, vGm, vGwt, Pl.get, Pl.put,
  qI, qI0, qB0, qNeB, qEqD, qNeD, qEqL, qIn, qInE, qU, qCatL, qCatT, qIx, itemD_T, itemD_L, qLen, qList, qTuple, qSum, qAny, qAll, qSortI, qSortTI, qSortE, qAbs, qInt, qMin2, qGcd, qNotB,
  List.length_cons, List.length_nil, List.replicate_succ, List.replicate_zero, List.cons_append, List.nil_append, List.getElem?_cons_zero, List.getElem?_cons_succ, List.set_cons_zero, List.set_cons_succ, Nat.reduceAdd, Nat.reduceSub, Option.some.injEq, SD.fz.injEq, SD.own.injEq, SD.adr.injEq, PyData.int.injEq, PyData.bool.injEq, PyData.tuple.injEq, PyData.list.injEq, exists_eq_left', exists_eq_left, exists_eq, and_true, true_and, unfz, Option.map_some, and_assoc, exists_and_left, List.cons.injEq, Nat.reduceLeDiff,
  List.map_cons, List.map_nil, Int.reduceLE, Int.reduceToNat, if_true, reduceCtorEq, false_or, or_false, exists_false, ↓reduceIte, Nat.zero_le, Int.zero_le_ofNat, Int.reduceNeg])
local macro_rules | `(tactic| walk_at "fo") => `(tactic| try simp only [vFor, vSeq, vAsg, vIfS, vRet, vRetN, vRetO, vNext, vPar, vSetO, vApp, vIns, vFrz, vDrop, vNever, vVar, vC, vOp, vUn, vTest, vChain, vIsN, vNotN, vAnd, vOr, vNot, vAndV, vIf, vaNil, vaCons, vaAdr, vTup, vLst, vCB, vCall, vCall0, vCl, vCl0, vgName, vgNil, vgCons, vgTup, vgLst, viAny, viEnum, viEnumT, viRev, viRng1, viRng2, vYes, wipeS, vTru, vOrT, vListRg, vBor, vBorT, vSrtSet, vSlT, vPl, vPl0, vPlen, vPlset, vWf, vWs, vGf, vGset, setG, Gf.d, vGfil, vGfs, vGwg, vGwi, vGws, vGwo, vGta, vGra, vGtl, vGm, vGwt, Pl.get, Pl.put,
  qI, qI0, qB0, qNeB, qEqD, qNeD, qEqL, qIn, qInE, qU, qCatL, qCatT, qIx, itemD_T, itemD_L, qLen, qList, qTuple, qSum, qAny, qAll, qSortI, qSortTI, qSortE, qAbs, qInt, qMin2, qGcd, qNotB,
  List.length_cons, List.length_nil, List.replicate_succ, List.replicate_zero, List.cons_append, List.nil_append, List.getElem?_cons_zero, List.getElem?_cons_succ, List.set_cons_zero, List.set_cons_succ, Nat.reduceAdd, Nat.reduceSub, Option.some.injEq, SD.fz.injEq, SD.own.injEq, SD.adr.injEq, PyData.int.injEq, PyData.bool.injEq, PyData.tuple.injEq, PyData.list.injEq, exists_eq_left', exists_eq_left, exists_eq, and_true, true_and, unfz, Option.map_some, and_assoc, exists_and_left, List.cons.injEq, Nat.reduceLeDiff,
  List.map_cons, List.map_nil, Int.reduceLE, Int.reduceToNat, if_true, reduceCtorEq, false_or, or_false, exists_false, ↓reduceIte, Nat.zero_le, Int.zero_le_ofNat, Int.reduceNeg])
local macro_rules | `(tactic| walk_at "wh") => `(tactic| try simp only [vWhile, vSeq, vAsg, vIfS, vRet, vRetN, vRetO, vNext, vPar, vSetO, vApp, vIns, vFrz, vDrop, vNever, vVar, vC, vOp, vUn, vTest, vChain, vIsN, vNotN, vAnd, vOr, vNot, vAndV, vIf, vaNil, vaCons, vaAdr, vTup, vLst, vCB, vCall, vCall0, vCl, vCl0, vgName, vgNil, vgCons, vgTup, vgLst, viAny, viEnum, viEnumT, viRev, viRng1, viRng2, vYes, wipeS, vTru, vOrT, vListRg, vBor, vBorT, vSrtSet, vSlT, vPl, vPl0, vPlen, vPlset, vWf, vWs, vGf, vGset, setG, Gf.d, vGfil, vGfs, vGwg, vGwi, vGws, vGwo, vGta, vGra, vGtl, vGm, vGwt, Pl.get, Pl.put,
  qI, qI0, qB0, qNeB, qEqD, qNeD, qEqL, qIn, qInE, qU, qCatL, qCatT, qIx, itemD_T, itemD_L, qLen, qList, qTuple, qSum, qAny, qAll, qSortI, qSortTI, qSortE, qAbs, qInt, qMin2, qGcd, qNotB,
  List.length_cons, List.length_nil, List.replicate_succ, List.replicate_zero, List.cons_append, List.nil_append, List.getElem?_cons_zero, List.getElem?_cons_succ, List.set_cons_zero, List.set_cons_succ, Nat.reduceAdd, Nat.reduceSub, Option.some.injEq, SD.fz.injEq, SD.own.injEq, SD.adr.injEq, PyData.int.injEq, PyData.bool.injEq, PyData.tuple.injEq, PyData.list.injEq, exists_eq_left', exists_eq_left, exists_eq, and_true, true_and, unfz, Option.map_some, and_assoc, exists_and_left, List.cons.injEq, Nat.reduceLeDiff,
  List.map_cons, List.map_nil, Int.reduceLE, Int.reduceToNat, if_true, reduceCtorEq, false_or, or_false, exists_false, ↓reduceIte, Nat.zero_le, Int.zero_le_ofNat, Int.reduceNeg])
local macro_rules | `(tactic| walk_at "sc") => `(tactic| try simp only [vLenSc, vSeq, vAsg, vIfS, vRet, vRetN, vRetO, vNext, vPar, vSetO, vApp, vIns, vFrz, vDrop, vNever, vVar, vC, vOp, vUn, vTest, vChain, vIsN, vNotN, vAnd, vOr, vNot, vAndV, vIf, vaNil, vaCons, vaAdr, vTup, vLst, vCB, vCall, vCall0, vCl, vCl0, vgName, vgNil, vgCons, vgTup, vgLst, viAny, viEnum, viEnumT, viRev, viRng1, viRng2, vYes, wipeS, vTru, vOrT, vListRg, vBor, vBorT, vSrtSet, vSlT, vPl, vPl0, vPlen, vPlset, vWf, vWs, vGf, vGset, setG, Gf.d, vGfil, vGfs, vGwg, vGwi, vGws, vGwo, vGta, vGra, vGtl, vGm, vGwt, Pl.get, Pl.put,
  qI, qI0, qB0, qNeB, qEqD, qNeD, qEqL, qIn, qInE, qU, qCatL, qCatT, qIx, itemD_T, itemD_L, qLen, qList, qTuple, qSum, qAny, qAll, qSortI, qSortTI, qSortE, qAbs, qInt, qMin2, qGcd, qNotB,
  List.length_cons, List.length_nil, List.replicate_succ, List.replicate_zero, List.cons_append, List.nil_append, List.getElem?_cons_zero, List.getElem?_cons_succ, List.set_cons_zero, List.set_cons_succ, Nat.reduceAdd, Nat.reduceSub, Option.some.injEq, SD.fz.injEq, SD.own.injEq, SD.adr.injEq, PyData.int.injEq, PyData.bool.injEq, PyData.tuple.injEq, PyData.list.injEq, exists_eq_left', exists_eq_left, exists_eq, and_true, true_and, unfz, Option.map_some, and_assoc, exists_and_left, List.cons.injEq, Nat.reduceLeDiff,
  List.map_cons, List.map_nil, Int.reduceLE, Int.reduceToNat, if_true, reduceCtorEq, false_or, or_false, exists_false, ↓reduceIte, Nat.zero_le, Int.zero_le_ofNat, Int.reduceNeg])

theorem seq_fld {K : PySem.W.Frag} {te : TE} {f : Str} {r : TS} {D : Ends} {σ : L2.St} {H : Hp} (h : te σ H fun y H1 => tVar 0 σ H1 fun x H2 => ∃ a C dx fs, x = .ref a ∧ H2 a = some (.ins C dx fs) ∧ Cls K C ∧ NoAttr K C f ∧ fs.length < 1000 ∧ r D σ (upd H2 a (.ins C dx (putF f y fs)))) :
    tSeq (sFld K (tVar 0) te f) r D σ H := h
theorem ext_fp {W : Wo} {F0 H0 F H : Hp} {a : Addr} {o : HO} (e : Ext W F0 H0 F H) (ha : W.fp a) (hF : F a = none) : Ext W F0 H0 F (upd H a o) := by
  refine ⟨fun b u q => ?_, e.ff, fun b u q n => ?_, fun b q => ?_, e.nw⟩
  · rw [upd_ne (fun z => by rw [z, hF] at q; cases q)]; exact e.sub b u q
  · rw [upd_ne (fun z : b = a => n (z ▸ ha))]; exact e.hh b u q n
  · by_cases hb : b = a
    · subst hb; rw [upd_same]; intro z; cases z
    · rw [upd_ne hb]; exact e.dm b q
theorem ext_new {W : Wo} {F0 H0 F H : Hp} {a : Addr} {o : HO} (e : Ext W F0 H0 F H) (ha : H a = none) : Ext W F0 H0 F (upd H a o) := e.trans (Ext.newOwn e.sub ha)
theorem seq4 {a b c d r : TS} {D : Ends} {σ : L2.St} {H : Hp} (h : tSeq a (tSeq b (tSeq c d)) { D with nx := r D } σ H) : tSeq a (tSeq b (tSeq c (tSeq d r))) D σ H := h
section
variable {P : Program} {w : World} {K : PySem.W.Frag} {mg : Str → Option Value} {base : Heap}
theorem rest0 (T : Tp K mg) (C : Tc K) {oa : Addr × Addr} {n : Nat} {ws : List Way} {F1 H F' H' : Hp} {σ' : L2.St} {gs : List (List Int)} {Q : VK} (hn : NetOk n ws) (hgs : Groups n ws [] gs)
    (din : SndI K (WF K oa) (iSeq K (tFld K (tVar 0) "ways")) (viAny (vWf oa 0 "ways"))) (yes : SndT K (WF K oa) tYes (vYes (WF K oa)))
    (R' : Rel K (WF K oa) F1 H F' H' σ' [.adr oa.1, .fz (dN n ws), .un] ([("net", dN n ws), ("ways", dWs ws), ("time", dR 0), ("parts", dGs gs)] : List (Str × PyData)))
    (q : ∀ F' H' vn vw vt vp fa wa ta ra us gs, GIo K P w oa n ws F1 H F' H' vn vw vt vp fa wa ta ra us gs → Q .non H') :
    tSeq (sFld K (tVar 0) (tLc (iSeq K (tFld K (tVar 0) "ways")) (gName 2) tYes (tC (V.ref (He.ga K "ZERO"))) [2]) "filled") (tSeq (sFld K (tVar 0) (tWNew P w) "widths") (tSeq (sFld K (tVar 0) (tLst tNil) "taken") (sFld K (tVar 0) (tLst tNil) "rows"))) { nx := fun _ H' => Q .non H', rt := Q } σ' H' := by
  refine seq_fld ?_
  refine snd_lcO (own := [2]) din (snd_name 2) yes (snd_c fun F => zeroD T F) go_name _ _ _ _ _ _ _ (fun acc st => acc = (ws.map fun _ => (0 : Rat)).map dR ∧ st = ([("net", dN n ws), ("ways", dWs ws), ("time", dR 0), ("parts", dGs gs)] : List (Str × PyData))) _ R' ?_ (fun D F2 H2 acc us w2 e2 r2 hD0 hD hda hFD q2 => ?_)
  · walk_at "stl"
    have hwl := hn.wl
    refine ⟨dWs ws, rfl, ws.map dW, .inr rfl, lc_pure ws dW (fun _ => true) (fun _ => dR 0) (by omega) (fun I j acc x hx h => h) ?_⟩
    exact ⟨by rw [filter_tt, List.map_map]; rfl, rfl⟩
  · obtain ⟨rfl, rfl⟩ := q2
    obtain ⟨hs2, vs, hv2, pr⟩ := id r2
    have hσ : σ'[0]? = some (some (.ref oa.1)) := R'.sl 0 _ rfl
    obtain ⟨vn, vw, vt, vp, rfl, pn, pw, pt, pp⟩ : ∃ vn vw vt vp, vs = ([("net", vn), ("ways", vw), ("time", vt), ("parts", vp)] : List (Str × V)) ∧ Dp K F2 vn (dN n ws) ∧ Dp K F2 vw (dWs ws) ∧ Dp K F2 vt (dR 0) ∧ Dp K F2 vp (dGs gs) := by
      cases pr with
      | cons a1 pr =>
        cases pr with
        | cons a2 pr =>
          cases pr with
          | cons a3 pr =>
            cases pr with
            | cons a4 pr =>
              cases pr
              rename_i x1 x2 x3 x4
              obtain ⟨y1, z1⟩ := x1
              obtain ⟨y2, z2⟩ := x2
              obtain ⟨y3, z3⟩ := x3
              obtain ⟨y4, z4⟩ := x4
              obtain ⟨rfl, b1⟩ : y1 = "net" ∧ _ := a1
              obtain ⟨rfl, b2⟩ : y2 = "ways" ∧ _ := a2
              obtain ⟨rfl, b3⟩ : y3 = "time" ∧ _ := a3
              obtain ⟨rfl, b4⟩ : y4 = "parts" ∧ _ := a4
              exact ⟨z1, z2, z3, z4, rfl, b1, b2, b3, b4⟩
    refine ⟨_, hσ, oa.1, gC K, oa.2, _, rfl, hv2, C.cf.c, C.cf.filled, by show (4 : Nat) < 1000; decide, ?_⟩
    have nD : D ≠ oa.1 := fun z => by rw [z, hv2] at hD; cases hD
    intro wa hwa
    have nwa : wa ≠ oa.1 := fun z => by rw [z, upd_same] at hwa; cases hwa
    have nwD : wa ≠ D := fun z => by rw [z, upd_ne nD, hD] at hwa; cases hwa
    refine ⟨_, hσ, oa.1, gC K, oa.2, _, rfl, by rw [upd_ne nwa.symm]; exact upd_same, C.cf.c, C.cf.widths, by show (5 : Nat) < 1000; decide, ?_⟩
    refine ⟨by decide, fun ta hta => ?_⟩
    have nta : ta ≠ oa.1 := fun z => by rw [z, upd_same] at hta; cases hta
    have ntw : ta ≠ wa := fun z => by rw [z, upd_ne nwa, upd_same] at hta; cases hta
    have ntD : ta ≠ D := fun z => by rw [z, upd_ne nD, upd_ne nwD.symm, upd_ne nD, hD] at hta; cases hta
    refine ⟨_, hσ, oa.1, gC K, oa.2, _, rfl, by rw [upd_ne nta.symm]; exact upd_same, C.cf.c, C.cf.taken, by show (6 : Nat) < 1000; decide, ?_⟩
    refine ⟨by decide, fun ra hra => ?_⟩
    have nra : ra ≠ oa.1 := fun z => by rw [z, upd_same] at hra; cases hra
    have nrt : ra ≠ ta := fun z => by rw [z, upd_ne nta, upd_same] at hra; cases hra
    have nrw : ra ≠ wa := fun z => by rw [z, upd_ne nwa, upd_ne ntw.symm, upd_ne nwa, upd_same] at hra; cases hra
    have nrD : ra ≠ D := fun z => by rw [z, upd_ne nD, upd_ne ntD.symm, upd_ne nD, upd_ne nwD.symm, upd_ne nD, hD] at hra; cases hra
    refine ⟨_, hσ, oa.1, gC K, oa.2, _, rfl, by rw [upd_ne nra.symm]; exact upd_same, C.cf.c, C.cf.rows, by show (7 : Nat) < 1000; decide, ?_⟩
    refine q F2 _ vn vw vt vp D wa ta ra us gs ⟨?_, upd_same, hs2, pn, pw, pt, pp, hgs, ?_, hda, ?_, ?_, ?_, ?_, ⟨nwD.symm, ntD.symm, nrD.symm, ntw.symm, nrw.symm, nrt.symm⟩⟩
    · have b0 := R'.ext.trans e2
      have b1 := ext_new (o := WdO P w wa []) (ext_fp (o := .ins (gC K) oa.2 (putF "filled" (.ref D) [("net", vn), ("ways", vw), ("time", vt), ("parts", vp)])) b0 rfl hs2) hwa
      have b2 := ext_new (o := .lst []) (ext_fp (o := .ins (gC K) oa.2 (putF "widths" (.ref wa) (putF "filled" (.ref D) [("net", vn), ("ways", vw), ("time", vt), ("parts", vp)]))) b1 rfl hs2) hta
      have b3 := ext_new (o := .lst []) (ext_fp (o := .ins (gC K) oa.2 (putF "taken" (.ref ta) (putF "widths" (.ref wa) (putF "filled" (.ref D) [("net", vn), ("ways", vw), ("time", vt), ("parts", vp)])))) b2 rfl hs2) hra
      exact ext_fp b3 rfl hs2
    · rw [upd_ne nD, upd_ne nrD.symm, upd_ne nD, upd_ne ntD.symm, upd_ne nD, upd_ne nwD.symm, upd_ne nD]; exact hD
    · rw [upd_ne nwa, upd_ne nrw.symm, upd_ne nwa, upd_ne ntw.symm, upd_ne nwa]; exact upd_same
    · rw [upd_ne nta, upd_ne nrt.symm, upd_ne nta]; exact upd_same
    · rw [upd_ne nra]; exact upd_same
    · have b0 := R'.ext.trans e2
      have old : ∀ a, H2 a = none → F2 a = none ∧ H a = none := fun a ha => by
        refine ⟨e2.sub.free ha, ?_⟩
        cases z : H a with
        | none => rfl
        | some o => exact absurd ha (b0.dm a (ne_some z))
      have h1 : H2 wa = none := by rw [upd_ne nwa] at hwa; exact hwa
      have h2 : H2 ta = none := by rw [upd_ne nta, upd_ne ntw, upd_ne nta] at hta; exact hta
      have h3 : H2 ra = none := by rw [upd_ne nra, upd_ne nrt, upd_ne nra, upd_ne nrw, upd_ne nra] at hra; exact hra
      intro a ha
      simp only [List.mem_cons, List.not_mem_nil, or_false] at ha
      rcases ha with rfl | rfl | rfl | rfl
      · refine ⟨hFD, ?_⟩
        cases z : H a with
        | none => rfl
        | some o => exact absurd hD0 (R'.ext.dm a (ne_some z))
      · exact old _ h1
      · exact old _ h2
      · exact old _ h3
theorem ok_init0 (T : Tp K mg) (C : Tc K) : ∃ fd, FnOk P w K mg base CX0 6 (He.fAd K ("Growth", some "__init__")) fd ["self", "net"] (spGI K P w) ∧ Binds K fd ["self", "net"] [] := by
  have c_groups := ok_groups (P := P) (w := w) (base := base) T
  obtain ⟨fd, F⟩ := T.f_GrowthU_initU
  refine ⟨fd, F.ok sc_GrowthU_initU (fun vs H Q E h => ?_) (fun cdv A outer s H vs Q E hr h => ?_), F.bindsN (fun _ _ _ _ _ _ us hl => match us, hl with | [_, _], _ => rfl)⟩
  · obtain ⟨_, _, _, _, _, rfl, _⟩ := h; rfl
  obtain ⟨F1, oa, v, n, ws, rfl, sf, hF, hH, pv, hn, q⟩ := h
  have d1 : DS (cxOf CX0 P w K mg base ["self", "net", "way"] "Growth.__init__" (defScope s_GrowthU_initU) (He.fAd K ("Growth", some "__init__")) cdv A outer s H E).nox (WF K oa) ((defBody s_GrowthU_initU).getD 0 (.Pass ⟨0, 0, 0, 0⟩)) _ _ := ds_wf K C.cf.c 0 C.cf.net (de_var 1)
  have d2 : DS (cxOf CX0 P w K mg base ["self", "net", "way"] "Growth.__init__" (defScope s_GrowthU_initU) (He.fAd K ("Growth", some "__init__")) cdv A outer s H E).nox (WF K oa) ((defBody s_GrowthU_initU).getD 1 (.Pass ⟨0, 0, 0, 0⟩)) _ _ := ds_wf K C.cf.c 0 C.cf.ways (de_ixK K (de_var 1) de_int)
  have d3 : DS (cxOf CX0 P w K mg base ["self", "net", "way"] "Growth.__init__" (defScope s_GrowthU_initU) (He.fAd K ("Growth", some "__init__")) cdv A outer s H E).nox (WF K oa) ((defBody s_GrowthU_initU).getD 2 (.Pass ⟨0, 0, 0, 0⟩)) _ _ := ds_wf K C.cf.c 0 C.cf.time (de_glob rfl T.g_ZERO (fun F => zeroD T F))
  have d4 : DS (cxOf CX0 P w K mg base ["self", "net", "way"] "Growth.__init__" (defScope s_GrowthU_initU) (He.fAd K ("Growth", some "__init__")) cdv A outer s H E).nox (WF K oa) ((defBody s_GrowthU_initU).getD 3 (.Pass ⟨0, 0, 0, 0⟩)) _ _ := ds_wf K C.cf.c 0 C.cf.parts (de_cl0K K c_groups hr (by decide) rfl (da_cons (de_var 1) (da_cons (de_tup da_nil) da_nil)))
  have di : DI (cxOf CX0 P w K mg base ["self", "net", "way"] "Growth.__init__" (defScope s_GrowthU_initU) (He.fAd K ("Growth", some "__init__")) cdv A outer s H E).nox (WF K oa) (.Name "way" ⟨0, 0, 0, 0⟩) _ _ _ := di_seqK K (de_wf K C.cf.c 0 C.cf.ways (x := "self") (p := ⟨0, 0, 0, 0⟩) (pos := ⟨0, 0, 0, 0⟩))
  have p5 : PS (cxOf CX0 P w K mg base ["self", "net", "way"] "Growth.__init__" (defScope s_GrowthU_initU) (He.fAd K ("Growth", some "__init__")) cdv A outer s H E).nox ((defBody s_GrowthU_initU).getD 4 (.Pass ⟨0, 0, 0, 0⟩)) _ := ps_fld (pe_var (i := 0) rfl (Or.inl rfl)) (pe_lc (own := [("way", 2)]) rfl sc_GrowthU_initU.nd (di_seqK K (de_wf (oa := oa) K C.cf.c 0 C.cf.ways)).pe (blkOk_by (by kernel_rfl)) (fun _ _ _ _ _ => (dgn (W := WF K oa) 2 sc_GrowthU_initU.nd).pe) (fun _ _ _ _ _ => (dts_nil (W := WF K oa)).pe) (fun _ _ _ _ _ => pe_glob (v := .ref (He.ga K "ZERO")) (by rfl) T.g_ZERO rfl (by decide)) (by intro _; rfl)) rfl
  have p6 : PS (cxOf CX0 P w K mg base ["self", "net", "way"] "Growth.__init__" (defScope s_GrowthU_initU) (He.fAd K ("Growth", some "__init__")) cdv A outer s H E).nox ((defBody s_GrowthU_initU).getD 5 (.Pass ⟨0, 0, 0, 0⟩)) _ := ps_fld (pe_var (i := 0) rfl (Or.inl rfl)) pe_wnew rfl
  have p7 : PS (cxOf CX0 P w K mg base ["self", "net", "way"] "Growth.__init__" (defScope s_GrowthU_initU) (He.fAd K ("Growth", some "__init__")) cdv A outer s H E).nox ((defBody s_GrowthU_initU).getD 6 (.Pass ⟨0, 0, 0, 0⟩)) _ := ps_fld (pe_var (i := 0) rfl (Or.inl rfl)) (pe_lst pa_nil) rfl
  have p8 : PS (cxOf CX0 P w K mg base ["self", "net", "way"] "Growth.__init__" (defScope s_GrowthU_initU) (He.fAd K ("Growth", some "__init__")) cdv A outer s H E).nox ((defBody s_GrowthU_initU).getD 7 (.Pass ⟨0, 0, 0, 0⟩)) _ := ps_fld (pe_var (i := 0) rfl (Or.inl rfl)) (pe_lst pa_nil) rfl
  have d14 := dss_cons d1 (dss_cons d2 (dss_cons d3 (dss_one d4)))
  have b : PSs (cxOf CX0 P w K mg base ["self", "net", "way"] "Growth.__init__" (defScope s_GrowthU_initU) (He.fAd K ("Growth", some "__init__")) cdv A outer s H E).nox (defBody s_GrowthU_initU) _ := pss_cons d1.pe (pss_cons d2.pe (pss_cons d3.pe (pss_cons d4.pe (pss_cons p5 (pss_cons p6 (pss_cons p7 (pss_one p8)))))))
  refine ⟨_, b.nox, ?_⟩
  clear p5 p6 p7 p8 b
  have ha : ArgsOk K F1 [.ref oa.1, v] [.adr oa.1, .fz (dN n ws)] := .cons rfl (.cons pv .nil)
  have hR : Rel K (WF K oa) F1 H F1 H (start ["self", "net", "way"] [.ref oa.1, v]) [.adr oa.1, .fz (dN n ws), .un] [] := ⟨Ext.refl sf, ⟨hF, [], hH, .nil⟩, rfl, slots_start 1 ha, fun i j ds es hi => (args_noown 1 ha i ds hi).elim⟩
  refine seq4 ?_
  have sn := d14.sn
  have din := di.sn
  have yes := (dts_nil (X := (cxOf CX0 P w K mg base ["self", "net", "way"] "Growth.__init__" (defScope s_GrowthU_initU) (He.fAd K ("Growth", some "__init__")) cdv A outer s H E).nox) (W := WF K oa)).sn
  clear d1 d2 d3 d4 d14 di
  refine sn _ _ _ _ _ _ _ { nx := fun s st => s = [.adr oa.1, .fz (dN n ws), .un] ∧ ∃ gs, Groups n ws [] gs ∧ st = ([("net", dN n ws), ("ways", dWs ws), ("time", dR 0), ("parts", dGs gs)] : List (Str × PyData)), rt := fun _ _ => False, bk := fun _ _ => False, ct := fun _ _ => False } _ hR ?_ ⟨fun σ' s' F' H' st' sf' R' hs => ?_, fun _ _ _ _ _ _ _ _ z => z.elim, fun _ _ _ _ _ _ _ z => z.elim, fun _ _ _ _ _ _ _ z => z.elim⟩
  · walk_at "rd"
    refine ⟨by decide, dWs ws, rfl, by show (1 : Nat) < 900; decide, by show (2 : Nat) < 900; decide, ?_⟩
    simp only [S_groups]
    refine ⟨n, ws, .tuple [], [], rfl, hn, .inr rfl, fun i hi => by simp at hi, fun gs hgs => ⟨by show (3 : Nat) < 900; decide, gs, hgs, rfl⟩⟩
  · obtain ⟨rfl, gs, hgs, rfl⟩ := hs
    exact rest0 T C hn hgs din yes R' q
end
end L2.VL
/-! part OI2 -/
set_option Elab.async false
set_option linter.all false
set_option autoImplicit false
set_option maxRecDepth 100000
set_option maxHeartbeats 4000000
namespace L2.VL
open PySem PySem.Spec PyProof.Rows L2 C8 MW NdefX ClX
/-! ### super().__init__(net) in PairGrowth.__init__ -/
structure Ti (P : Program) (K : PySem.W.Frag) (mg : Str → Option Value) : Prop where
  fn : ∃ (oc : Value) (od : Option Addr) (kV doc pm : Value) (an : Option Addr) (cda cc : Addr) (ct : Value) (osl : Array (Option Value)),
    K.lookup (fA K "__init__") = some ⟨oc, od, .func (PySem.W.fnX "__init__" "PairGrowth.__init__" (defArgs s_PairGrowthU_initU) bPG scPG [("__class__", cc)] .none kV doc pm an (.ref cda) ct), osl⟩ ∧ PySem.W.codeIn K (.ref cda) "PairGrowth.__init__" = true ∧
    (∃ ccl cdd vs ccs file tf, K.lookup cda = some ⟨ccl, cdd, .fields vs, ccs⟩ ∧ vs[2]? = some (.str file tf) ∧ ((P.main.file : Str) == file) = true) ∧ ∃ cl cld csl, K.lookup cc = some ⟨cl, cld, .cell (some (.ref (gC K))), csl⟩
  cls : ∃ cd, PySem.W.clsIn K (gC K) = some cd
  mro : PySem.W.mroIn K (gC K) (.ref (gC K)) = some true
  sup : mg "super" = none
  tp : PySem.W.nsIn K cStatics "thirdparty.any" = some none
  gi : PySem.W.ks_superIn K (gC K) (gC K) "__init__" = some (some (.ref (f0 K)))
  ty : PySem.W.typeIn K (.ref (f0 K)) = some (.type "function")
  fi : PySem.W.fnIn K (f0 K) = true
  mak : Mk K (gC K) (fA K "__init__")
  top : (P.main.scope.names.lookup ("super" : Str)).isSome = false
theorem ns_PG : NScope ["self", "net", "pairs", "__class__", "apart"] ["self", "net", "pairs"] ["__class__"] scPG := nscope_by (by decide +kernel)
section
variable {P : Program} {w : World} {K : PySem.W.Frag} {mg : Str → Option Value} {base : Heap}
/-- the node super() -/
theorem super_node {X : Cx} {pins : List (Addr × Obj)} {σ : L2.St} {H : Hp} {s : Shared} {body : List Stmt} {p0 p1 : Pos} {attr : Str} {whole : Sem Value} {f cda cc sa dx C : Addr} {fs : List (Str × V)} {fd : FuncData} {ar : Arg} {vs : Array Value} {file : Str} {tf : Tok} {oc ccl cl : Value} {od cdd cld : Option Addr} {osl ccs csl : Array (Option Value)} {cd : ClassData} {Q : Value → Shared → Prop} {E : Value → Shared → Prop}
    (I : Inv X pins σ H s) (hi : H sa = some (.ins C dx fs)) (hN : X.N[0]? = some ar.arg) (hσ : σ[0]? = some (some (.ref sa)))
    (hf : X.K.lookup f = some ⟨oc, od, .func fd, osl⟩) (hp : (fd.params.posonlyargs ++ fd.params.args).head? = some ar) (hfu : X.env.func = some f) (hco : X.env.code = .ref cda)
    (hcode : X.K.lookup cda = some ⟨ccl, cdd, .fields vs, ccs⟩) (hvs : vs[2]? = some (.str file tf)) (hfile : ((X.prog.main.file : Str) == file) = true) (hcc : X.env.cells.lookup ("__class__" : Str) = some cc)
    (hcell : X.K.lookup cc = some ⟨cl, cld, .cell (some (.ref C)), csl⟩) (hD : PySem.W.clsIn X.K C = some cd) (hsub : PySem.W.mroIn X.K C (.ref C) = some true) (hsuper : X.mg "super" = none)
    (hat : (attr == ("__class__" : Str)) = false) (hks : X.env.scope.names.lookup ("super" : Str) = some .globalImplicit) (hkc : X.env.scope.names.lookup ("__class__" : Str) = some .free) (hka : X.env.scope.names.lookup ar.arg = some .local)
    (htop : (X.prog.main.scope.names.lookup ("super" : Str)).isSome = false)
    (h : ∀ s', Inv X ((s.heap.objs.size, PySem.W.ks_superObj C sa C) :: pins) σ H s' → Q (.ref s.heap.objs.size) s') :
    _root_.PySem.wpAt (model X.prog X.w) X.A (.func body X.env) (attributeBase (.Call (.Name "super" p0) [] [] p1) attr X.env whole) Q E s := by
  have KX := I.kIn
  have hoA : s.heap.get? sa = some (PySem.W.instObj C dx) := (show ObjOk X.prog X.w H s.heap sa (.ins C dx fs) from I.hok sa _ hi).2.2.2.1
  obtain ⟨m, hns, hl⟩ := I.loc
  obtain ⟨u, ru, hu⟩ := hl 0 ar.arg _ hN hσ (.inl hka)
  cases (show u = Value.ref sa from ru)
  have hm : m ar.arg = some (.ref sa) := by
    rcases hu with ⟨_, e⟩ | ⟨k, _⟩
    · exact e
    · have hk : X.env.kindOf ar.arg = some .local := hka
      rcases k with k | k <;> rw [hk] at k <;> cases k
  obtain ⟨oD, hD1, hD2⟩ : ∃ oD, s.heap.get? C = some oD ∧ oD.data = .cls cd := by
    unfold PySem.W.clsIn at hD
    split at hD
    · rename_i c d cd' sl ho
      cases hD
      exact ⟨_, KX _ _ ho, rfl⟩
    · cases hD
  obtain ⟨mb, hmb, hbt⟩ := I.mod.blt
  obtain ⟨hh, g, d, t, os⟩ := s
  refine ks_wpAt_super_base (env := X.env) hks hkc hat hfu (KX _ _ hf) rfl hp hco (KX _ _ hcode) rfl hvs hfile htop ?_
  refine PySem.W.ks_loadName_global I.ok.kind hks (Calls.loadGlobal_builtin (env := X.env) (mg := X.mg) (mb := mb) (v := .type "super") (by rw [I.ok.glob]; exact I.mod.glob.keeps I.bk) hsuper (by rw [I.ok.blt]; exact hmb.keeps I.bk) ((hbt "super" (by decide)).trans (by decide +kernel)) ⟨rfl, ?_⟩)
  refine wpAny_loadName_free I.ok.kind hkc hcc ⟨_, KX _ _ hcell, rfl⟩ ?_
  refine wpAny_loadName_local I.ok.kind hka hns hm ?_
  refine ks_wpAny_isType_cls hD1 hD2 ⟨rfl, ?_⟩
  refine ks_wpAny_call_super hD1 hD2 hoA rfl (fun c e => by cases e) (PySem.W.looks_mroIn KX hsub) (fun h' e k => ?_)
  exact h _ (pin_new (t' := t) I k (Nat.le_refl _) e (fun v z => by cases z))
/-- super().__init__(e) -/
theorem super_call {X : Cx} {σ : L2.St} {H : Hp} {s : Shared} {body : List Stmt} {p0 p1 apos pos : Pos} {e : Expr} {ta : TA} {f cda cc sa dx C g : Addr} {fs : List (Str × V)} {fd : FuncData} {ar : Arg} {vs : Array Value} {file : Str} {tf : Tok} {oc ccl cl : Value} {od cdd cld : Option Addr} {osl ccs csl : Array (Option Value)} {cd : ClassData} {Q : VK} {sp : Sp} {k : Nat} {pl : Sem Bool}
    (I : Inv X [] σ H s) (hi : H sa = some (.ins C dx fs)) (hN : X.N[0]? = some ar.arg) (hσ : σ[0]? = some (some (.ref sa)))
    (hf : X.K.lookup f = some ⟨oc, od, .func fd, osl⟩) (hp : (fd.params.posonlyargs ++ fd.params.args).head? = some ar) (hfu : X.env.func = some f) (hco : X.env.code = .ref cda)
    (hcode : X.K.lookup cda = some ⟨ccl, cdd, .fields vs, ccs⟩) (hvs : vs[2]? = some (.str file tf)) (hfile : ((X.prog.main.file : Str) == file) = true) (hcc : X.env.cells.lookup ("__class__" : Str) = some cc)
    (hcell : X.K.lookup cc = some ⟨cl, cld, .cell (some (.ref C)), csl⟩) (hD : PySem.W.clsIn X.K C = some cd) (hsub : PySem.W.mroIn X.K C (.ref C) = some true) (hsuper : X.mg "super" = none)
    (hks : X.env.scope.names.lookup ("super" : Str) = some .globalImplicit) (hkc : X.env.scope.names.lookup ("__class__" : Str) = some .free) (hka : X.env.scope.names.lookup ar.arg = some .local)
    (htop : (X.prog.main.scope.names.lookup ("super" : Str)).isSome = false) (htp : PySem.W.nsIn X.K cStatics "thirdparty.any" = some none) (hgi : PySem.W.ks_superIn X.K C C "__init__" = some (some (.ref g))) (hty : PySem.W.typeIn X.K (.ref g) = some (.type "function")) (hfi : PySem.W.fnIn X.K g = true)
    (F : FnR X.prog X.w X.K X.mg X.base CX0 k g sp) (hr : Room k X.A) (ha : PA X [e] ta) (h : ta σ H fun us H2 => sp (.ref sa :: us) H2 Q E0)
    (hst : starEach [e] X.env = (false, eval e X.env) :: starEach [] X.env) (hpl : (backTo pos (starEach [] X.env)).any (·.1) = false)
    (he : eval (.Call (.Attribute (.Call (.Name "super" p0) [] [] p1) "__init__" apos) [e] [] pos) X.env = (do
      let ov ← attributeBase (.Call (.Name "super" p0) [] [] p1) "__init__" X.env (eval (.Call (.Name "super" p0) [] [] p1) X.env)
      standAt apos.atName
      let (f, first) ← holding [ov] (getMethod ov "__init__" pl)
      callWith pos f first (backTo pos (starEach [e] X.env)) [])) :
    _root_.PySem.wpAt (model X.prog X.w) X.A (.func body X.env) (eval (.Call (.Attribute (.Call (.Name "super" p0) [] [] p1) "__init__" apos) [e] [] pos) X.env) (EP X [] σ Q) X.xe s := by
  have hnC : sa ≠ C := fun z => by
    have : ∃ o, X.K.lookup C = some o := by
      unfold PySem.W.clsIn at hD
      split at hD
      · rename_i c d cd' sl ho
        exact ⟨_, ho⟩
      · cases hD
    obtain ⟨o, ho⟩ := this
    have := (I.bs C o (I.mod.kin _ _ ho)).2
    rw [← z, hi] at this
    cases this
  refine ks_wpAt_MethodCall (super_node I hi hN hσ hf hp hfu hco hcode hvs hfile hcc hcell hD hsub hsuper (by decide) hks hkc hka htop (fun s1 I1 => ?_)) he
  have KX := I1.kIn
  obtain ⟨of, hof, hofc⟩ : ∃ of, s1.heap.get? g = some of ∧ of.cls = .type "function" := by
    have ht' : (X.K.lookup g).map (·.cls) = some (.type "function") := hty
    cases z : X.K.lookup g with
    | none => rw [z] at ht'; cases ht'
    | some of => rw [z] at ht'; exact ⟨of, KX _ _ z, Option.some.inj ht'⟩
  have hal : PySem.W.alongIn X.K "__init__" ((cd.mro.dropWhile (· != .ref C)).drop 1) = some (some (.ref g)) := by
    unfold PySem.W.ks_superIn at hgi
    rw [hD] at hgi
    exact hgi
  have hso := pin_at I1
  have hno := PySem.W.looks_opaque (M := model X.prog X.w) (C := C) KX htp
  have hm0 : PySem.W.Looks (model X.prog X.w) s1.heap (mroOf (.ref C)) cd.mro := fun A Q E s k q => wpAny_bind ((PySem.W.looks_clsIn KX hD) A _ E s k (wpAny_pure q))
  obtain ⟨hh, g1, d, t, os⟩ := s1
  refine ks_wpAny_getMethod_super hso hno hm0 rfl KX hal hof hofc hnC (by decide) ?_
  have I2 := met_new (C := sa) (g := g) I1
  refine wpAny_mono (callwith_cm (C := sa) (g := g) I2 (base_none I1 (Nat.le_refl _)) hfi (thn (ha.run pos _ _ σ H _ I2 h) fun us s3 ⟨vs, H2, I3, rv, q2⟩ => ⟨⟨pin_at I3, I3.kIn⟩, run_cm F hr pass0 I3 rv q2⟩) hst hpl) (fun v s' z => unpinE z) fun _ _ z => z
end
end L2.VL
/-! part OI3 -/
set_option Elab.async false
set_option linter.all false
set_option autoImplicit false
set_option maxRecDepth 100000
set_option maxHeartbeats 4000000
namespace L2.VL
open PySem PySem.Spec PyProof.Rows L2 C8 MW NdefX ClX
local macro_rules | `(tactic| walk_at "st") => `(tactic| try simp only [vAsg, vIfS, vRet, vRetN, vRetO, vNext, vPar, vSetO, vApp, vIns, vFrz, vDrop, vNever, vVar, vC, vOp, vUn, vTest, vChain, vIsN, vNotN, vAnd, vOr, vNot, vAndV, vIf, vaNil, vaCons, vaAdr, vTup, vLst, vCB, vCall, vCall0, vCl, vCl0, vgName, vgNil, vgCons, vgTup, vgLst, viAny, viEnum, viEnumT, viRev, viRng1, viRng2, vYes, wipeS, vTru, vOrT, vListRg, vBor, vBorT, vSrtSet, vSlT, vPl, vPl0, vPlen, vPlset, vWf, vWs, putD, vGf, vGset, setG, Gf.d, vGfil, vGfs, vGwg, vGwi, vGws, vGwo, vGta, vGra, vGtl, vGm, vGwt, Pl.get, Pl.put,
  qI, qI0, qB0, qNeB, qEqD, qNeD, qEqL, qIn, qInE, qU, qCatL, qCatT, qIx, itemD_T, itemD_L, qLen, qList, qTuple, qSum, qAny, qAll, qSortI, qSortTI, qSortE, qAbs, qInt, qMin2, qGcd, qNotB,
  List.length_cons, List.length_nil, List.replicate_succ, List.replicate_zero, List.cons_append, List.nil_append, List.getElem?_cons_zero, List.getElem?_cons_succ, List.set_cons_zero, List.set_cons_succ, Nat.reduceAdd, Nat.reduceSub, Option.some.injEq, SD.fz.injEq, SD.own.injEq, SD.adr.injEq, PyData.int.injEq, PyData.bool.injEq, PyData.tuple.injEq, PyData.list.injEq, exists_eq_left', exists_eq_left, exists_eq, and_true, true_and, unfz, Option.map_some, and_assoc, exists_and_left, List.cons.injEq, Nat.reduceLeDiff,
  List.map_cons, List.map_nil, Int.reduceLE, Int.reduceToNat, if_true, reduceCtorEq, false_or, or_false, exists_false, ↓reduceIte, Nat.zero_le, Int.zero_le_ofNat, Int.reduceNeg])
local macro_rules | `(tactic| walk_at "stf") => `(tactic| try simp only [vFor, vAsg, vIfS, vRet, vRetN, vRetO, vNext, vPar, vSetO, vApp, vIns, vFrz, vDrop, vNever, vVar, vC, vOp, vUn, vTest, vChain, vIsN, vNotN, vAnd, vOr, vNot, vAndV, vIf, vaNil, vaCons, vaAdr, vTup, vLst, vCB, vCall, vCall0, vCl, vCl0, vgName, vgNil, vgCons, vgTup, vgLst, viAny, viEnum, viEnumT, viRev, viRng1, viRng2, vYes, wipeS, vTru, vOrT, vListRg, vBor, vBorT, vSrtSet, vSlT, vPl, vPl0, vPlen, vPlset, vWf, vWs, putD, vGf, vGset, setG, Gf.d, vGfil, vGfs, vGwg, vGwi, vGws, vGwo, vGta, vGra, vGtl, vGm, vGwt, Pl.get, Pl.put,
  qI, qI0, qB0, qNeB, qEqD, qNeD, qEqL, qIn, qInE, qU, qCatL, qCatT, qIx, itemD_T, itemD_L, qLen, qList, qTuple, qSum, qAny, qAll, qSortI, qSortTI, qSortE, qAbs, qInt, qMin2, qGcd, qNotB,
  List.length_cons, List.length_nil, List.replicate_succ, List.replicate_zero, List.cons_append, List.nil_append, List.getElem?_cons_zero, List.getElem?_cons_succ, List.set_cons_zero, List.set_cons_succ, Nat.reduceAdd, Nat.reduceSub, Option.some.injEq, SD.fz.injEq, SD.own.injEq, SD.adr.injEq, PyData.int.injEq, PyData.bool.injEq, PyData.tuple.injEq, PyData.list.injEq, exists_eq_left', exists_eq_left, exists_eq, and_true, true_and, unfz, Option.map_some, and_assoc, exists_and_left, List.cons.injEq, Nat.reduceLeDiff,
  List.map_cons, List.map_nil, Int.reduceLE, Int.reduceToNat, if_true, reduceCtorEq, false_or, or_false, exists_false, ↓reduceIte, Nat.zero_le, Int.zero_le_ofNat, Int.reduceNeg])
local macro_rules | `(tactic| walk_at "stl") => `(tactic| try simp only [vLc, vAsg, vIfS, vRet, vRetN, vRetO, vNext, vPar, vSetO, vApp, vIns, vFrz, vDrop, vNever, vVar, vC, vOp, vUn, vTest, vChain, vIsN, vNotN, vAnd, vOr, vNot, vAndV, vIf, vaNil, vaCons, vaAdr, vTup, vLst, vCB, vCall, vCall0, vCl, vCl0, vgName, vgNil, vgCons, vgTup, vgLst, viAny, viEnum, viEnumT, viRev, viRng1, viRng2, vYes, wipeS, vTru, vOrT, vListRg, vBor, vBorT, vSrtSet, vSlT, vPl, vPl0, vPlen, vPlset, vWf, vWs, putD, vGf, vGset, setG, Gf.d, vGfil, vGfs, vGwg, vGwi, vGws, vGwo, vGta, vGra, vGtl, vGm, vGwt, Pl.get, Pl.put,
  qI, qI0, qB0, qNeB, qEqD, qNeD, qEqL, qIn, qInE, qU, qCatL, qCatT, qIx, itemD_T, itemD_L, qLen, qList, qTuple, qSum, qAny, qAll, qSortI, qSortTI, qSortE, qAbs, qInt, qMin2, qGcd, qNotB,
  List.length_cons, List.length_nil, List.replicate_succ, List.replicate_zero, List.cons_append, List.nil_append, List.getElem?_cons_zero, List.getElem?_cons_succ, List.set_cons_zero, List.set_cons_succ, Nat.reduceAdd, Nat.reduceSub, Option.some.injEq, SD.fz.injEq, SD.own.injEq, SD.adr.injEq, PyData.int.injEq, PyData.bool.injEq, PyData.tuple.injEq, PyData.list.injEq, exists_eq_left', exists_eq_left, exists_eq, and_true, true_and, unfz, Option.map_some, and_assoc, exists_and_left, List.cons.injEq, Nat.reduceLeDiff,
  List.map_cons, List.map_nil, Int.reduceLE, Int.reduceToNat, if_true, reduceCtorEq, false_or, or_false, exists_false, ↓reduceIte, Nat.zero_le, Int.zero_le_ofNat, Int.reduceNeg])
local macro_rules | `(tactic| walk_at "stw") => `(tactic| try simp only [vWhile, vAsg, vIfS, vRet, vRetN, vRetO, vNext, vPar, vSetO, vApp, vIns, vFrz, vDrop, vNever, vVar, vC, vOp, vUn, vTest, vChain, vIsN, vNotN, vAnd, vOr, vNot, vAndV, vIf, vaNil, vaCons, vaAdr, vTup, vLst, vCB, vCall, vCall0, vCl, vCl0, vgName, vgNil, vgCons, vgTup, vgLst, viAny, viEnum, viEnumT, viRev, viRng1, viRng2, vYes, wipeS, vTru, vOrT, vListRg, vBor, vBorT, vSrtSet, vSlT, vPl, vPl0, vPlen, vPlset, vWf, vWs, putD, vGf, vGset, setG, Gf.d, vGfil, vGfs, vGwg, vGwi, vGws, vGwo, vGta, vGra, vGtl, vGm, vGwt, Pl.get, Pl.put,
  qI, qI0, qB0, qNeB, qEqD, qNeD, qEqL, qIn, qInE, qU, qCatL, qCatT, qIx, itemD_T, itemD_L, qLen, qList, qTuple, qSum, qAny, qAll, qSortI, qSortTI, qSortE, qAbs, qInt, qMin2, qGcd, qNotB,
  List.length_cons, List.length_nil, List.replicate_succ, List.replicate_zero, List.cons_append, List.nil_append, List.getElem?_cons_zero, List.getElem?_cons_succ, List.set_cons_zero, List.set_cons_succ, Nat.reduceAdd, Nat.reduceSub, Option.some.injEq, SD.fz.injEq, SD.own.injEq, SD.adr.injEq, PyData.int.injEq, PyData.bool.injEq, PyData.tuple.injEq, PyData.list.injEq, exists_eq_left', exists_eq_left, exists_eq, and_true, true_and, unfz, Option.map_some, and_assoc, exists_and_left, List.cons.injEq, Nat.reduceLeDiff,
  List.map_cons, List.map_nil, Int.reduceLE, Int.reduceToNat, if_true, reduceCtorEq, false_or, or_false, exists_false, ↓reduceIte, Nat.zero_le, Int.zero_le_ofNat, Int.reduceNeg])
local macro_rules | `(tactic| walk_at "rd") => `(tactic| try simp only [vSeq, vAsg, vIfS, vRet, vRetN, vRetO, vNext, vPar, vSetO, vApp, vIns, vFrz, vDrop, vNever, vVar, vC, vOp, vUn, vTest, vChain, vIsN, vNotN, vAnd, vOr, vNot, vAndV, vIf, vaNil, vaCons, vaAdr, vTup, vLst, vCB, vCall, vCall0, vCl, vCl0, vgName, vgNil, vgCons, vgTup, vgLst, viAny, viEnum, viEnumT, viRev, viRng1, viRng2, vYes, wipeS, vTru, vOrT, vListRg, vBor, vBorT, vSrtSet, vSlT, vPl, vPl0, vPlen, vPlset, vWf, vWs, putD, vGf, vGset, setG, Gf.d, vGfil, vGfs, vGwg, vGwi, vGws, vGwo, vGta, vGra, vGtl, vGm, vGwt, Pl.get, Pl.put,
  qI, qI0, qB0, qNeB, qEqD, qNeD, qEqL, qIn, qInE, qU, qCatL, qCatT, qIx, itemD_T, itemD_L, qLen, qList, qTuple, qSum, qAny, qAll, qSortI, qSortTI, qSortE, qAbs, qInt, qMin2, qGcd, qNotB,
  List.length_cons, List.length_nil, List.replicate_succ, List.replicate_zero, List.cons_append, List.nil_append, List.getElem?_cons_zero, List.getElem?_cons_succ, List.set_cons_zero, List.set_cons_succ, Nat.reduceAdd, Nat.reduceSub, Option.some.injEq, SD.fz.injEq, SD.own.injEq, SD.adr.injEq, PyData.int.injEq, PyData.bool.injEq, PyData.tuple.injEq, PyData.list.injEq, exists_eq_left', exists_eq_left, exists_eq, and_true, true_and, unfz, Option.map_some, and_assoc, exists_and_left, List.cons.injEq, Nat.reduceLeDiff,
  List.map_cons, List.map_nil, Int.reduceLE, Int.reduceToNat, if_true, reduceCtorEq, false_or, or_false, exists_false, ↓reduceIte, Nat.zero_le, Int.zero_le_ofNat, Int.reduceNeg])
local macro_rules | `(tactic| walk_at "lc") => `(tactic| try simp only [vLc, vSeq, vAsg, vIfS, vRet, vRetN, vRetO, vNext, vPar, vSetO, vApp, vIns, vFrz, vDrop, vNever, vVar, vC, vOp, vUn, vTest, vChain, vIsN, vNotN, vAnd, vOr, vNot, vAndV, vIf, vaNil, vaCons, vaAdr, vTup, vLst, vCB, vCall, vCall0, vCl, vCl0, vgName, vgNil, vgCons, vgTup, vgLst, viAny, viEnum, viEnumT, viRev, viRng1, viRng2, vYes, wipeS, vTru, vOrT, vListRg, vBor, vBorT, vSrtSet, vSlT, vPl, vPl0, vPlen, vPlset, vWf, vWs, putD, vGf, vGset, setG, Gf.d, vGfil, vGfs, vGwg, vGwi, vGws, vGwo, vGta, vGra, vGtl, vGm, vGwt, Pl.get, Pl.put,
  qI, qI0, qB0, qNeB, qEqD, qNeD, qEqL, qIn, qInE, qU, qCatL, qCatT, qIx, itemD_T, itemD_L, qLen, qList, qTuple, qSum, qAny, qAll, qSortI, qSortTI, qSortE, qAbs, qInt, qMin2, qGcd, qNotB,
  List.length_cons, List.length_nil, List.replicate_succ, List.replicate_zero, List.cons_append, List.nil_append, List.getElem?_cons_zero, List.getElem?_cons_succ, List.set_cons_zero, List.set_cons_succ, Nat.reduceAdd, Nat.reduceSub, Option.some.injEq, SD.fz.injEq, SD.own.injEq, SD.adr.injEq, PyData.int.injEq, PyData.bool.injEq, PyData.tuple.injEq, PyData.list.injEq, exists_eq_left', exists_eq_left, exists_eq, and_true, true_and, unfz, Option.map_some, and_assoc, exists_and_left, List.cons.injEq, Nat.reduceLeDiff,
  List.map_cons, List.map_nil, Int.reduceLE, Int.reduceToNat, if_true, reduceCtorEq, false_or, or_false, exists_false, ↓reduceIte, Nat.zero_le, Int.zero_le_ofNat, Int.reduceNeg])
local macro_rules | `(tactic| walk_at "fo") => `(tactic| try simp only [vFor, vSeq, vAsg, vIfS, vRet, vRetN, vRetO, vNext, vPar, vSetO, vApp, vIns, vFrz, vDrop, vNever, vVar, vC, vOp, vUn, vTest, vChain, vIsN, vNotN, vAnd, vOr, vNot, vAndV, vIf, vaNil, vaCons, vaAdr, vTup, vLst, vCB, vCall, vCall0, vCl, vCl0, vgName, vgNil, vgCons, vgTup, vgLst, viAny, viEnum, viEnumT, viRev, viRng1, viRng2, vYes, wipeS, vTru, vOrT, vListRg, vBor, vBorT, vSrtSet, vSlT, vPl, vPl0, vPlen, vPlset, vWf, vWs, putD, vGf, vGset, setG, Gf.d, vGfil, vGfs, vGwg, vGwi, vGws, vGwo, vGta, vGra, vGtl, vGm, vGwt, Pl.get, Pl.put,
  qI, qI0, qB0, qNeB, qEqD, qNeD, qEqL, qIn, qInE, qU, qCatL, qCatT, qIx, itemD_T, itemD_L, qLen, qList, qTuple, qSum, qAny, qAll, qSortI, qSortTI, qSortE, qAbs, qInt, qMin2, qGcd, qNotB,
  List.length_cons, List.length_nil, List.replicate_succ, List.replicate_zero, List.cons_append, List.nil_append, List.getElem?_cons_zero, List.getElem?_cons_succ, List.set_cons_zero, List.set_cons_succ, Nat.reduceAdd, Nat.reduceSub, Option.some.injEq, SD.fz.injEq, SD.own.injEq, SD.adr.injEq, PyData.int.injEq, PyData.bool.injEq, PyData.tuple.injEq, PyData.list.injEq, exists_eq_left', exists_eq_left, exists_eq, and_true, true_and, unfz, Option.map_some, and_assoc, exists_and_left, List.cons.injEq, Nat.reduceLeDiff,
  List.map_cons, List.map_nil, Int.reduceLE, Int.reduceToNat, if_true, reduceCtorEq, false_or, or_false, exists_false, ↓reduceIte, Nat.zero_le, Int.zero_le_ofNat, Int.reduceNeg])
local macro_rules | `(tactic| walk_at "wh") => `(tactic| try simp only [vWhile, vSeq, vAsg, vIfS, vRet, vRetN, vRetO, vNext, vPar, vSetO, vApp, vIns, vFrz, vDrop, vNever, vVar, vC, vOp, vUn, vTest, vChain, vIsN, vNotN, vAnd, vOr, vNot, vAndV, vIf, vaNil, vaCons, vaAdr, vTup, vLst, vCB, vCall, vCall0, vCl, vCl0, vgName, vgNil, vgCons, vgTup, vgLst, viAny, viEnum, viEnumT, viRev, viRng1, viRng2, vYes, wipeS, vTru, vOrT, vListRg, vBor, vBorT, vSrtSet, vSlT, vPl, vPl0, vPlen, vPlset, vWf, vWs, putD, vGf, vGset, setG, Gf.d, vGfil, vGfs, vGwg, vGwi, vGws, vGwo, vGta, vGra, vGtl, vGm, vGwt, Pl.get, Pl.put,
  qI, qI0, qB0, qNeB, qEqD, qNeD, qEqL, qIn, qInE, qU, qCatL, qCatT, qIx, itemD_T, itemD_L, qLen, qList, qTuple, qSum, qAny, qAll, qSortI, qSortTI, qSortE, qAbs, qInt, qMin2, qGcd, qNotB,
  List.length_cons, List.length_nil, List.replicate_succ, List.replicate_zero, List.cons_append, List.nil_append, List.getElem?_cons_zero, List.getElem?_cons_succ, List.set_cons_zero, List.set_cons_succ, Nat.reduceAdd, Nat.reduceSub, Option.some.injEq, SD.fz.injEq, SD.own.injEq, SD.adr.injEq, PyData.int.injEq, PyData.bool.injEq, PyData.tuple.injEq, PyData.list.injEq, exists_eq_left', exists_eq_left, exists_eq, and_true, true_and, unfz, Option.map_some, and_assoc, exists_and_left, List.cons.injEq, Nat.reduceLeDiff,
  List.map_cons, List.map_nil, Int.reduceLE, Int.reduceToNat, if_true, reduceCtorEq, false_or, or_false, exists_false, ↓reduceIte, Nat.zero_le, Int.zero_le_ofNat, Int.reduceNeg])
local macro_rules | `(tactic| walk_at "sc") => `(tactic| try simp only [vLenSc, vSeq, vAsg, vIfS, vRet, vRetN, vRetO, vNext, vPar, vSetO, vApp, vIns, vFrz, vDrop, vNever, vVar, vC, vOp, vUn, vTest, vChain, vIsN, vNotN, vAnd, vOr, vNot, vAndV, vIf, vaNil, vaCons, vaAdr, vTup, vLst, vCB, vCall, vCall0, vCl, vCl0, vgName, vgNil, vgCons, vgTup, vgLst, viAny, viEnum, viEnumT, viRev, viRng1, viRng2, vYes, wipeS, vTru, vOrT, vListRg, vBor, vBorT, vSrtSet, vSlT, vPl, vPl0, vPlen, vPlset, vWf, vWs, putD, vGf, vGset, setG, Gf.d, vGfil, vGfs, vGwg, vGwi, vGws, vGwo, vGta, vGra, vGtl, vGm, vGwt, Pl.get, Pl.put,
  qI, qI0, qB0, qNeB, qEqD, qNeD, qEqL, qIn, qInE, qU, qCatL, qCatT, qIx, itemD_T, itemD_L, qLen, qList, qTuple, qSum, qAny, qAll, qSortI, qSortTI, qSortE, qAbs, qInt, qMin2, qGcd, qNotB,
  List.length_cons, List.length_nil, List.replicate_succ, List.replicate_zero, List.cons_append, List.nil_append, List.getElem?_cons_zero, List.getElem?_cons_succ, List.set_cons_zero, List.set_cons_succ, Nat.reduceAdd, Nat.reduceSub, Option.some.injEq, SD.fz.injEq, SD.own.injEq, SD.adr.injEq, PyData.int.injEq, PyData.bool.injEq, PyData.tuple.injEq, PyData.list.injEq, exists_eq_left', exists_eq_left, exists_eq, and_true, true_and, unfz, Option.map_some, and_assoc, exists_and_left, List.cons.injEq, Nat.reduceLeDiff,
  List.map_cons, List.map_nil, Int.reduceLE, Int.reduceToNat, if_true, reduceCtorEq, false_or, or_false, exists_false, ↓reduceIte, Nat.zero_le, Int.zero_le_ofNat, Int.reduceNeg])

structure GPo (K : PySem.W.Frag) (P : Program) (w : World) (oa : Addr × Addr) (n : Nat) (ws : List Way) (ps : List (Int × Int)) (F H F' H' : Hp) (g : GIx) (st : GX) : Prop where
  sa : g.sa = oa.1
  dx : g.dx = oa.2
  gn : g.n = n
  gw : g.ws = ws
  gp : g.ps = ps
  R : (WG K P w g).R st F' H'
  ex : Ext (WG K P w g) F H F' H'
  fresh : ∀ a ∈ g.ads, a = oa.1 ∨ a = oa.2 ∨ H a = none
  ok : ∃ k, k ≤ 12 ∧ GOk n ws ps k st.g ∧ st.g.parts.filter (opn ps) = []
def spPG (K : PySem.W.Frag) (P : Program) (w : World) : Sp := fun vs H Q _ => ∃ F oa vn vp n ws ps, vs = [.ref oa.1, vn, vp] ∧ Same F H ∧ F oa.1 = none ∧ F oa.2 = none ∧ H oa.1 = some (.ins (gC K) oa.2 []) ∧ H oa.2 ≠ none ∧ oa.1 ≠ oa.2 ∧ Dp K F vn (dN n ws) ∧ Dp K F vp (dPs ps) ∧
  NetOk n ws ∧ PairsOk n ps ∧ ps.length ≤ 6 ∧ Jn ws (wholeI ws) ps ∧ ∀ g st F' H', GPo K P w oa n ws ps F H F' H' g st → Q .non H'
section
variable {P : Program} {w : World} {K : PySem.W.Frag} {mg : Str → Option Value} {base : Heap}
abbrev nfPG (cc cda : Addr) : NF := ⟨"__init__", "PairGrowth.__init__", defArgs s_PairGrowthU_initU, bPG, scPG, [("__class__", cc)], cda⟩
abbrev NPG : List Str := ["self", "net", "pairs", "__class__", "apart"]
abbrev xPG (P : Program) (w : World) (K : PySem.W.Frag) (mg : Str → Option Value) (base : Heap) (cc cda : Addr) (A : Around) (outer : List Env) (s : Shared) (H : Hp) (E : XK) : Cx := ncx CX0 P w K mg base NPG (nfPG cc cda) (fA K "__init__") A outer s H E
theorem ok_initP (T : Tp K mg) (C : Tc K) (J : Ti P K mg) : ∃ fd, FnOk P w K mg base CX0 7 (fA K "__init__") fd ["self", "net", "pairs"] (spPG K P w) ∧ Binds K fd ["self", "net", "pairs"] [] := by
  obtain ⟨fd0, F0, F0b⟩ := ok_init0 (P := P) (w := w) (base := base) T C
  have c_first_apart := ok_first_apart (P := P) (w := w) (base := base) T
  have c_all_ways := ok_all_ways (P := P) (w := w) (base := base) T
  have c_grow := ok_Growth_grow (P := P) (w := w) (base := base) T C
  obtain ⟨oc, od, kV, doc, pm, an, cda, cc, ct, osl, lk, hcd, ⟨ccl, cdd, vsc, ccs, file, tf, hcode, hvs, hfile⟩, cl, cld, csl, hcell⟩ := J.fn
  obtain ⟨cd, hD⟩ := J.cls
  refine ⟨PySem.W.fnX "__init__" "PairGrowth.__init__" (defArgs s_PairGrowthU_initU) bPG scPG [("__class__", cc)] .none kV doc pm an (.ref cda) ct, ⟨fun vs H Q E h => ?_, fun A outer s H args us vs Q E hr e0 hb r hsp => ?_⟩, .all fun us hl => match us, hl with | [_, _, _], _ => rfl⟩
  · obtain ⟨_, _, _, _, _, _, _, rfl, _⟩ := h; rfl
  have KX : K.In s.heap := e0.mod.kin.keeps fun b o e => (e0.bs b o e).1
  have lim : s.heap.NoLimit := e0.mod.nolimit.keeps fun b o e => (e0.bs b o e).1
  have hl : vs.length = ["self", "net", "pairs"].length := by
    obtain ⟨_, _, _, _, _, _, _, rfl, _⟩ := hsp; rfl
  refine ks_codeAny_call_defAt hr.depth (KX _ _ lk) rfl lim (PySem.W.codeRec_of KX hcd) rfl hb ns_PG.nocell (fun y hy => ns_PG.par y.1 (List.of_mem_zip hy).1) (fun h₁ hns kp => ?_) rfl rfl rfl
  have hcb := e0.mod.kin _ _ hcell
  have hbc := e0.bs _ _ hcb
  have one : ∀ (y : Str) (c : Addr), ([("__class__", cc)] : List (Str × Addr)).lookup y = some c → y = "__class__" ∧ c = cc := fun y c e => by
    unfold List.lookup at e
    cases z : y == ("__class__" : Str) with
    | true => rw [z] at e; cases e; exact ⟨beq_iff_eq.mp z, rfl⟩
    | false => rw [z] at e; cases e
  have CA : CellsAt [("__class__", cc)] ["__class__"] [some (.ref (gC K))] s.heap H := ⟨rfl, fun y c e => by
      obtain ⟨_, rfl⟩ := one y c e
      exact ⟨hbc.2, _, _, hbc.1, rfl⟩, fun x y c e1 e2 => (one x c e1).1.trans (one y c e2).1.symm, fun i y e => by
      match i, e with
      | 0, e => cases e; exact ⟨cc, rfl, fun v hv => by cases hv; exact ⟨_, rfl, _, hbc.1, rfl⟩⟩
      | i + 1, e => cases e⟩
  have I0 := inv_startN (CX := CX0) (P := P) (w := w) (N := NPG) (F := nfPG cc cda) (f := fA K "__init__") (outer := outer) (E := E) (tk := s.toks + ((["self", "net", "pairs"] : List Str).zip us).length) ns_PG hr.hd e0 hl r CA hns kp
  obtain ⟨F1, oa, vn, vp, n, ws, ps, rfl, sf, hF1, hF2, hH, hdx, hne, pn, pp, hn, hps, h6, hj, q⟩ := hsp
  have hrX : Room 6 (A.deeper (envF (nfPG cc cda) (fA K "__init__") s.heap.objs.size)) := hr.deeper _
  show _root_.PySem.wpAt (model P w) (xPG P w K mg base cc cda A outer s H E).A (.func bPG (xPG P w K mg base cc cda A outer s H E).env) (execs bPG (xPG P w K mg base cc cda A outer s H E).env) _ _ _
  refine ks_wpAt_execs_cons (ks_wpAt_Expr_any (ks_wpAt_mono (super_call (X := xPG P w K mg base cc cda A outer s H E) (σ := startF NPG [.ref oa.1, vn, vp] [some (.ref (gC K))]) (Q := fun _ H2 => ∃ F' v1 v2 v3 v4 fa wa ta ra us gs, GIo K P w oa n ws F1 H F' H2 v1 v2 v3 v4 fa wa ta ra us gs) (pl := _) I0 hH rfl rfl lk rfl rfl rfl hcode hvs hfile rfl hcell hD J.mro J.sup rfl rfl rfl J.top J.tp J.gi J.ty J.fi (F0.raw (F0b) .nil) hrX (pa_cons (pe_var (i := 1) rfl (Or.inl rfl)) pa_nil rfl) ?_ rfl rfl rfl) (fun v s1 hv => ?_) (fun e s1 he => he)) rfl rfl)
  · exact ⟨vn, rfl, F1, oa, vn, n, ws, rfl, sf, hF1, hH, pn, hn, fun F' H' v1 v2 v3 v4 fa wa ta ra us gs gi => ⟨F', v1, v2, v3, v4, fa, wa, ta, ra, us, gs, gi⟩⟩
  · obtain ⟨v', H2, I2, rv, F2, v1, v2, v3, v4, fa, wa, ta, ra, us', gs, gi⟩ := hv
    have p2 : PS (xPG P w K mg base cc cda A outer s H E) (bPG.getD 1 (.Pass ⟨0, 0, 0, 0⟩)) (sFld K (tVar 0) (tVar 2) "pairs") := ps_fld (pe_var (i := 0) rfl (Or.inl rfl)) (pe_var (i := 2) rfl (Or.inl rfl)) rfl
    have d3 : DS (xPG P w K mg base cc cda A outer s H E) (WG K P w ⟨oa.1, oa.2, fa, wa, ta, ra, n, ws, ps⟩) (bPG.getD 2 (.Pass ⟨0, 0, 0, 0⟩)) _ _ := dset 4 ns_PG.nd (de_cl0K K c_first_apart hrX (by decide) rfl (da_cons (de_var 1) (da_cons (de_var 2) (da_cons (de_cl0K K c_all_ways hrX (by decide) rfl (da_cons (de_var 1) da_nil)) da_nil))))
    have d4 : DS (xPG P w K mg base cc cda A outer s H E) (WG K P w ⟨oa.1, oa.2, fa, wa, ta, ra, n, ws, ps⟩) (bPG.getD 3 (.Pass ⟨0, 0, 0, 0⟩)) _ _ := ds_if (dt_notN (de_var 4)) (dss_one ds_never) dss_nil
    have d5 : DS (xPG P w K mg base cc cda A outer s H E) (WG K P w ⟨oa.1, oa.2, fa, wa, ta, ra, n, ws, ps⟩) (bPG.getD 4 (.Pass ⟨0, 0, 0, 0⟩)) _ _ := ds_expr (de_gm0 K P w 0 c_grow hrX (by decide) (fun _ _ _ _ _ _ => rfl))
    have b : PSs (xPG P w K mg base cc cda A outer s H E) (bPG.drop 1) _ := pss_cons p2 (pss_cons d3.pe (pss_cons d4.pe (pss_one d5.pe)))
    have sn := (dss_cons d3 (dss_cons d4 (dss_one d5))).sn
    refine wpAt_of_wpAny (wpAny_mono (b.run [] s1 _ H2 { nx := fun _ H' => Q .non H', rt := Q } I2 ?_) (fun fl s' hs => ?_) fun e s' z => z)
    · clear b p2 d3 d4 d5
      have hsa : H oa.1 ≠ none := ne_some hH
      have dif : ∀ a b : Addr, H a ≠ none → H b = none → a ≠ b := fun a b h1 h2 z => h1 (z ▸ h2)
      have nfa := gi.nf fa (by simp)
      have nwa := gi.nf wa (by simp)
      have nta := gi.nf ta (by simp)
      have nra := gi.nf ra (by simp)
      obtain ⟨ne1, ne2, ne3, ne4, ne5, ne6⟩ := gi.ne
      have ap : GAp ⟨oa.1, oa.2, fa, wa, ta, ra, n, ws, ps⟩ := ⟨hne, dif _ _ hsa nfa.2, dif _ _ hsa nwa.2, dif _ _ hsa nta.2, dif _ _ hsa nra.2, dif _ _ hdx nfa.2, dif _ _ hdx nwa.2, dif _ _ hdx nta.2, dif _ _ hdx nra.2, ne1, ne2, ne3, ne4, ne5, ne6⟩
      have hF2' : F2 oa.2 = none := gi.ex.nw _ hdx hF2
      have nf : ∀ a ∈ GIx.ads ⟨oa.1, oa.2, fa, wa, ta, ra, n, ws, ps⟩, F2 a = none := fun a ha => by
        rcases mem_ads.mp ha with rfl | rfl | rfl | rfl | rfl | rfl
        · exact gi.so
        · exact hF2'
        · exact nfa.1
        · exact nwa.1
        · exact nta.1
        · exact nra.1
      have ex1 : Ext (WG K P w ⟨oa.1, oa.2, fa, wa, ta, ra, n, ws, ps⟩) F1 H F2 H2 := ⟨gi.ex.sub, gi.ex.ff, fun a o e hn => gi.ex.hh a o e (fun z => hn (by rw [show a = oa.1 from z]; exact mem_ads.mpr (.inl rfl))), gi.ex.dm, gi.ex.nw⟩
      refine seq_fld ⟨vp, rfl, _, rfl, oa.1, gC K, oa.2, _, rfl, gi.hs, C.cf.c, C.cf.pairs, by show (8 : Nat) < 1000; decide, ?_⟩
      have hG : (WG K P w ⟨oa.1, oa.2, fa, wa, ta, ra, n, ws, ps⟩).R ⟨⟨0, gs, ws.map fun _ => 0, [], []⟩, 0⟩ F2 (upd H2 oa.1 (.ins (gC K) oa.2 (fldG ⟨oa.1, oa.2, fa, wa, ta, ra, n, ws, ps⟩ v1 v2 v3 v4 vp))) :=
        ⟨v1, v2, v3, v4, vp, us', [], [], [], ap, nf, upd_same, by rw [upd_ne ap.sd.symm]; exact gi.ex.dm _ hdx, gi.pn, gi.pw, gi.pt, gi.pp, dp_mono gi.ex.ff pp, by rw [upd_ne ap.sf.symm]; exact gi.hf, gi.pf,
          by rw [upd_ne ap.sw.symm]; exact gi.hw, .nil, by rw [upd_ne ap.st.symm]; exact gi.ht, .nil, by rw [upd_ne ap.sr.symm]; exact gi.hr, rfl⟩
      have ex2 := ext_fp (o := .ins (gC K) oa.2 (fldG ⟨oa.1, oa.2, fa, wa, ta, ra, n, ws, ps⟩ v1 v2 v3 v4 vp)) ex1 (a := oa.1) (mem_ads.mpr (.inl rfl)) gi.so
      have sl : ∀ (i : Nat) (x : SD), ([.adr oa.1, .fz (dN n ws), .fz (dPs ps), .un, .un] : List SD)[i]? = some x → SlotOk K (WG K P w ⟨oa.1, oa.2, fa, wa, ta, ra, n, ws, ps⟩) H F2 (upd H2 oa.1 (.ins (gC K) oa.2 (fldG ⟨oa.1, oa.2, fa, wa, ta, ra, n, ws, ps⟩ v1 v2 v3 v4 vp))) (startF NPG [.ref oa.1, vn, vp] [some (.ref (gC K))])[i]? x := fun i x hx => by
        match i, hx with
        | 0, hx => cases hx; rfl
        | 1, hx => cases hx; exact ⟨vn, rfl, dp_mono gi.ex.ff pn⟩
        | 2, hx => cases hx; exact ⟨vp, rfl, dp_mono gi.ex.ff pp⟩
        | 3, hx => cases hx; trivial
        | 4, hx => cases hx; trivial
        | i + 5, hx => cases hx
      have no : ∀ (i : Nat) (ds : List PyData), ([.adr oa.1, .fz (dN n ws), .fz (dPs ps), .un, .un] : List SD)[i]? = some (SD.own ds) → False := fun i ds hi => by
        match i, hi with
        | 0, hi => cases hi
        | 1, hi => cases hi
        | 2, hi => cases hi
        | 3, hi => cases hi
        | 4, hi => cases hi
        | i + 5, hi => cases hi
      refine sn F1 H F2 _ _ [.adr oa.1, .fz (dN n ws), .fz (dPs ps), .un, .un] ⟨⟨0, gs, ws.map fun _ => 0, [], []⟩, 0⟩ { nx := fun _ st => ∃ k, k ≤ 12 ∧ GOk n ws ps k st.g ∧ st.g.parts.filter (opn ps) = [], rt := fun _ _ => False, bk := fun _ _ => False, ct := fun _ _ => False } _
        ⟨ex2, hG, rfl, sl, fun i j ds es hi => (no i ds hi).elim⟩ ?_ ⟨fun σ' s' F' H' st' sf' R' hs => ?_, fun _ _ _ _ _ _ _ _ z => z.elim, fun _ _ _ _ _ _ _ z => z.elim, fun _ _ _ _ _ _ _ z => z.elim⟩
      · walk_at "rd"
        simp only [S_all_ways]
        refine ⟨n, ws, by trivial, hn, ?_⟩
        simp only [S_first_apart]
        refine ⟨n, ws, ps, _, iota ws.length, by trivial, hn, .inr rfl, fun i hi => mem_iota.mp hi, hps, fun d hd => ?_⟩
        rcases hd with ⟨rfl, _⟩ | ⟨_, hno⟩
        · rw [if_neg (show ¬ (!isNon PyData.none) = true from fun z => by cases z)]
          simp only [S_Growth_grow]
          exact ⟨by trivial, ⟨hn, h6, GOk.init hn gi.hg⟩, by trivial, hps, hj, fun st' k hk hG ho => ⟨k, hk, hG, ho⟩⟩
        · exact absurd hj hno
      · refine q ⟨oa.1, oa.2, fa, wa, ta, ra, n, ws, ps⟩ st' F' H' ⟨rfl, rfl, rfl, rfl, rfl, R'.wr, R'.ext, fun a ha => ?_, hs⟩
        rcases mem_ads.mp ha with rfl | rfl | rfl | rfl | rfl | rfl
        · exact .inl rfl
        · exact .inr (.inl rfl)
        · exact .inr (.inr nfa.2)
        · exact .inr (.inr nwa.2)
        · exact .inr (.inr nta.2)
        · exact .inr (.inr nra.2)
    · have fin : ∀ {σ' : L2.St} {H' : Hp} {v : V} {u : Value}, Inv (xPG P w K mg base cc cda A outer s H E) [] σ' H' s' → L2.RelV v u → Q v H' → CE outer P w H s Q u s' :=
        fun {σ' H' v u} J rv q => ⟨v, H', J.os, J.bare, J.base, J.hok, rv, q⟩
      cases fl with
      | ret u =>
        obtain ⟨v, σ', H', J, rv, q⟩ := hs
        exact fin J rv q
      | next =>
        obtain ⟨σ', H', J, q⟩ := hs
        exact fin (v := V.non) (u := Value.none) J rfl q
      | brk =>
        obtain ⟨_, _, _, q⟩ := hs
        exact False.elim q
      | cont =>
        obtain ⟨_, _, _, q⟩ := hs
        exact False.elim q
end
end L2.VL
/-! part OT -/
set_option Elab.async false
set_option linter.all false
set_option autoImplicit false
set_option maxRecDepth 100000
set_option maxHeartbeats 4000000
namespace L2.VL
open PySem PySem.Spec PyProof.Rows L2 C8 MW
section
variable {P : Program} {w : World} {K : PySem.W.Frag} {mg : Str → Option Value} {base : Heap}
theorem ok_make (T : Tp K mg) (C : Tc K) (J : Ti P K mg) : Mak P w K mg base 7 "PairGrowth" (gC K) (spPG K P w) [] := by
  obtain ⟨fd, F, b⟩ := ok_initP (P := P) (w := w) (base := base) T C J
  exact ⟨fA K "__init__", fd, _, [], J.mak, F, T.g_PairGrowth, b, .nil⟩
/-- what was not there before is no part of the old -/
theorem w0_of {g : GIx} {F1 H1 F' H' : Hp} {x dx : Addr} {o1 o2 : HO} (hx : H1 x = none) (hdx : H1 dx = none) (e : Ext (WG K P w g) F1 (upd (upd H1 dx o1) x o2) F' H') (hf : ∀ a ∈ g.ads, H1 a = none) : Ext W0 F1 H1 F' H' := by
  have old : ∀ a, H1 a ≠ none → upd (upd H1 dx o1) x o2 a = H1 a := fun a h => by
    rw [upd_ne (fun z => h (by rw [z]; exact hx)), upd_ne (fun z => h (by rw [z]; exact hdx))]
  refine ⟨e.sub, e.ff, fun a o ha _ => ?_, fun a ha => ?_, fun a ha hn => ?_⟩
  · exact e.hh a o ((old a (ne_some ha)).trans ha) fun z => by
      have := hf a z
      rw [ha] at this; cases this
  · exact e.dm a (by rw [old a ha]; exact ha)
  · exact e.nw a (by rw [old a ha]; exact ha) hn
theorem ext_frz {F0 H0 F H : Hp} {a : Addr} {o : HO} (e : Ext W0 F0 H0 F H) (ha : H a = some o) (hF : F a = none) (h0 : H0 a = none) : Ext W0 F0 H0 (upd F a o) H := by
  refine ⟨fun b u q => ?_, fun b u q => ?_, e.hh, e.dm, fun b hb hn => ?_⟩
  · by_cases hb : b = a
    · subst hb; rw [upd_same] at q; rw [ha]; exact q
    · rw [upd_ne hb] at q; exact e.sub b u q
  · have := e.ff b u q
    rw [upd_ne (fun z => by rw [z, hF] at this; cases this)]; exact this
  · rw [upd_ne (fun z : b = a => hb (by rw [z]; exact h0))]; exact e.nw b hb hn
end
/-- what a new growth asks -/
structure PGi (n : Nat) (ws : List Way) (ps : List (Int × Int)) : Prop where
  hn : NetOk n ws
  hp : PairsOk n ps
  hl : ps.length ≤ 6
  hj : Jn ws (wholeI ws) ps
theorem GPo.ad {K : PySem.W.Frag} {P : Program} {w : World} {oa : Addr × Addr} {n : Nat} {ws : List Way} {ps : List (Int × Int)} {F F' H' : Hp} {g : GIx} {st : GX} {H1 : Hp} {o1 o2 : HO} (p : GPo K P w oa n ws ps F (upd (upd H1 oa.2 o1) oa.1 o2) F' H' g st) (hx : H1 oa.1 = none) (hdx : H1 oa.2 = none) : ∀ a ∈ g.ads, H1 a = none := fun a ha => by
  rcases p.fresh a ha with rfl | rfl | h
  · exact hx
  · exact hdx
  · by_cases h1 : a = oa.1
    · rw [h1]; exact hx
    · rw [upd_ne h1] at h
      by_cases h2 : a = oa.2
      · rw [h2]; exact hdx
      · rw [upd_ne h2] at h; exact h
theorem snd_make {K : PySem.W.Frag} {P : Program} {w : World} {tas : TA} {us : VA W0} (h : SndA K W0 tas us) {F0 H0 F H : Hp} {σ : L2.St} {s : List SD} {st : W0.S} {Z : Nat → List Way → List (Int × Int) → W0.S → Prop} {Q : VK} {E : XK} (R : Rel K W0 F0 H0 F H σ s st)
    (q : us s st fun xs w1 => ∃ n ws ps, xs = [.fz (dN n ws), .fz (dPs ps)] ∧ PGi n ws ps ∧ Z n ws ps w1)
    (k : ∀ g st' F' H', Ext W0 F H F' H' → (WG K P w g).R st' F' H' → (∀ a ∈ g.ads, H a = none) → PGi g.n g.ws g.ps → Z g.n g.ws g.ps () → (∃ k, k ≤ 12 ∧ GOk g.n g.ws g.ps k st'.g ∧ st'.g.parts.filter (opn g.ps) = []) → Q (.ref g.sa) H') : tMake (gC K) (spPG K P w) [] E tas σ H Q := by
  refine h _ _ _ _ _ _ _ _ _ R q fun vs F1 H1 xs w1 e1 r1 p1 q1 => ?_
  obtain ⟨n, ws, ps, rfl, pg, q1⟩ := q1
  intro x dx hx hdx hne
  have pv := ArgsOk.data (ds := [dN n ws, dPs ps]) p1
  cases pv with
  | cons pn pv =>
    cases pv with
    | cons pp pv =>
      cases pv
      have e2 : Ext W0 F1 H1 F1 (upd H1 dx (.own x)) := ext_new (Ext.refl e1.sub) hdx
      have hx2 : upd H1 dx (.own x) x = none := by rw [upd_ne (Ne.symm hne)]; exact hx
      have e3 := ext_new (o := .ins (gC K) dx []) e2 hx2
      refine ⟨F1, (x, dx), _, _, n, ws, ps, rfl, e3.sub, e1.sub.free hx, e1.sub.free hdx, upd_same, (by rw [upd_ne hne, upd_same]; intro z; cases z), Ne.symm hne, pn, pp, pg.hn, pg.hp, pg.hl, pg.hj, fun g st' F' H' gp => ⟨rfl, ?_⟩⟩
      have had := gp.ad hx hdx
      have e4 := w0_of hx hdx gp.ex had
      have e5 := e1.trans e4
      rw [← show g.sa = x from gp.sa]
      obtain ⟨g1, g2, g3⟩ := And.intro gp.gn (And.intro gp.gw gp.gp)
      have ok := gp.ok
      have gR := gp.R
      subst g1 g2 g3
      refine k g st' F' H' e5 gR (fun a ha => ?_) pg q1 ok
      cases z : H a with
      | none => rfl
      | some o => exact absurd (had a ha) (e1.dm a (ne_some z))
section
variable {X : Cx} {p pos apos : Pos} {e : Expr} {es : List Expr} {tas : TA}
def vPgt (us : VA W0) : List SD → W0.S → (PyData → W0.S → Prop) → Prop := fun s st Q => us s st fun xs st1 => ∃ n ws ps, xs = [.fz (dN n ws), .fz (dPs ps)] ∧ PGi n ws ps ∧ ∀ tk : List (Rat × Int), InR ws (tk.map (·.2)) → tk.length ≤ 12 → Jn ws (tk.map (·.2)) ps → Q (.list (tk.map dTk)) st1
theorem de_pgt (K : PySem.W.Frag) (P : Program) (w : World) {mg : Str → Option Value} {base : Heap} {k j : Nat} {us : VA W0} (cf : ClsF K) (c : Mak P w K mg base k "PairGrowth" (gC K) (spPG K P w) []) (hr : Room j X.A) (hk : k + 1 ≤ j) (hg : Gl X "PairGrowth") (h : DA X W0 (e :: es) tas us)
    (hK : X.K = K := by rfl) (hP : X.prog = P := by rfl) (hW : X.w = w := by rfl) (hG : X.mg = mg := by rfl) (hB : X.base = base := by rfl) (he : starEach (e :: es) X.env = (false, eval e X.env) :: starEach es X.env := by rfl) (hpl : (backTo pos (starEach es X.env)).any (·.1) = false := by rfl)
    (hb : attributeBase (.Call (.Name "PairGrowth" p) (e :: es) [] pos) "taken" X.env (eval (.Call (.Name "PairGrowth" p) (e :: es) [] pos) X.env) = eval (.Call (.Name "PairGrowth" p) (e :: es) [] pos) X.env := by rfl) :
    DE X W0 (.Attribute (.Call (.Name "PairGrowth" p) (e :: es) [] pos) "taken" apos) (tFld K (tMake (gC K) (spPG K P w) [] E0 tas) "taken") (vPgt us) := by
  subst hK hP hW hG hB
  refine ⟨pe_fld (pe_mk c hr hk hg h.pe (by decide) he hpl) hb, fun F0 H0 F H σ s st Q' Q R q k => ?_⟩
  refine snd_make (Z := fun n ws ps st1 => ∀ tk : List (Rat × Int), InR ws (tk.map fun x : Rat × Int => x.2) → tk.length ≤ 12 → Jn ws (tk.map fun x : Rat × Int => x.2) ps → Q' (.list (tk.map dTk)) st1) h.sn R q (fun g st' F' H' ex r had pg hz ok => ?_)
  · obtain ⟨k2, hk2, hG, ho⟩ := ok
    have hq := hz st'.g.taken hG.ir (by have := hG.nt; have := pg.hn.n2; omega) (hG.joined pg.hp ho)
    obtain ⟨vn, vw, vt, vp, vq, vs, ts, rs, L, r⟩ := r
    refine ⟨g.sa, gC X.K, g.dx, _, .ref g.ta, rfl, r.hs, cf.c, cf.taken, rfl, ?_⟩
    have hta : g.ta ∈ g.ads := by simp [GIx.ads]
    have hff : Same F' (upd F' g.ta (.lst ts)) := fun b u z => by rw [upd_ne (fun y => by rw [y, r.nf _ hta] at z; cases z)]; exact z
    exact k (.ref g.ta) _ H' _ () (ext_frz ex r.ht (r.nf _ hta) (had _ hta)) trivial (.lst (.inl (.inl upd_same)) (dpa_mono hff r.pu)) hq
theorem w0_tr {K : PySem.W.Frag} {P : Program} {w : World} {g : GIx} {F H F' H' F2 H2 : Hp} (a : Ext W0 F H F' H') (e : Ext (WG K P w g) F' H' F2 H2) (had : ∀ a ∈ g.ads, H a = none) : Ext W0 F H F2 H2 :=
  ⟨e.sub, a.ff.trans e.ff, fun b o hb _ => e.hh b o (a.hh b o hb id) (fun z => by have := had b z; rw [hb] at this; cases this), fun b hb => e.dm b (a.dm b hb), fun b hb hn => e.nw b (a.dm b hb) (a.nw b hb hn)⟩
def vPgp (us : VA W0) : List SD → W0.S → (PyData → W0.S → Prop) → Prop := fun s st Q => us s st fun xs st1 => ∃ n ws ps, xs = [.fz (dN n ws), .fz (dPs ps)] ∧ PGi n ws ps ∧ ∀ P, PapOk n ws ps P → Q (dPp P) st1
theorem de_pgp (K : PySem.W.Frag) (P : Program) (w : World) {mg : Str → Option Value} {base : Heap} {k k2 j : Nat} {us : VA W0} (c : Mak P w K mg base k "PairGrowth" (gC K) (spPG K P w) []) (cp : Met P w K mg base k2 (gC K) "paper" (SpG K P w (S_Growth_paper K P w)) []) (hr : Room j X.A) (hk : k + 1 ≤ j) (hk2 : k2 ≤ j) (hg : Gl X "PairGrowth") (h : DA X W0 (e :: es) tas us)
    (hK : X.K = K := by rfl) (hP : X.prog = P := by rfl) (hW : X.w = w := by rfl) (hG : X.mg = mg := by rfl) (hB : X.base = base := by rfl) (he : starEach (e :: es) X.env = (false, eval e X.env) :: starEach es X.env := by rfl) (hpl : (backTo apos (starEach es X.env)).any (·.1) = false := by rfl)
    {pl : Sem Bool} {bpos : Pos} (ht : eval (.Call (.Attribute (.Call (.Name "PairGrowth" p) (e :: es) [] apos) "paper" bpos) [] [] pos) X.env = (do
      let ov ← eval (.Call (.Name "PairGrowth" p) (e :: es) [] apos) X.env
      standAt bpos.atName
      let (f, first) ← holding [ov] (getMethod ov "paper" pl)
      callWith pos f first (backTo pos (starEach [] X.env)) (backToKw pos (keywordEach [] X.env))) := by rfl) :
    DE X W0 (.Call (.Attribute (.Call (.Name "PairGrowth" p) (e :: es) [] apos) "paper" bpos) [] [] pos) (tMeth (gC K) "paper" (SpG K P w (S_Growth_paper K P w)) [] E0 (tMake (gC K) (spPG K P w) [] E0 tas) tNil) (vPgp us) := by
  subst hK hP hW hG hB
  refine ⟨pe_mt0 (pl := pl) cp hr hk2 (pe_mk c hr hk hg h.pe (by decide) he hpl) ht, fun F0 H0 F H σ s st Q' Q R q k => ?_⟩
  refine snd_make (Z := fun n ws ps st1 => ∀ P, PapOk n ws ps P → Q' (dPp P) st1) h.sn R q (fun g st' F' H' ex r had pg hz ok => ?_)
  obtain ⟨k3, hk3, hG, ho⟩ := ok
  obtain ⟨vn, vw, vt, vp, vq, vs, ts, rs, L, r1⟩ := id r
  refine ⟨g.sa, g.dx, _, rfl, r1.hs, rfl, ?_⟩
  refine ⟨g, F', [.adr g.sa], st', fun d _ => Q' d (), ex.sub, r, .cons rfl .nil, ⟨k3, rfl, ⟨pg.hn, pg.hl, hG⟩, by omega, pg.hj, fun P hP => hz P hP⟩, fun v F2 H2 d st2 e2 r2 p2 q2 => k v F2 H2 d () (w0_tr ex e2 had) trivial p2 q2⟩
end
end L2.VL
/-! part O4 -/
set_option Elab.async false
set_option linter.all false
set_option autoImplicit false
set_option maxRecDepth 100000
set_option maxHeartbeats 4000000
namespace L2.VL
open PySem PySem.Spec PyProof.Rows L2 C8 MW
local macro_rules | `(tactic| walk_at "st") => `(tactic| try simp only [vAsg, vIfS, vRet, vRetN, vRetO, vNext, vPar, vSetO, vApp, vIns, vFrz, vDrop, vNever, vVar, vC, vOp, vUn, vTest, vChain, vIsN, vNotN, vAnd, vOr, vNot, vAndV, vIf, vaNil, vaCons, vaAdr, vTup, vLst, vCB, vCall, vCall0, vCl, vCl0, vgName, vgNil, vgCons, vgTup, vgLst, viAny, viEnum, viEnumT, viRev, viRng1, viRng2, vYes, wipeS, vTru, vOrT, vListRg, vBor, vBorT, vSrtSet, vSlT, vPl, vPl0, vPlen, vPlset, vPgt, vPgp, vPgt, vPgp, vGf, vGset, setG, Gf.d, vGfil, vGfs, vGwg, vGwi, vGws, vGwo, vGta, vGra, vGtl, vGm, vGwt, Pl.get, Pl.put,
  qI, qI0, qB0, qNeB, qEqD, qNeD, qEqL, qIn, qInE, qU, qCatL, qCatT, qIx, itemD_T, itemD_L, qLen, qList, qTuple, qSum, qAny, qAll, qSortI, qSortTI, qSortE, qAbs, qInt, qMin2, qGcd, qNotB,
  List.length_cons, List.length_nil, List.replicate_succ, List.replicate_zero, List.cons_append, List.nil_append, List.getElem?_cons_zero, List.getElem?_cons_succ, List.set_cons_zero, List.set_cons_succ, Nat.reduceAdd, Nat.reduceSub, Option.some.injEq, SD.fz.injEq, SD.own.injEq, SD.adr.injEq, PyData.int.injEq, PyData.bool.injEq, PyData.tuple.injEq, PyData.list.injEq, exists_eq_left', exists_eq_left, exists_eq, and_true, true_and, unfz, Option.map_some, and_assoc, exists_and_left, List.cons.injEq, Nat.reduceLeDiff,
  List.map_cons, List.map_nil, Int.reduceLE, Int.reduceToNat, if_true, reduceCtorEq, false_or, or_false, exists_false, ↓reduceIte, Nat.zero_le, Int.zero_le_ofNat, Int.reduceNeg])
local macro_rules | `(tactic| walk_at "stf") => `(tactic| try simp only [vFor, vAsg, vIfS, vRet, vRetN, vRetO, vNext, vPar, vSetO, vApp, vIns, vFrz, vDrop, vNever, vVar, vC, vOp, vUn, vTest, vChain, vIsN, vNotN, vAnd, vOr, vNot, vAndV, vIf, vaNil, vaCons, vaAdr, vTup, vLst, vCB, vCall, vCall0, vCl, vCl0, vgName, vgNil, vgCons, vgTup, vgLst, viAny, viEnum, viEnumT, viRev, viRng1, viRng2, vYes, wipeS, vTru, vOrT, vListRg, vBor, vBorT, vSrtSet, vSlT, vPl, vPl0, vPlen, vPlset, vPgt, vPgp, vGf, vGset, setG, Gf.d, vGfil, vGfs, vGwg, vGwi, vGws, vGwo, vGta, vGra, vGtl, vGm, vGwt, Pl.get, Pl.put,
  qI, qI0, qB0, qNeB, qEqD, qNeD, qEqL, qIn, qInE, qU, qCatL, qCatT, qIx, itemD_T, itemD_L, qLen, qList, qTuple, qSum, qAny, qAll, qSortI, qSortTI, qSortE, qAbs, qInt, qMin2, qGcd, qNotB,
  List.length_cons, List.length_nil, List.replicate_succ, List.replicate_zero, List.cons_append, List.nil_append, List.getElem?_cons_zero, List.getElem?_cons_succ, List.set_cons_zero, List.set_cons_succ, Nat.reduceAdd, Nat.reduceSub, Option.some.injEq, SD.fz.injEq, SD.own.injEq, SD.adr.injEq, PyData.int.injEq, PyData.bool.injEq, PyData.tuple.injEq, PyData.list.injEq, exists_eq_left', exists_eq_left, exists_eq, and_true, true_and, unfz, Option.map_some, and_assoc, exists_and_left, List.cons.injEq, Nat.reduceLeDiff,
  List.map_cons, List.map_nil, Int.reduceLE, Int.reduceToNat, if_true, reduceCtorEq, false_or, or_false, exists_false, ↓reduceIte, Nat.zero_le, Int.zero_le_ofNat, Int.reduceNeg])
local macro_rules | `(tactic| walk_at "stl") => `(tactic| try simp only [vLc, vAsg, vIfS, vRet, vRetN, vRetO, vNext, vPar, vSetO, vApp, vIns, vFrz, vDrop, vNever, vVar, vC, vOp, vUn, vTest, vChain, vIsN, vNotN, vAnd, vOr, vNot, vAndV, vIf, vaNil, vaCons, vaAdr, vTup, vLst, vCB, vCall, vCall0, vCl, vCl0, vgName, vgNil, vgCons, vgTup, vgLst, viAny, viEnum, viEnumT, viRev, viRng1, viRng2, vYes, wipeS, vTru, vOrT, vListRg, vBor, vBorT, vSrtSet, vSlT, vPl, vPl0, vPlen, vPlset, vPgt, vPgp, vGf, vGset, setG, Gf.d, vGfil, vGfs, vGwg, vGwi, vGws, vGwo, vGta, vGra, vGtl, vGm, vGwt, Pl.get, Pl.put,
  qI, qI0, qB0, qNeB, qEqD, qNeD, qEqL, qIn, qInE, qU, qCatL, qCatT, qIx, itemD_T, itemD_L, qLen, qList, qTuple, qSum, qAny, qAll, qSortI, qSortTI, qSortE, qAbs, qInt, qMin2, qGcd, qNotB,
  List.length_cons, List.length_nil, List.replicate_succ, List.replicate_zero, List.cons_append, List.nil_append, List.getElem?_cons_zero, List.getElem?_cons_succ, List.set_cons_zero, List.set_cons_succ, Nat.reduceAdd, Nat.reduceSub, Option.some.injEq, SD.fz.injEq, SD.own.injEq, SD.adr.injEq, PyData.int.injEq, PyData.bool.injEq, PyData.tuple.injEq, PyData.list.injEq, exists_eq_left', exists_eq_left, exists_eq, and_true, true_and, unfz, Option.map_some, and_assoc, exists_and_left, List.cons.injEq, Nat.reduceLeDiff,
  List.map_cons, List.map_nil, Int.reduceLE, Int.reduceToNat, if_true, reduceCtorEq, false_or, or_false, exists_false, ↓reduceIte, Nat.zero_le, Int.zero_le_ofNat, Int.reduceNeg])
local macro_rules | `(tactic| walk_at "stw") => `(tactic| try simp only [vWhile, vAsg, vIfS, vRet, vRetN, vRetO, vNext, vPar, vSetO, vApp, vIns, vFrz, vDrop, vNever, vVar, vC, vOp, vUn, vTest, vChain, vIsN, vNotN, vAnd, vOr, vNot, vAndV, vIf, vaNil, vaCons, vaAdr, vTup, vLst, vCB, vCall, vCall0, vCl, vCl0, vgName, vgNil, vgCons, vgTup, vgLst, viAny, viEnum, viEnumT, viRev, viRng1, viRng2, vYes, wipeS, vTru, vOrT, vListRg, vBor, vBorT, vSrtSet, vSlT, vPl, vPl0, vPlen, vPlset, vPgt, vPgp, vGf, vGset, setG, Gf.d, vGfil, vGfs, vGwg, vGwi, vGws, vGwo, vGta, vGra, vGtl, vGm, vGwt, Pl.get, Pl.put,
  qI, qI0, qB0, qNeB, qEqD, qNeD, qEqL, qIn, qInE, qU, qCatL, qCatT, qIx, itemD_T, itemD_L, qLen, qList, qTuple, qSum, qAny, qAll, qSortI, qSortTI, qSortE, qAbs, qInt, qMin2, qGcd, qNotB,
  List.length_cons, List.length_nil, List.replicate_succ, List.replicate_zero, List.cons_append, List.nil_append, List.getElem?_cons_zero, List.getElem?_cons_succ, List.set_cons_zero, List.set_cons_succ, Nat.reduceAdd, Nat.reduceSub, Option.some.injEq, SD.fz.injEq, SD.own.injEq, SD.adr.injEq, PyData.int.injEq, PyData.bool.injEq, PyData.tuple.injEq, PyData.list.injEq, exists_eq_left', exists_eq_left, exists_eq, and_true, true_and, unfz, Option.map_some, and_assoc, exists_and_left, List.cons.injEq, Nat.reduceLeDiff,
  List.map_cons, List.map_nil, Int.reduceLE, Int.reduceToNat, if_true, reduceCtorEq, false_or, or_false, exists_false, ↓reduceIte, Nat.zero_le, Int.zero_le_ofNat, Int.reduceNeg])
local macro_rules | `(tactic| walk_at "rd") => `(tactic| try simp only [vSeq, vAsg, vIfS, vRet, vRetN, vRetO, vNext, vPar, vSetO, vApp, vIns, vFrz, vDrop, vNever, vVar, vC, vOp, vUn, vTest, vChain, vIsN, vNotN, vAnd, vOr, vNot, vAndV, vIf, vaNil, vaCons, vaAdr, vTup, vLst, vCB, vCall, vCall0, vCl, vCl0, vgName, vgNil, vgCons, vgTup, vgLst, viAny, viEnum, viEnumT, viRev, viRng1, viRng2, vYes, wipeS, vTru, vOrT, vListRg, vBor, vBorT, vSrtSet, vSlT, vPl, vPl0, vPlen, vPlset, vPgt, vPgp, vGf, vGset, setG, Gf.d, vGfil, vGfs, vGwg, vGwi, vGws, vGwo, vGta, vGra, vGtl, vGm, vGwt, Pl.get, Pl.put,
  qI, qI0, qB0, qNeB, qEqD, qNeD, qEqL, qIn, qInE, qU, qCatL, qCatT, qIx, itemD_T, itemD_L, qLen, qList, qTuple, qSum, qAny, qAll, qSortI, qSortTI, qSortE, qAbs, qInt, qMin2, qGcd, qNotB,
  List.length_cons, List.length_nil, List.replicate_succ, List.replicate_zero, List.cons_append, List.nil_append, List.getElem?_cons_zero, List.getElem?_cons_succ, List.set_cons_zero, List.set_cons_succ, Nat.reduceAdd, Nat.reduceSub, Option.some.injEq, SD.fz.injEq, SD.own.injEq, SD.adr.injEq, PyData.int.injEq, PyData.bool.injEq, PyData.tuple.injEq, PyData.list.injEq, exists_eq_left', exists_eq_left, exists_eq, and_true, true_and, unfz, Option.map_some, and_assoc, exists_and_left, List.cons.injEq, Nat.reduceLeDiff,
  List.map_cons, List.map_nil, Int.reduceLE, Int.reduceToNat, if_true, reduceCtorEq, false_or, or_false, exists_false, ↓reduceIte, Nat.zero_le, Int.zero_le_ofNat, Int.reduceNeg])
local macro_rules | `(tactic| walk_at "lc") => `(tactic| try simp only [vLc, vSeq, vAsg, vIfS, vRet, vRetN, vRetO, vNext, vPar, vSetO, vApp, vIns, vFrz, vDrop, vNever, vVar, vC, vOp, vUn, vTest, vChain, vIsN, vNotN, vAnd, vOr, vNot, vAndV, vIf, vaNil, vaCons, vaAdr, vTup, vLst, vCB, vCall, vCall0, vCl, vCl0, vgName, vgNil, vgCons, vgTup, vgLst, viAny, viEnum, viEnumT, viRev, viRng1, viRng2, vYes, wipeS, vTru, vOrT, vListRg, vBor, vBorT, vSrtSet, vSlT, vPl, vPl0, vPlen, vPlset, vPgt, vPgp, vGf, vGset, setG, Gf.d, vGfil, vGfs, vGwg, vGwi, vGws, vGwo, vGta, vGra, vGtl, vGm, vGwt, Pl.get, Pl.put,
  qI, qI0, qB0, qNeB, qEqD, qNeD, qEqL, qIn, qInE, qU, qCatL, qCatT, qIx, itemD_T, itemD_L, qLen, qList, qTuple, qSum, qAny, qAll, qSortI, qSortTI, qSortE, qAbs, qInt, qMin2, qGcd, qNotB,
  List.length_cons, List.length_nil, List.replicate_succ, List.replicate_zero, List.cons_append, List.nil_append, List.getElem?_cons_zero, List.getElem?_cons_succ, List.set_cons_zero, List.set_cons_succ, Nat.reduceAdd, Nat.reduceSub, Option.some.injEq, SD.fz.injEq, SD.own.injEq, SD.adr.injEq, PyData.int.injEq, PyData.bool.injEq, PyData.tuple.injEq, PyData.list.injEq, exists_eq_left', exists_eq_left, exists_eq, and_true, true_and, unfz, Option.map_some, and_assoc, exists_and_left, List.cons.injEq, Nat.reduceLeDiff,
  List.map_cons, List.map_nil, Int.reduceLE, Int.reduceToNat, if_true, reduceCtorEq, false_or, or_false, exists_false, ↓reduceIte, Nat.zero_le, Int.zero_le_ofNat, Int.reduceNeg])
local macro_rules | `(tactic| walk_at "fo") => `(tactic| try simp only [vFor, vSeq, vAsg, vIfS, vRet, vRetN, vRetO, vNext, vPar, vSetO, vApp, vIns, vFrz, vDrop, vNever, vVar, vC, vOp, vUn, vTest, vChain, vIsN, vNotN, vAnd, vOr, vNot, vAndV, vIf, vaNil, vaCons, vaAdr, vTup, vLst, vCB, vCall, vCall0, vCl, vCl0, vgName, vgNil, vgCons, vgTup, vgLst, viAny, viEnum, viEnumT, viRev, viRng1, viRng2, vYes, wipeS, vTru, vOrT, vListRg, vBor, vBorT, vSrtSet, vSlT, vPl, vPl0, vPlen, vPlset, vPgt, vPgp, vGf, vGset, setG, Gf.d, vGfil, vGfs, vGwg, vGwi, vGws, vGwo, vGta, vGra, vGtl, vGm, vGwt, Pl.get, Pl.put,
  qI, qI0, qB0, qNeB, qEqD, qNeD, qEqL, qIn, qInE, qU, qCatL, qCatT, qIx, itemD_T, itemD_L, qLen, qList, qTuple, qSum, qAny, qAll, qSortI, qSortTI, qSortE, qAbs, qInt, qMin2, qGcd, qNotB,
  List.length_cons, List.length_nil, List.replicate_succ, List.replicate_zero, List.cons_append, List.nil_append, List.getElem?_cons_zero, List.getElem?_cons_succ, List.set_cons_zero, List.set_cons_succ, Nat.reduceAdd, Nat.reduceSub, Option.some.injEq, SD.fz.injEq, SD.own.injEq, SD.adr.injEq, PyData.int.injEq, PyData.bool.injEq, PyData.tuple.injEq, PyData.list.injEq, exists_eq_left', exists_eq_left, exists_eq, and_true, true_and, unfz, Option.map_some, and_assoc, exists_and_left, List.cons.injEq, Nat.reduceLeDiff,
  List.map_cons, List.map_nil, Int.reduceLE, Int.reduceToNat, if_true, reduceCtorEq, false_or, or_false, exists_false, ↓reduceIte, Nat.zero_le, Int.zero_le_ofNat, Int.reduceNeg])
local macro_rules | `(tactic| walk_at "wh") => `(tactic| try simp only [vWhile, vSeq, vAsg, vIfS, vRet, vRetN, vRetO, vNext, vPar, vSetO, vApp, vIns, vFrz, vDrop, vNever, vVar, vC, vOp, vUn, vTest, vChain, vIsN, vNotN, vAnd, vOr, vNot, vAndV, vIf, vaNil, vaCons, vaAdr, vTup, vLst, vCB, vCall, vCall0, vCl, vCl0, vgName, vgNil, vgCons, vgTup, vgLst, viAny, viEnum, viEnumT, viRev, viRng1, viRng2, vYes, wipeS, vTru, vOrT, vListRg, vBor, vBorT, vSrtSet, vSlT, vPl, vPl0, vPlen, vPlset, vPgt, vPgp, vGf, vGset, setG, Gf.d, vGfil, vGfs, vGwg, vGwi, vGws, vGwo, vGta, vGra, vGtl, vGm, vGwt, Pl.get, Pl.put,
  qI, qI0, qB0, qNeB, qEqD, qNeD, qEqL, qIn, qInE, qU, qCatL, qCatT, qIx, itemD_T, itemD_L, qLen, qList, qTuple, qSum, qAny, qAll, qSortI, qSortTI, qSortE, qAbs, qInt, qMin2, qGcd, qNotB,
  List.length_cons, List.length_nil, List.replicate_succ, List.replicate_zero, List.cons_append, List.nil_append, List.getElem?_cons_zero, List.getElem?_cons_succ, List.set_cons_zero, List.set_cons_succ, Nat.reduceAdd, Nat.reduceSub, Option.some.injEq, SD.fz.injEq, SD.own.injEq, SD.adr.injEq, PyData.int.injEq, PyData.bool.injEq, PyData.tuple.injEq, PyData.list.injEq, exists_eq_left', exists_eq_left, exists_eq, and_true, true_and, unfz, Option.map_some, and_assoc, exists_and_left, List.cons.injEq, Nat.reduceLeDiff,
  List.map_cons, List.map_nil, Int.reduceLE, Int.reduceToNat, if_true, reduceCtorEq, false_or, or_false, exists_false, ↓reduceIte, Nat.zero_le, Int.zero_le_ofNat, Int.reduceNeg])
local macro_rules | `(tactic| walk_at "sc") => `(tactic| try simp only [vLenSc, vSeq, vAsg, vIfS, vRet, vRetN, vRetO, vNext, vPar, vSetO, vApp, vIns, vFrz, vDrop, vNever, vVar, vC, vOp, vUn, vTest, vChain, vIsN, vNotN, vAnd, vOr, vNot, vAndV, vIf, vaNil, vaCons, vaAdr, vTup, vLst, vCB, vCall, vCall0, vCl, vCl0, vgName, vgNil, vgCons, vgTup, vgLst, viAny, viEnum, viEnumT, viRev, viRng1, viRng2, vYes, wipeS, vTru, vOrT, vListRg, vBor, vBorT, vSrtSet, vSlT, vPl, vPl0, vPlen, vPlset, vPgt, vPgp, vGf, vGset, setG, Gf.d, vGfil, vGfs, vGwg, vGwi, vGws, vGwo, vGta, vGra, vGtl, vGm, vGwt, Pl.get, Pl.put,
  qI, qI0, qB0, qNeB, qEqD, qNeD, qEqL, qIn, qInE, qU, qCatL, qCatT, qIx, itemD_T, itemD_L, qLen, qList, qTuple, qSum, qAny, qAll, qSortI, qSortTI, qSortE, qAbs, qInt, qMin2, qGcd, qNotB,
  List.length_cons, List.length_nil, List.replicate_succ, List.replicate_zero, List.cons_append, List.nil_append, List.getElem?_cons_zero, List.getElem?_cons_succ, List.set_cons_zero, List.set_cons_succ, Nat.reduceAdd, Nat.reduceSub, Option.some.injEq, SD.fz.injEq, SD.own.injEq, SD.adr.injEq, PyData.int.injEq, PyData.bool.injEq, PyData.tuple.injEq, PyData.list.injEq, exists_eq_left', exists_eq_left, exists_eq, and_true, true_and, unfz, Option.map_some, and_assoc, exists_and_left, List.cons.injEq, Nat.reduceLeDiff,
  List.map_cons, List.map_nil, Int.reduceLE, Int.reduceToNat, if_true, reduceCtorEq, false_or, or_false, exists_false, ↓reduceIte, Nat.zero_le, Int.zero_le_ofNat, Int.reduceNeg])


def I_td (n : Nat) (ws : List Way) (ps : List (Int × Int)) (s : List SD) : Prop := ∃ (is : List Int) (o3 o4 : SD), s = [.fz (dN n ws), .fz (dPs ps), .fz (.list (is.map .int)), o3, o4, .un, .un] ∧ InR ws is ∧ is.length ≤ 12 ∧ Jn ws is ps

def S_moats : Spec W0 := fun xs _ R => ∃ (n : Nat) (ws : List Way) (ps : List (Int × Int)), xs = [.fz (dN n ws), .fz (dPs ps)] ∧ PGi n ws ps ∧ ∀ P, PapOk n ws ps P → R (dPp P) ()
section
variable {P : Program} {w : World} {K : PySem.W.Frag} {mg : Str → Option Value} {base : Heap}
theorem ok_moats (T : Tp K mg) (C : Tc K) (J : Ti P K mg) : Cal P w K mg base 9 "moats" (spW K W0 S_moats) [] := by
  have c_PG := ok_make (P := P) (w := w) (base := base) T C J
  have c_paper := ok_Growth_paper (P := P) (w := w) (base := base) T C
  refine calV T.f_moats T.g_moats sc_moats (fun _ _ _ _ _ _ us hl => match us, hl with | [_, _], _ => rfl) (fun xs w Q h => ?_) (fun cdv A outer s H E hr => ⟨_, _, (dss_one (ds_ret (de_pgp K P w c_PG c_paper hr (by decide) (by decide) (by rfl) (da_cons (de_var 0) (da_cons (de_var 1) da_nil))))), ?_⟩)
  · obtain ⟨n, ws, ps, rfl, _⟩ := h; rfl
  · rintro xs w Q ⟨n, ws, ps, rfl, pg, q⟩
    walk_at "rd"
    exact ⟨n, ws, rfl, ps, rfl, pg, fun P hP => q P hP⟩
end
def S_told : Spec W0 := fun xs _ R => ∃ (n : Nat) (ws : List Way) (ps : List (Int × Int)), xs = [.fz (dN n ws), .fz (dPs ps)] ∧ PGi n ws ps ∧ ∀ is : List Int, InR ws is → is.length ≤ 12 → Jn ws is ps → R (.tuple (is.map .int)) ()
section
variable {P : Program} {w : World} {K : PySem.W.Frag} {mg : Str → Option Value} {base : Heap}
theorem ok_told (T : Tp K mg) (C : Tc K) (J : Ti P K mg) : Cal P w K mg base 9 "told" (spW K W0 S_told) [] := by
  have c_PG := ok_make (P := P) (w := w) (base := base) T C J
  have c_paper := ok_Growth_paper (P := P) (w := w) (base := base) T C
  have c_joins := ok_joins (P := P) (w := w) (base := base) T
  refine calV T.f_told T.g_told sc_told (fun _ _ _ _ _ _ us hl => match us, hl with | [_, _], _ => rfl) (fun xs w Q h => ?_) (fun cdv A outer s H E hr => ⟨_, _, (dss_cons (ds_setLc (i := 2) (own := [("_", 5), ("index", 6)]) rfl sc_told.nd rfl rfl (sw_true rfl rfl rfl (by decide +kernel)) (di_seqK K (de_pgt K P w C.cf c_PG hr (by decide) (by rfl) (da_cons (de_var 0) (da_cons (de_var 1) da_nil)))) (blkOk_by (by kernel_rfl)) (fun _ _ _ _ _ => (dg_tupK K (n := 2) rfl (dgs_cons (dgn 5 sc_told.nd) (dgs_cons (dgn 6 sc_told.nd) dgs_nil)))) (fun _ _ _ _ _ => dts_nil) (fun _ _ _ _ _ => (de_var 6)) (go_tup (gos_name (by decide) (gos_name (by decide) gos_nil))))
      (dss_cons (ds_for PassesOwn.never rfl (di_rev rfl T.z_reversed (da_cons (de_cty call_list_of sc_list rfl T.z_list (by decide +kernel) (da_cons (de_var 2) da_nil)) da_nil)) (dgn 3 sc_told.nd) (dss_cons (ds_setLc (i := 4) (own := [("index", 6)]) rfl sc_told.nd rfl rfl (sw_true rfl rfl rfl (by decide +kernel)) (di_seqK K (de_var 2)) (blkOk_by (by kernel_rfl)) (fun _ _ _ _ _ => (dgn 6 sc_told.nd)) (fun _ _ _ _ _ => (dts_one (dt_cmp op_ne so_neI (de_var 6) (de_var 3) (nomark _)))) (fun _ _ _ _ _ => (de_var 6)) go_name)
      (dss_one (ds_if (dt_val (de_cl0K K c_joins hr (by decide) rfl (da_cons (de_var 0) (da_cons (de_var 1) (da_cons (de_var 4) da_nil))))) (dss_one (dset 2 sc_told.nd (de_var 4))) dss_nil))))
      (dss_one (ds_ret (de_cty call_tuple_of sc_tuple rfl T.z_tuple (by decide +kernel) (da_cons (de_cb cr_sortedI sc_sortI rfl T.z_sorted (by decide +kernel) (da_cons (de_var 2) da_nil)) da_nil)))))), ?_⟩)
  · obtain ⟨n, ws, ps, rfl, _⟩ := h; rfl
  · rintro xs w Q ⟨n, ws, ps, rfl, pg, q⟩
    rw [vSeq_eq]
    walk_at "stl"
    refine ⟨n, ws, rfl, ps, rfl, pg, fun tk h1 h2 h3 => ?_⟩
    refine lc_pure tk dTk (fun _ => true) (fun t => .int t.2) (by omega) (fun I j acc t hx h => ?_) ?_
    · simp only [dTk]
      walk_at "st"
      exact h
    · have hl : (tk.map (fun x : Rat × Int => x.2)).length ≤ 12 := by rw [List.length_map]; exact h2
      rw [filter_tt, show tk.map (fun t : Rat × Int => PyData.int t.2) = (tk.map fun x : Rat × Int => x.2).map .int by rw [List.map_map]; rfl]
      generalize (tk.map fun x : Rat × Int => x.2) = is0 at h1 h3 hl ⊢
      rw [vSeq_eq]
      walk_at "stf"
      refine ⟨fun j s _ => I_td n ws ps s, ⟨is0, _, _, rfl, h1, hl, h3⟩, fun j s w' d hd hJ => ?_, fun s w' hJ => ?_⟩
      · obtain ⟨is, o3, o4, rfl, a, b, c⟩ := hJ
        rw [← List.map_reverse] at hd
        obtain ⟨x, hx, rfl⟩ := mget hd
        rw [vSeq_eq]
        walk_at "stl"
        refine lc_pure is .int (fun y => !decide (y = x)) .int (by omega) (fun I j acc y hy h => ?_) ?_
        · walk_at "st"
          exact h
        · walk_at "st"
          simp only [S_joins]
          refine ⟨n, ws, ps, _, is.filter (fun y => !decide (y = x)), by trivial, pg.hn, .inl rfl, fun i hi => a i (List.mem_filter.mp hi).1, pg.hp, fun bb hb => ⟨bb, rfl, ?_⟩⟩
          cases bb with
          | true =>
            rw [if_pos rfl]
            exact ⟨_, _, _, rfl, fun i hi => a i (List.mem_filter.mp hi).1, Nat.le_trans (List.length_filter_le _ _) b, hb.mp rfl⟩
          | false =>
            rw [if_neg (by decide)]
            exact ⟨is, _, _, rfl, a, b, c⟩
      · obtain ⟨is, o3, o4, rfl, a, b, c⟩ := hJ
        walk_at "st"
        exact ⟨is, rfl, fun ns' hp _ => q ns' (fun i hi => a i (hp.mem_iff.mp hi)) (by rw [hp.length_eq]; exact b) (fun S hS => c S fun i hi => hS i (hp.mem_iff.mpr hi))⟩
end
end L2.VL
/-! part OL -/
set_option Elab.async false
set_option linter.all false
set_option autoImplicit false
set_option maxRecDepth 100000
set_option maxHeartbeats 4000000
namespace L2.VL
open PySem PySem.Spec PyProof.Rows L2 C8 MW
local macro_rules | `(tactic| walk_at "st") => `(tactic| try simp only [vAsg, vIfS, vRet, vRetN, vRetO, vNext, vPar, vSetO, vApp, vIns, vFrz, vDrop, vNever, vVar, vC, vOp, vUn, vTest, vChain, vIsN, vNotN, vAnd, vOr, vNot, vAndV, vIf, vaNil, vaCons, vaAdr, vTup, vLst, vCB, vCall, vCall0, vCl, vCl0, vgName, vgNil, vgCons, vgTup, vgLst, viAny, viEnum, viEnumT, viRev, viRng1, viRng2, vYes, wipeS, vTru, vOrT, vListRg, vBor, vBorT, vSrtSet, vSlT, vPl, vPl0, vPlen, vPlset, vGf, vGset, setG, Gf.d, vGfil, vGfs, vGwg, vGwi, vGws, vGwo, vGta, vGra, vGtl, vGm, vGwt, Pl.get, Pl.put,
  qI, qI0, qB0, qNeB, qEqD, qNeD, qEqL, qIn, qInE, qU, qCatL, qCatT, qIx, itemD_T, itemD_L, qLen, qList, qTuple, qSum, qAny, qAll, qSortI, qSortTI, qSortE, qAbs, qInt, qMin2, qGcd, qNotB,
  List.length_cons, List.length_nil, List.replicate_succ, List.replicate_zero, List.cons_append, List.nil_append, List.getElem?_cons_zero, List.getElem?_cons_succ, List.set_cons_zero, List.set_cons_succ, Nat.reduceAdd, Nat.reduceSub, Option.some.injEq, SD.fz.injEq, SD.own.injEq, SD.adr.injEq, PyData.int.injEq, PyData.bool.injEq, PyData.tuple.injEq, PyData.list.injEq, exists_eq_left', exists_eq_left, exists_eq, and_true, true_and, unfz, Option.map_some, and_assoc, exists_and_left, List.cons.injEq, Nat.reduceLeDiff,
  List.map_cons, List.map_nil, Int.reduceLE, Int.reduceToNat, if_true, reduceCtorEq, false_or, or_false, exists_false, ↓reduceIte, Nat.zero_le, Int.zero_le_ofNat, Int.reduceNeg])
local macro_rules | `(tactic| walk_at "stf") => `(tactic| try simp only [vFor, vAsg, vIfS, vRet, vRetN, vRetO, vNext, vPar, vSetO, vApp, vIns, vFrz, vDrop, vNever, vVar, vC, vOp, vUn, vTest, vChain, vIsN, vNotN, vAnd, vOr, vNot, vAndV, vIf, vaNil, vaCons, vaAdr, vTup, vLst, vCB, vCall, vCall0, vCl, vCl0, vgName, vgNil, vgCons, vgTup, vgLst, viAny, viEnum, viEnumT, viRev, viRng1, viRng2, vYes, wipeS, vTru, vOrT, vListRg, vBor, vBorT, vSrtSet, vSlT, vPl, vPl0, vPlen, vPlset, vGf, vGset, setG, Gf.d, vGfil, vGfs, vGwg, vGwi, vGws, vGwo, vGta, vGra, vGtl, vGm, vGwt, Pl.get, Pl.put,
  qI, qI0, qB0, qNeB, qEqD, qNeD, qEqL, qIn, qInE, qU, qCatL, qCatT, qIx, itemD_T, itemD_L, qLen, qList, qTuple, qSum, qAny, qAll, qSortI, qSortTI, qSortE, qAbs, qInt, qMin2, qGcd, qNotB,
  List.length_cons, List.length_nil, List.replicate_succ, List.replicate_zero, List.cons_append, List.nil_append, List.getElem?_cons_zero, List.getElem?_cons_succ, List.set_cons_zero, List.set_cons_succ, Nat.reduceAdd, Nat.reduceSub, Option.some.injEq, SD.fz.injEq, SD.own.injEq, SD.adr.injEq, PyData.int.injEq, PyData.bool.injEq, PyData.tuple.injEq, PyData.list.injEq, exists_eq_left', exists_eq_left, exists_eq, and_true, true_and, unfz, Option.map_some, and_assoc, exists_and_left, List.cons.injEq, Nat.reduceLeDiff,
  List.map_cons, List.map_nil, Int.reduceLE, Int.reduceToNat, if_true, reduceCtorEq, false_or, or_false, exists_false, ↓reduceIte, Nat.zero_le, Int.zero_le_ofNat, Int.reduceNeg])
local macro_rules | `(tactic| walk_at "stl") => `(tactic| try simp only [vLc, vAsg, vIfS, vRet, vRetN, vRetO, vNext, vPar, vSetO, vApp, vIns, vFrz, vDrop, vNever, vVar, vC, vOp, vUn, vTest, vChain, vIsN, vNotN, vAnd, vOr, vNot, vAndV, vIf, vaNil, vaCons, vaAdr, vTup, vLst, vCB, vCall, vCall0, vCl, vCl0, vgName, vgNil, vgCons, vgTup, vgLst, viAny, viEnum, viEnumT, viRev, viRng1, viRng2, vYes, wipeS, vTru, vOrT, vListRg, vBor, vBorT, vSrtSet, vSlT, vPl, vPl0, vPlen, vPlset, vGf, vGset, setG, Gf.d, vGfil, vGfs, vGwg, vGwi, vGws, vGwo, vGta, vGra, vGtl, vGm, vGwt, Pl.get, Pl.put,
  qI, qI0, qB0, qNeB, qEqD, qNeD, qEqL, qIn, qInE, qU, qCatL, qCatT, qIx, itemD_T, itemD_L, qLen, qList, qTuple, qSum, qAny, qAll, qSortI, qSortTI, qSortE, qAbs, qInt, qMin2, qGcd, qNotB,
  List.length_cons, List.length_nil, List.replicate_succ, List.replicate_zero, List.cons_append, List.nil_append, List.getElem?_cons_zero, List.getElem?_cons_succ, List.set_cons_zero, List.set_cons_succ, Nat.reduceAdd, Nat.reduceSub, Option.some.injEq, SD.fz.injEq, SD.own.injEq, SD.adr.injEq, PyData.int.injEq, PyData.bool.injEq, PyData.tuple.injEq, PyData.list.injEq, exists_eq_left', exists_eq_left, exists_eq, and_true, true_and, unfz, Option.map_some, and_assoc, exists_and_left, List.cons.injEq, Nat.reduceLeDiff,
  List.map_cons, List.map_nil, Int.reduceLE, Int.reduceToNat, if_true, reduceCtorEq, false_or, or_false, exists_false, ↓reduceIte, Nat.zero_le, Int.zero_le_ofNat, Int.reduceNeg])
local macro_rules | `(tactic| walk_at "stw") => `(tactic| try simp only [vWhile, vAsg, vIfS, vRet, vRetN, vRetO, vNext, vPar, vSetO, vApp, vIns, vFrz, vDrop, vNever, vVar, vC, vOp, vUn, vTest, vChain, vIsN, vNotN, vAnd, vOr, vNot, vAndV, vIf, vaNil, vaCons, vaAdr, vTup, vLst, vCB, vCall, vCall0, vCl, vCl0, vgName, vgNil, vgCons, vgTup, vgLst, viAny, viEnum, viEnumT, viRev, viRng1, viRng2, vYes, wipeS, vTru, vOrT, vListRg, vBor, vBorT, vSrtSet, vSlT, vPl, vPl0, vPlen, vPlset, vGf, vGset, setG, Gf.d, vGfil, vGfs, vGwg, vGwi, vGws, vGwo, vGta, vGra, vGtl, vGm, vGwt, Pl.get, Pl.put,
  qI, qI0, qB0, qNeB, qEqD, qNeD, qEqL, qIn, qInE, qU, qCatL, qCatT, qIx, itemD_T, itemD_L, qLen, qList, qTuple, qSum, qAny, qAll, qSortI, qSortTI, qSortE, qAbs, qInt, qMin2, qGcd, qNotB,
  List.length_cons, List.length_nil, List.replicate_succ, List.replicate_zero, List.cons_append, List.nil_append, List.getElem?_cons_zero, List.getElem?_cons_succ, List.set_cons_zero, List.set_cons_succ, Nat.reduceAdd, Nat.reduceSub, Option.some.injEq, SD.fz.injEq, SD.own.injEq, SD.adr.injEq, PyData.int.injEq, PyData.bool.injEq, PyData.tuple.injEq, PyData.list.injEq, exists_eq_left', exists_eq_left, exists_eq, and_true, true_and, unfz, Option.map_some, and_assoc, exists_and_left, List.cons.injEq, Nat.reduceLeDiff,
  List.map_cons, List.map_nil, Int.reduceLE, Int.reduceToNat, if_true, reduceCtorEq, false_or, or_false, exists_false, ↓reduceIte, Nat.zero_le, Int.zero_le_ofNat, Int.reduceNeg])
local macro_rules | `(tactic| walk_at "rd") => `(tactic| try simp only [vSeq, vAsg, vIfS, vRet, vRetN, vRetO, vNext, vPar, vSetO, vApp, vIns, vFrz, vDrop, vNever, vVar, vC, vOp, vUn, vTest, vChain, vIsN, vNotN, vAnd, vOr, vNot, vAndV, vIf, vaNil, vaCons, vaAdr, vTup, vLst, vCB, vCall, vCall0, vCl, vCl0, vgName, vgNil, vgCons, vgTup, vgLst, viAny, viEnum, viEnumT, viRev, viRng1, viRng2, vYes, wipeS, vTru, vOrT, vListRg, vBor, vBorT, vSrtSet, vSlT, vPl, vPl0, vPlen, vPlset, vGf, vGset, setG, Gf.d, vGfil, vGfs, vGwg, vGwi, vGws, vGwo, vGta, vGra, vGtl, vGm, vGwt, Pl.get, Pl.put,
  qI, qI0, qB0, qNeB, qEqD, qNeD, qEqL, qIn, qInE, qU, qCatL, qCatT, qIx, itemD_T, itemD_L, qLen, qList, qTuple, qSum, qAny, qAll, qSortI, qSortTI, qSortE, qAbs, qInt, qMin2, qGcd, qNotB,
  List.length_cons, List.length_nil, List.replicate_succ, List.replicate_zero, List.cons_append, List.nil_append, List.getElem?_cons_zero, List.getElem?_cons_succ, List.set_cons_zero, List.set_cons_succ, Nat.reduceAdd, Nat.reduceSub, Option.some.injEq, SD.fz.injEq, SD.own.injEq, SD.adr.injEq, PyData.int.injEq, PyData.bool.injEq, PyData.tuple.injEq, PyData.list.injEq, exists_eq_left', exists_eq_left, exists_eq, and_true, true_and, unfz, Option.map_some, and_assoc, exists_and_left, List.cons.injEq, Nat.reduceLeDiff,
  List.map_cons, List.map_nil, Int.reduceLE, Int.reduceToNat, if_true, reduceCtorEq, false_or, or_false, exists_false, ↓reduceIte, Nat.zero_le, Int.zero_le_ofNat, Int.reduceNeg])
local macro_rules | `(tactic| walk_at "lc") => `(tactic| try simp only [vLc, vSeq, vAsg, vIfS, vRet, vRetN, vRetO, vNext, vPar, vSetO, vApp, vIns, vFrz, vDrop, vNever, vVar, vC, vOp, vUn, vTest, vChain, vIsN, vNotN, vAnd, vOr, vNot, vAndV, vIf, vaNil, vaCons, vaAdr, vTup, vLst, vCB, vCall, vCall0, vCl, vCl0, vgName, vgNil, vgCons, vgTup, vgLst, viAny, viEnum, viEnumT, viRev, viRng1, viRng2, vYes, wipeS, vTru, vOrT, vListRg, vBor, vBorT, vSrtSet, vSlT, vPl, vPl0, vPlen, vPlset, vGf, vGset, setG, Gf.d, vGfil, vGfs, vGwg, vGwi, vGws, vGwo, vGta, vGra, vGtl, vGm, vGwt, Pl.get, Pl.put,
  qI, qI0, qB0, qNeB, qEqD, qNeD, qEqL, qIn, qInE, qU, qCatL, qCatT, qIx, itemD_T, itemD_L, qLen, qList, qTuple, qSum, qAny, qAll, qSortI, qSortTI, qSortE, qAbs, qInt, qMin2, qGcd, qNotB,
  List.length_cons, List.length_nil, List.replicate_succ, List.replicate_zero, List.cons_append, List.nil_append, List.getElem?_cons_zero, List.getElem?_cons_succ, List.set_cons_zero, List.set_cons_succ, Nat.reduceAdd, Nat.reduceSub, Option.some.injEq, SD.fz.injEq, SD.own.injEq, SD.adr.injEq, PyData.int.injEq, PyData.bool.injEq, PyData.tuple.injEq, PyData.list.injEq, exists_eq_left', exists_eq_left, exists_eq, and_true, true_and, unfz, Option.map_some, and_assoc, exists_and_left, List.cons.injEq, Nat.reduceLeDiff,
  List.map_cons, List.map_nil, Int.reduceLE, Int.reduceToNat, if_true, reduceCtorEq, false_or, or_false, exists_false, ↓reduceIte, Nat.zero_le, Int.zero_le_ofNat, Int.reduceNeg])
local macro_rules | `(tactic| walk_at "fo") => `(tactic| try simp only [vFor, vSeq, vAsg, vIfS, vRet, vRetN, vRetO, vNext, vPar, vSetO, vApp, vIns, vFrz, vDrop, vNever, vVar, vC, vOp, vUn, vTest, vChain, vIsN, vNotN, vAnd, vOr, vNot, vAndV, vIf, vaNil, vaCons, vaAdr, vTup, vLst, vCB, vCall, vCall0, vCl, vCl0, vgName, vgNil, vgCons, vgTup, vgLst, viAny, viEnum, viEnumT, viRev, viRng1, viRng2, vYes, wipeS, vTru, vOrT, vListRg, vBor, vBorT, vSrtSet, vSlT, vPl, vPl0, vPlen, vPlset, vGf, vGset, setG, Gf.d, vGfil, vGfs, vGwg, vGwi, vGws, vGwo, vGta, vGra, vGtl, vGm, vGwt, Pl.get, Pl.put,
  qI, qI0, qB0, qNeB, qEqD, qNeD, qEqL, qIn, qInE, qU, qCatL, qCatT, qIx, itemD_T, itemD_L, qLen, qList, qTuple, qSum, qAny, qAll, qSortI, qSortTI, qSortE, qAbs, qInt, qMin2, qGcd, qNotB,
  List.length_cons, List.length_nil, List.replicate_succ, List.replicate_zero, List.cons_append, List.nil_append, List.getElem?_cons_zero, List.getElem?_cons_succ, List.set_cons_zero, List.set_cons_succ, Nat.reduceAdd, Nat.reduceSub, Option.some.injEq, SD.fz.injEq, SD.own.injEq, SD.adr.injEq, PyData.int.injEq, PyData.bool.injEq, PyData.tuple.injEq, PyData.list.injEq, exists_eq_left', exists_eq_left, exists_eq, and_true, true_and, unfz, Option.map_some, and_assoc, exists_and_left, List.cons.injEq, Nat.reduceLeDiff,
  List.map_cons, List.map_nil, Int.reduceLE, Int.reduceToNat, if_true, reduceCtorEq, false_or, or_false, exists_false, ↓reduceIte, Nat.zero_le, Int.zero_le_ofNat, Int.reduceNeg])
local macro_rules | `(tactic| walk_at "wh") => `(tactic| try simp only [vWhile, vSeq, vAsg, vIfS, vRet, vRetN, vRetO, vNext, vPar, vSetO, vApp, vIns, vFrz, vDrop, vNever, vVar, vC, vOp, vUn, vTest, vChain, vIsN, vNotN, vAnd, vOr, vNot, vAndV, vIf, vaNil, vaCons, vaAdr, vTup, vLst, vCB, vCall, vCall0, vCl, vCl0, vgName, vgNil, vgCons, vgTup, vgLst, viAny, viEnum, viEnumT, viRev, viRng1, viRng2, vYes, wipeS, vTru, vOrT, vListRg, vBor, vBorT, vSrtSet, vSlT, vPl, vPl0, vPlen, vPlset, vGf, vGset, setG, Gf.d, vGfil, vGfs, vGwg, vGwi, vGws, vGwo, vGta, vGra, vGtl, vGm, vGwt, Pl.get, Pl.put,
  qI, qI0, qB0, qNeB, qEqD, qNeD, qEqL, qIn, qInE, qU, qCatL, qCatT, qIx, itemD_T, itemD_L, qLen, qList, qTuple, qSum, qAny, qAll, qSortI, qSortTI, qSortE, qAbs, qInt, qMin2, qGcd, qNotB,
  List.length_cons, List.length_nil, List.replicate_succ, List.replicate_zero, List.cons_append, List.nil_append, List.getElem?_cons_zero, List.getElem?_cons_succ, List.set_cons_zero, List.set_cons_succ, Nat.reduceAdd, Nat.reduceSub, Option.some.injEq, SD.fz.injEq, SD.own.injEq, SD.adr.injEq, PyData.int.injEq, PyData.bool.injEq, PyData.tuple.injEq, PyData.list.injEq, exists_eq_left', exists_eq_left, exists_eq, and_true, true_and, unfz, Option.map_some, and_assoc, exists_and_left, List.cons.injEq, Nat.reduceLeDiff,
  List.map_cons, List.map_nil, Int.reduceLE, Int.reduceToNat, if_true, reduceCtorEq, false_or, or_false, exists_false, ↓reduceIte, Nat.zero_le, Int.zero_le_ofNat, Int.reduceNeg])
local macro_rules | `(tactic| walk_at "sc") => `(tactic| try simp only [vLenSc, vSeq, vAsg, vIfS, vRet, vRetN, vRetO, vNext, vPar, vSetO, vApp, vIns, vFrz, vDrop, vNever, vVar, vC, vOp, vUn, vTest, vChain, vIsN, vNotN, vAnd, vOr, vNot, vAndV, vIf, vaNil, vaCons, vaAdr, vTup, vLst, vCB, vCall, vCall0, vCl, vCl0, vgName, vgNil, vgCons, vgTup, vgLst, viAny, viEnum, viEnumT, viRev, viRng1, viRng2, vYes, wipeS, vTru, vOrT, vListRg, vBor, vBorT, vSrtSet, vSlT, vPl, vPl0, vPlen, vPlset, vGf, vGset, setG, Gf.d, vGfil, vGfs, vGwg, vGwi, vGws, vGwo, vGta, vGra, vGtl, vGm, vGwt, Pl.get, Pl.put,
  qI, qI0, qB0, qNeB, qEqD, qNeD, qEqL, qIn, qInE, qU, qCatL, qCatT, qIx, itemD_T, itemD_L, qLen, qList, qTuple, qSum, qAny, qAll, qSortI, qSortTI, qSortE, qAbs, qInt, qMin2, qGcd, qNotB,
  List.length_cons, List.length_nil, List.replicate_succ, List.replicate_zero, List.cons_append, List.nil_append, List.getElem?_cons_zero, List.getElem?_cons_succ, List.set_cons_zero, List.set_cons_succ, Nat.reduceAdd, Nat.reduceSub, Option.some.injEq, SD.fz.injEq, SD.own.injEq, SD.adr.injEq, PyData.int.injEq, PyData.bool.injEq, PyData.tuple.injEq, PyData.list.injEq, exists_eq_left', exists_eq_left, exists_eq, and_true, true_and, unfz, Option.map_some, and_assoc, exists_and_left, List.cons.injEq, Nat.reduceLeDiff,
  List.map_cons, List.map_nil, Int.reduceLE, Int.reduceToNat, if_true, reduceCtorEq, false_or, or_false, exists_false, ↓reduceIte, Nat.zero_le, Int.zero_le_ofNat, Int.reduceNeg])


def spPool (K : PySem.W.Frag) : Sp := fun vs H Q _ => ∃ (a : Addr) (ns : List Int), vs = [.ref a] ∧ SqL K H a (ns.map V.int) ∧ ns.length ≤ 1000 ∧
  ∀ l p, H l = none → upd H l (.lst (ns.map V.int)) p = none → Q (.ref p) (upd (upd H l (.lst (ns.map V.int))) p (.lst [.ref l, .int 0, .int 0, .int 0, .int 0]))
section
variable {P : Program} {w : World} {K : PySem.W.Frag} {mg : Str → Option Value} {base : Heap}
theorem ok_pool (T : Tp K mg) : Cal P w K mg base 2 "_law_pool" (spPool K) [] := by
  obtain ⟨fd, F⟩ := T.f__law_pool
  refine ⟨_, fd, ["_law_script"], [], F.ok sc__law_pool (fun vs H Q E h => ?_) (fun cdv A outer s H vs Q E hr h => ?_), T.g__law_pool, F.kp, F.bindsN (fun _ _ _ _ _ _ us hl => match us, hl with | [_], _ => rfl), .nil⟩
  · obtain ⟨_, _, rfl, _⟩ := h; rfl
  have b : PSs (cxOf CX0 P w K mg base ["_law_script"] "_law_pool" (defScope s__law_pool) (He.fAd K ("_law_pool", none)) cdv A outer s H E).nox (defBody s__law_pool) _ :=
    pss_one (ps_ret (pe_lst (pa_cons (de_cty (W := W0) call_list_of sc_list (by rfl) T.z_list (by decide +kernel) (da_cons (de_var 0) da_nil)).pe (pa_cons pe_int (pa_cons pe_int (pa_cons pe_int (pa_cons pe_int pa_nil)))))))
  refine ⟨_, b.nox, ?_⟩
  obtain ⟨a, ns, rfl, hs, hl, q⟩ := h
  refine ⟨.ref a, rfl, a, ns.map V.int, rfl, .inl hs, fun l hl1 => ?_⟩
  exact ⟨by show (5 : Nat) ≤ sizeLine; rw [sizeLine_eq]; decide, fun p hp => q l p hl1 hp⟩
end
def ChOk (ws : List Way) (ps : List (Int × Int)) (is : List Int) : Prop := InR ws is ∧ Jn ws is ps ∧ is.length ≤ 24
def I_ch (ws : List Way) (ps : List (Int × Int)) (w1 : Pl) (i : Nat) (acc : List PyData) (w : Pl) : Prop := ∃ css : List (List Int), acc = css.map dT ∧ css.length = i ∧ (∀ is ∈ css, ChOk ws ps is) ∧ Stp w1 (24 * i) w
def I_ou (ns : List Int) (p : Addr) (n : Nat) (ws : List Way) (ps : List (Int × Int)) (cs : List (List Int)) (s : List SD) : Prop := ∃ o5 o6, s = [.fz (.list (ns.map .int)), .adr p, .fz (dN n ws), .fz (dPs ps), .fz (.list (cs.map dT)), o5, o6, .un]
def I_in (ns : List Int) (p : Addr) (n : Nat) (ws : List Way) (ps : List (Int × Int)) (cs : List (List Int)) (Pp : List Moat) (s : List SD) : Prop := ∃ o6, s = [.fz (.list (ns.map .int)), .adr p, .fz (dN n ws), .fz (dPs ps), .fz (.list (cs.map dT)), .fz (dPp Pp), o6, .un]
theorem costAt_of {ws : List Way} {i : Int} {v : Way} (h : ws[i.toNat]? = some v) : costAt ws i = v.2.2 := by unfold costAt; rw [h]; rfl
theorem price_bd {n : Nat} {ws : List Way} (hn : NetOk n ws) : ∀ {is : List Int}, InR ws is → 0 ≤ (is.map (costAt ws)).sum ∧ (is.map (costAt ws)).sum ≤ 10000 * is.length
  | [], _ => by simp
  | i :: is, h => by
    obtain ⟨a, b⟩ := price_bd hn (is := is) fun x hx => h x (List.mem_cons_of_mem _ hx)
    obtain ⟨c, d⟩ := h i (by simp)
    have hl : i.toNat < ws.length := by omega
    have hw : ws[i.toNat]? = some ws[i.toNat] := List.getElem?_eq_getElem hl
    have e := costAt_of hw
    have f := hn.cost _ (List.getElem_mem hl)
    rw [List.map_cons, List.sum_cons, List.length_cons, e]
    omega
def S_law : Spec W0 := fun xs _ R => ∃ ns : List Int, xs = [.fz (.list (ns.map .int))] ∧ ns.length ≤ 63 ∧ R (.bool true) ()

section
variable {P : Program} {w : World} {K : PySem.W.Frag} {mg : Str → Option Value} {base : Heap}
theorem ok_law (T : Tp K mg) (C : Tc K) (J : Ti P K mg) {fd : FuncData} (F : FunD K "law" "law" (defArgs s_law) (defBody s_law) (defScope s_law) [] [] (He.fAd K ("law", none)) fd) : FnOk P w K mg base CX0 11 (He.fAd K ("law", none)) fd ["_law_script"] (spW K W0 S_law) := by
  have c_pool := ok_pool (P := P) (w := w) (base := base) T
  have c__law_any_task := ok__law_any_task (P := P) (w := w) (base := base) T
  have c__law_drawn_paper := ok__law_drawn_paper (P := P) (w := w) (base := base) T
  have c__law_joining := ok__law_joining (P := P) (w := w) (base := base) T
  have c__law_less := ok__law_less (P := P) (w := w) (base := base) T
  have c__law_price := ok__law_price (P := P) (w := w) (base := base) T
  have c_is_paper := ok_is_paper (P := P) (w := w) (base := base) T
  have c_moats := ok_moats (P := P) (w := w) (base := base) T C J
  have c_told := ok_told (P := P) (w := w) (base := base) T C J
  have c_worth := ok_worth (P := P) (w := w) (base := base) T
  refine F.ok sc_law (fun vs H Q E h => ?_) (fun cdv A outer s H vs Q E hr h => ?_)
  · obtain ⟨_, _, _, _, _, _, ha, ⟨_, rfl, _⟩, _⟩ := h
    exact args_len ha
  have p1 : PS (cxOf CX0 P w K mg base ["_law_script", "_law_pool_here", "_law_net_here", "_law_pairs_here", "_law_choices", "_law_paper", "_law_choice", "_law_k"] "law" (defScope s_law) (He.fAd K ("law", none)) cdv A outer s H E).nox ((defBody s_law).getD 0 (.Pass ⟨0, 0, 0, 0⟩)) _ := ps_set (i := 1) sc_law.nd rfl (Or.inr rfl) (pe_c c_pool hr (by decide) rfl (pa_cons (pe_var (i := 0) rfl (Or.inl rfl)) pa_nil rfl)) rfl (Or.inl rfl)
  have dr : ∀ pl : Addr × Addr, DSs (cxOf CX0 P w K mg base ["_law_script", "_law_pool_here", "_law_net_here", "_law_pairs_here", "_law_choices", "_law_paper", "_law_choice", "_law_k"] "law" (defScope s_law) (He.fAd K ("law", none)) cdv A outer s H E).nox (WP pl) ((defBody s_law).drop 1) _ _ := fun pl => (dss_cons (ds_asg (de_clX K (i := pl) c__law_any_task hr (by decide) rfl (da_adr 1 da_nil)) (dg_tupK K (n := 2) rfl (dgs_cons (dgn 2 sc_law.nd) (dgs_cons (dgn 3 sc_law.nd) dgs_nil))))
      (dss_cons (dset 4 sc_law.nd (de_op op_catL so_catL (de_lc (own := [("_law_k", 7)]) rfl sc_law.nd (di_rng1 rfl T.z_range (da_cons de_int da_nil)) (blkOk_by (by kernel_rfl)) (fun _ _ _ _ _ => (dgn 7 sc_law.nd)) (fun _ _ _ _ _ => dts_nil) (fun _ _ _ _ _ => (de_clX K (i := pl) c__law_joining hr (by decide) rfl (da_adr 1 (da_cons (de_var 2) (da_cons (de_var 3) da_nil))))) go_name) (de_lst (da_cons (de_cl0K K c_told hr (by decide) rfl (da_cons (de_var 2) (da_cons (de_var 3) da_nil))) da_nil))))
      (dss_cons (ds_for PassesOwn.never rfl (di_seqK K (de_lst (da_cons (de_cl0K K c_moats hr (by decide) rfl (da_cons (de_var 2) (da_cons (de_var 3) da_nil))) (da_cons (de_clX K (i := pl) c__law_drawn_paper hr (by decide) rfl (da_adr 1 (da_cons (de_var 2) (da_cons (de_var 3) da_nil)))) da_nil)))) (dgn 5 sc_law.nd) (dss_cons (ds_if (dt_cmp op_notBl so_notB (de_cl0K K c_is_paper hr (by decide) rfl (da_cons (de_var 2) (da_cons (de_var 3) (da_cons (de_var 5) da_nil)))) de_bl (nomark _)) (dss_one (ds_ret de_bl)) dss_nil)
      (dss_one (ds_for PassesOwn.never rfl (di_seqK K (de_var 4)) (dgn 6 sc_law.nd) (dss_one (ds_if (dt_val (de_cl0K K c__law_less hr (by decide) rfl (da_cons (de_tup (da_cons (de_cl0K K c__law_price hr (by decide) rfl (da_cons (de_var 2) (da_cons (de_var 6) da_nil))) (da_cons de_int da_nil))) (da_cons (de_cl0K K c_worth hr (by decide) rfl (da_cons (de_var 5) da_nil)) da_nil)))) (dss_one (ds_ret de_bl)) dss_nil))))))
      (dss_one (ds_ret de_bl)))))
  have b : PSs (cxOf CX0 P w K mg base ["_law_script", "_law_pool_here", "_law_net_here", "_law_pairs_here", "_law_choices", "_law_paper", "_law_choice", "_law_k"] "law" (defScope s_law) (He.fAd K ("law", none)) cdv A outer s H E).nox (defBody s_law) _ := pss_cons p1 (dr (0, 0)).pe
  refine ⟨_, b.nox, ?_⟩
  have sn := fun pl => (dr pl).sn
  clear b dr p1
  obtain ⟨F1, xs, _, Q', sf, _, ha, ⟨ns, rfl, hl, q⟩, kk⟩ := h
  obtain ⟨v, rfl, pv⟩ := dpa_inv1' ha
  obtain ⟨a, rfl, hs⟩ : ∃ a, v = .ref a ∧ SqL K F1 a (ns.map V.int) := by
    cases pv with
    | lst hs hd => rw [dpa_ints hd] at hs; exact ⟨_, rfl, hs⟩
  refine ⟨.ref a, rfl, a, ns, rfl, sf.seq hs, by omega, fun l p hl1 hp => ?_⟩
  have npl : p ≠ l := fun z => by rw [z, upd_same] at hp; cases hp
  have hp0 : H p = none := by rw [upd_ne npl] at hp; exact hp
  have ex := ext_new (W := WP (p, l)) (o := .lst [.ref l, .int 0, .int 0, .int 0, .int 0]) (ext_new (o := .lst (ns.map V.int)) (Ext.refl sf) hl1) hp
  have sl : ∀ (i : Nat) (x : SD), ([.fz (.list (ns.map .int)), .adr p, .un, .un, .un, .un, .un, .un] : List SD)[i]? = some x → SlotOk K (WP (p, l)) H F1 (upd (upd H l (.lst (ns.map V.int))) p (.lst [.ref l, .int 0, .int 0, .int 0, .int 0])) ((start ["_law_script", "_law_pool_here", "_law_net_here", "_law_pairs_here", "_law_choices", "_law_paper", "_law_choice", "_law_k"] [.ref a]).set 1 (some (.ref p)))[i]? x := fun i x hx => by
    match i, hx with
    | 0, hx => cases hx; exact ⟨.ref a, rfl, pv⟩
    | 1, hx => cases hx; rfl
    | 2, hx => cases hx; trivial
    | 3, hx => cases hx; trivial
    | 4, hx => cases hx; trivial
    | 5, hx => cases hx; trivial
    | 6, hx => cases hx; trivial
    | 7, hx => cases hx; trivial
    | i + 8, hx => cases hx
  have no : ∀ (i : Nat) (ds : List PyData), ([.fz (.list (ns.map .int)), .adr p, .un, .un, .un, .un, .un, .un] : List SD)[i]? = some (SD.own ds) → False := fun i ds hi => by
    match i, hi with
    | 0, hi => cases hi
    | 1, hi => cases hi
    | 2, hi => cases hi
    | 3, hi => cases hi
    | 4, hi => cases hi
    | 5, hi => cases hi
    | 6, hi => cases hi
    | 7, hi => cases hi
    | i + 8, hi => cases hi
  refine sn (p, l) F1 H F1 _ _ [.fz (.list (ns.map .int)), .adr p, .un, .un, .un, .un, .un, .un] ⟨ns, 0, 0, 0, 0⟩ { nx := fun _ _ => False, rt := fun d _ => Q' d (), bk := fun _ _ => False, ct := fun _ _ => False } _
    ⟨ex, ⟨npl, sf.free hp0, sf.free hl1, upd_same, by rw [upd_ne npl.symm]; exact upd_same⟩, rfl, sl, fun i j ds es hi => (no i ds hi).elim⟩ ?_ ⟨fun _ _ _ _ _ _ _ z => z.elim, fun v F' H' d w' e r p' q' => ?_, fun _ _ _ _ _ _ _ z => z.elim, fun _ _ _ _ _ _ _ z => z.elim⟩
  · clear sn sl no
    rw [vSeq_eq]
    walk_at "st"
    simp only [S__law_any_task]
    refine ⟨by trivial, ⟨⟨Int.le_refl _, Int.le_refl _, Int.le_refl _, by show (0 : Int) < 10 ^ 18; decide, Int.le_refl _, by show (0 : Int) ≤ 1000000; decide⟩, by show (0 : Int) + 222 ≤ 1000000; decide⟩, fun n ws ps w1 hn hps h6 hj hw1 => ?_⟩
    have pg : PGi n ws ps := ⟨hn, hps, h6, hj⟩
    walk_at "st"
    rw [vSeq_eq]
    walk_at "stl"
    refine ⟨by decide, fun i acc w' => I_ch ws ps w1 i acc w', ⟨[], rfl, rfl, fun is h => by simp at h, ⟨hw1.ok, by omega⟩⟩, fun i d acc w2 hd hI => ?_, fun acc w2 hI _ => ?_⟩
    · obtain ⟨rfl, hi⟩ := rget hd
      obtain ⟨css, rfl, hlen, hcs, hw2⟩ := hI
      simp only [S__law_joining]
      refine ⟨n, ws, ps, rfl, hn, hps, by omega, hj, ⟨hw2.ok, ?_⟩, fun is w3 g1 g2 g3 hw3 => ⟨css ++ [is], by rw [List.map_append]; rfl, by rw [List.length_append, hlen]; rfl, fun x hx => ?_, ⟨hw3.ok, ?_⟩⟩⟩
      · have := hw2.b
        have := hw1.b
        have : (Pl.mk ns 0 0 0 0).m = 0 := rfl
        omega
      · rcases List.mem_append.mp hx with hx | hx
        · exact hcs x hx
        · rw [List.mem_singleton] at hx
          subst hx
          exact ⟨g1, g2, g3⟩
      · have := hw2.b
        have := hw3.b
        push_cast
        omega
    · obtain ⟨css, rfl, hlen, hcs, hw2⟩ := hI
      have hl4 : (rng 0 4).length = 4 := rfl
      rw [hl4] at hlen hw2
      walk_at "st"
      simp only [S_told]
      refine ⟨n, ws, ps, by trivial, pg, fun is0 g1 g2 g3 => ⟨by rw [List.length_map]; omega, ?_⟩⟩
      rw [show css.map dT ++ [PyData.tuple (is0.map .int)] = (css ++ [is0]).map dT by rw [List.map_append]; rfl]
      have hcs' : ∀ is ∈ css ++ [is0], ChOk ws ps is := fun x hx => by
        rcases List.mem_append.mp hx with hx | hx
        · exact hcs x hx
        · rw [List.mem_singleton] at hx
          subst hx
          exact ⟨g1, g3, by omega⟩
      generalize css ++ [is0] = cs at hcs' ⊢
      rw [vSeq_eq]
      walk_at "stf"
      simp only [S_moats]
      refine ⟨n, ws, ps, by trivial, pg, fun P1 hP1 => ?_⟩
      simp only [S__law_drawn_paper]
      refine ⟨n, ws, ps, by trivial, hn, h6, ⟨hw2.ok, ?_⟩, fun P2 w4 hP2 hw4 => ?_⟩
      · have := hw2.b
        have := hw1.b
        have : (Pl.mk ns 0 0 0 0).m = 0 := rfl
        omega
      refine ⟨fun i s w' => I_ou ns p n ws ps cs s, ⟨_, _, rfl⟩, fun i s w5 d hd hI => ?_, fun s w5 hI => q⟩
      obtain ⟨o5, o6, rfl⟩ := hI
      obtain ⟨Pp, rfl, hP⟩ : ∃ Pp, d = dPp Pp ∧ PapOk n ws ps Pp := by
        match i, hd with
        | 0, hd => cases hd; exact ⟨P1, rfl, hP1⟩
        | 1, hd => cases hd; exact ⟨P2, rfl, hP2⟩
        | i + 2, hd => cases hd
      rw [vSeq_eq]
      walk_at "st"
      simp only [S_is_paper]
      refine ⟨n, ws, ps, Pp, by trivial, hn, by omega, hP, _, rfl, ?_⟩
      rw [if_neg (by decide)]
      walk_at "stf"
      refine ⟨fun i s w' => I_in ns p n ws ps cs Pp s, ⟨_, rfl⟩, fun i s w6 d hd hI => ?_, fun s w6 hI => ?_⟩
      · obtain ⟨o6, rfl⟩ := hI
        obtain ⟨is, his, rfl⟩ := mget hd
        obtain ⟨c1, c2, c3⟩ := hcs' is (List.mem_of_getElem? his)
        walk_at "st"
        simp only [S__law_price]
        refine ⟨n, ws, _, is, rfl, .inr rfl, c1, by omega, ?_⟩
        simp only [S_worth]
        refine ⟨Pp, by trivial, hP.sm, hP.ln, ?_⟩
        simp only [S__law_less]
        have bd := price_bd hn c1
        have nl : ¬ (((is.map (costAt ws)).sum : Int) : Rat) < rs (Pp.map (·.2)) := Rat.not_lt.mpr (dual hP c1 c2 fun i hi v hv => costAt_of hv)
        refine ⟨(((is.map (costAt ws)).sum : Int) : Rat), rs (Pp.map (·.2)), by rw [dR_int], sm_int (Nat.lt_of_lt_of_le (show ((is.map (costAt ws)).sum).natAbs < 2 ^ 20 by omega) two20), hP.sm _ (List.Sublist.refl _), ?_⟩
        refine ⟨_, rfl, ?_⟩
        rw [if_neg (by rw [decide_eq_true_eq]; exact nl)]
        exact ⟨_, rfl⟩
      · obtain ⟨o6, rfl⟩ := hI
        exact ⟨_, _, rfl⟩
  · refine kk v F' H' d () ⟨e.sub, e.ff, fun b o hb _ => e.hh b o hb fun z => ?_, e.dm, e.nw⟩ trivial p' q'
    rcases z with rfl | rfl
    · rw [hp0] at hb; cases hb
    · rw [hl1] at hb; cases hb
end
end L2.VL
/-! part Hd2 -/
set_option Elab.async false
set_option linter.all false
set_option autoImplicit false
set_option maxRecDepth 100000
set_option maxHeartbeats 4000000
namespace L2.VL
open PySem PySem.Spec PyProof.Rows L2 C8
theorem pg_ok {K : PySem.W.Frag} (e : pgObs K = pgVal) (c : pgB K = true) : ∃ (oc : Value) (od : Option Addr) (kV doc pm : Value) (an : Option Addr) (cda cc : Addr) (ct : Value) (osl : Array (Option Value)),
    K.lookup (fA K "__init__") = some ⟨oc, od, .func (PySem.W.fnX "__init__" "PairGrowth.__init__" (defArgs s_PairGrowthU_initU) bPG scPG [("__class__", cc)] .none kV doc pm an (.ref cda) ct), osl⟩ ∧ PySem.W.codeIn K (.ref cda) "PairGrowth.__init__" = true ∧
    (∃ ccl cdd vs ccs file tf, K.lookup cda = some ⟨ccl, cdd, .fields vs, ccs⟩ ∧ vs[2]? = some (.str file tf) ∧ ((pgm.main.file : Str) == file) = true) ∧ ∃ cl cld csl, K.lookup cc = some ⟨cl, cld, .cell (some (.ref (gC K))), csl⟩ := by
  unfold pgObs at e
  unfold pgB at c
  cases q : K.lookup (fA K "__init__") with
  | none => rw [q] at c; cases c
  | some o =>
    obtain ⟨oc, od, dt, osl⟩ := o
    rw [q] at c e
    cases dt with
    | func fd =>
      obtain ⟨n1, n2, n3, n4, n5, n6, n7, n8, n9, n10, n11, n12, n13, n14, n15⟩ := fd
      obtain ⟨c1, c2⟩ := He.ba c
      obtain ⟨c2, c3⟩ := He.ba c2
      obtain ⟨c3, c4⟩ := He.ba c3
      have e2 : (some (n1, n2, n3, n4, n5, n6, n7.map (·.1), n15) : FnC) = pgVal := e
      unfold pgVal at e2
      simp only [Option.some.injEq, Prod.mk.injEq] at e2
      obtain ⟨h1, h2, h3, h4, h5, h6, h7, h8⟩ := e2
      clear e c
      have c1 : noneB n8 = true := c1
      have c2 : PySem.W.codeIn K n13 "PairGrowth.__init__" = true := c2
      have d3 : fileB K n13 = true := c3
      have d4 : cellB K n7 = true := c4
      clear c3 c4
      have en : n8 = .none := by
        unfold noneB at c1
        split at c1
        · rfl
        · cases c1
      cases n13 with
      | ref cda =>
        have d3 : (match K.lookup cda with
          | some ⟨_, _, .fields vs, _⟩ => (match (vs[2]? : Option Value) with
            | some (Value.str f _) => (pgm.main.file : Str) == f
            | _ => false)
          | _ => false) = true := d3
        cases hl : K.lookup cda with
        | none => rw [hl] at d3; cases d3
        | some ob =>
          obtain ⟨ccl, cdd, dd, ccs⟩ := ob
          rw [hl] at d3
          cases dd with
          | fields vs =>
            have d3 : (match (vs[2]? : Option Value) with
              | some (Value.str f _) => (pgm.main.file : Str) == f
              | _ => false) = true := d3
            cases hv : (vs[2]? : Option Value) with
            | none => rw [hv] at d3; cases d3
            | some sv =>
              rw [hv] at d3
              cases sv with
              | str f t =>
                cases n7 with
                | nil => exact absurd (show false = true from d4) (by decide)
                | cons p r =>
                  obtain ⟨y, cc⟩ := p
                  cases r with
                  | cons _ _ => exact absurd (show false = true from d4) (by decide)
                  | nil =>
                    have ey : y = ("__class__" : Str) := (List.cons.inj h7).1
                    have d5 : (match K.lookup cc with
                      | some ⟨_, _, .cell (some (.ref D)), _⟩ => decide (D = gC K)
                      | _ => false) = true := d4
                    split at d5
                    · rename_i cl cld D csl hc
                      have eD : D = gC K := of_decide_eq_true d5
                      rw [eD] at hc
                      subst h1 h2 h3 h4 h5 h6 h8 ey en
                      exact ⟨oc, od, n9, n10, n11, n12, cda, cc, n14, osl, rfl, c2, ⟨ccl, cdd, vs, ccs, f, t, hl, hv, d3⟩, cl, cld, csl, hc⟩
                    · cases d5
              | _ => cases d3
          | _ => cases d3
      | _ => cases d3
    | _ => cases c
section
variable {K : PySem.W.Frag} {h : Heap} {mg : Str → Option Value}
theorem tp_of (X : K.In h) (G : h.Ns mainGlobals mg) (s : Sy K) : Tp K mg where
  f_groups := s.a.def_ 0 (d := d_groups) rfl
  f_all_ways := s.a.def_ 1 (d := d_all_ways) rfl
  f_group_of := s.a.def_ 2 (d := d_group_of) rfl
  f_first_apart := s.a.def_ 3 (d := d_first_apart) rfl
  f_joins := s.a.def_ 4 (d := d_joins) rfl
  f_crosses := s.a.def_ 5 (d := d_crosses) rfl
  f_ratio := s.a.def_ 6 (d := d_ratio) rfl
  f_plus := s.a.def_ 7 (d := d_plus) rfl
  f_minus := s.a.def_ 8 (d := d_minus) rfl
  f_times := s.a.def_ 9 (d := d_times) rfl
  f_over := s.a.def_ 10 (d := d_over) rfl
  f_less := s.a.def_ 11 (d := d_less) rfl
  f_total := s.a.def_ 12 (d := d_total) rfl
  f_is_moat := s.a.def_ 13 (d := d_is_moat) rfl
  f_are_moats := s.a.def_ 14 (d := d_are_moats) rfl
  f_keeps_costs := s.a.def_ 15 (d := d_keeps_costs) rfl
  f_is_paper := s.a.def_ 16 (d := d_is_paper) rfl
  f_worth := s.a.def_ 17 (d := d_worth) rfl
  f_GrowthU_initU := s.a.def_ 18 (d := d_GrowthU_initU) rfl
  f_Growth_is_open := s.a.def_ 19 (d := d_Growth_is_open) rfl
  f_Growth_came := s.a.def_ 20 (d := d_Growth_came) rfl
  f_Growth_rested := s.a.def_ 21 (d := d_Growth_rested) rfl
  f_Growth_waits := s.a.def_ 22 (d := d_Growth_waits) rfl
  f_Growth_between := s.a.def_ 23 (d := d_Growth_between) rfl
  f_Growth_full_way := s.a.def_ 24 (d := d_Growth_full_way) rfl
  f_Growth_take_full_ways := s.a.def_ 25 (d := d_Growth_take_full_ways) rfl
  f_Growth_rates := s.a.def_ 26 (d := d_Growth_rates) rfl
  f_Growth_step := s.a.def_ 27 (d := d_Growth_step) rfl
  f_Growth_pass_time := s.a.def_ 28 (d := d_Growth_pass_time) rfl
  f_Growth_still_open := s.a.def_ 29 (d := d_Growth_still_open) rfl
  f_Growth_grow := s.a.def_ 30 (d := d_Growth_grow) rfl
  f_Growth_paper := s.a.def_ 31 (d := d_Growth_paper) rfl
  f_PairGrowth_is_open := s.a.def_ 32 (d := d_PairGrowth_is_open) rfl
  f_told := s.a.def_ 33 (d := d_told) rfl
  f_moats := s.a.def_ 34 (d := d_moats) rfl
  f__law_pool := s.a.def_ 35 (d := d__law_pool) rfl
  f__law_draw := s.a.def_ 36 (d := d__law_draw) rfl
  f__law_pick := s.a.def_ 37 (d := d__law_pick) rfl
  f__law_gcd := s.a.def_ 38 (d := d__law_gcd) rfl
  f__law_ratio := s.a.def_ 39 (d := d__law_ratio) rfl
  f__law_plus := s.a.def_ 40 (d := d__law_plus) rfl
  f__law_minus := s.a.def_ 41 (d := d__law_minus) rfl
  f__law_times := s.a.def_ 42 (d := d__law_times) rfl
  f__law_less := s.a.def_ 43 (d := d__law_less) rfl
  f__law_sum := s.a.def_ 44 (d := d__law_sum) rfl
  f__law_cost := s.a.def_ 45 (d := d__law_cost) rfl
  f__law_way := s.a.def_ 46 (d := d__law_way) rfl
  f__law_net := s.a.def_ 47 (d := d__law_net) rfl
  f__law_pairs := s.a.def_ 48 (d := d__law_pairs) rfl
  f__law_group := s.a.def_ 49 (d := d__law_group) rfl
  f__law_joins := s.a.def_ 50 (d := d__law_joins) rfl
  f__law_price := s.a.def_ 51 (d := d__law_price) rfl
  f__law_open := s.a.def_ 52 (d := d__law_open) rfl
  f__law_task := s.a.def_ 53 (d := d__law_task) rfl
  f__law_any_task := s.a.def_ 54 (d := d__law_any_task) rfl
  f__law_set := s.a.def_ 55 (d := d__law_set) rfl
  f__law_drawn_paper := s.a.def_ 56 (d := d__law_drawn_paper) rfl
  f__law_joining := s.a.def_ 57 (d := d__law_joining) rfl
  f_law := s.a.def_ 58 (d := d_law) rfl
  g_groups := He.glo_ok X G (s.a.fact 0 (f := .glo "groups") rfl)
  g_all_ways := He.glo_ok X G (s.a.fact 1 (f := .glo "all_ways") rfl)
  g_group_of := He.glo_ok X G (s.a.fact 2 (f := .glo "group_of") rfl)
  g_first_apart := He.glo_ok X G (s.a.fact 3 (f := .glo "first_apart") rfl)
  g_joins := He.glo_ok X G (s.a.fact 4 (f := .glo "joins") rfl)
  g_crosses := He.glo_ok X G (s.a.fact 5 (f := .glo "crosses") rfl)
  g_ratio := He.glo_ok X G (s.a.fact 6 (f := .glo "ratio") rfl)
  g_plus := He.glo_ok X G (s.a.fact 7 (f := .glo "plus") rfl)
  g_minus := He.glo_ok X G (s.a.fact 8 (f := .glo "minus") rfl)
  g_times := He.glo_ok X G (s.a.fact 9 (f := .glo "times") rfl)
  g_over := He.glo_ok X G (s.a.fact 10 (f := .glo "over") rfl)
  g_less := He.glo_ok X G (s.a.fact 11 (f := .glo "less") rfl)
  g_total := He.glo_ok X G (s.a.fact 12 (f := .glo "total") rfl)
  g_is_moat := He.glo_ok X G (s.a.fact 13 (f := .glo "is_moat") rfl)
  g_are_moats := He.glo_ok X G (s.a.fact 14 (f := .glo "are_moats") rfl)
  g_keeps_costs := He.glo_ok X G (s.a.fact 15 (f := .glo "keeps_costs") rfl)
  g_is_paper := He.glo_ok X G (s.a.fact 16 (f := .glo "is_paper") rfl)
  g_worth := He.glo_ok X G (s.a.fact 17 (f := .glo "worth") rfl)
  g_told := He.glo_ok X G (s.a.fact 18 (f := .glo "told") rfl)
  g_moats := He.glo_ok X G (s.a.fact 19 (f := .glo "moats") rfl)
  g__law_pool := He.glo_ok X G (s.a.fact 20 (f := .glo "_law_pool") rfl)
  g__law_draw := He.glo_ok X G (s.a.fact 21 (f := .glo "_law_draw") rfl)
  g__law_pick := He.glo_ok X G (s.a.fact 22 (f := .glo "_law_pick") rfl)
  g__law_gcd := He.glo_ok X G (s.a.fact 23 (f := .glo "_law_gcd") rfl)
  g__law_ratio := He.glo_ok X G (s.a.fact 24 (f := .glo "_law_ratio") rfl)
  g__law_plus := He.glo_ok X G (s.a.fact 25 (f := .glo "_law_plus") rfl)
  g__law_minus := He.glo_ok X G (s.a.fact 26 (f := .glo "_law_minus") rfl)
  g__law_times := He.glo_ok X G (s.a.fact 27 (f := .glo "_law_times") rfl)
  g__law_less := He.glo_ok X G (s.a.fact 28 (f := .glo "_law_less") rfl)
  g__law_sum := He.glo_ok X G (s.a.fact 29 (f := .glo "_law_sum") rfl)
  g__law_cost := He.glo_ok X G (s.a.fact 30 (f := .glo "_law_cost") rfl)
  g__law_way := He.glo_ok X G (s.a.fact 31 (f := .glo "_law_way") rfl)
  g__law_net := He.glo_ok X G (s.a.fact 32 (f := .glo "_law_net") rfl)
  g__law_pairs := He.glo_ok X G (s.a.fact 33 (f := .glo "_law_pairs") rfl)
  g__law_group := He.glo_ok X G (s.a.fact 34 (f := .glo "_law_group") rfl)
  g__law_joins := He.glo_ok X G (s.a.fact 35 (f := .glo "_law_joins") rfl)
  g__law_price := He.glo_ok X G (s.a.fact 36 (f := .glo "_law_price") rfl)
  g__law_open := He.glo_ok X G (s.a.fact 37 (f := .glo "_law_open") rfl)
  g__law_task := He.glo_ok X G (s.a.fact 38 (f := .glo "_law_task") rfl)
  g__law_any_task := He.glo_ok X G (s.a.fact 39 (f := .glo "_law_any_task") rfl)
  g__law_set := He.glo_ok X G (s.a.fact 40 (f := .glo "_law_set") rfl)
  g__law_drawn_paper := He.glo_ok X G (s.a.fact 41 (f := .glo "_law_drawn_paper") rfl)
  g__law_joining := He.glo_ok X G (s.a.fact 42 (f := .glo "_law_joining") rfl)
  g_law := He.glo_ok X G (s.a.fact 43 (f := .glo "law") rfl)
  g_ZERO := He.glo_ok X G (s.a.fact 44 (f := .glo "ZERO") rfl)
  g_Growth := He.glo_ok X G (s.a.fact 45 (f := .glo "Growth") rfl)
  g_PairGrowth := He.glo_ok X G (s.a.fact 46 (f := .glo "PairGrowth") rfl)
  z_len := He.free_ok X G (s.a.fact 47 (f := .free "len") rfl)
  z_range := He.free_ok X G (s.a.fact 48 (f := .free "range") rfl)
  z_sorted := He.free_ok X G (s.a.fact 49 (f := .free "sorted") rfl)
  z_tuple := He.free_ok X G (s.a.fact 50 (f := .free "tuple") rfl)
  z_list := He.free_ok X G (s.a.fact 51 (f := .free "list") rfl)
  z_enumerate := He.free_ok X G (s.a.fact 52 (f := .free "enumerate") rfl)
  z_reversed := He.free_ok X G (s.a.fact 53 (f := .free "reversed") rfl)
  z_any := He.free_ok X G (s.a.fact 54 (f := .free "any") rfl)
  z_all := He.free_ok X G (s.a.fact 55 (f := .free "all") rfl)
  z_sum := He.free_ok X G (s.a.fact 56 (f := .free "sum") rfl)
  z_min := He.free_ok X G (s.a.fact 57 (f := .free "min") rfl)
  z_abs := He.free_ok X G (s.a.fact 58 (f := .free "abs") rfl)
  z_int := He.free_ok X G (s.a.fact 59 (f := .free "int") rfl)
  z_set := He.free_ok X G (s.a.fact 60 (f := .free "set") rfl)
  zero := (He.ba s.b).1
  g_gcd := PySem.W.mg_of X G (He.eqO_ok (He.ba (He.ba s.b).2).1)
theorem tc_of (s : Sy K) : Tc K where
  cf := ⟨He.cls_ok (s.a.fact 62 (f := .cls "PairGrowth") rfl), He.noat_ok (s.a.fact 63 (f := .noat "PairGrowth" "net") rfl), He.noat_ok (s.a.fact 64 (f := .noat "PairGrowth" "ways") rfl), He.noat_ok (s.a.fact 65 (f := .noat "PairGrowth" "time") rfl), He.noat_ok (s.a.fact 66 (f := .noat "PairGrowth" "parts") rfl), He.noat_ok (s.a.fact 67 (f := .noat "PairGrowth" "filled") rfl), He.noat_ok (s.a.fact 68 (f := .noat "PairGrowth" "widths") rfl), He.noat_ok (s.a.fact 69 (f := .noat "PairGrowth" "taken") rfl), He.noat_ok (s.a.fact 70 (f := .noat "PairGrowth" "rows") rfl), He.noat_ok (s.a.fact 71 (f := .noat "PairGrowth" "pairs") rfl)⟩
  m_came := He.meth_ok (s.a.fact 72 (f := .meth "PairGrowth" "came") rfl)
  m_rested := He.meth_ok (s.a.fact 73 (f := .meth "PairGrowth" "rested") rfl)
  m_waits := He.meth_ok (s.a.fact 74 (f := .meth "PairGrowth" "waits") rfl)
  m_between := He.meth_ok (s.a.fact 75 (f := .meth "PairGrowth" "between") rfl)
  m_full_way := He.meth_ok (s.a.fact 76 (f := .meth "PairGrowth" "full_way") rfl)
  m_take_full_ways := He.meth_ok (s.a.fact 77 (f := .meth "PairGrowth" "take_full_ways") rfl)
  m_rates := He.meth_ok (s.a.fact 78 (f := .meth "PairGrowth" "rates") rfl)
  m_step := He.meth_ok (s.a.fact 79 (f := .meth "PairGrowth" "step") rfl)
  m_pass_time := He.meth_ok (s.a.fact 80 (f := .meth "PairGrowth" "pass_time") rfl)
  m_still_open := He.meth_ok (s.a.fact 81 (f := .meth "PairGrowth" "still_open") rfl)
  m_grow := He.meth_ok (s.a.fact 82 (f := .meth "PairGrowth" "grow") rfl)
  m_paper := He.meth_ok (s.a.fact 83 (f := .meth "PairGrowth" "paper") rfl)
  m_is_open := He.meth_ok (s.a.fact 84 (f := .meth "PairGrowth" "is_open") rfl)
theorem ti_of (X : K.In h) (G : h.Ns mainGlobals mg) (s : Sy K) : Ti pgm K mg := by
  obtain ⟨_, b⟩ := He.ba s.b
  obtain ⟨_, b⟩ := He.ba b
  obtain ⟨b1, b⟩ := He.ba b
  obtain ⟨b2, b⟩ := He.ba b
  obtain ⟨b3, b⟩ := He.ba b
  obtain ⟨b4, b⟩ := He.ba b
  obtain ⟨b5, b⟩ := He.ba b
  obtain ⟨b6, b7⟩ := He.ba b
  exact ⟨pg_ok s.c b1, Option.isSome_iff_exists.mp b2, of_decide_eq_true b3, He.free_ok X G (s.a.fact 61 (f := .free "super") rfl), He.eqO_ok b4, He.eqO_ok b5, of_decide_eq_true b6, b7, He.mkr_ok (s.a.fact 85 (f := .mkr "PairGrowth") rfl), by kernel_rfl⟩
end
end L2.VL
/-! part Fin -/
set_option Elab.async false
set_option linter.all false
set_option maxRecDepth 100000
set_option maxHeartbeats 0
namespace L2.VL
open PySem PySem.Spec PyProof.Rows L2 C8
theorem facts {w : World} {K : PySem.W.Frag} {h : Heap} {mg : Str → Option Value} {f : Addr} (X : K.In h) (G : h.Ns mainGlobals mg) (hfa : mg ("law" : Str) = some (.ref f)) (c : Sy K) :
    ∃ fd : FuncData, (∀ (s : Shared) (v : Value), BindsTo s fd ⟨[v], []⟩ [("_law_script", v)]) ∧ ∀ base : Heap, FnOk pgm w K mg base CX0 11 f fd ["_law_script"] (spW K W0 S_law) := by
  have T := tp_of X G c
  have C := tc_of c
  have J := ti_of X G c
  have e := hfa.symm.trans T.g_law
  cases e
  obtain ⟨fd, F⟩ := T.f_law
  exact ⟨fd, fun s v => FunD.bindsA (ps := ["_law_script"]) F (fun _ _ _ _ _ _ us hl => match us, hl with | [_], _ => rfl) s [v] rfl, fun base => ok_law T C J F⟩
theorem start_law {K : PySem.W.Frag} {H : Hp} {a : Addr} {ns : List Int} (hl : ns.length ≤ 63) (hS : SqL K H a (ns.map V.int)) : spW K W0 S_law [.ref a] H (fun v _ => v = .bl true) fun _ _ _ => False := by
  refine ⟨H, [.fz (.list (ns.map .int))], (), fun d _ => d = .bool true, Same.refl _, trivial, ArgsOk.of (.cons (.lst hS (ints_dpa ns)) .nil), ⟨ns, rfl, hl, rfl⟩, fun v F' H' d w' e r p q => ?_⟩
  subst q
  cases p
  rfl
end L2.VL
open PySem PySem.W PySem.Calls PyProof.Rows
theorem PySem.Challenge.cw_moatways_k08_whole_no_choice_costs_less_holds : PySem.Challenge.rw_moatways_k08_whole_no_choice_costs_less.Holds := by
  w_on; o_law
  refine HandSHeadRun.head_imp (r := OpenLaw.row PySem.Challenge.rw_moatways_k08_whole_no_choice_costs_less) (q := view (OpenLaw.row PySem.Challenge.rw_moatways_k08_whole_no_choice_costs_less).prog [0, 56]) (H := L2.VL.hkM) (ob := L2.VL.obM) (M := 4000) (loose := L2.VL.looseI) (d := HandSHeadRun.topDef (OpenLaw.row PySem.Challenge.rw_moatways_k08_whole_no_choice_costs_less).prog 56) (kwd := []) L2.VL.obM_eq
    L2.VL.runM (by kernel_rfl) (by kernel_rfl) (by kernel_rfl) (by rfl) (by first | assumption | decide +kernel) (by decide +kernel) ⟨rfl, rfl, rfl, rfl, rfl, by decide +kernel⟩ ?hw ?hc
  case hw => w_witness2
  case hc =>
    refine L2.walk_ofE (l := PySem.Challenge.rw_moatways_k08_whole_no_choice_costs_less) (n := 63) (k := 11) (x := "_law_script") (CX := L2.CX0) rfl (by decide) (by kernel_rfl) ⟨rfl, by decide, by decide⟩ ?F (fun _ _ _ _ z => z)
    intro w mg fa h Y G hmg0
    obtain ⟨K, KX, c⟩ := Y
    have hmg : mg ("law" : PySem.Str) = some (.ref fa) := by
      have e : (HandSHeadRun.topDef (OpenLaw.row PySem.Challenge.rw_moatways_k08_whole_no_choice_costs_less).prog 56).name = ("law" : PySem.Str) := by kernel_rfl
      rw [← e]
      exact hmg0
    obtain ⟨fd, hb, hF⟩ := L2.VL.facts (w := w) KX G hmg c
    exact ⟨K, fd, L2.VL.spW K L2.VL.W0 L2.VL.S_law, KX, hb, fun H a ns hl _ hS => L2.VL.start_law hl hS, fun base _ _ => hF base⟩

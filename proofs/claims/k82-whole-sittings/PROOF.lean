import PyProof.Rows.All
import Wide.All
import OpenK.AllK
import Wide.FinOn
import KE.KStateDown
import HandS.ForMost
import HandS.Defaults
import HandS.Head0
import HandS.Head1
import HandS.Head2
import HandS.HeadEnd
import HandS.HeadHook1
import HandS.HeadHook2
import HandS.HeadHook4
import PySem.Challenge.RW_cornerbids_k82_whole_sittings_by_own_acc
import HandS.Flow
import HandS.Wide
import HandS.Codes
import HandS.IsInst
import HandS.TupAny
import HandS.More
import HandS.Comp
import HandS.DictComp
import HandS.DictTup
import HandS.Conv
import KE.GoesEnum
import KE.KDictWalk
import HandS.Zip
import HandS.SetFor
import HandS.Strs
import HandS.TupSets
set_option Elab.async false
set_option linter.all false
set_option maxRecDepth 100000
set_option maxHeartbeats 4000000
namespace Cb
open PySem PySem.Spec PyProof.Rows L2
def topS (i : Nat) : Stmt := PySem.Challenge.pw_cornerbids_k82_whole_sittings_by_own_acc.main.body.getD i (.Pass ⟨0, 0, 0, 0⟩)
abbrev s_is_integer : Stmt := topS 11
abbrev s_divisor : Stmt := topS 12
abbrev s_made : Stmt := topS 13
abbrev s_plus : Stmt := topS 14
abbrev s_minus : Stmt := topS 15
abbrev s_times : Stmt := topS 16
abbrev s_over : Stmt := topS 17
abbrev s_is_less : Stmt := topS 18
abbrev s_least_of : Stmt := topS 19
abbrev s_greatest_of : Stmt := topS 20
abbrev s_ascending : Stmt := topS 21
abbrev s_middle : Stmt := topS 22
abbrev s_is_fraction : Stmt := topS 23
abbrev s_is_within : Stmt := topS 27
abbrev s_is_number : Stmt := topS 28
abbrev s_check_number : Stmt := topS 29
abbrev s_are_numbers : Stmt := topS 30
abbrev s_check_wishes : Stmt := topS 31
abbrev s_is_person : Stmt := topS 32
abbrev s_is_row_of_all : Stmt := topS 33
abbrev s_check_schedule : Stmt := topS 34
abbrev s_mean_of : Stmt := topS 36
abbrev s_ranked_of : Stmt := topS 37
abbrev s_value_of : Stmt := topS 38
abbrev s_flat : Stmt := topS 40
abbrev s_rising : Stmt := topS 41
abbrev s_between_pairs : Stmt := topS 42
abbrev s_at : Stmt := topS 43
abbrev s_straight : Stmt := topS 44
abbrev s_places_of : Stmt := topS 45
abbrev s_crossing : Stmt := topS 46
abbrev s_crossings : Stmt := topS 47
abbrev s_mean_line : Stmt := topS 48
abbrev s_ranked_line : Stmt := topS 49
abbrev s_lowest : Stmt := topS 50
abbrev s_highest : Stmt := topS 51
abbrev s_within : Stmt := topS 52
abbrev s_line_of : Stmt := topS 53
abbrev s_first_at : Stmt := topS 54
abbrev s_place_between : Stmt := topS 55
abbrev s_last_at : Stmt := topS 56
abbrev s_first_and_last : Stmt := topS 57
abbrev s_nearest : Stmt := topS 58
abbrev s_best_places : Stmt := topS 59
abbrev s_ends_for : Stmt := topS 61
abbrev s_wishing : Stmt := topS 63
abbrev s_outcome_among : Stmt := topS 64
abbrev s_ends_behind : Stmt := topS 65
abbrev s_outcome_left : Stmt := topS 66
abbrev s_one_way : Stmt := topS 68
abbrev s_own_line : Stmt := topS 69
abbrev s_lots_wishing : Stmt := topS 70
abbrev s_later_line : Stmt := topS 71
abbrev s_bids_of : Stmt := topS 73
abbrev s_left_of : Stmt := topS 74
abbrev s_foreseen_behind : Stmt := topS 75
abbrev s_best_ends : Stmt := topS 76
abbrev s_Sitting_init : Stmt := inClass (topS 78) 0
abbrev s_Sitting_is_over : Stmt := inClass (topS 78) 1
abbrev s_Sitting_speaker : Stmt := inClass (topS 78) 2
abbrev s_Sitting_bid : Stmt := inClass (topS 78) 3
abbrev s_Sitting_play : Stmt := inClass (topS 78) 4
abbrev s_Sitting_bids : Stmt := inClass (topS 78) 5
abbrev s_Sitting_foreseen : Stmt := inClass (topS 78) 6
abbrev s_Sitting_best : Stmt := inClass (topS 78) 7
abbrev s_Sitting_told : Stmt := inClass (topS 78) 8
abbrev s_are_parts : Stmt := topS 84
abbrev s_is_weighted : Stmt := topS 85
abbrev s_is_bound : Stmt := topS 86
abbrev s_parts_told : Stmt := topS 87
abbrev s_is_leaf : Stmt := topS 88
abbrev s_terms_told : Stmt := topS 89
abbrev s_Rule_init : Stmt := inClass (topS 90) 0
abbrev s_L_dice : Stmt := topS 92
abbrev s_L_draw : Stmt := topS 93
abbrev s_L_some : Stmt := topS 94
abbrev s_L_lowest : Stmt := topS 95
abbrev s_L_sum : Stmt := topS 96
abbrev s_L_product : Stmt := topS 97
abbrev s_L_less : Stmt := topS 98
abbrev s_L_sorted : Stmt := topS 99
abbrev s_L_far : Stmt := topS 100
abbrev s_L_number : Stmt := topS 101
abbrev s_L_numbers : Stmt := topS 102
abbrev s_L_term : Stmt := topS 103
abbrev s_L_small : Stmt := topS 104
abbrev s_L_value : Stmt := topS 105
abbrev s_L_lots : Stmt := topS 106
abbrev s_L_by_size : Stmt := topS 107
abbrev s_L_at_ends : Stmt := topS 108
abbrev s_L_corner : Stmt := topS 109
abbrev s_L_outcome : Stmt := topS 110
abbrev s_L_schedule : Stmt := topS 111
abbrev s_L_bids : Stmt := topS 112
abbrev s_L_left : Stmt := topS 113
abbrev s_L_later : Stmt := topS 114
abbrev s_L_near : Stmt := topS 115
abbrev s_L_is_best : Stmt := topS 116
abbrev s_L_is_account : Stmt := topS 117
abbrev s_law : Stmt := topS 118
abbrev n_is_integer : List Str := ["thing"]
abbrev p_is_integer : List Str := ["thing"]
theorem sc_is_integer : FnScope n_is_integer p_is_integer (defScope s_is_integer) := ⟨rfl, rfl, rfl, by decide +kernel, rfl, by decide +kernel, by decide +kernel⟩
abbrev n_divisor : List Str := ["one", "other"]
abbrev p_divisor : List Str := ["one", "other"]
theorem sc_divisor : FnScope n_divisor p_divisor (defScope s_divisor) := ⟨rfl, rfl, rfl, by decide +kernel, rfl, by decide +kernel, by decide +kernel⟩
abbrev n_made : List Str := ["top", "bottom", "common"]
abbrev p_made : List Str := ["top", "bottom"]
theorem sc_made : FnScope n_made p_made (defScope s_made) := ⟨rfl, rfl, rfl, by decide +kernel, rfl, by decide +kernel, by decide +kernel⟩
abbrev n_plus : List Str := ["one", "other"]
abbrev p_plus : List Str := ["one", "other"]
theorem sc_plus : FnScope n_plus p_plus (defScope s_plus) := ⟨rfl, rfl, rfl, by decide +kernel, rfl, by decide +kernel, by decide +kernel⟩
abbrev n_minus : List Str := ["one", "other"]
abbrev p_minus : List Str := ["one", "other"]
theorem sc_minus : FnScope n_minus p_minus (defScope s_minus) := ⟨rfl, rfl, rfl, by decide +kernel, rfl, by decide +kernel, by decide +kernel⟩
abbrev n_times : List Str := ["one", "other"]
abbrev p_times : List Str := ["one", "other"]
theorem sc_times : FnScope n_times p_times (defScope s_times) := ⟨rfl, rfl, rfl, by decide +kernel, rfl, by decide +kernel, by decide +kernel⟩
abbrev n_over : List Str := ["one", "other"]
abbrev p_over : List Str := ["one", "other"]
theorem sc_over : FnScope n_over p_over (defScope s_over) := ⟨rfl, rfl, rfl, by decide +kernel, rfl, by decide +kernel, by decide +kernel⟩
abbrev n_is_less : List Str := ["one", "other"]
abbrev p_is_less : List Str := ["one", "other"]
theorem sc_is_less : FnScope n_is_less p_is_less (defScope s_is_less) := ⟨rfl, rfl, rfl, by decide +kernel, rfl, by decide +kernel, by decide +kernel⟩
abbrev n_least_of : List Str := ["fractions", "found", "fraction"]
abbrev p_least_of : List Str := ["fractions"]
theorem sc_least_of : FnScope n_least_of p_least_of (defScope s_least_of) := ⟨rfl, rfl, rfl, by decide +kernel, rfl, by decide +kernel, by decide +kernel⟩
abbrev n_greatest_of : List Str := ["fractions", "found", "fraction"]
abbrev p_greatest_of : List Str := ["fractions"]
theorem sc_greatest_of : FnScope n_greatest_of p_greatest_of (defScope s_greatest_of) := ⟨rfl, rfl, rfl, by decide +kernel, rfl, by decide +kernel, by decide +kernel⟩
abbrev n_ascending : List Str := ["fractions", "found", "fraction", "at"]
abbrev p_ascending : List Str := ["fractions"]
theorem sc_ascending : FnScope n_ascending p_ascending (defScope s_ascending) := ⟨rfl, rfl, rfl, by decide +kernel, rfl, by decide +kernel, by decide +kernel⟩
abbrev n_middle : List Str := ["one", "two", "three"]
abbrev p_middle : List Str := ["one", "two", "three"]
theorem sc_middle : FnScope n_middle p_middle (defScope s_middle) := ⟨rfl, rfl, rfl, by decide +kernel, rfl, by decide +kernel, by decide +kernel⟩
abbrev n_is_fraction : List Str := ["thing", "part"]
abbrev p_is_fraction : List Str := ["thing"]
theorem sc_is_fraction : FnScope n_is_fraction p_is_fraction (defScope s_is_fraction) := ⟨rfl, rfl, rfl, by decide +kernel, rfl, by decide +kernel, by decide +kernel⟩
abbrev n_is_within : List Str := ["thing", "least", "most"]
abbrev p_is_within : List Str := ["thing", "least", "most"]
theorem sc_is_within : FnScope n_is_within p_is_within (defScope s_is_within) := ⟨rfl, rfl, rfl, by decide +kernel, rfl, by decide +kernel, by decide +kernel⟩
abbrev n_is_number : List Str := ["thing"]
abbrev p_is_number : List Str := ["thing"]
theorem sc_is_number : FnScope n_is_number p_is_number (defScope s_is_number) := ⟨rfl, rfl, rfl, by decide +kernel, rfl, by decide +kernel, by decide +kernel⟩
abbrev n_check_number : List Str := ["thing"]
abbrev p_check_number : List Str := ["thing"]
theorem sc_check_number : FnScope n_check_number p_check_number (defScope s_check_number) := ⟨rfl, rfl, rfl, by decide +kernel, rfl, by decide +kernel, by decide +kernel⟩
abbrev n_are_numbers : List Str := ["thing", "many", "part"]
abbrev p_are_numbers : List Str := ["thing", "many"]
theorem sc_are_numbers : FnScope n_are_numbers p_are_numbers (defScope s_are_numbers) := ⟨rfl, rfl, rfl, by decide +kernel, rfl, by decide +kernel, by decide +kernel⟩
abbrev n_check_wishes : List Str := ["rule", "thing"]
abbrev p_check_wishes : List Str := ["rule", "thing"]
theorem sc_check_wishes : FnScope n_check_wishes p_check_wishes (defScope s_check_wishes) := ⟨rfl, rfl, rfl, by decide +kernel, rfl, by decide +kernel, by decide +kernel⟩
abbrev n_is_person : List Str := ["rule", "thing"]
abbrev p_is_person : List Str := ["rule", "thing"]
theorem sc_is_person : FnScope n_is_person p_is_person (defScope s_is_person) := ⟨rfl, rfl, rfl, by decide +kernel, rfl, by decide +kernel, by decide +kernel⟩
abbrev n_is_row_of_all : List Str := ["rule", "thing", "person"]
abbrev p_is_row_of_all : List Str := ["rule", "thing"]
theorem sc_is_row_of_all : FnScope n_is_row_of_all p_is_row_of_all (defScope s_is_row_of_all) := ⟨rfl, rfl, rfl, by decide +kernel, rfl, by decide +kernel, by decide +kernel⟩
abbrev n_check_schedule : List Str := ["rule", "thing"]
abbrev p_check_schedule : List Str := ["rule", "thing"]
theorem sc_check_schedule : FnScope n_check_schedule p_check_schedule (defScope s_check_schedule) := ⟨rfl, rfl, rfl, by decide +kernel, rfl, by decide +kernel, by decide +kernel⟩
abbrev n_mean_of : List Str := ["weights", "numbers", "total", "weight", "number"]
abbrev p_mean_of : List Str := ["weights", "numbers"]
theorem sc_mean_of : FnScope n_mean_of p_mean_of (defScope s_mean_of) := ⟨rfl, rfl, rfl, by decide +kernel, rfl, by decide +kernel, by decide +kernel⟩
abbrev n_ranked_of : List Str := ["k", "numbers"]
abbrev p_ranked_of : List Str := ["k", "numbers"]
theorem sc_ranked_of : FnScope n_ranked_of p_ranked_of (defScope s_ranked_of) := ⟨rfl, rfl, rfl, by decide +kernel, rfl, by decide +kernel, by decide +kernel⟩
abbrev n_value_of : List Str := ["term", "bids", "word", "numbers", "part", "weight"]
abbrev p_value_of : List Str := ["term", "bids"]
theorem sc_value_of : FnScope n_value_of p_value_of (defScope s_value_of) := ⟨rfl, rfl, rfl, by decide +kernel, rfl, by decide +kernel, by decide +kernel⟩
abbrev n_flat : List Str := ["number"]
abbrev p_flat : List Str := ["number"]
theorem sc_flat : FnScope n_flat p_flat (defScope s_flat) := ⟨rfl, rfl, rfl, by decide +kernel, rfl, by decide +kernel, by decide +kernel⟩
abbrev n_rising : List Str := []
abbrev p_rising : List Str := []
theorem sc_rising : FnScope n_rising p_rising (defScope s_rising) := ⟨rfl, rfl, rfl, by decide +kernel, rfl, by decide +kernel, by decide +kernel⟩
abbrev n_between_pairs : List Str := ["one", "other", "place", "share"]
abbrev p_between_pairs : List Str := ["one", "other", "place"]
theorem sc_between_pairs : FnScope n_between_pairs p_between_pairs (defScope s_between_pairs) := ⟨rfl, rfl, rfl, by decide +kernel, rfl, by decide +kernel, by decide +kernel⟩
abbrev n_at : List Str := ["bent", "place", "behind", "k"]
abbrev p_at : List Str := ["bent", "place"]
theorem sc_at : FnScope n_at p_at (defScope s_at) := ⟨rfl, rfl, rfl, by decide +kernel, rfl, by decide +kernel, by decide +kernel⟩
abbrev n_straight : List Str := ["bent", "found", "pair"]
abbrev p_straight : List Str := ["bent"]
theorem sc_straight : FnScope n_straight p_straight (defScope s_straight) := ⟨rfl, rfl, rfl, by decide +kernel, rfl, by decide +kernel, by decide +kernel⟩
abbrev n_places_of : List Str := ["bents", "found", "bent", "place", "told"]
abbrev p_places_of : List Str := ["bents"]
theorem sc_places_of : FnScope n_places_of p_places_of (defScope s_places_of) := ⟨rfl, rfl, rfl, by decide +kernel, rfl, by decide +kernel, by decide +kernel⟩
abbrev n_crossing : List Str := ["one", "other", "begin", "end", "here", "there"]
abbrev p_crossing : List Str := ["one", "other", "begin", "end"]
theorem sc_crossing : FnScope n_crossing p_crossing (defScope s_crossing) := ⟨rfl, rfl, rfl, by decide +kernel, rfl, by decide +kernel, by decide +kernel⟩
abbrev n_crossings : List Str := ["bents", "places", "place", "found", "k", "far", "other", "one"]
abbrev p_crossings : List Str := ["bents", "places"]
theorem sc_crossings : FnScope n_crossings p_crossings (defScope s_crossings) := ⟨rfl, rfl, rfl, by decide +kernel, rfl, by decide +kernel, by decide +kernel⟩
abbrev n_mean_line : List Str := ["weights", "bents", "places", "place", "bent"]
abbrev p_mean_line : List Str := ["weights", "bents"]
theorem sc_mean_line : FnScope n_mean_line p_mean_line (defScope s_mean_line) := ⟨rfl, rfl, rfl, by decide +kernel, rfl, by decide +kernel, by decide +kernel⟩
abbrev n_ranked_line : List Str := ["k", "bents", "places", "place", "bent"]
abbrev p_ranked_line : List Str := ["k", "bents"]
theorem sc_ranked_line : FnScope n_ranked_line p_ranked_line (defScope s_ranked_line) := ⟨rfl, rfl, rfl, by decide +kernel, rfl, by decide +kernel, by decide +kernel⟩
abbrev n_lowest : List Str := ["bents"]
abbrev p_lowest : List Str := ["bents"]
theorem sc_lowest : FnScope n_lowest p_lowest (defScope s_lowest) := ⟨rfl, rfl, rfl, by decide +kernel, rfl, by decide +kernel, by decide +kernel⟩
abbrev n_highest : List Str := ["bents"]
abbrev p_highest : List Str := ["bents"]
theorem sc_highest : FnScope n_highest p_highest (defScope s_highest) := ⟨rfl, rfl, rfl, by decide +kernel, rfl, by decide +kernel, by decide +kernel⟩
abbrev n_within : List Str := ["low", "high", "bent"]
abbrev p_within : List Str := ["low", "high", "bent"]
theorem sc_within : FnScope n_within p_within (defScope s_within) := ⟨rfl, rfl, rfl, by decide +kernel, rfl, by decide +kernel, by decide +kernel⟩
abbrev n_line_of : List Str := ["term", "way", "word", "bents", "part", "weight"]
abbrev p_line_of : List Str := ["term", "way"]
theorem sc_line_of : FnScope n_line_of p_line_of (defScope s_line_of) := ⟨rfl, rfl, rfl, by decide +kernel, rfl, by decide +kernel, by decide +kernel⟩
abbrev n_first_at : List Str := ["bent", "number", "behind", "k"]
abbrev p_first_at : List Str := ["bent", "number"]
theorem sc_first_at : FnScope n_first_at p_first_at (defScope s_first_at) := ⟨rfl, rfl, rfl, by decide +kernel, rfl, by decide +kernel, by decide +kernel⟩
abbrev n_place_between : List Str := ["one", "other", "number", "share"]
abbrev p_place_between : List Str := ["one", "other", "number"]
theorem sc_place_between : FnScope n_place_between p_place_between (defScope s_place_between) := ⟨rfl, rfl, rfl, by decide +kernel, rfl, by decide +kernel, by decide +kernel⟩
abbrev n_last_at : List Str := ["bent", "number", "ahead", "k"]
abbrev p_last_at : List Str := ["bent", "number"]
theorem sc_last_at : FnScope n_last_at p_last_at (defScope s_last_at) := ⟨rfl, rfl, rfl, by decide +kernel, rfl, by decide +kernel, by decide +kernel⟩
abbrev n_first_and_last : List Str := ["bent", "number"]
abbrev p_first_and_last : List Str := ["bent", "number"]
theorem sc_first_and_last : FnScope n_first_and_last p_first_and_last (defScope s_first_and_last) := ⟨rfl, rfl, rfl, by decide +kernel, rfl, by decide +kernel, by decide +kernel⟩
abbrev n_nearest : List Str := ["bent", "number"]
abbrev p_nearest : List Str := ["bent", "number"]
theorem sc_nearest : FnScope n_nearest p_nearest (defScope s_nearest) := ⟨rfl, rfl, rfl, by decide +kernel, rfl, by decide +kernel, by decide +kernel⟩
abbrev n_best_places : List Str := ["bent", "number"]
abbrev p_best_places : List Str := ["bent", "number"]
theorem sc_best_places : FnScope n_best_places p_best_places (defScope s_best_places) := ⟨rfl, rfl, rfl, by decide +kernel, rfl, by decide +kernel, by decide +kernel⟩
abbrev n_ends_for : List Str := ["lows", "highs", "lot", "person", "low"]
abbrev p_ends_for : List Str := ["lows", "highs", "lot"]
theorem sc_ends_for : FnScope n_ends_for p_ends_for (defScope s_ends_for) := ⟨rfl, rfl, rfl, by decide +kernel, rfl, by decide +kernel, by decide +kernel⟩
abbrev n_wishing : List Str := ["wishes", "number", "person", "wish"]
abbrev p_wishing : List Str := ["wishes", "number"]
theorem sc_wishing : FnScope n_wishing p_wishing (defScope s_wishing) := ⟨rfl, rfl, rfl, by decide +kernel, rfl, by decide +kernel, by decide +kernel⟩
abbrev n_outcome_among : List Str := ["rule", "wishes", "lows", "highs", "found", "wish", "held"]
abbrev p_outcome_among : List Str := ["rule", "wishes", "lows", "highs"]
theorem sc_outcome_among : FnScope n_outcome_among p_outcome_among (defScope s_outcome_among) := ⟨rfl, rfl, rfl, by decide +kernel, rfl, by decide +kernel, by decide +kernel⟩
abbrev n_ends_behind : List Str := ["rule", "bids", "later", "lows", "person", "bid"]
abbrev p_ends_behind : List Str := ["rule", "bids", "later"]
theorem sc_ends_behind : FnScope n_ends_behind p_ends_behind (defScope s_ends_behind) := ⟨rfl, rfl, rfl, by decide +kernel, rfl, by decide +kernel, by decide +kernel⟩
abbrev n_outcome_left : List Str := ["rule", "wishes", "bids", "later", "lows", "highs"]
abbrev p_outcome_left : List Str := ["rule", "wishes", "bids", "later"]
theorem sc_outcome_left : FnScope n_outcome_left p_outcome_left (defScope s_outcome_left) := ⟨rfl, rfl, rfl, by decide +kernel, rfl, by decide +kernel, by decide +kernel⟩
abbrev n_one_way : List Str := ["bids", "person", "other", "bid"]
abbrev p_one_way : List Str := ["bids", "person"]
theorem sc_one_way : FnScope n_one_way p_one_way (defScope s_one_way) := ⟨rfl, rfl, rfl, by decide +kernel, rfl, by decide +kernel, by decide +kernel⟩
abbrev n_own_line : List Str := ["rule", "bids", "person"]
abbrev p_own_line : List Str := ["rule", "bids", "person"]
theorem sc_own_line : FnScope n_own_line p_own_line (defScope s_own_line) := ⟨rfl, rfl, rfl, by decide +kernel, rfl, by decide +kernel, by decide +kernel⟩
abbrev n_lots_wishing : List Str := ["wishes", "wish"]
abbrev p_lots_wishing : List Str := ["wishes"]
theorem sc_lots_wishing : FnScope n_lots_wishing p_lots_wishing (defScope s_lots_wishing) := ⟨rfl, rfl, rfl, by decide +kernel, rfl, by decide +kernel, by decide +kernel⟩
abbrev n_later_line : List Str := ["rule", "wishes", "bids", "person", "later", "lows", "highs", "bents", "wish", "lot", "held"]
abbrev p_later_line : List Str := ["rule", "wishes", "bids", "person", "later"]
theorem sc_later_line : FnScope n_later_line p_later_line (defScope s_later_line) := ⟨rfl, rfl, rfl, by decide +kernel, rfl, by decide +kernel, by decide +kernel⟩
abbrev n_bids_of : List Str := ["rule", "schedule", "play", "found", "person", "bid"]
abbrev p_bids_of : List Str := ["rule", "schedule", "play"]
theorem sc_bids_of : FnScope n_bids_of p_bids_of (defScope s_bids_of) := ⟨rfl, rfl, rfl, by decide +kernel, rfl, by decide +kernel, by decide +kernel⟩
abbrev n_left_of : List Str := ["schedule", "many", "person"]
abbrev p_left_of : List Str := ["schedule", "many"]
theorem sc_left_of : FnScope n_left_of p_left_of (defScope s_left_of) := ⟨rfl, rfl, rfl, by decide +kernel, rfl, by decide +kernel, by decide +kernel⟩
abbrev n_foreseen_behind : List Str := ["rule", "wishes", "schedule", "play"]
abbrev p_foreseen_behind : List Str := ["rule", "wishes", "schedule", "play"]
theorem sc_foreseen_behind : FnScope n_foreseen_behind p_foreseen_behind (defScope s_foreseen_behind) := ⟨rfl, rfl, rfl, by decide +kernel, rfl, by decide +kernel, by decide +kernel⟩
abbrev n_best_ends : List Str := ["rule", "wishes", "schedule", "play", "speaker", "later", "bent"]
abbrev p_best_ends : List Str := ["rule", "wishes", "schedule", "play"]
theorem sc_best_ends : FnScope n_best_ends p_best_ends (defScope s_best_ends) := ⟨rfl, rfl, rfl, by decide +kernel, rfl, by decide +kernel, by decide +kernel⟩
abbrev n_Sitting_init : List Str := ["self", "rule", "wishes", "schedule"]
abbrev p_Sitting_init : List Str := ["self", "rule", "wishes", "schedule"]
theorem sc_Sitting_init : FnScope n_Sitting_init p_Sitting_init (defScope s_Sitting_init) := ⟨rfl, rfl, rfl, by decide +kernel, rfl, by decide +kernel, by decide +kernel⟩
abbrev n_Sitting_is_over : List Str := ["self"]
abbrev p_Sitting_is_over : List Str := ["self"]
theorem sc_Sitting_is_over : FnScope n_Sitting_is_over p_Sitting_is_over (defScope s_Sitting_is_over) := ⟨rfl, rfl, rfl, by decide +kernel, rfl, by decide +kernel, by decide +kernel⟩
abbrev n_Sitting_speaker : List Str := ["self"]
abbrev p_Sitting_speaker : List Str := ["self"]
theorem sc_Sitting_speaker : FnScope n_Sitting_speaker p_Sitting_speaker (defScope s_Sitting_speaker) := ⟨rfl, rfl, rfl, by decide +kernel, rfl, by decide +kernel, by decide +kernel⟩
abbrev n_Sitting_bid : List Str := ["self", "number"]
abbrev p_Sitting_bid : List Str := ["self", "number"]
theorem sc_Sitting_bid : FnScope n_Sitting_bid p_Sitting_bid (defScope s_Sitting_bid) := ⟨rfl, rfl, rfl, by decide +kernel, rfl, by decide +kernel, by decide +kernel⟩
abbrev n_Sitting_play : List Str := ["self"]
abbrev p_Sitting_play : List Str := ["self"]
theorem sc_Sitting_play : FnScope n_Sitting_play p_Sitting_play (defScope s_Sitting_play) := ⟨rfl, rfl, rfl, by decide +kernel, rfl, by decide +kernel, by decide +kernel⟩
abbrev n_Sitting_bids : List Str := ["self"]
abbrev p_Sitting_bids : List Str := ["self"]
theorem sc_Sitting_bids : FnScope n_Sitting_bids p_Sitting_bids (defScope s_Sitting_bids) := ⟨rfl, rfl, rfl, by decide +kernel, rfl, by decide +kernel, by decide +kernel⟩
abbrev n_Sitting_foreseen : List Str := ["self"]
abbrev p_Sitting_foreseen : List Str := ["self"]
theorem sc_Sitting_foreseen : FnScope n_Sitting_foreseen p_Sitting_foreseen (defScope s_Sitting_foreseen) := ⟨rfl, rfl, rfl, by decide +kernel, rfl, by decide +kernel, by decide +kernel⟩
abbrev n_Sitting_best : List Str := ["self"]
abbrev p_Sitting_best : List Str := ["self"]
theorem sc_Sitting_best : FnScope n_Sitting_best p_Sitting_best (defScope s_Sitting_best) := ⟨rfl, rfl, rfl, by decide +kernel, rfl, by decide +kernel, by decide +kernel⟩
abbrev n_Sitting_told : List Str := ["self"]
abbrev p_Sitting_told : List Str := ["self"]
theorem sc_Sitting_told : FnScope n_Sitting_told p_Sitting_told (defScope s_Sitting_told) := ⟨rfl, rfl, rfl, by decide +kernel, rfl, by decide +kernel, by decide +kernel⟩
abbrev n_are_parts : List Str := ["thing"]
abbrev p_are_parts : List Str := ["thing"]
theorem sc_are_parts : FnScope n_are_parts p_are_parts (defScope s_are_parts) := ⟨rfl, rfl, rfl, by decide +kernel, rfl, by decide +kernel, by decide +kernel⟩
abbrev n_is_weighted : List Str := ["thing"]
abbrev p_is_weighted : List Str := ["thing"]
theorem sc_is_weighted : FnScope n_is_weighted p_is_weighted (defScope s_is_weighted) := ⟨rfl, rfl, rfl, by decide +kernel, rfl, by decide +kernel, by decide +kernel⟩
abbrev n_is_bound : List Str := ["thing"]
abbrev p_is_bound : List Str := ["thing"]
theorem sc_is_bound : FnScope n_is_bound p_is_bound (defScope s_is_bound) := ⟨rfl, rfl, rfl, by decide +kernel, rfl, by decide +kernel, by decide +kernel⟩
abbrev n_parts_told : List Str := ["thing", "word", "part"]
abbrev p_parts_told : List Str := ["thing"]
theorem sc_parts_told : FnScope n_parts_told p_parts_told (defScope s_parts_told) := ⟨rfl, rfl, rfl, by decide +kernel, rfl, by decide +kernel, by decide +kernel⟩
abbrev n_is_leaf : List Str := ["people", "thing"]
abbrev p_is_leaf : List Str := ["people", "thing"]
theorem sc_is_leaf : FnScope n_is_leaf p_is_leaf (defScope s_is_leaf) := ⟨rfl, rfl, rfl, by decide +kernel, rfl, by decide +kernel, by decide +kernel⟩
abbrev n_terms_told : List Str := ["people", "thing", "deep", "parts", "many", "part", "inner"]
abbrev p_terms_told : List Str := ["people", "thing", "deep"]
theorem sc_terms_told : FnScope n_terms_told p_terms_told (defScope s_terms_told) := ⟨rfl, rfl, rfl, by decide +kernel, rfl, by decide +kernel, by decide +kernel⟩
abbrev n_Rule_init : List Str := ["self", "people", "term", "many"]
abbrev p_Rule_init : List Str := ["self", "people", "term"]
theorem sc_Rule_init : FnScope n_Rule_init p_Rule_init (defScope s_Rule_init) := ⟨rfl, rfl, rfl, by decide +kernel, rfl, by decide +kernel, by decide +kernel⟩
abbrev n_L_dice : List Str := ["_law_script", "_law_cell"]
abbrev p_L_dice : List Str := ["_law_script"]
theorem sc_L_dice : FnScope n_L_dice p_L_dice (defScope s_L_dice) := ⟨rfl, rfl, rfl, by decide +kernel, rfl, by decide +kernel, by decide +kernel⟩
abbrev n_L_draw : List Str := ["_law_dice_here", "_law_many", "_law_cell", "_law_digit", "_law_mixed"]
abbrev p_L_draw : List Str := ["_law_dice_here", "_law_many"]
theorem sc_L_draw : FnScope n_L_draw p_L_draw (defScope s_L_draw) := ⟨rfl, rfl, rfl, by decide +kernel, rfl, by decide +kernel, by decide +kernel⟩
abbrev n_L_some : List Str := ["_law_dice_here", "_law_things"]
abbrev p_L_some : List Str := ["_law_dice_here", "_law_things"]
theorem sc_L_some : FnScope n_L_some p_L_some (defScope s_L_some) := ⟨rfl, rfl, rfl, by decide +kernel, rfl, by decide +kernel, by decide +kernel⟩
abbrev n_L_lowest : List Str := ["_law_top", "_law_bottom", "_law_one", "_law_other"]
abbrev p_L_lowest : List Str := ["_law_top", "_law_bottom"]
theorem sc_L_lowest : FnScope n_L_lowest p_L_lowest (defScope s_L_lowest) := ⟨rfl, rfl, rfl, by decide +kernel, rfl, by decide +kernel, by decide +kernel⟩
abbrev n_L_sum : List Str := ["_law_one", "_law_other", "_law_sign"]
abbrev p_L_sum : List Str := ["_law_one", "_law_other", "_law_sign"]
theorem sc_L_sum : FnScope n_L_sum p_L_sum (defScope s_L_sum) := ⟨rfl, rfl, rfl, by decide +kernel, rfl, by decide +kernel, by decide +kernel⟩
abbrev n_L_product : List Str := ["_law_one", "_law_other"]
abbrev p_L_product : List Str := ["_law_one", "_law_other"]
theorem sc_L_product : FnScope n_L_product p_L_product (defScope s_L_product) := ⟨rfl, rfl, rfl, by decide +kernel, rfl, by decide +kernel, by decide +kernel⟩
abbrev n_L_less : List Str := ["_law_one", "_law_other"]
abbrev p_L_less : List Str := ["_law_one", "_law_other"]
theorem sc_L_less : FnScope n_L_less p_L_less (defScope s_L_less) := ⟨rfl, rfl, rfl, by decide +kernel, rfl, by decide +kernel, by decide +kernel⟩
abbrev n_L_sorted : List Str := ["_law_numbers_here", "_law_found", "_law_number_here", "_law_at", "_law_other"]
abbrev p_L_sorted : List Str := ["_law_numbers_here"]
theorem sc_L_sorted : FnScope n_L_sorted p_L_sorted (defScope s_L_sorted) := ⟨rfl, rfl, rfl, by decide +kernel, rfl, by decide +kernel, by decide +kernel⟩
abbrev n_L_far : List Str := ["_law_one", "_law_other", "_law_apart"]
abbrev p_L_far : List Str := ["_law_one", "_law_other"]
theorem sc_L_far : FnScope n_L_far p_L_far (defScope s_L_far) := ⟨rfl, rfl, rfl, by decide +kernel, rfl, by decide +kernel, by decide +kernel⟩
abbrev n_L_number : List Str := ["_law_dice_here", "_law_bottom"]
abbrev p_L_number : List Str := ["_law_dice_here"]
theorem sc_L_number : FnScope n_L_number p_L_number (defScope s_L_number) := ⟨rfl, rfl, rfl, by decide +kernel, rfl, by decide +kernel, by decide +kernel⟩
abbrev n_L_numbers : List Str := ["_law_dice_here", "_law_many", "_law_k"]
abbrev p_L_numbers : List Str := ["_law_dice_here", "_law_many"]
theorem sc_L_numbers : FnScope n_L_numbers p_L_numbers (defScope s_L_numbers) := ⟨rfl, rfl, rfl, by decide +kernel, rfl, by decide +kernel, by decide +kernel⟩
abbrev n_L_term : List Str := ["_law_dice_here", "_law_people", "_law_deep", "_law_means", "_law_kind", "_law_parts", "_law_ends", "_law_k", "_law_part"]
abbrev p_L_term : List Str := ["_law_dice_here", "_law_people", "_law_deep", "_law_means"]
theorem sc_L_term : FnScope n_L_term p_L_term (defScope s_L_term) := ⟨rfl, rfl, rfl, by decide +kernel, rfl, by decide +kernel, by decide +kernel⟩
abbrev n_L_small : List Str := ["_law_dice_here", "_law_most", "_law_people", "_law_term_here", "_law_bids_here", "_law_person"]
abbrev p_L_small : List Str := ["_law_dice_here", "_law_most"]
theorem sc_L_small : FnScope n_L_small p_L_small (defScope s_L_small) := ⟨rfl, rfl, rfl, by decide +kernel, rfl, by decide +kernel, by decide +kernel⟩
abbrev n_L_value : List Str := ["_law_term_here", "_law_bids_here", "_law_word", "_law_whole", "_law_weight", "_law_part", "_law_told"]
abbrev p_L_value : List Str := ["_law_term_here", "_law_bids_here"]
theorem sc_L_value : FnScope n_L_value p_L_value (defScope s_L_value) := ⟨rfl, rfl, rfl, by decide +kernel, rfl, by decide +kernel, by decide +kernel⟩
abbrev n_L_lots : List Str := ["_law_people", "_law_found", "_law_person", "_law_lot"]
abbrev p_L_lots : List Str := ["_law_people"]
theorem sc_L_lots : FnScope n_L_lots p_L_lots (defScope s_L_lots) := ⟨rfl, rfl, rfl, by decide +kernel, rfl, by decide +kernel, by decide +kernel⟩
abbrev n_L_by_size : List Str := ["_law_lots_here", "_law_found", "_law_size", "_law_lot"]
abbrev p_L_by_size : List Str := ["_law_lots_here"]
theorem sc_L_by_size : FnScope n_L_by_size p_L_by_size (defScope s_L_by_size) := ⟨rfl, rfl, rfl, by decide +kernel, rfl, by decide +kernel, by decide +kernel⟩
abbrev n_L_at_ends : List Str := ["_law_people", "_law_lot", "_law_person"]
abbrev p_L_at_ends : List Str := ["_law_people", "_law_lot"]
theorem sc_L_at_ends : FnScope n_L_at_ends p_L_at_ends (defScope s_L_at_ends) := ⟨rfl, rfl, rfl, by decide +kernel, rfl, by decide +kernel, by decide +kernel⟩
abbrev n_L_corner : List Str := ["_law_people", "_law_term_here", "_law_lot"]
abbrev p_L_corner : List Str := ["_law_people", "_law_term_here", "_law_lot"]
theorem sc_L_corner : FnScope n_L_corner p_L_corner (defScope s_L_corner) := ⟨rfl, rfl, rfl, by decide +kernel, rfl, by decide +kernel, by decide +kernel⟩
abbrev n_L_outcome : List Str := ["_law_people", "_law_term_here", "_law_wishes", "_law_found", "_law_lot", "_law_person"]
abbrev p_L_outcome : List Str := ["_law_people", "_law_term_here", "_law_wishes"]
theorem sc_L_outcome : FnScope n_L_outcome p_L_outcome (defScope s_L_outcome) := ⟨rfl, rfl, rfl, by decide +kernel, rfl, by decide +kernel, by decide +kernel⟩
abbrev n_L_schedule : List Str := ["_law_dice_here", "_law_people", "_law_more", "_law_left_here", "_law_found", "_law_turn"]
abbrev p_L_schedule : List Str := ["_law_dice_here", "_law_people", "_law_more"]
theorem sc_L_schedule : FnScope n_L_schedule p_L_schedule (defScope s_L_schedule) := ⟨rfl, rfl, rfl, by decide +kernel, rfl, by decide +kernel, by decide +kernel⟩
abbrev n_L_bids : List Str := ["_law_people", "_law_schedule_here", "_law_play", "_law_found", "_law_turn"]
abbrev p_L_bids : List Str := ["_law_people", "_law_schedule_here", "_law_play"]
theorem sc_L_bids : FnScope n_L_bids p_L_bids (defScope s_L_bids) := ⟨rfl, rfl, rfl, by decide +kernel, rfl, by decide +kernel, by decide +kernel⟩
abbrev n_L_left : List Str := ["_law_term_here", "_law_wishes", "_law_bids_here", "_law_later_here", "_law_lots_here", "_law_person", "_law_lot", "_law_found", "_law_ends", "_law_bid"]
abbrev p_L_left : List Str := ["_law_term_here", "_law_wishes", "_law_bids_here", "_law_later_here"]
theorem sc_L_left : FnScope n_L_left p_L_left (defScope s_L_left) := ⟨rfl, rfl, rfl, by decide +kernel, rfl, by decide +kernel, by decide +kernel⟩
abbrev n_L_later : List Str := ["_law_schedule_here", "_law_many", "_law_person"]
abbrev p_L_later : List Str := ["_law_schedule_here", "_law_many"]
theorem sc_L_later : FnScope n_L_later p_L_later (defScope s_L_later) := ⟨rfl, rfl, rfl, by decide +kernel, rfl, by decide +kernel, by decide +kernel⟩
abbrev n_L_near : List Str := ["_law_term_here", "_law_wishes", "_law_schedule_here", "_law_play", "_law_bid", "_law_more", "_law_bids_here"]
abbrev p_L_near : List Str := ["_law_term_here", "_law_wishes", "_law_schedule_here", "_law_play", "_law_bid"]
theorem sc_L_near : FnScope n_L_near p_L_near (defScope s_L_near) := ⟨rfl, rfl, rfl, by decide +kernel, rfl, by decide +kernel, by decide +kernel⟩
abbrev n_L_is_best : List Str := ["_law_dice_here", "_law_term_here", "_law_wishes", "_law_schedule_here", "_law_play", "_law_ends", "_law_near_here", "_law_tried", "_law_bid", "_law_own", "_law_between"]
abbrev p_L_is_best : List Str := ["_law_dice_here", "_law_term_here", "_law_wishes", "_law_schedule_here", "_law_play", "_law_ends"]
theorem sc_L_is_best : FnScope n_L_is_best p_L_is_best (defScope s_L_is_best) := ⟨rfl, rfl, rfl, by decide +kernel, rfl, by decide +kernel, by decide +kernel⟩
abbrev n_L_is_account : List Str := ["_law_sitting", "_law_term_here", "_law_wishes", "_law_schedule_here", "_law_play", "_law_bids_here", "_law_speaker", "_law_told"]
abbrev p_L_is_account : List Str := ["_law_sitting", "_law_term_here", "_law_wishes", "_law_schedule_here", "_law_play"]
theorem sc_L_is_account : FnScope n_L_is_account p_L_is_account (defScope s_L_is_account) := ⟨rfl, rfl, rfl, by decide +kernel, rfl, by decide +kernel, by decide +kernel⟩
abbrev n_law : List Str := ["_law_script", "_law_dice_here", "_law_large", "_law_people", "_law_term_here", "_law_wishes", "_law_schedule_here", "_law_sitting", "_law_best_alone", "_law_play", "_law_turn", "_law_ends", "_law_bid", "_law_half"]
abbrev p_law : List Str := ["_law_script"]
theorem sc_law : FnScope n_law p_law (defScope s_law) := ⟨rfl, rfl, rfl, by decide +kernel, rfl, by decide +kernel, by decide +kernel⟩
end Cb
set_option Elab.async false
set_option linter.all false
/-! plain mathematics, part 1: sorted lists of rationals, ranks, terms and their numbers -/
namespace Cb
/-! ### sorted -/
def leR (a b : Rat) : Bool := decide (a ≤ b)
def srt (xs : List Rat) : List Rat := xs.mergeSort leR
theorem srt_perm (xs : List Rat) : (srt xs).Perm xs := List.mergeSort_perm xs leR
theorem srt_sorted (xs : List Rat) : (srt xs).Pairwise (· ≤ ·) := by
  have h := List.pairwise_mergeSort (le := leR) (fun a b c h1 h2 => by simp only [leR, decide_eq_true_eq] at *; grind) (fun a b => by simp only [leR, Bool.or_eq_true, decide_eq_true_eq]; exact Rat.le_total) xs
  exact h.imp fun {a b} h => by simpa only [leR, decide_eq_true_eq] using h
theorem srt_len (xs : List Rat) : (srt xs).length = xs.length := (srt_perm xs).length_eq
theorem sorted_uniq : ∀ {xs ys : List Rat}, xs.Perm ys → xs.Pairwise (· ≤ ·) → ys.Pairwise (· ≤ ·) → xs = ys := fun {xs ys} p h1 h2 =>
  p.eq_of_pairwise (le := fun a b : Rat => a ≤ b) (fun a b _ _ h1 h2 => Rat.le_antisymm h1 h2) h1 h2
theorem srt_uniq {xs ys : List Rat} (p : ys.Perm xs) (s : ys.Pairwise (· ≤ ·)) : ys = srt xs := sorted_uniq (p.trans (srt_perm xs).symm) s (srt_sorted xs)
theorem srt_of_perm {xs ys : List Rat} (p : xs.Perm ys) : srt xs = srt ys := srt_uniq ((srt_perm xs).trans p) (srt_sorted xs)
def rk (xs : List Rat) (i : Nat) : Rat := (srt xs).getD i 0
theorem rk_of_perm {xs ys : List Rat} (p : xs.Perm ys) (i : Nat) : rk xs i = rk ys i := by unfold rk; rw [srt_of_perm p]
theorem rk_get {xs : List Rat} {i : Nat} (h : i < xs.length) : (srt xs)[i]? = some (rk xs i) := by
  have h2 : i < (srt xs).length := by rw [srt_len]; exact h
  unfold rk
  rw [List.getD_eq_getElem?_getD, List.getElem?_eq_getElem h2]
  rfl
theorem rk_mem {xs : List Rat} {i : Nat} (h : i < xs.length) : rk xs i ∈ xs := (srt_perm xs).mem_iff.mp (List.mem_of_getElem? (rk_get h))
theorem count_sorted : ∀ {s : List Rat} {i : Nat} {z : Rat} (y : Rat), s.Pairwise (· ≤ ·) → s[i]? = some z → (z ≤ y ↔ i < s.countP (fun x => decide (x ≤ y)))
  | [], i, z, y, _, h => by simp at h
  | a :: r, 0, z, y, hp, h => by
    have e : a = z := by simpa using h
    subst e
    rw [List.countP_cons]
    by_cases ha : a ≤ y
    · simp [ha]
    · have h0 : r.countP (fun x => decide (x ≤ y)) = 0 := by
        rw [List.countP_eq_zero]
        intro x hx
        have := (List.pairwise_cons.mp hp).1 x hx
        simp only [decide_eq_true_eq]
        grind
      simp [ha, h0]
  | a :: r, i + 1, z, y, hp, h => by
    have h' : r[i]? = some z := by simpa using h
    have hz := (List.pairwise_cons.mp hp).1 z (List.mem_of_getElem? h')
    have ih := count_sorted y (List.pairwise_cons.mp hp).2 h'
    rw [List.countP_cons]
    by_cases ha : a ≤ y
    · simp [ha, ih]
    · have h0 : r.countP (fun x => decide (x ≤ y)) = 0 := by
        rw [List.countP_eq_zero]
        intro x hx
        have := (List.pairwise_cons.mp hp).1 x hx
        simp only [decide_eq_true_eq]
        grind
      have : ¬ z ≤ y := by grind
      simp [ha, h0, this]
theorem rk_le_iff {xs : List Rat} {i : Nat} (h : i < xs.length) (y : Rat) : rk xs i ≤ y ↔ i < xs.countP (fun x => decide (x ≤ y)) := by
  rw [count_sorted y (srt_sorted xs) (rk_get h), (srt_perm xs).countP_eq]
/-- ranks rise with the items -/
theorem rk_mono {α : Type} {l : List α} {f g : α → Rat} (h : ∀ x ∈ l, f x ≤ g x) {i : Nat} (hi : i < l.length) : rk (l.map f) i ≤ rk (l.map g) i := by
  have hf : i < (l.map f).length := by rw [List.length_map]; exact hi
  have hg : i < (l.map g).length := by rw [List.length_map]; exact hi
  rw [rk_le_iff hf]
  have h1 := (rk_le_iff hg (rk (l.map g) i)).mp (Rat.le_refl)
  refine Nat.lt_of_lt_of_le h1 ?_
  rw [List.countP_map, List.countP_map]
  refine List.countP_mono_left fun x hx h2 => ?_
  simp only [Function.comp, decide_eq_true_eq] at h2 ⊢
  have := h x hx
  grind
theorem rk_least {xs : List Rat} {m : Rat} (hm : m ∈ xs) (h : ∀ x ∈ xs, m ≤ x) : rk xs 0 = m := by
  have h0 : 0 < xs.length := List.length_pos_of_mem hm
  have h1 := h _ (rk_mem h0)
  have h2 : rk xs 0 ≤ m := by
    rw [rk_le_iff h0]
    exact List.countP_pos_iff.mpr ⟨m, hm, by simp [Rat.le_refl]⟩
  exact Rat.le_antisymm h2 h1
theorem rk_greatest {xs : List Rat} {m : Rat} (hm : m ∈ xs) (h : ∀ x ∈ xs, x ≤ m) : rk xs (xs.length - 1) = m := by
  have h0 : 0 < xs.length := List.length_pos_of_mem hm
  have hl : xs.length - 1 < xs.length := by omega
  refine Rat.le_antisymm (h _ (rk_mem hl)) ?_
  have key := rk_le_iff hl (rk xs (xs.length - 1))
  have h1 := key.mp Rat.le_refl
  have h2 : xs.countP (fun x => decide (x ≤ rk xs (xs.length - 1))) = xs.length := by
    have := List.countP_le_length (p := fun x => decide (x ≤ rk xs (xs.length - 1))) (l := xs)
    omega
  have := List.countP_eq_length.mp h2 m hm
  simpa using this
/-! ### terms -/
inductive Op where
  | mean (ws : List Nat) | least | greatest | ranked (k : Nat) | between (lo hi : Rat)
inductive Term where
  | bid (p : Nat) | fix (q : Rat) | node (o : Op) (ts : List Term)
def wsum (ws : List Nat) (xs : List Rat) : Rat := (ws.zip xs).foldl (fun a p => a + (p.1 : Rat) * p.2) 0
def opv : Op → List Rat → Rat
  | .mean ws, xs => wsum ws xs * Rat.divInt 1 (ws.sum : Nat)
  | .least, xs => rk xs 0
  | .greatest, xs => rk xs (xs.length - 1)
  | .ranked k, xs => rk xs (xs.length - k)
  | .between lo hi, xs => rk (lo :: hi :: xs) 1
mutual
def val (b : Nat → Rat) : Term → Rat
  | .bid p => b p
  | .fix q => q
  | .node o ts => opv o (vals b ts)
def vals (b : Nat → Rat) : List Term → List Rat
  | [] => []
  | t :: r => val b t :: vals b r
end
theorem vals_map (b : Nat → Rat) : ∀ ts : List Term, vals b ts = ts.map (val b)
  | [] => rfl
  | t :: r => by
    show val b t :: vals b r = val b t :: r.map (val b)
    rw [vals_map b r]
theorem val_node (b : Nat → Rat) (o : Op) (ts : List Term) : val b (.node o ts) = opv o (ts.map (val b)) := by
  show opv o (vals b ts) = _
  rw [vals_map]
/-- a number: from 0 to 1, its bottom a divisor of D -/
def Nm (D : Nat) (q : Rat) : Prop := 0 ≤ q ∧ q ≤ 1 ∧ q.den ∣ D
def OpOk (D : Nat) : Op → Nat → Prop
  | .mean ws, n => ws.length = n ∧ ∀ w ∈ ws, 1 ≤ w ∧ w ≤ 99
  | .least, _ => True
  | .greatest, _ => True
  | .ranked k, n => 1 ≤ k ∧ k ≤ n
  | .between lo hi, n => n = 1 ∧ Nm D lo ∧ Nm D hi ∧ lo ≤ hi
/-- a term for so many people, nested at most n deep, its numbers over D -/
def Wf (P D : Nat) : Nat → Term → Prop
  | 0, _ => False
  | _ + 1, .bid p => p < P
  | _ + 1, .fix q => Nm D q
  | n + 1, .node o ts => ts ≠ [] ∧ ts.length ≤ 8 ∧ OpOk D o ts.length ∧ ∀ t ∈ ts, Wf P D n t
/-! ### weighted sums -/
theorem wsum_nil (xs : List Rat) : wsum [] xs = 0 := rfl
theorem foldl_from {α : Type} (f : α → Rat) : ∀ (l : List α) (a : Rat), l.foldl (fun a p => a + f p) a = a + l.foldl (fun a p => a + f p) 0
  | [], a => by simp [Rat.add_zero]
  | x :: l, a => by
    rw [List.foldl_cons, List.foldl_cons, foldl_from f l (a + f x), foldl_from f l (0 + f x)]
    grind
theorem wsum_cons (w : Nat) (ws : List Nat) (x : Rat) (xs : List Rat) : wsum (w :: ws) (x :: xs) = (w : Rat) * x + wsum ws xs := by
  unfold wsum
  rw [List.zip_cons_cons, List.foldl_cons, foldl_from (fun p : Nat × Rat => (p.1 : Rat) * p.2)]
  grind
theorem wsum_lin {α : Type} (M : Rat) (f : α → Rat) (a b : α → Int) (t : Rat) : ∀ (ws : List Nat) (l : List α), (∀ x ∈ l, f x * M = (a x : Rat) * t + (b x : Rat)) →
    wsum ws (l.map f) * M = ((wsum ws (l.map fun x => (a x : Rat)))) * t + (wsum ws (l.map fun x => (b x : Rat)))
  | [], l, _ => by
    simp only [wsum_nil]
    grind
  | w :: ws, [], _ => by
    have e : ∀ g : α → Rat, wsum (w :: ws) (([] : List α).map g) = 0 := fun g => rfl
    rw [e, e, e]; grind
  | w :: ws, x :: l, h => by
    rw [List.map_cons, List.map_cons, List.map_cons, wsum_cons, wsum_cons, wsum_cons]
    have h1 := h x List.mem_cons_self
    have h2 := wsum_lin M f a b t ws l fun y hy => h y (List.mem_cons_of_mem _ hy)
    grind
def isum (ws : List Nat) (xs : List Int) : Int := (ws.zip xs).foldl (fun a p => a + (p.1 : Int) * p.2) 0
theorem ifoldl_from {α : Type} (f : α → Int) : ∀ (l : List α) (a : Int), l.foldl (fun a p => a + f p) a = a + l.foldl (fun a p => a + f p) 0
  | [], a => by simp
  | x :: l, a => by
    rw [List.foldl_cons, List.foldl_cons, ifoldl_from f l (a + f x), ifoldl_from f l (0 + f x)]
    omega
theorem isum_cons (w : Nat) (ws : List Nat) (x : Int) (xs : List Int) : isum (w :: ws) (x :: xs) = (w : Int) * x + isum ws xs := by
  unfold isum
  rw [List.zip_cons_cons, List.foldl_cons, ifoldl_from (fun p : Nat × Int => (p.1 : Int) * p.2)]
  simp only [Int.zero_add]
theorem wsum_int {α : Type} (a : α → Int) : ∀ (ws : List Nat) (l : List α), wsum ws (l.map fun x => (a x : Rat)) = ((isum ws (l.map a) : Int) : Rat)
  | [], l => rfl
  | w :: ws, [] => rfl
  | w :: ws, x :: l => by
    rw [List.map_cons, List.map_cons, wsum_cons, isum_cons, wsum_int a ws l, Rat.intCast_add, Rat.intCast_mul]
    rfl
theorem isum_bound {α : Type} (a : α → Int) (M : Int) : ∀ (ws : List Nat) (l : List α), ws.length = l.length → (∀ x ∈ l, 0 ≤ a x ∧ a x ≤ M) → 0 ≤ isum ws (l.map a) ∧ isum ws (l.map a) ≤ (ws.sum : Nat) * M
  | [], [], _, _ => by
    show (0 : Int) ≤ 0 ∧ (0 : Int) ≤ ((0 : Nat) : Int) * M
    omega
  | w :: ws, x :: l, hl, h => by
    have h1 := h x List.mem_cons_self
    have h2 := isum_bound a M ws l (by simpa using hl) fun y hy => h y (List.mem_cons_of_mem _ hy)
    rw [List.map_cons, isum_cons, List.sum_cons]
    have e : ((w + ws.sum : Nat) : Int) * M = (w : Int) * M + (ws.sum : Nat) * M := by rw [Int.natCast_add, Int.add_mul]
    rw [e]
    have h3 : 0 ≤ (w : Int) * a x := Int.mul_nonneg (by omega) h1.1
    have h4 : (w : Int) * a x ≤ (w : Int) * M := Int.mul_le_mul_of_nonneg_left h1.2 (by omega)
    omega
end Cb
set_option Elab.async false
set_option linter.all false
/-! plain mathematics, part 2: lines -/
namespace Cb
/-! ### chains -/
section
variable {α : Type} {R S : α → α → Prop}
def Chn (R : α → α → Prop) : List α → Prop
  | [] => True
  | [_] => True
  | p :: q :: r => R p q ∧ Chn R (q :: r)
theorem Chn.cc {p q : α} {r : List α} (h : Chn R (p :: q :: r)) : R p q ∧ Chn R (q :: r) := h
theorem Chn.mk {p q : α} {r : List α} (h : R p q) (h2 : Chn R (q :: r)) : Chn R (p :: q :: r) := ⟨h, h2⟩
theorem Chn.one (p : α) : Chn R [p] := trivial
theorem Chn.imp (f : ∀ p q, R p q → S p q) : ∀ {L : List α}, Chn R L → Chn S L
  | [], _ => trivial
  | [_], _ => trivial
  | _ :: _ :: _, h => ⟨f _ _ h.1, Chn.imp f h.2⟩
theorem Chn.pw (tr : ∀ a b c, R a b → R b c → R a c) : ∀ {L : List α}, Chn R L → L.Pairwise R
  | [], _ => List.Pairwise.nil
  | [_], _ => List.pairwise_singleton _ _
  | p :: q :: r, h => by
    have ih := Chn.pw tr h.2
    refine List.pairwise_cons.mpr ⟨fun z hz => ?_, ih⟩
    rcases List.mem_cons.mp hz with e | hz
    · rw [e]; exact h.1
    · exact tr _ _ _ h.1 ((List.pairwise_cons.mp ih).1 z hz)
theorem Chn.at : ∀ {L : List α} {i : Nat} {p q : α}, Chn R L → L[i]? = some p → L[i + 1]? = some q → R p q
  | [], i, p, q, _, e, _ => by simp at e
  | [_], i, p, q, _, _, e => by simp at e
  | a :: b :: r, 0, p, q, h, e, e2 => by
    simp only [List.getElem?_cons_zero, List.getElem?_cons_succ, Option.some.injEq, Nat.zero_add] at e e2
    rw [← e, ← e2]; exact h.1
  | a :: b :: r, i + 1, p, q, h, e, e2 => Chn.at h.2 (by simpa using e) (by simpa using e2)
theorem Chn.of : ∀ {L : List α}, (∀ i p q, L[i]? = some p → L[i + 1]? = some q → R p q) → Chn R L
  | [], _ => trivial
  | [_], _ => trivial
  | a :: b :: r, h => ⟨h 0 a b rfl rfl, Chn.of fun i p q e e2 => h (i + 1) p q (by simpa using e) (by simpa using e2)⟩
theorem Chn.map {β : Type} {S : β → β → Prop} {g : α → β} (f : ∀ p q, R p q → S (g p) (g q)) : ∀ {L : List α}, Chn R L → Chn S (L.map g)
  | [], _ => trivial
  | [_], _ => trivial
  | _ :: _ :: _, h => ⟨f _ _ h.1, Chn.map f h.2⟩
theorem Chn.app {a : α} {ys : List α} : ∀ {xs : List α}, Chn R (xs ++ a :: ys) ↔ Chn R (xs ++ [a]) ∧ Chn R (a :: ys)
  | [] => ⟨fun h => ⟨trivial, h⟩, fun h => h.2⟩
  | [x] => ⟨fun h => ⟨⟨h.1, trivial⟩, h.2⟩, fun h => ⟨h.1.1, h.2⟩⟩
  | x :: y :: r => by
    have ih := Chn.app (a := a) (ys := ys) (xs := y :: r)
    constructor
    · intro h
      have h2 := ih.mp h.2
      exact ⟨⟨h.1, h2.1⟩, h2.2⟩
    · intro h
      exact ⟨h.1.1, ih.mpr ⟨h.1.2, h.2⟩⟩
end
/-! ### affine pieces -/
def Pc (M : Nat) (f : Rat → Rat) (x y : Rat) : Prop := ∃ a b : Int, 0 ≤ a ∧ a ≤ (M : Int) ∧ ∀ t, x ≤ t → t ≤ y → f t * (M : Rat) = (a : Rat) * t + (b : Rat)
theorem Pc.sub {M : Nat} {f : Rat → Rat} {x y x' y' : Rat} (h : Pc M f x y) (hx : x ≤ x') (hy : y' ≤ y) : Pc M f x' y' := by
  obtain ⟨a, b, h0, h1, h2⟩ := h
  exact ⟨a, b, h0, h1, fun t q r => h2 t (Rat.le_trans hx q) (Rat.le_trans r hy)⟩
theorem Pc.scale {M : Nat} {f : Rat → Rat} {x y : Rat} (h : Pc M f x y) (k : Nat) : Pc (k * M) f x y := by
  obtain ⟨a, b, h0, h1, h2⟩ := h
  refine ⟨k * a, k * b, Int.mul_nonneg (by omega) h0, ?_, fun t q r => ?_⟩
  · rw [Int.natCast_mul]
    exact Int.mul_le_mul_of_nonneg_left h1 (by omega)
  · have := h2 t q r
    rw [Rat.natCast_mul, Rat.intCast_mul, Rat.intCast_mul]
    have e : ((k : Int) : Rat) = (k : Rat) := rfl
    rw [e]
    grind
theorem natR_pos {M : Nat} (h : 0 < M) : (0 : Rat) < (M : Rat) := by
  have : ((0 : Nat) : Rat) < (M : Rat) := Rat.natCast_lt_natCast.mpr h
  exact this
theorem denR_pos (q : Rat) : (0 : Rat) < (q.den : Rat) := natR_pos (Nat.pos_of_ne_zero q.den_nz)
theorem mul_den (q : Rat) : q * (q.den : Rat) = (q.num : Rat) := by
  have e : q = (q.num : Rat) / (q.den : Rat) := by rw [← Rat.mkRat_eq_div, Rat.mkRat_self]
  have h : (q.den : Rat) ≠ 0 := by
    have := denR_pos q
    grind
  have h2 := Rat.div_mul_cancel (a := (q.num : Rat)) h
  rw [← e] at h2
  exact h2
theorem intR_nonneg {a : Int} (h : 0 ≤ a) : (0 : Rat) ≤ (a : Rat) := by
  have : ((0 : Int) : Rat) ≤ (a : Rat) := Rat.intCast_le_intCast.mpr h
  exact this
theorem mul_cancel {x y m : Rat} (h : 0 < m) (e : x * m = y * m) : x = y := by
  have hm : m ≠ 0 := by grind
  have h1 : x * m * m⁻¹ = y * m * m⁻¹ := by rw [e]
  rw [Rat.mul_assoc, Rat.mul_assoc, Rat.mul_inv_cancel _ hm, Rat.mul_one, Rat.mul_one] at h1
  exact h1
theorem le_of_mul_le {x y m : Rat} (h : 0 < m) (e : x * m ≤ y * m) : x ≤ y := by
  refine Classical.byContradiction fun hn => ?_
  have h1 : y < x := by grind
  have h2 : 0 < (x - y) * m := Rat.mul_pos (by grind) h
  grind
theorem lt_of_mul_lt {x y m : Rat} (h : 0 < m) (e : x * m < y * m) : x < y := by
  refine Classical.byContradiction fun hn => ?_
  have h2 : 0 ≤ (x - y) * m := Rat.mul_nonneg (by grind) (by grind)
  grind
theorem mul_le_r {x y m : Rat} (h : 0 ≤ m) (e : x ≤ y) : m * x ≤ m * y := Rat.mul_le_mul_of_nonneg_left e h
def btw (p q : Rat × Rat) (t : Rat) : Rat := p.2 + ((t - p.1) / (q.1 - p.1)) * (q.2 - p.2)
theorem btw_eq {M : Nat} {f : Rat → Rat} {p q : Rat × Rat} {t : Rat} (hM : 0 < M) (h : Pc M f p.1 q.1) (hl : p.1 < q.1) (ep : p.2 = f p.1) (eq : q.2 = f q.1) (h1 : p.1 ≤ t) (h2 : t ≤ q.1) : btw p q t = f t := by
  obtain ⟨a, b, _, _, hf⟩ := h
  have m := natR_pos hM
  have e1 := hf p.1 Rat.le_refl (by grind)
  have e2 := hf q.1 (by grind) Rat.le_refl
  have e3 := hf t h1 h2
  refine mul_cancel m ?_
  unfold btw
  have hd : q.1 - p.1 ≠ 0 := by grind
  rw [ep, eq]
  generalize f p.1 = u at *
  generalize f q.1 = v at *
  generalize f t = w at *
  have h3 : ((t - p.1) / (q.1 - p.1)) * (q.1 - p.1) = t - p.1 := by grind
  generalize ((t - p.1) / (q.1 - p.1)) = s at *
  have h4 : (v - u) * (M : Rat) = (a : Rat) * (q.1 - p.1) := by grind
  have h5 : s * ((v - u) * (M : Rat)) = (a : Rat) * (s * (q.1 - p.1)) := by rw [h4]; grind
  grind
/-! ### lines -/
def Sg (M : Nat) (f : Rat → Rat) (p q : Rat × Rat) : Prop := p.1 < q.1 ∧ Pc M f p.1 q.1
structure Ln (M : Nat) (f : Rat → Rat) (L : List (Rat × Rat)) : Prop where
  pos : 0 < M
  on : ∀ p ∈ L, p.2 = f p.1
  den : ∀ p ∈ L, p.1.den ≤ M
  ch : Chn (Sg M f) L
  hd : ∃ v, L.head? = some (0, v)
  lt : ∃ v, L.getLast? = some (1, v)
  rng : ∀ t, 0 ≤ t → t ≤ 1 → 0 ≤ f t ∧ f t ≤ 1
section
variable {M : Nat} {f g : Rat → Rat} {L : List (Rat × Rat)}
theorem Ln.len (h : Ln M f L) : 2 ≤ L.length := by
  obtain ⟨v, e⟩ := h.hd
  obtain ⟨u, e2⟩ := h.lt
  match L, e, e2 with
  | [], e, _ => simp at e
  | [p], e, e2 =>
    simp only [List.head?_cons, List.getLast?_singleton, Option.some.injEq] at e e2
    rw [e] at e2
    have := congrArg Prod.fst e2
    simp at this
  | p :: q :: r, _, _ => simp
theorem sg_sorted (h : Chn (Sg M f) L) : L.Pairwise (fun p q => p.1 < q.1) := by
  have h2 : Chn (fun p q => p.1 < q.1) L := h.imp fun p q z => z.1
  exact h2.pw fun a b c h1 h2 => by grind
theorem Ln.first (h : Ln M f L) : ∃ r, L = (0, f 0) :: r := by
  obtain ⟨v, e⟩ := h.hd
  cases L with
  | nil => simp at e
  | cons p r =>
    have e1 : p = (0, v) := by simpa using e
    have e2 := h.on p List.mem_cons_self
    rw [e1] at e2
    exact ⟨r, by rw [e1, show v = f 0 from e2]⟩
theorem Ln.last (h : Ln M f L) : L.getLast? = some (1, f 1) := by
  obtain ⟨v, e⟩ := h.lt
  have e2 := h.on _ (List.mem_of_getLast? e)
  rw [e, show v = f 1 from e2]
theorem Ln.ge0 (h : Ln M f L) {p : Rat × Rat} (hp : p ∈ L) : 0 ≤ p.1 := by
  obtain ⟨r, e⟩ := h.first
  have s := sg_sorted h.ch
  rw [e] at s hp
  rcases List.mem_cons.mp hp with e1 | h1
  · rw [e1]; exact Rat.le_refl
  · have := (List.pairwise_cons.mp s).1 p h1
    grind
theorem Ln.le1 (h : Ln M f L) {p : Rat × Rat} (hp : p ∈ L) : p.1 ≤ 1 := by
  have e := h.last
  have s := sg_sorted h.ch
  obtain ⟨ys, e2⟩ := List.getLast?_eq_some_iff.mp e
  rw [e2] at s hp
  rcases List.mem_append.mp hp with h1 | h1
  · have := (List.pairwise_append.mp s).2.2 p h1 (1, f 1) (by simp)
    grind
  · have : p = (1, f 1) := by simpa using h1
    rw [this]; exact Rat.le_refl
theorem Ln.scale (h : Ln M f L) {k : Nat} (hk : 0 < k) : Ln (k * M) f L where
  pos := Nat.mul_pos hk h.pos
  on := h.on
  den := fun p hp => Nat.le_trans (h.den p hp) (Nat.le_mul_of_pos_left M hk)
  ch := h.ch.imp fun p q z => ⟨z.1, z.2.scale k⟩
  hd := h.hd
  lt := h.lt
  rng := h.rng
theorem Ln.to (h : Ln M f L) {M' : Nat} (hd : M ∣ M') (h0 : 0 < M') : Ln M' f L := by
  obtain ⟨k, rfl⟩ := hd
  rw [Nat.mul_comm]
  exact h.scale (Nat.pos_of_ne_zero fun z => by rw [z, Nat.mul_zero] at h0; omega)
theorem Ln.congr (h : Ln M f L) (e : ∀ t, f t = g t) : Ln M g L := by
  have : f = g := funext e
  rw [← this]; exact h
theorem chain_loc : ∀ {L : List (Rat × Rat)} {x y : Rat}, Chn (Sg M f) L → (∃ p, L.head? = some p ∧ p.1 ≤ x) → (∃ p, L.getLast? = some p ∧ y ≤ p.1) → x < y → (∀ p ∈ L, ¬ (x < p.1 ∧ p.1 < y)) → Pc M f x y
  | [], x, y, _, ⟨p, e, _⟩, _, _, _ => by simp at e
  | [p], x, y, _, ⟨q, e, h1⟩, ⟨r, e2, h2⟩, hxy, _ => by
    simp only [List.head?_cons, List.getLast?_singleton, Option.some.injEq] at e e2
    subst e; subst e2
    grind
  | p :: q :: r, x, y, hc, ⟨p', e, h1⟩, hl, hxy, hn => by
    have ep : p = p' := by simpa using e
    subst ep
    obtain ⟨s, hc'⟩ := hc.cc
    by_cases hq : q.1 ≤ x
    · refine chain_loc hc' ⟨q, rfl, hq⟩ ?_ hxy fun z hz => hn z (List.mem_cons_of_mem _ hz)
      obtain ⟨u, eu, hu⟩ := hl
      exact ⟨u, by rw [List.getLast?_cons_cons] at eu; exact eu, hu⟩
    · have h2 := hn q (by simp)
      have h3 : y ≤ q.1 := by grind
      exact s.2.sub h1 h3
/-- within a gap between its places a line is straight -/
theorem Ln.gap (h : Ln M f L) {x y : Rat} (h0 : 0 ≤ x) (h1 : y ≤ 1) (hxy : x < y) (hn : ∀ p ∈ L, ¬ (x < p.1 ∧ p.1 < y)) : Pc M f x y := by
  obtain ⟨v, e⟩ := h.hd
  obtain ⟨u, e2⟩ := h.lt
  exact chain_loc h.ch ⟨_, e, h0⟩ ⟨_, e2, h1⟩ hxy hn
/-- lines never fall -/
theorem pc_mono {x y s t : Rat} (hM : 0 < M) (h : Pc M f x y) (h1 : x ≤ s) (h2 : s ≤ t) (h3 : t ≤ y) : f s ≤ f t := by
  obtain ⟨a, b, h0, _, hf⟩ := h
  have e1 := hf s h1 (Rat.le_trans h2 h3)
  have e2 := hf t (Rat.le_trans h1 h2) h3
  have := mul_le_r (intR_nonneg h0) h2
  exact le_of_mul_le (natR_pos hM) (by grind)
theorem chain_mono (hM : 0 < M) : ∀ {L : List (Rat × Rat)} {s t : Rat}, Chn (Sg M f) L → (∃ p, L.head? = some p ∧ p.1 ≤ s) → (∃ p, L.getLast? = some p ∧ t ≤ p.1) → s ≤ t → f s ≤ f t
  | [], s, t, _, ⟨p, e, _⟩, _, _ => by simp at e
  | [p], s, t, _, ⟨q, e, h1⟩, ⟨r, e2, h2⟩, hst => by
    simp only [List.head?_cons, List.getLast?_singleton, Option.some.injEq] at e e2
    subst e; subst e2
    have : s = t := by grind
    rw [this]; exact Rat.le_refl
  | p :: q :: r, s, t, hc, ⟨p', e, h1⟩, hl, hst => by
    have ep : p = p' := by simpa using e
    subst ep
    obtain ⟨g, hc'⟩ := hc.cc
    have hl' : ∃ p, (q :: r).getLast? = some p ∧ t ≤ p.1 := by
      obtain ⟨u, eu, hu⟩ := hl
      exact ⟨u, by rw [List.getLast?_cons_cons] at eu; exact eu, hu⟩
    by_cases hq : q.1 ≤ s
    · exact chain_mono hM hc' ⟨q, rfl, hq⟩ hl' hst
    · by_cases ht : t ≤ q.1
      · exact pc_mono hM g.2 h1 hst ht
      · have a1 := pc_mono (s := s) (t := q.1) hM g.2 h1 (by grind) Rat.le_refl
        have a2 := chain_mono (s := q.1) hM hc' ⟨q, rfl, Rat.le_refl⟩ hl' (by grind)
        exact Rat.le_trans a1 a2
theorem Ln.mono (h : Ln M f L) {s t : Rat} (h0 : 0 ≤ s) (hst : s ≤ t) (h1 : t ≤ 1) : f s ≤ f t := by
  obtain ⟨v, e⟩ := h.hd
  obtain ⟨u, e2⟩ := h.lt
  exact chain_mono h.pos h.ch ⟨_, e, h0⟩ ⟨_, e2, h1⟩ hst
/-- two ways joined that lie on one straight way -/
theorem sg_join {p q r : Rat × Rat} (hM : 0 < M) (h1 : Sg M f p q) (h2 : Sg M f q r) (ep : p.2 = f p.1) (eq : q.2 = f q.1) (er : r.2 = f r.1) (e : btw p r q.1 = q.2) : Sg M f p r := by
  obtain ⟨l1, a, b, a0, aM, hf⟩ := h1
  obtain ⟨l2, c, d, c0, cM, hg⟩ := h2
  have m := natR_pos hM
  have e1 := hf p.1 Rat.le_refl (by grind)
  have e2 := hf q.1 (by grind) Rat.le_refl
  have e3 := hg q.1 Rat.le_refl (by grind)
  have e4 := hg r.1 (by grind) Rat.le_refl
  refine ⟨by grind, a, b, a0, aM, fun t ht1 ht2 => ?_⟩
  by_cases ht : t ≤ q.1
  · exact hf t ht1 ht
  · have e5 := hg t (by grind) ht2
    rw [e5]
    unfold btw at e
    rw [ep, eq, er] at e
    have hd : r.1 - p.1 ≠ 0 := by grind
    have h3 : ((q.1 - p.1) / (r.1 - p.1)) * (r.1 - p.1) = q.1 - p.1 := by grind
    have h6 : (0 : Rat) < ((q.1 - p.1) / (r.1 - p.1)) := by
      refine lt_of_mul_lt (m := r.1 - p.1) (by grind) ?_
      rw [h3]; grind
    have h7 : ((q.1 - p.1) / (r.1 - p.1)) < 1 := by
      refine lt_of_mul_lt (m := r.1 - p.1) (by grind) ?_
      rw [h3]; grind
    generalize ((q.1 - p.1) / (r.1 - p.1)) = s at *
    -- slopes agree
    have k1 : (f p.1 + s * (f r.1 - f p.1)) * (M : Rat) = f q.1 * (M : Rat) := by rw [e]
    have k2 : f p.1 * (M : Rat) + s * (f r.1 * (M : Rat) - f p.1 * (M : Rat)) = f q.1 * (M : Rat) := by grind
    rw [e1, e4] at k2
    have k3 : (a : Rat) * q.1 + b = (c : Rat) * q.1 + d := by rw [← e2, ← e3]
    rw [e2] at k2
    -- a p + b + s (c r + d - a p - b) = a q + b, q = p + s (r - p), d = a q + b - c q
    have k4 : ((a : Rat) - c) * (s * (r.1 - q.1)) = 0 := by grind
    have k5 : (0 : Rat) < s * (r.1 - q.1) := Rat.mul_pos h6 (by grind)
    have k6 : (a : Rat) = c := by
      have : ((a : Rat) - c) = 0 := by
        have := mul_cancel (x := (a : Rat) - c) (y := 0) k5 (by rw [k4]; grind)
        exact this
      grind
    grind
theorem Ln.flat {q : Rat} (hM : 0 < M) (hq : Nm M q) : Ln M (fun _ => q) [(0, q), (1, q)] := by
  obtain ⟨h0, h1, k, hk⟩ := hq
  refine ⟨hM, fun p hp => ?_, fun p hp => ?_, ?_, ⟨q, rfl⟩, ⟨q, rfl⟩, fun t _ _ => ⟨h0, h1⟩⟩
  · rcases List.mem_cons.mp hp with e | hp
    · rw [e]
    · have e : p = (1, q) := by simpa using hp
      rw [e]
  · rcases List.mem_cons.mp hp with e | hp
    · rw [e]; exact hM
    · have e : p = (1, q) := by simpa using hp
      rw [e]; exact hM
  · refine Chn.mk ⟨by show (0 : Rat) < 1; decide, 0, q.num * k, Int.le_refl _, by omega, fun t _ _ => ?_⟩ (Chn.one _)
    have e : q * (q.den : Rat) = (q.num : Rat) := mul_den q
    rw [hk, Rat.natCast_mul, Rat.intCast_mul]
    have e2 : ((k : Int) : Rat) = (k : Rat) := rfl
    have e3 : ((0 : Int) : Rat) = 0 := rfl
    rw [e2, e3]
    grind
theorem Ln.rising (hM : 0 < M) : Ln M (fun t => t) [(0, 0), (1, 1)] := by
  refine ⟨hM, fun p hp => ?_, fun p hp => ?_, ?_, ⟨0, rfl⟩, ⟨1, rfl⟩, fun t h0 h1 => ⟨h0, h1⟩⟩
  · rcases List.mem_cons.mp hp with e | hp
    · rw [e]
    · have e : p = (1, 1) := by simpa using hp
      rw [e]
  · rcases List.mem_cons.mp hp with e | hp
    · rw [e]; exact hM
    · have e : p = (1, 1) := by simpa using hp
      rw [e]; exact hM
  · refine Chn.mk ⟨by show (0 : Rat) < 1; decide, (M : Int), 0, by omega, by omega, fun t _ _ => ?_⟩ (Chn.one _)
    have e2 : ((M : Int) : Rat) = (M : Rat) := rfl
    have e3 : ((0 : Int) : Rat) = 0 := rfl
    rw [e2, e3]
    grind
end
/-! ### strictly ascending places -/
theorem sorted_gap {ps : List Rat} (h : ps.Pairwise (· < ·)) : Chn (fun x y => x < y ∧ x ∈ ps ∧ y ∈ ps ∧ ∀ z ∈ ps, ¬ (x < z ∧ z < y)) ps := by
  refine Chn.of fun i x y ex ey => ?_
  obtain ⟨hi', rfl⟩ := List.getElem?_eq_some_iff.mp ex
  obtain ⟨hi, rfl⟩ := List.getElem?_eq_some_iff.mp ey
  have hs := List.pairwise_iff_getElem.mp h
  refine ⟨hs i (i + 1) hi' hi (by omega), List.getElem_mem _, List.getElem_mem _, fun z hz q => ?_⟩
  obtain ⟨j, hj, rfl⟩ := List.mem_iff_getElem.mp hz
  rcases Nat.lt_or_ge j i with h1 | h1
  · have := hs j i hj (by omega) h1
    grind
  · rcases Nat.lt_or_ge (i + 1) j with h2 | h2
    · have := hs (i + 1) j hi hj h2
      grind
    · have : j = i ∨ j = i + 1 := by omega
      rcases this with e | e
      · subst e; grind
      · subst e; grind
/-- a line by its places -/
theorem Ln.mk' {M : Nat} {g : Rat → Rat} {ps : List Rat} (hM : 0 < M) (hs : ps.Pairwise (· < ·)) (h0 : ps.head? = some 0) (h1 : ps.getLast? = some 1) (hd : ∀ p ∈ ps, p.den ≤ M)
    (hg : ∀ x y, x ∈ ps → y ∈ ps → x < y → (∀ z ∈ ps, ¬ (x < z ∧ z < y)) → Pc M g x y) (hr : ∀ t, 0 ≤ t → t ≤ 1 → 0 ≤ g t ∧ g t ≤ 1) : Ln M g (ps.map fun t => (t, g t)) where
  pos := hM
  on := fun p hp => by obtain ⟨t, _, rfl⟩ := List.mem_map.mp hp; rfl
  den := fun p hp => by obtain ⟨t, ht, rfl⟩ := List.mem_map.mp hp; exact hd t ht
  ch := by
    exact (sorted_gap hs).map fun x y z => ⟨z.1, hg x y z.2.1 z.2.2.1 z.1 z.2.2.2⟩
  hd := ⟨g 0, by rw [List.head?_map, h0]; rfl⟩
  lt := ⟨g 1, by rw [List.getLast?_map, h1]; rfl⟩
  rng := hr
end Cb
set_option Elab.async false
set_option linter.all false
/-! plain mathematics, part 3: sizes, terms' numbers, ranked and mean lines -/
namespace Cb
/-! ### bottoms -/
theorem den_dvd {x : Rat} {n : Nat} {z : Int} (h0 : 0 < n) (h : x * (n : Rat) = (z : Rat)) : x.den ∣ n := by
  have hn : (n : Rat) ≠ 0 := by
    have := natR_pos h0
    grind
  have e : x = mkRat z n := by
    rw [Rat.mkRat_eq_div, ← h, Rat.mul_div_cancel hn]
  rw [e, Rat.den_mkRat, if_neg (by omega)]
  exact Nat.div_dvd_of_dvd (Nat.gcd_dvd_left n z.natAbs)
theorem den_le {x : Rat} {n : Nat} {z : Int} (h0 : 0 < n) (h : x * (n : Rat) = (z : Rat)) : x.den ≤ n := Nat.le_of_dvd h0 (den_dvd h0 h)
theorem den_le_int {x : Rat} {a z : Int} (h0 : 0 < a) (h : x * (a : Rat) = (z : Rat)) : (x.den : Int) ≤ a := by
  obtain ⟨n, rfl⟩ := Int.eq_ofNat_of_zero_le (Int.le_of_lt h0)
  have := den_le (n := n) (by omega) h
  omega
theorem int_of_den {x : Rat} {n : Nat} (h : x.den ∣ n) : ∃ z : Int, x * (n : Rat) = (z : Rat) := by
  obtain ⟨k, rfl⟩ := h
  refine ⟨x.num * k, ?_⟩
  rw [Rat.natCast_mul, Rat.intCast_mul]
  have e := mul_den x
  have e2 : ((k : Int) : Rat) = (k : Rat) := rfl
  rw [e2]
  grind
/-! ### sizes -/
def Sz (n : Nat) (q : Rat) : Prop := q.num.natAbs < 2 ^ n ∧ q.den < 2 ^ n
theorem two_mono {a b : Nat} (h : a ≤ b) : 2 ^ a ≤ 2 ^ b := Nat.pow_le_pow_right (by decide) h
theorem Sz.mono {a b : Nat} {q : Rat} (h : Sz a q) (hab : a ≤ b) : Sz b q := ⟨Nat.lt_of_lt_of_le h.1 (two_mono hab), Nat.lt_of_lt_of_le h.2 (two_mono hab)⟩
theorem divInt_num_le (n d : Int) : (Rat.divInt n d).num.natAbs ≤ n.natAbs := by
  rw [Rat.num_divInt, Int.natAbs_ediv_of_dvd]
  · refine Nat.le_trans (Nat.div_le_self _ _) ?_
    rw [Int.natAbs_mul]
    have : d.sign.natAbs ≤ 1 := by rw [Int.natAbs_sign]; split <;> omega
    calc d.sign.natAbs * n.natAbs ≤ 1 * n.natAbs := Nat.mul_le_mul_right _ this
      _ = n.natAbs := Nat.one_mul _
  · exact Int.dvd_trans (Int.gcd_dvd_right d n) (Int.dvd_mul_left d.sign n)
theorem divInt_den_le {n d : Int} (h : d ≠ 0) : (Rat.divInt n d).den ≤ d.natAbs := by
  rw [Rat.den_divInt, if_neg h]
  exact Nat.div_le_self _ _
theorem Sz.of_divInt {n d : Int} {k : Nat} (h : d ≠ 0) (h1 : n.natAbs < 2 ^ k) (h2 : d.natAbs < 2 ^ k) : Sz k (Rat.divInt n d) := ⟨Nat.lt_of_le_of_lt (divInt_num_le n d) h1, Nat.lt_of_le_of_lt (divInt_den_le h) h2⟩
theorem mul_lt_two {x y a b : Nat} (h1 : x < 2 ^ a) (h2 : y < 2 ^ b) : x * y < 2 ^ (a + b) := by
  rw [Nat.pow_add]
  exact Nat.mul_lt_mul'' h1 h2
theorem denI (q : Rat) : (q.den : Int) ≠ 0 := by have := q.den_nz; omega
theorem add_eq_divInt (x y : Rat) : x + y = Rat.divInt (x.num * y.den + y.num * x.den) (x.den * y.den) := by
  have h := Rat.divInt_add_divInt x.num y.num (denI x) (denI y)
  rw [Rat.num_divInt_den, Rat.num_divInt_den] at h
  exact h
theorem sub_eq_divInt (x y : Rat) : x - y = Rat.divInt (x.num * y.den - y.num * x.den) (x.den * y.den) := by
  have h := Rat.divInt_sub_divInt x.num y.num (denI x) (denI y)
  rw [Rat.num_divInt_den, Rat.num_divInt_den] at h
  exact h
theorem mul_eq_divInt (x y : Rat) : x * y = Rat.divInt (x.num * y.num) (x.den * y.den) := by
  have h := Rat.divInt_mul_divInt x.num y.num (d₁ := x.den) (d₂ := y.den)
  rw [Rat.num_divInt_den, Rat.num_divInt_den] at h
  exact h
theorem div_eq_divInt (x y : Rat) : x / y = Rat.divInt (x.num * y.den) (x.den * y.num) := by
  rw [Rat.div_def, Rat.inv_def]
  have h := Rat.divInt_mul_divInt x.num (y.den : Int) (d₁ := x.den) (d₂ := y.num)
  rw [Rat.num_divInt_den] at h
  exact h
theorem natAbs_prod {x y : Int} {a b : Nat} (h1 : x.natAbs < 2 ^ a) (h2 : y.natAbs < 2 ^ b) : (x * y).natAbs < 2 ^ (a + b) := by
  rw [Int.natAbs_mul]
  exact mul_lt_two h1 h2
theorem natAbs_cast (n : Nat) : (n : Int).natAbs = n := rfl
section
variable {x y : Rat} {a b : Nat}
theorem Sz.add_nums (hx : Sz a x) (hy : Sz b y) : (x.num * y.den).natAbs < 2 ^ (a + b) ∧ (y.num * x.den).natAbs < 2 ^ (a + b) ∧ ((x.den : Int) * y.den).natAbs < 2 ^ (a + b) :=
  ⟨natAbs_prod hx.1 (by rw [natAbs_cast]; exact hy.2), by rw [Nat.add_comm]; exact natAbs_prod hy.1 (by rw [natAbs_cast]; exact hx.2), natAbs_prod (by rw [natAbs_cast]; exact hx.2) (by rw [natAbs_cast]; exact hy.2)⟩
theorem Sz.add (hx : Sz a x) (hy : Sz b y) : Sz (a + b + 1) (x + y) := by
  obtain ⟨h1, h2, h3⟩ := hx.add_nums hy
  rw [add_eq_divInt]
  refine Sz.of_divInt (Int.mul_ne_zero (denI x) (denI y)) ?_ ?_
  · rw [Nat.pow_succ]; omega
  · rw [Nat.pow_succ]; omega
theorem Sz.sub (hx : Sz a x) (hy : Sz b y) : Sz (a + b + 1) (x - y) := by
  obtain ⟨h1, h2, h3⟩ := hx.add_nums hy
  rw [sub_eq_divInt]
  refine Sz.of_divInt (Int.mul_ne_zero (denI x) (denI y)) ?_ ?_
  · rw [Nat.pow_succ]; omega
  · rw [Nat.pow_succ]; omega
theorem Sz.mul (hx : Sz a x) (hy : Sz b y) : Sz (a + b) (x * y) := by
  rw [mul_eq_divInt]
  exact Sz.of_divInt (Int.mul_ne_zero (denI x) (denI y)) (natAbs_prod hx.1 hy.1) (natAbs_prod (by rw [natAbs_cast]; exact hx.2) (by rw [natAbs_cast]; exact hy.2))
theorem num_ne (h : y ≠ 0) : y.num ≠ 0 := fun z => h (Rat.num_eq_zero.mp z)
theorem Sz.div (hx : Sz a x) (hy : Sz b y) (h : y ≠ 0) : Sz (a + b) (x / y) := by
  rw [div_eq_divInt]
  exact Sz.of_divInt (Int.mul_ne_zero (denI x) (num_ne h)) (natAbs_prod hx.1 (by rw [natAbs_cast]; exact hy.2)) (natAbs_prod (by rw [natAbs_cast]; exact hx.2) hy.1)
theorem num_le_den (h0 : 0 ≤ x) (h1 : x ≤ 1) : 0 ≤ x.num ∧ x.num ≤ x.den := by
  refine ⟨Rat.num_nonneg.mpr h0, ?_⟩
  have := (Rat.le_iff x 1).mp h1
  simp only [Rat.one_num, Rat.one_den] at this
  omega
theorem Sz.unit (h0 : 0 ≤ x) (h1 : x ≤ 1) (h : x.den < 2 ^ a) : Sz a x := by
  have := num_le_den h0 h1
  exact ⟨by omega, h⟩
end
theorem Nm.sz {D n : Nat} {q : Rat} (h : Nm D q) (h0 : 0 < D) (hD : D < 2 ^ n) : Sz n q := Sz.unit h.1 h.2.1 (Nat.lt_of_le_of_lt (Nat.le_of_dvd h0 h.2.2) hD)
theorem Nm.to {D D' : Nat} {q : Rat} (h : Nm D q) (hd : D ∣ D') : Nm D' q := ⟨h.1, h.2.1, Nat.dvd_trans h.2.2 hd⟩
/-! ### weights of a term -/
def oww : Op → Nat
  | .mean ws => ws.sum
  | _ => 1
mutual
def wp : Term → Nat
  | .bid _ => 1
  | .fix _ => 1
  | .node o ts => oww o * wps ts
def wps : List Term → Nat
  | [] => 1
  | t :: r => wp t * wps r
end
theorem wp_node (o : Op) (ts : List Term) : wp (.node o ts) = oww o * wps ts := rfl
theorem wps_cons (t : Term) (r : List Term) : wps (t :: r) = wp t * wps r := rfl
theorem sum_pos {ws : List Nat} (h : ws ≠ []) (h1 : ∀ w ∈ ws, 1 ≤ w ∧ w ≤ 99) : 0 < ws.sum := by
  cases ws with
  | nil => exact absurd rfl h
  | cons w r =>
    have := (h1 w List.mem_cons_self).1
    rw [List.sum_cons]; omega
theorem oww_pos {D n : Nat} {o : Op} (h : OpOk D o n) (hn : 0 < n) : 0 < oww o := by
  cases o with
  | mean ws => exact sum_pos (fun z => by rw [z] at h; have := h.1; simp at this; omega) h.2
  | _ => exact Nat.one_pos
theorem ts_pos {ts : List Term} (h : ts ≠ []) : 0 < ts.length := List.length_pos_iff.mpr h
theorem wps_pos_of : ∀ {ts : List Term}, (∀ t ∈ ts, 0 < wp t) → 0 < wps ts
  | [], _ => Nat.one_pos
  | t :: r, h => Nat.mul_pos (h t List.mem_cons_self) (wps_pos_of fun x hx => h x (List.mem_cons_of_mem _ hx))
theorem wp_pos {P D : Nat} : ∀ {n : Nat} {t : Term}, Wf P D n t → 0 < wp t
  | 0, _, h => h.elim
  | _ + 1, .bid _, _ => Nat.one_pos
  | _ + 1, .fix _, _ => Nat.one_pos
  | n + 1, .node o ts, h => Nat.mul_pos (oww_pos h.2.2.1 (ts_pos h.1)) (wps_pos_of fun t ht => wp_pos (h.2.2.2 t ht))
theorem wps_pos {P D n : Nat} {ts : List Term} (h : ∀ t ∈ ts, Wf P D n t) : 0 < wps ts := wps_pos_of fun t ht => wp_pos (h t ht)
theorem wp_dvd : ∀ {ts : List Term} {t : Term}, t ∈ ts → wp t ∣ wps ts
  | [], t, h => by cases h
  | s :: r, t, h => by
    rw [wps_cons]
    rcases List.mem_cons.mp h with e | h
    · rw [e]; exact Nat.dvd_mul_right _ _
    · exact Nat.dvd_trans (wp_dvd h) (Nat.dvd_mul_left _ _)
/-! ### numbers of terms -/
theorem divInt_one (S : Nat) (h : 0 < S) : (Rat.divInt 1 (S : Int)) * (S : Rat) = 1 := by
  rw [Rat.divInt_eq_div]
  have hn : ((S : Int) : Rat) ≠ 0 := by
    have := natR_pos h
    have e : ((S : Int) : Rat) = (S : Rat) := rfl
    rw [e]; grind
  exact Rat.div_mul_cancel hn
theorem mean_mul (w : Rat) {S : Nat} (h : 0 < S) : (w * Rat.divInt 1 (S : Int)) * (S : Rat) = w := by
  rw [Rat.mul_assoc, divInt_one S h, Rat.mul_one]
theorem wsum_le {α : Type} {f g : α → Rat} : ∀ {ws : List Nat} {l : List α}, (∀ x ∈ l, f x ≤ g x) → wsum ws (l.map f) ≤ wsum ws (l.map g)
  | [], _, _ => Rat.le_refl
  | _ :: _, [], _ => Rat.le_refl
  | w :: ws, x :: l, h => by
    rw [List.map_cons, List.map_cons, wsum_cons, wsum_cons]
    have h1 := mul_le_r (Rat.natCast_nonneg (a := w)) (h x List.mem_cons_self)
    have h2 := wsum_le (ws := ws) fun y hy => h y (List.mem_cons_of_mem _ hy)
    grind
theorem wsum_const (c : Rat) {α : Type} : ∀ {ws : List Nat} {l : List α}, ws.length = l.length → wsum ws (l.map fun _ => c) = (ws.sum : Nat) * c
  | [], [], _ => by
    show (0 : Rat) = ((0 : Nat) : Rat) * c
    have e : ((0 : Nat) : Rat) = 0 := rfl
    rw [e]; grind
  | w :: ws, x :: l, h => by
    rw [List.map_cons, wsum_cons, wsum_const c (ws := ws) (by simpa using h), List.sum_cons, Rat.natCast_add]
    grind
/-- a mean of things over M -/
theorem mean_affine {α : Type} {M : Nat} {f : α → Rat} {a b : α → Int} {t : Rat} {ws : List Nat} {l : List α} (hS : 0 < ws.sum) (h : ∀ x ∈ l, f x * (M : Rat) = (a x : Rat) * t + (b x : Rat)) :
    (wsum ws (l.map f) * Rat.divInt 1 (ws.sum : Nat)) * ((ws.sum * M : Nat) : Rat) = ((isum ws (l.map a) : Int) : Rat) * t + ((isum ws (l.map b) : Int) : Rat) := by
  have e := wsum_lin (M : Rat) f a b t ws l h
  rw [wsum_int, wsum_int] at e
  have e2 := divInt_one ws.sum hS
  rw [Rat.natCast_mul]
  grind
theorem opv_unit {D n : Nat} {o : Op} {xs : List Rat} (ho : OpOk D o n) (hl : xs.length = n) (hn : 0 < n) (h : ∀ x ∈ xs, 0 ≤ x ∧ x ≤ 1) : 0 ≤ opv o xs ∧ opv o xs ≤ 1 := by
  cases o with
  | mean ws =>
    have hS := oww_pos ho hn
    have hS' : 0 < ws.sum := hS
    have e := divInt_one ws.sum hS'
    have p := natR_pos hS'
    have z : xs.map (fun x => x) = xs := List.map_id' xs
    have h0 := wsum_le (ws := ws) (l := xs) (f := fun _ => (0 : Rat)) (g := fun x => x) fun x hx => (h x hx).1
    have h1 := wsum_le (ws := ws) (l := xs) (f := fun x => x) (g := fun _ => (1 : Rat)) fun x hx => (h x hx).2
    rw [wsum_const (ws := ws) (l := xs) 0 (by rw [ho.1, hl]), z] at h0
    rw [wsum_const (ws := ws) (l := xs) 1 (by rw [ho.1, hl]), z] at h1
    show 0 ≤ wsum ws xs * Rat.divInt 1 (ws.sum : Nat) ∧ wsum ws xs * Rat.divInt 1 (ws.sum : Nat) ≤ 1
    constructor
    · refine le_of_mul_le p ?_
      rw [mean_mul _ hS']
      grind
    · refine le_of_mul_le p ?_
      rw [mean_mul _ hS']
      grind
  | least => exact h _ (rk_mem (by omega))
  | greatest => exact h _ (rk_mem (by omega))
  | ranked k =>
    have h1 : 1 ≤ k := ho.1
    exact h _ (rk_mem (by omega))
  | between lo hi =>
    have hm := rk_mem (xs := lo :: hi :: xs) (i := 1) (by simp)
    rcases List.mem_cons.mp hm with e | hm
    · show 0 ≤ rk (lo :: hi :: xs) 1 ∧ _
      rw [show opv (.between lo hi) xs = rk (lo :: hi :: xs) 1 from rfl, e]
      exact ⟨ho.2.1.1, ho.2.1.2.1⟩
    · rcases List.mem_cons.mp hm with e | hm
      · rw [show opv (.between lo hi) xs = rk (lo :: hi :: xs) 1 from rfl, e]
        exact ⟨ho.2.2.1.1, ho.2.2.1.2.1⟩
      · exact h _ hm
theorem opv_den {D E n : Nat} {o : Op} {xs : List Rat} (ho : OpOk D o n) (hl : xs.length = n) (hn : 0 < n) (hE : 0 < E) (hD : D ∣ E) (h : ∀ x ∈ xs, x.den ∣ E) : (opv o xs).den ∣ oww o * E := by
  have one : ∀ {q : Rat}, q.den ∣ E → q.den ∣ 1 * E := fun {q} z => by rw [Nat.one_mul]; exact z
  cases o with
  | mean ws =>
    have hS : 0 < ws.sum := oww_pos ho hn
    have hz : ∀ x ∈ xs, x * (E : Rat) = (0 : Int) * (0 : Rat) + (((x * (E : Rat)).num : Int) : Rat) := fun x hx => by
      obtain ⟨z, hz⟩ := int_of_den (h x hx)
      have e0 : ((0 : Int) : Rat) = 0 := rfl
      rw [hz, Rat.num_intCast, e0]
      grind
    have e := mean_affine (f := fun x => x) (a := fun _ => 0) (t := 0) hS hz
    rw [List.map_id'] at e
    refine den_dvd (n := ws.sum * E) (z := isum ws (xs.map fun x => (x * (E : Rat)).num)) (Nat.mul_pos hS hE) ?_
    show wsum ws xs * Rat.divInt 1 (ws.sum : Nat) * _ = _
    rw [e]
    grind
  | least => exact one (h _ (rk_mem (by omega)))
  | greatest => exact one (h _ (rk_mem (by omega)))
  | ranked k =>
    have h1 : 1 ≤ k := ho.1
    exact one (h _ (rk_mem (by omega)))
  | between lo hi =>
    have hm := rk_mem (xs := lo :: hi :: xs) (i := 1) (by simp)
    refine one ?_
    rw [show opv (.between lo hi) xs = rk (lo :: hi :: xs) 1 from rfl]
    rcases List.mem_cons.mp hm with e | hm
    · rw [e]; exact Nat.dvd_trans ho.2.1.2.2 hD
    · rcases List.mem_cons.mp hm with e | hm
      · rw [e]; exact Nat.dvd_trans ho.2.2.1.2.2 hD
      · exact h _ hm
theorem val_nm {P D : Nat} {b : Nat → Rat} (hD : 0 < D) (hb : ∀ p, p < P → Nm D (b p)) : ∀ {n : Nat} {t : Term}, Wf P D n t → Nm (D * wp t) (val b t)
  | 0, _, h => h.elim
  | _ + 1, .bid p, h => (hb p h).to ⟨1, rfl⟩
  | _ + 1, .fix q, h => (show Nm D q from h).to ⟨1, rfl⟩
  | n + 1, .node o ts, h => by
    have ih : ∀ t ∈ ts, Nm (D * wp t) (val b t) := fun t ht => val_nm hD hb (h.2.2.2 t ht)
    rw [val_node, wp_node]
    have hl : (ts.map (val b)).length = ts.length := List.length_map _
    have hn := ts_pos h.1
    have u := opv_unit h.2.2.1 hl hn fun x hx => by
      obtain ⟨t, ht, rfl⟩ := List.mem_map.mp hx
      exact ⟨(ih t ht).1, (ih t ht).2.1⟩
    have d := opv_den (E := D * wps ts) h.2.2.1 hl hn (Nat.mul_pos hD (wps_pos h.2.2.2)) ⟨_, rfl⟩ fun x hx => by
      obtain ⟨t, ht, rfl⟩ := List.mem_map.mp hx
      exact Nat.dvd_trans (ih t ht).2.2 (Nat.mul_dvd_mul (Nat.dvd_refl D) (wp_dvd ht))
    refine ⟨u.1, u.2, ?_⟩
    rw [show D * (oww o * wps ts) = oww o * (D * wps ts) by rw [← Nat.mul_assoc, Nat.mul_comm D, Nat.mul_assoc]]
    exact d
theorem val_mono {P D : Nat} {b c : Nat → Rat} (h : ∀ p, p < P → b p ≤ c p) : ∀ {n : Nat} {t : Term}, Wf P D n t → val b t ≤ val c t
  | 0, _, w => w.elim
  | _ + 1, .bid p, w => h p w
  | _ + 1, .fix q, _ => Rat.le_refl
  | n + 1, .node o ts, w => by
    have ih : ∀ t ∈ ts, val b t ≤ val c t := fun t ht => val_mono h (w.2.2.2 t ht)
    rw [val_node, val_node]
    have hn := ts_pos w.1
    have ho := w.2.2.1
    cases o with
    | mean ws =>
      have hS : 0 < ws.sum := oww_pos ho hn
      have p := natR_pos hS
      have e := divInt_one ws.sum hS
      have := wsum_le (ws := ws) ih
      show wsum ws (ts.map (val b)) * Rat.divInt 1 (ws.sum : Nat) ≤ wsum ws (ts.map (val c)) * Rat.divInt 1 (ws.sum : Nat)
      refine le_of_mul_le p ?_
      rw [mean_mul _ hS, mean_mul _ hS]
      exact this
    | least => exact rk_mono ih hn
    | greatest =>
      show rk (ts.map (val b)) ((ts.map (val b)).length - 1) ≤ rk (ts.map (val c)) ((ts.map (val c)).length - 1)
      rw [List.length_map, List.length_map]
      exact rk_mono ih (by omega)
    | ranked k =>
      have h1 : 1 ≤ k := ho.1
      show rk (ts.map (val b)) ((ts.map (val b)).length - k) ≤ rk (ts.map (val c)) ((ts.map (val c)).length - k)
      rw [List.length_map, List.length_map]
      exact rk_mono ih (by omega)
    | between lo hi =>
      show rk (lo :: hi :: ts.map (val b)) 1 ≤ rk (lo :: hi :: ts.map (val c)) 1
      have key := rk_mono (l := Term.fix lo :: Term.fix hi :: ts) (f := val b) (g := val c) (i := 1) (fun x hx => by
        rcases List.mem_cons.mp hx with e | hx
        · rw [e]; exact Rat.le_refl
        · rcases List.mem_cons.mp hx with e | hx
          · rw [e]; exact Rat.le_refl
          · exact ih x hx) (by simp)
      exact key
theorem val_congr {P D : Nat} {b c : Nat → Rat} (h : ∀ p, p < P → b p = c p) {n : Nat} {t : Term} (w : Wf P D n t) : val b t = val c t :=
  Rat.le_antisymm (val_mono (fun p hp => by rw [h p hp]; exact Rat.le_refl) w) (val_mono (fun p hp => by rw [h p hp]; exact Rat.le_refl) w)
end Cb
set_option Elab.async false
set_option linter.all false
/-! plain mathematics, part 4: mean and ranked lines, where a line tells a number -/
namespace Cb
/-! ### one straight way -/
section
variable {M : Nat} {f g : Rat → Rat} {x y s t : Rat}
theorem no_cross {d1 d2 : Rat} (hs : d1 + d2 ≤ 0) (hn : ¬ d1 * d2 < 0) : d1 ≤ 0 ∧ d2 ≤ 0 := by
  constructor
  · refine Classical.byContradiction fun h => hn ?_
    have h1 : 0 < d1 := by grind
    have h2 : d2 < 0 := by grind
    exact (Rat.mul_neg_iff_of_pos_left h1).mpr h2
  · refine Classical.byContradiction fun h => hn ?_
    have h1 : 0 < d2 := by grind
    have h2 : d1 < 0 := by grind
    exact (Rat.mul_neg_iff_of_pos_right h1).mpr h2
/-- straight ways that do not cross keep their order -/
theorem pc_order (hM : 0 < M) (hf : Pc M f x y) (hg : Pc M g x y) (hs : f x + f y ≤ g x + g y) (hn : ¬ (f x - g x) * (f y - g y) < 0) (h1 : x ≤ t) (h2 : t ≤ y) : f t ≤ g t := by
  obtain ⟨a, b, _, _, ha⟩ := hf
  obtain ⟨c, d, _, _, hc⟩ := hg
  have hxy : x ≤ y := Rat.le_trans h1 h2
  obtain ⟨n1, n2⟩ := no_cross (d1 := f x - g x) (d2 := f y - g y) (by grind) hn
  have m := natR_pos hM
  have e1 := ha x Rat.le_refl hxy
  have e2 := ha y hxy Rat.le_refl
  have e3 := ha t h1 h2
  have k1 := hc x Rat.le_refl hxy
  have k2 := hc y hxy Rat.le_refl
  have k3 := hc t h1 h2
  have o1 : (a : Rat) * x + b ≤ (c : Rat) * x + d := by
    rw [← e1, ← k1]
    exact Rat.mul_le_mul_of_nonneg_right (by grind) (by grind)
  have o2 : (a : Rat) * y + b ≤ (c : Rat) * y + d := by
    rw [← e2, ← k2]
    exact Rat.mul_le_mul_of_nonneg_right (by grind) (by grind)
  refine le_of_mul_le m ?_
  rw [e3, k3]
  by_cases h : (a : Rat) ≤ c
  · have := Rat.mul_le_mul_of_nonneg_left (a := x) (b := t) (c := (c : Rat) - a) h1 (by grind)
    grind
  · have := Rat.mul_le_mul_of_nonneg_left (a := t) (b := y) (c := (a : Rat) - c) h2 (by grind)
    grind
end
/-! ### ranks of straight ways -/
def leS (x y : Rat) (f g : Rat → Rat) : Bool := decide (f x + f y ≤ g x + g y)
theorem pc_rank {M : Nat} {fs : List (Rat → Rat)} {x y : Rat} (hM : 0 < M) (hp : ∀ f ∈ fs, Pc M f x y) (hn : ∀ f ∈ fs, ∀ g ∈ fs, ¬ (f x - g x) * (f y - g y) < 0) {i : Nat} (hi : i < fs.length) :
    Pc M (fun t => rk (fs.map fun f => f t) i) x y := by
  have pm : (fs.mergeSort (leS x y)).Perm fs := List.mergeSort_perm fs _
  have so : (fs.mergeSort (leS x y)).Pairwise (fun f g => leS x y f g = true) := List.pairwise_mergeSort (le := leS x y)
    (fun a b c h1 h2 => by simp only [leS, decide_eq_true_eq] at *; grind) (fun a b => by simp only [leS, Bool.or_eq_true, decide_eq_true_eq]; exact Rat.le_total) fs
  generalize fs.mergeSort (leS x y) = gs at pm so
  have hl : gs.length = fs.length := pm.length_eq
  have hi' : i < gs.length := by omega
  have key : ∀ t, x ≤ t → t ≤ y → rk (fs.map fun f => f t) i = gs[i] t := fun t h1 h2 => by
    have sorted : (gs.map fun f => f t).Pairwise (· ≤ ·) := by
      rw [List.pairwise_map, List.pairwise_iff_getElem]
      intro j k hj hk hjk
      have q := List.pairwise_iff_getElem.mp so j k hj hk hjk
      simp only [leS, decide_eq_true_eq] at q
      have m1 := pm.mem_iff.mp (List.getElem_mem hj)
      have m2 := pm.mem_iff.mp (List.getElem_mem hk)
      exact pc_order hM (hp _ m1) (hp _ m2) q (hn _ m1 _ m2) h1 h2
    have e := srt_uniq (pm.map fun f => f t) sorted
    unfold rk
    rw [← e, List.getD_eq_getElem?_getD, List.getElem?_map, List.getElem?_eq_getElem hi']
    rfl
  obtain ⟨a, b, h0, h1, h2⟩ := hp _ (pm.mem_iff.mp (List.getElem_mem hi'))
  refine ⟨a, b, h0, h1, fun t q r => ?_⟩
  show rk (fs.map fun f => f t) i * (M : Rat) = _
  rw [key t q r]
  exact h2 t q r
/-! ### where two ways cross -/
def zero (f g : Rat → Rat) (c d : Rat) : Rat := c + ((f c - g c) / ((f c - g c) - (f d - g d))) * (d - c)
theorem zero_symm (f g : Rat → Rat) (c d : Rat) : zero f g c d = zero g f c d := by
  unfold zero
  have e : (f c - g c) / ((f c - g c) - (f d - g d)) = (g c - f c) / ((g c - f c) - (g d - f d)) := by
    have h1 : g c - f c = -(f c - g c) := by grind
    have h2 : (g c - f c) - (g d - f d) = -((f c - g c) - (f d - g d)) := by grind
    rw [h2, h1]
    generalize f c - g c = u
    generalize u - (f d - g d) = v
    rw [Rat.div_def, Rat.div_def]
    by_cases hv : v = 0
    · subst hv
      have e0 : -(0 : Rat) = 0 := rfl
      rw [e0]; simp only [Rat.inv_zero, Rat.mul_zero]
    · have h3 : (-v)⁻¹ = -(v⁻¹) := by
        refine Rat.inv_eq_of_mul_eq_one ?_
        have := Rat.mul_inv_cancel v hv
        grind
      rw [h3]; grind
  rw [e]
section
variable {M : Nat} {f g : Rat → Rat} {c d x y : Rat}
/-- ways that cross within (c, d): they cross at zero, and zero lies between x and y -/
theorem zero_in (hM : 0 < M) (hf : Pc M f c d) (hg : Pc M g c d) (h1 : c ≤ x) (hxy : x < y) (h2 : y ≤ d) (hn : (f x - g x) * (f y - g y) < 0) :
    (f c - g c) * (f d - g d) < 0 ∧ x < zero f g c d ∧ zero f g c d < y := by
  obtain ⟨a, b, _, _, ha⟩ := hf
  obtain ⟨a', b', _, _, hb⟩ := hg
  have m := natR_pos hM
  have D : ∀ t, c ≤ t → t ≤ d → (f t - g t) * (M : Rat) = ((a : Rat) - a') * t + ((b : Rat) - b') := fun t q r => by
    have := ha t q r
    have := hb t q r
    grind
  generalize ((a : Rat) - a') = α at D
  generalize ((b : Rat) - b') = β at D
  have hx := D x h1 (by grind)
  have hy := D y (by grind) h2
  have hc := D c Rat.le_refl (by grind)
  have hd := D d (by grind) Rat.le_refl
  have hxy2 : 0 < y - x := by grind
  unfold zero
  generalize f x - g x = dx at *
  generalize f y - g y = dy at *
  generalize f c - g c = dc at *
  generalize f d - g d = dd at *
  have hdc : (dc - dd) * (M : Rat) = α * (c - d) := by grind
  -- the two signs
  have key : (dx < 0 ∧ 0 < dy) ∨ (0 < dx ∧ dy < 0) := by
    rcases (show dx < 0 ∨ dx = 0 ∨ 0 < dx by grind) with q | q | q
    · refine .inl ⟨q, ?_⟩
      refine Classical.byContradiction fun z => ?_
      have := Rat.mul_nonneg (a := -dx) (b := -dy) (by grind) (by grind)
      grind
    · rw [q] at hn; grind
    · exact .inr ⟨q, (Rat.mul_neg_iff_of_pos_left q).mp hn⟩
  rcases key with ⟨k1, k2⟩ | ⟨k1, k2⟩
  · have a1 : dx * (M : Rat) < 0 := (Rat.mul_neg_iff_of_pos_right m).mpr k1
    have a2 : 0 < dy * (M : Rat) := Rat.mul_pos k2 m
    have αp : 0 < α := by
      refine (Rat.mul_pos_iff_of_pos_right hxy2).mp ?_
      grind
    have b1 : dc * (M : Rat) < 0 := by
      have := Rat.mul_le_mul_of_nonneg_left (a := c) (b := x) (c := α) h1 (by grind)
      grind
    have b2 : 0 < dd * (M : Rat) := by
      have := Rat.mul_le_mul_of_nonneg_left (a := y) (b := d) (c := α) h2 (by grind)
      grind
    have c1 : dc < 0 := (Rat.mul_neg_iff_of_pos_right m).mp b1
    have c2 : 0 < dd := (Rat.mul_pos_iff_of_pos_right m).mp b2
    have hne : dc - dd ≠ 0 := by grind
    have r := Rat.div_mul_cancel (a := dc) hne
    refine ⟨(Rat.mul_neg_iff_of_pos_right c2).mpr c1, ?_⟩
    generalize dc / (dc - dd) = ρ at *
    -- α z + β = 0
    have z : α * (c + ρ * (d - c)) + β = 0 := by
      have e1 : ρ * ((dc - dd) * (M : Rat)) = dc * (M : Rat) := by rw [← r]; grind
      rw [hdc] at e1
      grind
    generalize c + ρ * (d - c) = zz at *
    constructor
    · refine Rat.lt_of_mul_lt_mul_left (c := α) ?_ (by grind)
      grind
    · refine Rat.lt_of_mul_lt_mul_left (c := α) ?_ (by grind)
      grind
  · have a1 : 0 < dx * (M : Rat) := Rat.mul_pos k1 m
    have a2 : dy * (M : Rat) < 0 := (Rat.mul_neg_iff_of_pos_right m).mpr k2
    have αp : 0 < -α := by
      refine (Rat.mul_pos_iff_of_pos_right hxy2).mp ?_
      grind
    have b1 : 0 < dc * (M : Rat) := by
      have := Rat.mul_le_mul_of_nonneg_left (a := c) (b := x) (c := -α) h1 (by grind)
      grind
    have b2 : dd * (M : Rat) < 0 := by
      have := Rat.mul_le_mul_of_nonneg_left (a := y) (b := d) (c := -α) h2 (by grind)
      grind
    have c1 : 0 < dc := (Rat.mul_pos_iff_of_pos_right m).mp b1
    have c2 : dd < 0 := (Rat.mul_neg_iff_of_pos_right m).mp b2
    have hne : dc - dd ≠ 0 := by grind
    have r := Rat.div_mul_cancel (a := dc) hne
    refine ⟨(Rat.mul_neg_iff_of_pos_left c1).mpr c2, ?_⟩
    generalize dc / (dc - dd) = ρ at *
    have z : α * (c + ρ * (d - c)) + β = 0 := by
      have e1 : ρ * ((dc - dd) * (M : Rat)) = dc * (M : Rat) := by rw [← r]; grind
      rw [hdc] at e1
      grind
    generalize c + ρ * (d - c) = zz at *
    constructor
    · refine Rat.lt_of_mul_lt_mul_left (c := -α) ?_ (by grind)
      grind
    · refine Rat.lt_of_mul_lt_mul_left (c := -α) ?_ (by grind)
      grind
theorem zero_den (hM : 0 < M) (hf : Pc M f c d) (hg : Pc M g c d) (hcd : c < d) (hn : (f c - g c) * (f d - g d) < 0) : (zero f g c d).den ≤ M ∧ c < zero f g c d ∧ zero f g c d < d := by
  obtain ⟨_, z1, z2⟩ := zero_in hM hf hg Rat.le_refl hcd Rat.le_refl hn
  refine ⟨?_, z1, z2⟩
  obtain ⟨a, b, a0, aM, ha⟩ := hf
  obtain ⟨a', b', a0', aM', hb⟩ := hg
  have m := natR_pos hM
  have e1 := ha c Rat.le_refl (by grind)
  have e2 := ha d (by grind) Rat.le_refl
  have k1 := hb c Rat.le_refl (by grind)
  have k2 := hb d (by grind) Rat.le_refl
  have hdc : ((f c - g c) - (f d - g d)) * (M : Rat) = ((a : Rat) - a') * (c - d) := by grind
  have hc : (f c - g c) * (M : Rat) = ((a : Rat) - a') * c + ((b : Rat) - b') := by grind
  unfold zero at *
  have hne : (f c - g c) - (f d - g d) ≠ 0 := by
    intro z
    have e : f d - g d = f c - g c := by grind
    rw [e] at hn
    have h2 : ∀ r : Rat, 0 ≤ r * r := fun r => by
      rcases Rat.le_total (a := 0) (b := r) with h | h
      · exact Rat.mul_nonneg h h
      · have := Rat.mul_nonneg (a := -r) (b := -r) (by grind) (by grind)
        grind
    have := h2 (f c - g c)
    grind
  have r := Rat.div_mul_cancel (a := f c - g c) hne
  generalize f c - g c = dc at *
  generalize f d - g d = dd at *
  generalize dc / (dc - dd) = ρ at *
  have z : ((a : Rat) - a') * (c + ρ * (d - c)) + ((b : Rat) - b') = 0 := by
    have e1 : ρ * ((dc - dd) * (M : Rat)) = dc * (M : Rat) := by rw [← r]; grind
    rw [hdc] at e1
    grind
  generalize c + ρ * (d - c) = zz at *
  have na : a - a' ≠ 0 := by
    intro q
    have q2 : (a : Rat) - a' = 0 := by rw [← Rat.intCast_sub, q]; rfl
    rw [q2] at hdc
    have h0 : (dc - dd) * (M : Rat) = 0 := by grind
    rcases Rat.mul_eq_zero.mp h0 with h | h
    · exact hne h
    · grind
  rcases Int.lt_or_gt_of_ne na with h | h
  · have e : zz * ((a' - a : Int) : Rat) = ((b - b' : Int) : Rat) := by rw [Rat.intCast_sub, Rat.intCast_sub]; grind
    have := den_le_int (by omega) e
    omega
  · have e : zz * ((a - a' : Int) : Rat) = ((b' - b : Int) : Rat) := by rw [Rat.intCast_sub, Rat.intCast_sub]; grind
    have := den_le_int (by omega) e
    omega
end
/-! ### places -/
theorem sorted_head {ps : List Rat} {a : Rat} (h : ps.Pairwise (· < ·)) (ha : a ∈ ps) (hl : ∀ x ∈ ps, a ≤ x) : ps.head? = some a := by
  cases ps with
  | nil => cases ha
  | cons p r =>
    rcases List.mem_cons.mp ha with e | ha
    · rw [e]; rfl
    · have h1 := (List.pairwise_cons.mp h).1 a ha
      have h2 := hl p List.mem_cons_self
      grind
theorem sorted_last {ps : List Rat} {a : Rat} (h : ps.Pairwise (· < ·)) (ha : a ∈ ps) (hl : ∀ x ∈ ps, x ≤ a) : ps.getLast? = some a := by
  rcases List.eq_nil_or_concat ps with e | ⟨r, p, e⟩
  · subst e; cases ha
  · rw [e] at h ha hl ⊢
    rw [List.concat_eq_append] at *
    rcases List.mem_append.mp ha with ha | ha
    · have h1 := (List.pairwise_append.mp h).2.2 a ha p (by simp)
      have h2 := hl p (by simp)
      grind
    · have : a = p := by simpa using ha
      rw [this]; simp
/-- places: ascending from 0 to 1, their bottoms at most M -/
structure Pl (M : Nat) (ps : List Rat) : Prop where
  so : ps.Pairwise (· < ·)
  hd : ps.head? = some 0
  lt : ps.getLast? = some 1
  dn : ∀ p ∈ ps, p.den ≤ M
theorem Pl.mem0 {M : Nat} {ps : List Rat} (h : Pl M ps) : (0 : Rat) ∈ ps := List.mem_of_head? h.hd
theorem Pl.mem1 {M : Nat} {ps : List Rat} (h : Pl M ps) : (1 : Rat) ∈ ps := List.mem_of_getLast? h.lt
theorem Pl.ge {M : Nat} {ps : List Rat} (h : Pl M ps) {p : Rat} (hp : p ∈ ps) : 0 ≤ p := by
  have e := h.hd
  have s := h.so
  cases ps with
  | nil => cases hp
  | cons q r =>
    have e : q = 0 := by simpa using e
    subst e
    rcases List.mem_cons.mp hp with e | hp
    · rw [e]; exact Rat.le_refl
    · have := (List.pairwise_cons.mp s).1 p hp
      grind
theorem Pl.le {M : Nat} {ps : List Rat} (h : Pl M ps) {p : Rat} (hp : p ∈ ps) : p ≤ 1 := by
  obtain ⟨ys, e⟩ := List.getLast?_eq_some_iff.mp h.lt
  have s := h.so
  rw [e] at s hp
  rcases List.mem_append.mp hp with hp | hp
  · have := (List.pairwise_append.mp s).2.2 p hp 1 (by simp)
    grind
  · have : p = 1 := by simpa using hp
    rw [this]; exact Rat.le_refl
/-- lines with the functions that they tell -/
abbrev Lns (M : Nat) (l : List ((Rat → Rat) × List (Rat × Rat))) : Prop := ∀ p ∈ l, Ln M p.1 p.2
abbrev fns (l : List ((Rat → Rat) × List (Rat × Rat))) : List (Rat → Rat) := l.map (·.1)
/-- all places of some lines -/
def AllP (l : List ((Rat → Rat) × List (Rat × Rat))) (ps : List Rat) : Prop := ∀ x, x ∈ ps ↔ ∃ p ∈ l, ∃ v, (x, v) ∈ p.2
theorem allP_pl {M : Nat} {l : List ((Rat → Rat) × List (Rat × Rat))} {ps : List Rat} (h : Lns M l) (h0 : l ≠ []) (ha : AllP l ps) (so : ps.Pairwise (· < ·)) : Pl M ps := by
  obtain ⟨p, r, rfl⟩ := List.exists_cons_of_ne_nil h0
  have hp := h p List.mem_cons_self
  obtain ⟨r', e⟩ := hp.first
  have m0 : (0 : Rat) ∈ ps := (ha 0).mpr ⟨p, List.mem_cons_self, p.1 0, by rw [e]; exact List.mem_cons_self⟩
  have m1 : (1 : Rat) ∈ ps := (ha 1).mpr ⟨p, List.mem_cons_self, p.1 1, List.mem_of_getLast? hp.last⟩
  refine ⟨so, sorted_head so m0 fun x hx => ?_, sorted_last so m1 fun x hx => ?_, fun x hx => ?_⟩
  · obtain ⟨q, hq, v, hv⟩ := (ha x).mp hx
    exact (h q hq).ge0 hv
  · obtain ⟨q, hq, v, hv⟩ := (ha x).mp hx
    exact (h q hq).le1 hv
  · obtain ⟨q, hq, v, hv⟩ := (ha x).mp hx
    exact (h q hq).den _ hv
/-- in a gap of all places each line is straight -/
theorem gap_pc {M : Nat} {l : List ((Rat → Rat) × List (Rat × Rat))} {ps : List Rat} {x y : Rat} (h : Lns M l) (ha : ∀ x, (∃ p ∈ l, ∃ v, (x, v) ∈ p.2) → x ∈ ps) (h0 : 0 ≤ x) (h1 : y ≤ 1) (hxy : x < y) (hn : ∀ z ∈ ps, ¬ (x < z ∧ z < y)) :
    ∀ f ∈ fns l, Pc M f x y := fun f hf => by
  obtain ⟨p, hp, rfl⟩ := List.mem_map.mp hf
  exact (h p hp).gap h0 h1 hxy fun q hq => hn q.1 (ha q.1 ⟨p, hp, q.2, hq⟩)
theorem mean_ln {M n D : Nat} {l : List ((Rat → Rat) × List (Rat × Rat))} {ps : List Rat} {ws : List Nat} (h : Lns M l) (h0 : l ≠ []) (ha : AllP l ps) (so : ps.Pairwise (· < ·)) (ho : OpOk D (.mean ws) l.length) :
    Ln (ws.sum * M) (fun t => opv (.mean ws) ((fns l).map fun f => f t)) (ps.map fun t => (t, opv (.mean ws) ((fns l).map fun f => f t))) := by
  have pl := allP_pl h h0 ha so
  have hn : 0 < l.length := List.length_pos_iff.mpr h0
  have hS : 0 < ws.sum := oww_pos ho hn
  have hM : 0 < M := (h _ (List.head_mem h0)).pos
  refine Ln.mk' (Nat.mul_pos hS hM) so pl.hd pl.lt (fun p hp => Nat.le_trans (pl.dn p hp) (Nat.le_mul_of_pos_left M hS)) (fun x y hx hy hxy hg => ?_) (fun t t0 t1 => ?_)
  · have pc := gap_pc h (fun x => (ha x).mpr) (pl.ge hx) (pl.le hy) hxy hg
    -- the pieces of all
    have ex : ∀ f, ∃ ab : Int × Int, f ∈ fns l → 0 ≤ ab.1 ∧ ab.1 ≤ M ∧ ∀ t, x ≤ t → t ≤ y → f t * (M : Rat) = (ab.1 : Rat) * t + (ab.2 : Rat) := fun f => by
      rcases Classical.em (f ∈ fns l) with hf | hf
      · obtain ⟨a, b, q⟩ := pc f hf
        exact ⟨(a, b), fun _ => q⟩
      · exact ⟨(0, 0), fun q => absurd q hf⟩
    obtain ⟨F, hab⟩ := Classical.skolem.mp ex
    clear pc
    have hb := isum_bound (fun f => (F f).1) M ws (fns l) (by rw [ho.1, List.length_map]) fun f hf => ⟨(hab f hf).1, (hab f hf).2.1⟩
    refine ⟨isum ws ((fns l).map fun f => (F f).1), isum ws ((fns l).map fun f => (F f).2), hb.1, ?_, fun t h1 h2 => mean_affine (a := fun f => (F f).1) (b := fun f => (F f).2) hS fun f hf => (hab f hf).2.2 t h1 h2⟩
    rw [Int.natCast_mul]
    exact hb.2
  · refine opv_unit ho (by rw [List.length_map, List.length_map]) hn fun v hv => ?_
    obtain ⟨f, hf, rfl⟩ := List.mem_map.mp hv
    obtain ⟨p, hp, rfl⟩ := List.mem_map.mp hf
    exact (h p hp).rng t t0 t1
/-- the places between which no two of the lines cross -/
structure Refd (l : List ((Rat → Rat) × List (Rat × Rat))) (P0 ps : List Rat) : Prop where
  so : ps.Pairwise (· < ·)
  sub : ∀ x ∈ P0, x ∈ ps
  sup : ∀ z ∈ ps, z ∈ P0 ∨ ∃ i c d, P0[i]? = some c ∧ P0[i + 1]? = some d ∧ ∃ f ∈ fns l, ∃ g ∈ fns l, (f c - g c) * (f d - g d) < 0 ∧ z = zero f g c d
  cr : ∀ (i : Nat) (c d : Rat), P0[i]? = some c → P0[i + 1]? = some d → ∀ (j k : Nat) f g, j < k → (fns l)[j]? = some f → (fns l)[k]? = some g → (f c - g c) * (f d - g d) < 0 → zero f g c d ∈ ps
theorem gap_loc {P0 : List Rat} {x y : Rat} : (P0.Pairwise (· < ·)) → (∃ a, P0.head? = some a ∧ a ≤ x) → (∃ a, P0.getLast? = some a ∧ y ≤ a) → x < y → (∀ z ∈ P0, ¬ (x < z ∧ z < y)) →
    ∃ i c d, P0[i]? = some c ∧ P0[i + 1]? = some d ∧ c ≤ x ∧ y ≤ d ∧ c < d := by
  induction P0 with
  | nil => intro _ ⟨a, e, _⟩; simp at e
  | cons p r ih =>
    intro so ⟨a, e, ha⟩ hl hxy hn
    have e : p = a := by simpa using e
    subst e
    cases r with
    | nil =>
      obtain ⟨b, e2, hb⟩ := hl
      have e2 : p = b := by simpa using e2
      subst e2
      grind
    | cons q r =>
      have hpq := (List.pairwise_cons.mp so).1 q List.mem_cons_self
      by_cases hq : q ≤ x
      · obtain ⟨i, c, d, h1, h2, h3⟩ := ih (List.pairwise_cons.mp so).2 ⟨q, rfl, hq⟩ (by
          obtain ⟨b, e2, hb⟩ := hl
          exact ⟨b, by rw [List.getLast?_cons_cons] at e2; exact e2, hb⟩) hxy fun z hz => hn z (List.mem_cons_of_mem _ hz)
        exact ⟨i + 1, c, d, by simpa using h1, by simpa using h2, h3⟩
      · have h2 := hn q (by simp)
        exact ⟨0, p, q, rfl, rfl, ha, by grind, hpq⟩
theorem pl_gap {M : Nat} {ps : List Rat} (h : Pl M ps) {i : Nat} {c d : Rat} (hc : ps[i]? = some c) (hd : ps[i + 1]? = some d) : c < d ∧ c ∈ ps ∧ d ∈ ps ∧ ∀ z ∈ ps, ¬ (c < z ∧ z < d) := (sorted_gap h.so).at hc hd
theorem refd_pl {M : Nat} {l : List ((Rat → Rat) × List (Rat × Rat))} {P0 ps : List Rat} (h : Lns M l) (h0 : l ≠ []) (ha : AllP l P0) (pl : Pl M P0) (hr : Refd l P0 ps) : Pl M ps := by
  have hM : 0 < M := (h _ (List.head_mem h0)).pos
  have cro : ∀ z ∈ ps, z ∈ P0 ∨ (z.den ≤ M ∧ 0 ≤ z ∧ z ≤ 1) := fun z hz => by
    rcases hr.sup z hz with q | ⟨i, c, d, hc, hd, f, hf, g, hg, hn, rfl⟩
    · exact .inl q
    · obtain ⟨hcd, mc, md, gp⟩ := pl_gap pl hc hd
      have pc := gap_pc h (fun x => (ha x).mpr) (pl.ge mc) (pl.le md) hcd gp
      obtain ⟨z1, z2, z3⟩ := zero_den hM (pc f hf) (pc g hg) hcd hn
      have := pl.ge mc
      have := pl.le md
      exact .inr ⟨z1, by grind, by grind⟩
  refine ⟨hr.so, sorted_head hr.so (hr.sub _ pl.mem0) fun x hx => ?_, sorted_last hr.so (hr.sub _ pl.mem1) fun x hx => ?_, fun x hx => ?_⟩
  · rcases cro x hx with q | q
    · exact pl.ge q
    · exact q.2.1
  · rcases cro x hx with q | q
    · exact pl.le q
    · exact q.2.2
  · rcases cro x hx with q | q
    · exact pl.dn x q
    · exact q.1
theorem rank_ln {M : Nat} {l : List ((Rat → Rat) × List (Rat × Rat))} {P0 ps : List Rat} (h : Lns M l) (h0 : l ≠ []) (ha : AllP l P0) (so : P0.Pairwise (· < ·)) (hr : Refd l P0 ps) {i : Nat} (hi : i < l.length) :
    Ln M (fun t => rk ((fns l).map fun f => f t) i) (ps.map fun t => (t, rk ((fns l).map fun f => f t) i)) := by
  have pl := allP_pl h h0 ha so
  have pl2 := refd_pl h h0 ha pl hr
  have hM : 0 < M := (h _ (List.head_mem h0)).pos
  have hlen : (fns l).length = l.length := List.length_map _
  refine Ln.mk' hM pl2.so pl2.hd pl2.lt pl2.dn (fun x y hx hy hxy hg => ?_) (fun t t0 t1 => ?_)
  · have g0 : ∀ z ∈ P0, ¬ (x < z ∧ z < y) := fun z hz => hg z (hr.sub z hz)
    have x0 := pl2.ge hx
    have y1 := pl2.le hy
    have pc := gap_pc h (fun x => (ha x).mpr) x0 y1 hxy g0
    obtain ⟨k, c, d, hc, hd, cx, yd, hcd⟩ := gap_loc pl.so ⟨0, pl.hd, x0⟩ ⟨1, pl.lt, y1⟩ hxy g0
    obtain ⟨_, mc, md, gp⟩ := pl_gap pl hc hd
    have pcd := gap_pc h (fun x => (ha x).mpr) (pl.ge mc) (pl.le md) hcd gp
    have go : ∀ (j m : Nat) (f g : Rat → Rat), j < m → (fns l)[j]? = some f → (fns l)[m]? = some g → ¬ (f x - g x) * (f y - g y) < 0 := fun j m f g hjm hf hg' hn => by
      have f1 := pcd f (List.mem_of_getElem? hf)
      have g1 := pcd g (List.mem_of_getElem? hg')
      obtain ⟨z1, z2, z3⟩ := zero_in hM f1 g1 cx hxy yd hn
      exact hg _ (hr.cr k c d hc hd j m f g hjm hf hg' z1) ⟨z2, z3⟩
    refine pc_rank hM pc (fun f hf g hg' hn => ?_) (by rw [hlen]; exact hi)
    obtain ⟨j, hj, rfl⟩ := List.mem_iff_getElem.mp hf
    obtain ⟨m, hm, rfl⟩ := List.mem_iff_getElem.mp hg'
    rcases Nat.lt_trichotomy j m with q | q | q
    · exact go j m _ _ q (List.getElem?_eq_getElem hj) (List.getElem?_eq_getElem hm) hn
    · subst q
      have : ((fns l)[j] x - (fns l)[j] x) * ((fns l)[j] y - (fns l)[j] y) = 0 := by grind
      grind
    · refine go m j _ _ q (List.getElem?_eq_getElem hm) (List.getElem?_eq_getElem hj) ?_
      have e : ((fns l)[m] x - (fns l)[j] x) * ((fns l)[m] y - (fns l)[j] y) = ((fns l)[j] x - (fns l)[m] x) * ((fns l)[j] y - (fns l)[m] y) := by grind
      rw [e]; exact hn
  · have hm := rk_mem (xs := (fns l).map fun f => f t) (i := i) (by rw [List.length_map, hlen]; exact hi)
    obtain ⟨f, hf, e⟩ := List.mem_map.mp hm
    obtain ⟨p, hp, rfl⟩ := List.mem_map.mp hf
    rw [← e]
    exact (h p hp).rng t t0 t1
end Cb
set_option Elab.async false
set_option linter.all false
/-! plain mathematics, part 5: where a line tells a number; what is foreseen; best bids -/
namespace Cb
/-! ### the first and the last place -/
def pb (p q : Rat × Rat) (y : Rat) : Rat := p.1 + ((y - p.2) / (q.2 - p.2)) * (q.1 - p.1)
structure IsFirst (M : Nat) (F : Rat → Rat) (y e : Rat) : Prop where
  ge : 0 ≤ e
  le : e ≤ 1
  dn : e.den ≤ M
  eq : F e = y
  fst : ∀ t, 0 ≤ t → t ≤ 1 → y ≤ F t → e ≤ t
structure IsLast (M : Nat) (F : Rat → Rat) (y e : Rat) : Prop where
  ge : 0 ≤ e
  le : e ≤ 1
  dn : e.den ≤ M
  eq : F e = y
  lst : ∀ t, 0 ≤ t → t ≤ 1 → F t ≤ y → t ≤ e
section
variable {M : Nat} {F : Rat → Rat} {L : List (Rat × Rat)} {p q : Rat × Rat} {y : Rat} {k : Nat}
theorem pb_pt {a b z : Int} (hM : 0 < M) (hpq : p.1 < q.1) (hf : ∀ t, p.1 ≤ t → t ≤ q.1 → F t * (M : Rat) = (a : Rat) * t + (b : Rat)) (ep : p.2 = F p.1) (eq : q.2 = F q.1) (hz : y * (M : Rat) = (z : Rat)) (hlt : p.2 < q.2) (h1 : p.2 ≤ y) (h2 : y ≤ q.2) (aM : a ≤ M) :
    (a : Rat) * pb p q y + (b : Rat) = (z : Rat) ∧ 0 < a ∧ (pb p q y).den ≤ M ∧ p.1 ≤ pb p q y ∧ pb p q y ≤ q.1 ∧ F (pb p q y) = y := by
  have m := natR_pos hM
  have e1 := hf p.1 Rat.le_refl (by grind)
  have e2 := hf q.1 (by grind) Rat.le_refl
  rw [← ep] at e1
  rw [← eq] at e2
  have hd : q.2 - p.2 ≠ 0 := by grind
  have r := Rat.div_mul_cancel (a := y - p.2) hd
  have k0 : (0 : Rat) < (q.2 - p.2) * (M : Rat) := Rat.mul_pos (by grind) m
  have k1 : (q.2 - p.2) * (M : Rat) = (a : Rat) * (q.1 - p.1) := by grind
  have ap : (0 : Rat) < (a : Rat) := by
    refine (Rat.mul_pos_iff_of_pos_right (b := q.1 - p.1) (by grind)).mp ?_
    rw [← k1]; exact k0
  have ai : 0 < a := by
    have : ((0 : Int) : Rat) < (a : Rat) := ap
    exact Rat.intCast_lt_intCast.mp this
  have main : (a : Rat) * pb p q y + (b : Rat) = (z : Rat) := by
    unfold pb
    generalize (y - p.2) / (q.2 - p.2) = s at *
    have : s * ((q.2 - p.2) * (M : Rat)) = (y - p.2) * (M : Rat) := by rw [← r]; grind
    rw [k1] at this
    grind
  generalize pb p q y = e at *
  have l1 : p.1 ≤ e := by
    refine Rat.le_of_mul_le_mul_left (c := (a : Rat)) ?_ ap
    have := Rat.mul_le_mul_of_nonneg_right (a := p.2) (b := y) (c := (M : Rat)) h1 (by grind)
    grind
  have l2 : e ≤ q.1 := by
    refine Rat.le_of_mul_le_mul_left (c := (a : Rat)) ?_ ap
    have := Rat.mul_le_mul_of_nonneg_right (a := y) (b := q.2) (c := (M : Rat)) h2 (by grind)
    grind
  refine ⟨main, ai, ?_, l1, l2, ?_⟩
  · have e3 : e * (a : Rat) = ((z - b : Int) : Rat) := by rw [Rat.intCast_sub]; grind
    have := den_le_int ai e3
    omega
  · refine mul_cancel m ?_
    rw [hf e l1 l2, hz]; exact main
theorem ln_at (h : Ln M F L) (hp : L[k]? = some p) (hq : L[k + 1]? = some q) : p.1 < q.1 ∧ Pc M F p.1 q.1 ∧ p.2 = F p.1 ∧ q.2 = F q.1 ∧ 0 ≤ p.1 ∧ q.1 ≤ 1 := by
  obtain ⟨c1, c2⟩ := h.ch.at hp hq
  exact ⟨c1, c2, h.on p (List.mem_of_getElem? hp), h.on q (List.mem_of_getElem? hq), h.ge0 (List.mem_of_getElem? hp), h.le1 (List.mem_of_getElem? hq)⟩
theorem first_between (h : Ln M F L) (hp : L[k]? = some p) (hq : L[k + 1]? = some q) {z : Int} (hz : y * (M : Rat) = (z : Rat)) (h1 : p.2 < y) (h2 : y ≤ q.2) : IsFirst M F y (pb p q y) := by
  obtain ⟨hpq, ⟨a, b, a0, aM, hf⟩, ep, eq, p0, q1⟩ := ln_at h hp hq
  obtain ⟨main, ai, hd, l1, l2, he⟩ := pb_pt h.pos hpq hf ep eq hz (by grind) (by grind) h2 aM
  have m := natR_pos h.pos
  have ap : (0 : Rat) < (a : Rat) := Rat.intCast_pos.mpr ai
  refine ⟨by grind, by grind, hd, he, fun t t0 t1 ht => ?_⟩
  refine Classical.byContradiction fun n => ?_
  have lt : t < pb p q y := by grind
  by_cases hpt : p.1 ≤ t
  · have e := hf t hpt (by grind)
    have k1 : y * (M : Rat) ≤ F t * (M : Rat) := Rat.mul_le_mul_of_nonneg_right ht (by grind)
    have k2 := Rat.mul_lt_mul_of_pos_left (c := (a : Rat)) lt ap
    grind
  · have := h.mono (s := t) (t := p.1) t0 (by grind) (by grind)
    grind
theorem last_between (h : Ln M F L) (hp : L[k]? = some p) (hq : L[k + 1]? = some q) {z : Int} (hz : y * (M : Rat) = (z : Rat)) (h1 : p.2 ≤ y) (h2 : y < q.2) : IsLast M F y (pb p q y) := by
  obtain ⟨hpq, ⟨a, b, a0, aM, hf⟩, ep, eq, p0, q1⟩ := ln_at h hp hq
  obtain ⟨main, ai, hd, l1, l2, he⟩ := pb_pt h.pos hpq hf ep eq hz (by grind) h1 (by grind) aM
  have m := natR_pos h.pos
  have ap : (0 : Rat) < (a : Rat) := Rat.intCast_pos.mpr ai
  refine ⟨by grind, by grind, hd, he, fun t t0 t1 ht => ?_⟩
  refine Classical.byContradiction fun n => ?_
  have lt : pb p q y < t := by grind
  by_cases hpt : t ≤ q.1
  · have e := hf t (by grind) hpt
    have k1 : F t * (M : Rat) ≤ y * (M : Rat) := Rat.mul_le_mul_of_nonneg_right ht (by grind)
    have k2 := Rat.mul_lt_mul_of_pos_left (c := (a : Rat)) lt ap
    grind
  · have := h.mono (s := q.1) (t := t) (by grind) (by grind) t1
    grind
theorem first_zero (h : Ln M F L) (hy : F 0 = y) : IsFirst M F y 0 := ⟨Rat.le_refl, by decide, h.pos, hy, fun t t0 _ _ => t0⟩
theorem last_one (h : Ln M F L) (hy : F 1 = y) : IsLast M F y 1 := ⟨by decide, Rat.le_refl, h.pos, hy, fun t _ t1 _ => t1⟩
/-- at its ends a line tells whole parts of M -/
theorem ln_end0 (h : Ln M F L) : ∃ z : Int, F 0 * (M : Rat) = (z : Rat) := by
  obtain ⟨r, e⟩ := h.first
  have hl := h.len
  cases r with
  | nil => rw [e] at hl; simp at hl
  | cons q r =>
    have c := h.ch
    rw [e] at c
    obtain ⟨c1, a, b, _, _, hf⟩ := c.cc.1
    have := hf 0 Rat.le_refl (by show (0 : Rat) ≤ q.1; exact Rat.le_of_lt c1)
    exact ⟨b, by grind⟩
theorem chain_pt : ∀ {L : List (Rat × Rat)} {t : Rat}, Chn (Sg M F) L → (∃ p, L.head? = some p ∧ p.1 ≤ t) → (∃ p, L.getLast? = some p ∧ t ≤ p.1) → 2 ≤ L.length → ∃ a b : Int, 0 ≤ a ∧ a ≤ (M : Int) ∧ F t * (M : Rat) = (a : Rat) * t + (b : Rat)
  | [], _, _, _, _, h => by simp at h
  | [_], _, _, _, _, h => by simp at h
  | p :: q :: r, t, hc, ⟨p', e, h1⟩, hl, _ => by
    have ep : p = p' := by simpa using e
    subst ep
    obtain ⟨s, a, b, a0, aM, hf⟩ := hc.cc.1
    by_cases hq : t ≤ q.1
    · exact ⟨a, b, a0, aM, hf t h1 hq⟩
    · obtain ⟨u, eu, hu⟩ := hl
      cases r with
      | nil =>
        have eu : q = u := by simpa using eu
        subst eu
        grind
      | cons q2 r => exact chain_pt hc.cc.2 ⟨q, rfl, by grind⟩ ⟨u, by rw [List.getLast?_cons_cons] at eu; exact eu, hu⟩ (by simp)
theorem Ln.pt (h : Ln M F L) {t : Rat} (h0 : 0 ≤ t) (h1 : t ≤ 1) : ∃ a b : Int, 0 ≤ a ∧ a ≤ (M : Int) ∧ F t * (M : Rat) = (a : Rat) * t + (b : Rat) := by
  obtain ⟨v, e⟩ := h.hd
  obtain ⟨u, e2⟩ := h.lt
  exact chain_pt h.ch ⟨_, e, h0⟩ ⟨_, e2, h1⟩ h.len
theorem ln_end1 (h : Ln M F L) : ∃ z : Int, F 1 * (M : Rat) = (z : Rat) := by
  obtain ⟨a, b, _, _, e⟩ := h.pt (t := 1) (by decide) Rat.le_refl
  refine ⟨a + b, ?_⟩
  rw [Rat.intCast_add]; grind
/-- the size of what a line tells -/
theorem Ln.den_at (h : Ln M F L) {t : Rat} (h0 : 0 ≤ t) (h1 : t ≤ 1) : (F t).den ≤ M * t.den := by
  obtain ⟨a, b, _, _, e⟩ := h.pt h0 h1
  have p : 0 < M * t.den := Nat.mul_pos h.pos (Nat.pos_of_ne_zero t.den_nz)
  refine den_le (z := a * t.num + b * t.den) p ?_
  rw [Rat.natCast_mul, Rat.intCast_add, Rat.intCast_mul, Rat.intCast_mul, ← mul_den t]
  have e2 : ((t.den : Int) : Rat) = (t.den : Rat) := rfl
  rw [e2]
  grind
theorem Ln.sz_t (h : Ln M F L) {m : Nat} (hm : M < 2 ^ m) {p : Rat × Rat} (hp : p ∈ L) : Sz m p.1 := Sz.unit (h.ge0 hp) (h.le1 hp) (Nat.lt_of_le_of_lt (h.den p hp) hm)
theorem Ln.sz_at (h : Ln M F L) {m : Nat} (hm : M < 2 ^ m) {t : Rat} (h0 : 0 ≤ t) (h1 : t ≤ 1) (hd : t.den ≤ M) : Sz (m + m) (F t) := by
  obtain ⟨r0, r1⟩ := h.rng t h0 h1
  refine Sz.unit r0 r1 (Nat.lt_of_le_of_lt (h.den_at h0 h1) ?_)
  exact mul_lt_two hm (Nat.lt_of_le_of_lt hd hm)
theorem Ln.sz_v (h : Ln M F L) {m : Nat} (hm : M < 2 ^ m) {p : Rat × Rat} (hp : p ∈ L) : Sz (m + m) p.2 := by
  rw [h.on p hp]
  exact h.sz_at hm (h.ge0 hp) (h.le1 hp) (h.den p hp)
end
/-! ### the middle of three -/
theorem rk3 {w a b : Rat} (h : a ≤ b) : rk [w, a, b] 1 = if w < a then a else if b < w then b else w := by
  have go : ∀ x y z : Rat, [x, y, z].Perm [w, a, b] → x ≤ y → y ≤ z → rk [w, a, b] 1 = y := fun x y z p h1 h2 => by
    have e := srt_uniq p (by simp only [List.pairwise_cons, List.mem_cons, List.not_mem_nil, or_false, forall_eq_or_imp, forall_eq]; exact ⟨⟨h1, Rat.le_trans h1 h2⟩, h2, fun _ z => z.elim, List.Pairwise.nil⟩)
    unfold rk
    rw [← e]; rfl
  by_cases h1 : w < a
  · rw [if_pos h1]
    exact go w a b (List.Perm.refl _) (by grind) h
  · rw [if_neg h1]
    by_cases h2 : b < w
    · rw [if_pos h2]
      refine go a b w ?_ h (by grind)
      exact ((List.Perm.swap b a []).append_right [w] |>.trans (by simpa using (List.perm_append_comm (l₁ := [b, a]) (l₂ := [w])))).trans (List.Perm.cons w (List.Perm.swap a b []))
    · rw [if_neg h2]
      exact go a w b (List.Perm.swap w a [b]) (by grind) (by grind)
def dist (x w : Rat) : Rat := if x < w then w - x else x - w
/-- the nearest to w between a and b: nothing there is nearer, and nothing else as near -/
theorem near_mid {w a b y v : Rat} (h : a ≤ b) (hy : y = rk [w, a, b] 1) (h1 : a ≤ v) (h2 : v ≤ b) : ¬ dist v w < dist y w ∧ (dist v w = dist y w ↔ v = y) := by
  rw [rk3 h] at hy
  unfold dist
  split at hy
  · subst hy
    constructor
    · intro z; (repeat' split at z) <;> grind
    · constructor
      · intro z; (repeat' split at z) <;> grind
      · intro z; rw [z]
  · split at hy
    · subst hy
      constructor
      · intro z; (repeat' split at z) <;> grind
      · constructor
        · intro z; (repeat' split at z) <;> grind
        · intro z; rw [z]
    · subst hy
      constructor
      · intro z; (repeat' split at z) <;> grind
      · constructor
        · intro z; (repeat' split at z) <;> grind
        · intro z; rw [z]
theorem mid_in {w a b : Rat} (h : a ≤ b) : a ≤ rk [w, a, b] 1 ∧ rk [w, a, b] 1 ≤ b := by
  rw [rk3 h]
  split
  · exact ⟨Rat.le_refl, h⟩
  · split
    · exact ⟨h, Rat.le_refl⟩
    · constructor <;> grind
/-! ### least and greatest -/
theorem le_greatest {xs : List Rat} {y : Rat} (h : xs ≠ []) : y ≤ rk xs (xs.length - 1) ↔ ∃ x ∈ xs, y ≤ x := by
  have hl : 0 < xs.length := List.length_pos_iff.mpr h
  constructor
  · intro q
    exact ⟨_, rk_mem (by omega), q⟩
  · rintro ⟨x, hx, q⟩
    refine Rat.le_trans q ?_
    have hl2 : xs.length - 1 < xs.length := by omega
    have key := rk_le_iff hl2 (rk xs (xs.length - 1))
    have h1 := key.mp Rat.le_refl
    have h2 : xs.countP (fun x => decide (x ≤ rk xs (xs.length - 1))) = xs.length := by
      have := List.countP_le_length (p := fun x => decide (x ≤ rk xs (xs.length - 1))) (l := xs)
      omega
    have := List.countP_eq_length.mp h2 x hx
    simpa using this
theorem le_least {xs : List Rat} {y : Rat} (h : xs ≠ []) : y ≤ rk xs 0 ↔ ∀ x ∈ xs, y ≤ x := by
  have hl : 0 < xs.length := List.length_pos_iff.mpr h
  constructor
  · intro q x hx
    refine Rat.le_trans q ?_
    rw [rk_le_iff hl]
    exact List.countP_pos_iff.mpr ⟨x, hx, by simp [Rat.le_refl]⟩
  · intro q
    exact q _ (rk_mem hl)
/-! ### what is foreseen -/
/-- the bids if those of S who wish at least y bid 1, the others of S 0 -/
def cutE (b : Nat → Rat) (S : Nat → Bool) (w : Nat → Rat) (y : Rat) (p : Nat) : Rat := if S p = true then (if y ≤ w p then 1 else 0) else b p
/-- A is foreseen -/
def IsLeft (t : Term) (w b : Nat → Rat) (S : Nat → Bool) (A : Rat) : Prop := ∀ y, y ≤ A ↔ y ≤ val (cutE b S w y) t
theorem IsLeft.uniq {t : Term} {w b : Nat → Rat} {S : Nat → Bool} {A B : Rat} (h1 : IsLeft t w b S A) (h2 : IsLeft t w b S B) : A = B :=
  Rat.le_antisymm ((h2 A).mpr ((h1 A).mp Rat.le_refl)) ((h1 B).mpr ((h2 B).mp Rat.le_refl))
/-- the bids if those of T, among S, bid 1, the others of S 0 -/
def endsS (b : Nat → Rat) (S T : Nat → Bool) (p : Nat) : Rat := if S p = true then (if T p = true then 1 else 0) else b p
section
variable {P D n : Nat} {t : Term} {w b : Nat → Rat} {S : Nat → Bool}
theorem endsS_le {T U : Nat → Bool} (h : ∀ p, p < P → S p = true → T p = true → U p = true) {p : Nat} (hp : p < P) : endsS b S T p ≤ endsS b S U p := by
  unfold endsS
  split
  · next hs =>
    split
    · next ht => rw [if_pos (h p hp hs ht)]; exact Rat.le_refl
    · split
      · decide
      · exact Rat.le_refl
  · exact Rat.le_refl
theorem cutE_eq (y : Rat) : cutE b S w y = endsS b S (fun p => decide (y ≤ w p)) := by
  funext p
  unfold cutE endsS
  simp only [decide_eq_true_eq]
/-- as the program reckons it: nobody's wish, or somebody's -/
theorem prog_left (hw : Wf P D n t) {xs : List Rat} (hx : xs ≠ []) (h : ∀ y, (∃ x ∈ xs, y ≤ x) ↔ y ≤ val (endsS b S fun _ => false) t ∨ ∃ i, i < P ∧ y ≤ w i ∧ y ≤ val (endsS b S fun q => decide (w i ≤ w q)) t) :
    IsLeft t w b S (rk xs (xs.length - 1)) := fun y => by
  rw [le_greatest hx, h y, cutE_eq]
  constructor
  · rintro (q | ⟨i, hi, q1, q2⟩)
    · exact Rat.le_trans q (val_mono (fun p hp => endsS_le (fun _ _ _ z => by cases z) hp) hw)
    · refine Rat.le_trans q2 (val_mono (fun p hp => endsS_le (fun r _ _ z => ?_) hp) hw)
      simp only [decide_eq_true_eq] at z ⊢
      exact Rat.le_trans q1 z
  · intro q
    -- somebody among S who wishes at least y, with the least wish
    by_cases hex : ∃ i, i < P ∧ S i = true ∧ y ≤ w i
    · have least : ∀ m, m ≤ P → (∃ i, i < m ∧ S i = true ∧ y ≤ w i) → ∃ i, i < m ∧ S i = true ∧ y ≤ w i ∧ ∀ j, j < m → S j = true → y ≤ w j → w i ≤ w j := by
        intro m
        induction m with
        | zero => rintro _ ⟨i, hi, _⟩; omega
        | succ m ih =>
          rintro hm ⟨i, hi, hs, hy⟩
          by_cases he : ∃ i, i < m ∧ S i = true ∧ y ≤ w i
          · obtain ⟨j, hj, sj, yj, lj⟩ := ih (by omega) he
            by_cases hc : S m = true ∧ y ≤ w m ∧ w m < w j
            · refine ⟨m, by omega, hc.1, hc.2.1, fun k hk sk yk => ?_⟩
              rcases Nat.lt_or_ge k m with z | z
              · have := lj k z sk yk
                have := hc.2.2
                grind
              · have : k = m := by omega
                rw [this]; exact Rat.le_refl
            · refine ⟨j, by omega, sj, yj, fun k hk sk yk => ?_⟩
              rcases Nat.lt_or_ge k m with z | z
              · exact lj k z sk yk
              · have e : k = m := by omega
                subst e
                refine Classical.byContradiction fun n => hc ⟨sk, yk, by grind⟩
          · have e : i = m := by
              rcases Nat.lt_or_ge i m with z | z
              · exact absurd ⟨i, z, hs, hy⟩ he
              · omega
            subst e
            refine ⟨i, by omega, hs, hy, fun k hk sk yk => ?_⟩
            rcases Nat.lt_or_ge k i with z | z
            · exact absurd ⟨k, z, sk, yk⟩ he
            · have : k = i := by omega
              rw [this]; exact Rat.le_refl
      obtain ⟨i, hi, si, yi, li⟩ := least P (Nat.le_refl _) hex
      refine .inr ⟨i, hi, yi, Rat.le_trans q (val_mono (fun p hp => endsS_le (fun r hr sr z => ?_) hp) hw)⟩
      simp only [decide_eq_true_eq] at z ⊢
      exact li r hr sr z
    · refine .inl (Rat.le_trans q (val_mono (fun p hp => endsS_le (fun r hr sr z => ?_) hp) hw))
      simp only [decide_eq_true_eq] at z
      exact absurd ⟨r, hr, sr, z⟩ hex
/-- as the law reckons it: over lots T of those of S -/
theorem law_left (hw : Wf P D n t) {lots : List (List Nat)} {xs : List Rat} (hx : xs ≠ []) (h : ∀ y, (∃ x ∈ xs, y ≤ x) ↔ ∃ T : List Nat, T ∈ lots ∧ (∀ q ∈ T, y ≤ w q) ∧ y ≤ val (endsS b S fun q => decide (q ∈ T)) t)
    (hl3 : ∀ y, ∃ T ∈ lots, (∀ q ∈ T, y ≤ w q) ∧ ∀ q, q < P → S q = true → y ≤ w q → q ∈ T) :
    IsLeft t w b S (rk xs (xs.length - 1)) := fun y => by
  rw [le_greatest hx, h y, cutE_eq]
  constructor
  · rintro ⟨T, hT, q1, q2⟩
    refine Rat.le_trans q2 (val_mono (fun p hp => endsS_le (fun r _ _ z => ?_) hp) hw)
    simp only [decide_eq_true_eq] at z ⊢
    exact q1 r z
  · intro q
    obtain ⟨T, hT, q1, q2⟩ := hl3 y
    refine ⟨T, hT, q1, Rat.le_trans q (val_mono (fun p hp => endsS_le (fun r hr sr z => ?_) hp) hw)⟩
    simp only [decide_eq_true_eq] at z ⊢
    exact q2 r hr sr z
theorem IsLeft.congr (hw : Wf P D n t) {b' : Nat → Rat} {S' : Nat → Bool} {A : Rat} (h : IsLeft t w b S A) (hS : ∀ p, p < P → S p = S' p) (hb : ∀ p, p < P → S p = false → b p = b' p) : IsLeft t w b' S' A := fun y => by
  rw [h y]
  have e : val (cutE b S w y) t = val (cutE b' S' w y) t := val_congr (fun p hp => by
    unfold cutE
    rw [hS p hp]
    cases q : S' p with
    | true => rfl
    | false => exact hb p hp (by rw [hS p hp]; exact q)) hw
  rw [e]
/-- when nobody is left, what the rule tells -/
theorem IsLeft.none : IsLeft t w b (fun _ => false) (val b t) := fun y => by
  have e : cutE b (fun _ => false) w y = b := by
    funext p
    unfold cutE
    exact if_neg Bool.false_ne_true
  rw [e]
/-- b with x at p -/
def putB (b : Nat → Rat) (p : Nat) (x : Rat) (q : Nat) : Rat := if q = p then x else b q
/-- THE SECOND FACT, a turn of it: before p's last bid is foreseen what lies in the middle of p's wish and what is foreseen behind 0, and 1 -/
theorem left_step (hw : Wf P D n t) {p : Nat} {S' : Nat → Bool} (hS : S p = true) (hS' : S' p = false) (hr : ∀ q, q ≠ p → S q = S' q) {A Z0 Z1 : Rat} (hA : IsLeft t w b S A) (h0 : IsLeft t w (putB b p 0) S' Z0) (h1 : IsLeft t w (putB b p 1) S' Z1) :
    Z0 ≤ Z1 ∧ A = rk [w p, Z0, Z1] 1 := by
  have e : ∀ y, cutE b S w y = cutE (putB b p (if y ≤ w p then 1 else 0)) S' w y := fun y => by
    funext q
    unfold cutE putB
    by_cases hq : q = p
    · subst hq
      rw [if_pos hS, if_neg (show ¬ S' q = true by rw [hS']; decide), if_pos rfl]
    · rw [show (if q = p then (if y ≤ w p then (1 : Rat) else 0) else b q) = b q from if_neg hq, hr q hq]
  have z01 : Z0 ≤ Z1 := by
    rw [h1]
    refine Rat.le_trans ((h0 Z0).mp Rat.le_refl) (val_mono (fun q hq => ?_) hw)
    unfold cutE putB
    split
    · exact Rat.le_refl
    · split
      · decide
      · exact Rat.le_refl
  refine ⟨z01, ?_⟩
  have key : ∀ y, y ≤ A ↔ if y ≤ w p then y ≤ Z1 else y ≤ Z0 := fun y => by
    rw [hA y, e y]
    by_cases hy : y ≤ w p
    · rw [if_pos hy, if_pos hy, h1 y]
    · rw [if_neg hy, if_neg hy, h0 y]
  have main : ∀ y, y ≤ A ↔ y ≤ rk [w p, Z0, Z1] 1 := fun y => by
    rw [key y, rk3 z01]
    split
    · split
      · grind
      · split <;> grind
    · split
      · grind
      · split <;> grind
  exact Rat.le_antisymm ((main A).mp Rat.le_refl) ((main _).mpr Rat.le_refl)
end
end Cb
set_option Elab.async false
set_option linter.all false
set_option maxRecDepth 100000
set_option maxHeartbeats 4000000
/-! the walk's frame: data, what evaluates to what -/
namespace Cb
open PySem PySem.Spec PyProof.Rows L2
/-! ### data -/
inductive D where
  | int (i : Int) | str (s : Str) | bl (b : Bool) | non | tup (ds : List D) | lst (ds : List D)
  /-- an instance of the class at C with the fields people, term -/
  | rule (C : Addr) (n : Int) (t : D)
mutual
def Dat (K : PySem.W.Frag) (H : Hp) : D → V → Prop
  | .int i, v => v = .int i
  | .str s, v => v = .str s
  | .bl b, v => v = .bl b
  | .non, v => v = .non
  | .tup ds, v => ∃ a xs, v = .ref a ∧ SqT K H a xs ∧ Dats K H ds xs
  | .lst ds, v => ∃ a xs, v = .ref a ∧ SqL K H a xs ∧ Dats K H ds xs
  | .rule C n t, v => ∃ a dx tv, v = .ref a ∧ H a = some (.ins C dx [("people", .int n), ("term", tv)]) ∧ Dat K H t tv
def Dats (K : PySem.W.Frag) (H : Hp) : List D → List V → Prop
  | [], xs => xs = []
  | d :: r, xs => ∃ x xr, xs = x :: xr ∧ Dat K H d x ∧ Dats K H r xr
end
mutual
/-- no list in it -/
def nl : D → Bool
  | .tup ds => nls ds
  | .lst _ => false
  | .rule _ _ _ => false
  | _ => true
def nls : List D → Bool
  | [] => true
  | d :: r => nl d && nls r
end
theorem nls_all : ∀ {ds : List D}, (∀ d ∈ ds, nl d = true) → nls ds = true
  | [], _ => rfl
  | d :: r, h => by
    show (nl d && nls r) = true
    rw [h d List.mem_cons_self, nls_all fun x hx => h x (List.mem_cons_of_mem _ hx)]
    rfl
theorem nls_mem : ∀ {ds : List D} {d : D}, nls ds = true → d ∈ ds → nl d = true
  | c :: r, d, h, hd => by
    have h : (nl c && nls r) = true := h
    rw [Bool.and_eq_true] at h
    rcases List.mem_cons.mp hd with e | hd
    · rw [e]; exact h.1
    · exact nls_mem h.2 hd
/-- all tuples stand as they stood -/
def Tk (H H' : Hp) : Prop := ∀ a u, Rd H a (.tup u) → Rd H' a (.tup u)
theorem Same.tk {H H' : Hp} (h : Same H H') : Tk H H' := fun a u r => by
  rcases r with r | ⟨o, r⟩
  · exact .inl (h _ _ r)
  · exact .inr ⟨o, h _ _ r⟩
theorem tk_upd {H : Hp} {p : Addr} {xs : List V} {o : HO} (h : H p = some (.lst xs)) : Tk H (upd H p o) := fun a u r => by
  have ne : a ≠ p := fun e => by
    subst e
    rcases r with r | ⟨ob, r⟩
    · rw [h] at r; cases r
    · rw [h] at r; cases r
  rcases r with r | ⟨ob, r⟩
  · exact .inl (by rw [upd_ne ne]; exact r)
  · exact .inr ⟨ob, by rw [upd_ne ne]; exact r⟩
section
variable {K : PySem.W.Frag} {H H' : Hp}
mutual
theorem Dat.same (h : Same H H') : ∀ {d : D} {v : V}, Dat K H d v → Dat K H' d v
  | .int _, _, e => e
  | .str _, _, e => e
  | .bl _, _, e => e
  | .non, _, e => e
  | .tup ds, v, ⟨a, xs, e, s, r⟩ => by
    refine ⟨a, xs, e, ?_, Dats.same h r⟩
    rcases s with s | s
    · exact .inl (Same.tk h a xs s)
    · exact .inr s
  | .lst ds, v, ⟨a, xs, e, s, r⟩ => ⟨a, xs, e, h.seq s, Dats.same h r⟩
  | .rule C n t, v, ⟨a, dx, tv, e, s, r⟩ => ⟨a, dx, tv, e, h _ _ s, Dat.same h r⟩
theorem Dats.same (h : Same H H') : ∀ {ds : List D} {vs : List V}, Dats K H ds vs → Dats K H' ds vs
  | [], _, e => e
  | d :: r, vs, ⟨x, xr, e, h1, h2⟩ => ⟨x, xr, e, Dat.same h h1, Dats.same h h2⟩
end
mutual
theorem Dat.tk (h : Tk H H') : ∀ {d : D} {v : V}, nl d = true → Dat K H d v → Dat K H' d v
  | .int _, _, _, e => e
  | .str _, _, _, e => e
  | .bl _, _, _, e => e
  | .non, _, _, e => e
  | .tup ds, v, n, ⟨a, xs, e, s, r⟩ => by
    refine ⟨a, xs, e, ?_, Dats.tk h n r⟩
    rcases s with s | s
    · exact .inl (h a xs s)
    · exact .inr s
theorem Dats.tk (h : Tk H H') : ∀ {ds : List D} {vs : List V}, nls ds = true → Dats K H ds vs → Dats K H' ds vs
  | [], _, _, e => e
  | d :: r, vs, n, ⟨x, xr, e, h1, h2⟩ => by
    have n : (nl d && nls r) = true := n
    rw [Bool.and_eq_true] at n
    exact ⟨x, xr, e, Dat.tk h n.1 h1, Dats.tk h n.2 h2⟩
end
theorem Dats.length : ∀ {ds : List D} {vs : List V}, Dats K H ds vs → ds.length = vs.length
  | [], vs, e => by
    have e : vs = [] := e
    subst e
    rfl
  | d :: r, vs, ⟨x, xr, e, _, h2⟩ => by rw [e, List.length_cons, List.length_cons, Dats.length h2]
theorem Dats.get : ∀ {ds : List D} {vs : List V} {i : Nat} {d : D}, Dats K H ds vs → ds[i]? = some d → ∃ x, vs[i]? = some x ∧ Dat K H d x
  | c :: r, vs, 0, d, ⟨x, xr, e, h1, _⟩, e2 => by
    have : c = d := by simpa using e2
    subst this
    exact ⟨x, by rw [e]; rfl, h1⟩
  | c :: r, vs, i + 1, d, ⟨x, xr, e, _, h2⟩, e2 => by
    obtain ⟨y, h3, h4⟩ := Dats.get (i := i) h2 (by simpa using e2)
    exact ⟨y, by rw [e]; simpa using h3, h4⟩
theorem Dats.getV {ds : List D} {vs : List V} {i : Nat} {x : V} (h : Dats K H ds vs) (e : vs[i]? = some x) : ∃ d, ds[i]? = some d ∧ Dat K H d x := by
  have hi : i < ds.length := by rw [h.length]; exact (List.getElem?_eq_some_iff.mp e).1
  obtain ⟨y, h1, h2⟩ := h.get (List.getElem?_eq_getElem hi)
  rw [e] at h1
  cases h1
  exact ⟨_, List.getElem?_eq_getElem hi, h2⟩
theorem Dats.cons {d : D} {ds : List D} {x : V} {xs : List V} (h : Dat K H d x) (r : Dats K H ds xs) : Dats K H (d :: ds) (x :: xs) := ⟨x, xs, rfl, h, r⟩
theorem Dats.nil : Dats K H [] [] := rfl
theorem Dats.append : ∀ {ds es : List D} {xs ys : List V}, Dats K H ds xs → Dats K H es ys → Dats K H (ds ++ es) (xs ++ ys)
  | [], es, xs, ys, e, h => by
    have : xs = [] := e
    subst this
    exact h
  | d :: r, es, xs, ys, ⟨x, xr, e, h1, h2⟩, h => by
    subst e
    exact ⟨x, xr ++ ys, rfl, h1, Dats.append h2 h⟩
theorem Dats.snoc {ds : List D} {d : D} {xs : List V} {x : V} (h : Dats K H ds xs) (hd : Dat K H d x) : Dats K H (ds ++ [d]) (xs ++ [x]) := h.append (.cons hd .nil)
theorem Dats.drop : ∀ {ds : List D} {xs : List V} (n : Nat), Dats K H ds xs → Dats K H (ds.drop n) (xs.drop n)
  | _, _, 0, h => by simpa using h
  | [], _, n + 1, e => by
    have e : _ = [] := e
    rw [e]; simpa using (Dats.nil : Dats K H [] [])
  | d :: r, _, n + 1, ⟨x, xr, e, _, h2⟩ => by rw [e]; simpa using Dats.drop n h2
theorem Dats.take : ∀ {ds : List D} {xs : List V} (n : Nat), Dats K H ds xs → Dats K H (ds.take n) (xs.take n)
  | _, _, 0, _ => by simpa using (Dats.nil : Dats K H [] [])
  | [], _, n + 1, e => by
    have e : _ = [] := e
    rw [e]; simpa using (Dats.nil : Dats K H [] [])
  | d :: r, _, n + 1, ⟨x, xr, e, h1, h2⟩ => by rw [e]; simpa using Dats.cons h1 (Dats.take n h2)
theorem Dats.ints : ∀ (ns : List Int), Dats K H (ns.map D.int) (ns.map V.int)
  | [] => rfl
  | n :: r => ⟨_, _, rfl, rfl, Dats.ints r⟩
theorem Dats.ints_inv : ∀ {ns : List Int} {xs : List V}, Dats K H (ns.map D.int) xs → xs = ns.map V.int
  | [], _, e => e
  | n :: r, _, ⟨x, xr, e, h1, h2⟩ => by
    rw [e, Dats.ints_inv h2, show x = .int n from h1]; rfl
theorem Dats.bls_inv : ∀ {ns : List Bool} {xs : List V}, Dats K H (ns.map D.bl) xs → xs = ns.map V.bl
  | [], _, e => e
  | n :: r, _, ⟨x, xr, e, h1, h2⟩ => by
    rw [e, Dats.bls_inv h2, show x = .bl n from h1]; rfl
theorem Dats.atI {ds : List D} {xs : List V} {i : Int} {d : D} (h : Dats K H ds xs) (e : atI ds i = some d) : ∃ x, atI xs i = some x ∧ Dat K H d x := by
  unfold L2.atI at e ⊢
  rw [h.length] at e
  cases q : ixN xs.length i with
  | none => rw [q] at e; cases e
  | some j =>
    rw [q] at e
    exact h.get e
theorem same_upd {p : Addr} {o : HO} (h : H p = none) : Same H (upd H p o) := fun b x e => by
  rw [upd_ne (ne_of_none e h)]; exact e
end
theorem small1M {n : Nat} (h : n ≤ 1000000) : n < sizeLine := Nat.lt_of_le_of_lt h (by decide)
/-! ### what evaluates to what -/
def EvP (K : PySem.W.Frag) (te : TE) (σ : L2.St) (H : Hp) (post : D → Prop) : Prop :=
  ∀ H0, Same H H0 → ∀ Q : VK, (∀ v H' d, Same H0 H' → post d → Dat K H' d v → Q v H') → te σ H0 Q
abbrev EvD (K : PySem.W.Frag) (te : TE) (σ : L2.St) (H : Hp) (d : D) : Prop := EvP K te σ H (fun e => e = d)
def EvA (K : PySem.W.Frag) (ta : TA) (σ : L2.St) (H : Hp) (ds : List D) : Prop :=
  ∀ H0, Same H H0 → ∀ Q : List V → Hp → Prop, (∀ vs H', Same H0 H' → Dats K H' ds vs → Q vs H') → ta σ H0 Q
def EvT (tt : TT) (σ : L2.St) (H : Hp) (b : Bool) : Prop := ∀ H0, Same H H0 → ∀ Q : Bool → Hp → Prop, (∀ H', Same H0 H' → Q b H') → tt σ H0 Q
section
variable {K : PySem.W.Frag} {σ : L2.St} {H H' : Hp} {te ta tb tc : TE} {d e : D} {v : V} {post : D → Prop}
theorem EvP.mono (s : Same H H') (h : EvP K te σ H post) : EvP K te σ H' post := fun H0 s0 Q q => h H0 (s.trans s0) Q q
theorem EvT.mono {tt : TT} {b : Bool} (s : Same H H') (h : EvT tt σ H b) : EvT tt σ H' b := fun H0 s0 Q q => h H0 (s.trans s0) Q q
theorem EvD.mk (h : ∀ H0, Same H H0 → ∀ Q : VK, (∀ v H', Same H0 H' → Dat K H' d v → Q v H') → te σ H0 Q) : EvD K te σ H d :=
  fun H0 s Q q => h H0 s Q fun v H' s' hd => q v H' d s' rfl hd
theorem EvD.use (h : EvD K te σ H d) {H0 : Hp} (s : Same H H0) {Q : VK} (q : ∀ v H', Same H0 H' → Dat K H' d v → Q v H') : te σ H0 Q :=
  h H0 s Q fun v H' d' s' e hd => by subst e; exact q v H' s' hd
theorem EvD.to (h : EvD K te σ H d) (e : d = e') : EvD K te σ H e' := e ▸ h
theorem ed_var {i : Nat} (e : σ[i]? = some (some v)) (h : Dat K H d v) : EvD K (tVar i) σ H d := EvD.mk fun H0 s Q q => ⟨v, e, q v H0 (Same.refl _) (Dat.same s h)⟩
theorem ed_c (h : Dat K H d v) : EvD K (tC v) σ H d := EvD.mk fun H0 s Q q => q v H0 (Same.refl _) (Dat.same s h)
theorem ed_int {i : Int} : EvD K (tC (.int i)) σ H (.int i) := ed_c rfl
theorem ed_str {i : Str} : EvD K (tC (.str i)) σ H (.str i) := ed_c rfl
theorem ed_bl {i : Bool} : EvD K (tC (.bl i)) σ H (.bl i) := ed_c rfl
theorem ed_non : EvD K (tC .non) σ H .non := ed_c rfl
/-- two operands, the operation by its reading on data -/
theorem ed_op {r : R2} (ha : EvD K ta σ H d) (hb : EvD K tb σ H e) (hr : ∀ x y H1, Same H H1 → Dat K H1 d x → Dat K H1 e y → ∀ Q : VK, (∀ v H', Same H1 H' → Dat K H' f v → Q v H') → r x y H1 Q) : EvD K (tOp r ta tb) σ H f :=
  EvD.mk fun H0 s Q q => ha.use s fun x H1 s1 hx => hb.use (s.trans s1) fun y H2 s2 hy => hr x y H2 ((s.trans s1).trans s2) (Dat.same s2 hx) hy Q fun v H' s3 hv => q v H' ((s1.trans s2).trans s3) hv
theorem ed_i0 {g : Int → Int → V} {i j : Int} (ha : EvD K ta σ H (.int i)) (hb : EvD K tb σ H (.int j)) (hg : ∀ H, Dat K H f (g i j)) : EvD K (tOp (rI0 g) ta tb) σ H f :=
  ed_op ha hb fun x y H1 s hx hy Q q => ⟨i, j, hx, hy, q _ _ (Same.refl _) (hg _)⟩
theorem ed_add {i j : Int} (ha : EvD K ta σ H (.int i)) (hb : EvD K tb σ H (.int j)) : EvD K (tOp (rI0 fun i j => .int (i + j)) ta tb) σ H (.int (i + j)) := ed_i0 ha hb fun _ => rfl
theorem ed_sub {i j : Int} (ha : EvD K ta σ H (.int i)) (hb : EvD K tb σ H (.int j)) : EvD K (tOp (rI0 fun i j => .int (i - j)) ta tb) σ H (.int (i - j)) := ed_i0 ha hb fun _ => rfl
theorem ed_lt {i j : Int} (ha : EvD K ta σ H (.int i)) (hb : EvD K tb σ H (.int j)) : EvD K (tOp (rI0 fun i j => .bl (decide (i < j))) ta tb) σ H (.bl (decide (i < j))) := ed_i0 ha hb fun _ => rfl
theorem ed_le {i j : Int} (ha : EvD K ta σ H (.int i)) (hb : EvD K tb σ H (.int j)) : EvD K (tOp (rI0 fun i j => .bl (decide (i ≤ j))) ta tb) σ H (.bl (decide (i ≤ j))) := ed_i0 ha hb fun _ => rfl
theorem ed_gt {i j : Int} (ha : EvD K ta σ H (.int i)) (hb : EvD K tb σ H (.int j)) : EvD K (tOp (rI0 fun i j => .bl (decide (j < i))) ta tb) σ H (.bl (decide (j < i))) := ed_i0 ha hb fun _ => rfl
theorem ed_ge {i j : Int} (ha : EvD K ta σ H (.int i)) (hb : EvD K tb σ H (.int j)) : EvD K (tOp (rI0 fun i j => .bl (decide (j ≤ i))) ta tb) σ H (.bl (decide (j ≤ i))) := ed_i0 ha hb fun _ => rfl
theorem ed_i {C : Int → Int → Prop} {g : Int → Int → V} {i j : Int} (ha : EvD K ta σ H (.int i)) (hb : EvD K tb σ H (.int j)) (hc : C i j) (hg : ∀ H, Dat K H f (g i j)) : EvD K (tOp (rI C g) ta tb) σ H f :=
  ed_op ha hb fun x y H1 s hx hy Q q => ⟨i, j, hx, hy, hc, q _ _ (Same.refl _) (hg _)⟩
theorem ed_ixT {ds : List D} {i : Int} (ha : EvD K ta σ H (.tup ds)) (hb : EvD K tb σ H (.int i)) (hi : atI ds i = some d) : EvD K (tOp (rIxT K) ta tb) σ H d :=
  ed_op ha hb fun x y H1 s ⟨a, xs, ex, sq, hd⟩ hy Q q => by
    obtain ⟨z, hz, hzd⟩ := hd.atI hi
    exact ⟨a, xs, i, z, ex, hy, sq, hz, q _ _ (Same.refl _) hzd⟩
theorem ed_ixL {ds : List D} {i : Int} (ha : EvD K ta σ H (.lst ds)) (hb : EvD K tb σ H (.int i)) (hi : atI ds i = some d) : EvD K (tOp (rIxL K) ta tb) σ H d :=
  ed_op ha hb fun x y H1 s ⟨a, xs, ex, sq, hd⟩ hy Q q => by
    obtain ⟨z, hz, hzd⟩ := hd.atI hi
    exact ⟨a, xs, i, z, ex, hy, sq, hz, q _ _ (Same.refl _) hzd⟩
theorem ed_neg {i : Int} (ha : EvD K ta σ H (.int i)) : EvD K (tUn (rU fun i => .int (-i)) ta) σ H (.int (-i)) :=
  EvD.mk fun H0 s Q q => ha.use s fun x H1 s1 hx => ⟨i, hx, q _ _ s1 rfl⟩
/-! arguments -/
theorem ea_nil : EvA K tNil σ H [] := fun H0 s Q q => q [] H0 (Same.refl _) rfl
theorem ea_cons {tr : TA} {ds : List D} (ha : EvD K ta σ H d) (hr : EvA K tr σ H ds) : EvA K (tCons ta tr) σ H (d :: ds) := fun H0 s Q q =>
  ha.use s fun x H1 s1 hx => hr H1 (s.trans s1) _ fun xs H2 s2 hxs => q (x :: xs) H2 (s1.trans s2) ⟨x, xs, rfl, Dat.same s2 hx, hxs⟩
/-- a tuple, a list that is written -/
theorem ed_tup {t : TA} {ds : List D} (h : EvA K t σ H ds) (hz : ds.length ≤ 1000 := by first | decide | (simp only [List.length_cons, List.length_nil]; omega)) : EvD K (tTup t) σ H (.tup ds) := EvD.mk fun H0 s Q q =>
  h H0 s _ fun vs H1 s1 hd => ⟨Nat.le_of_lt (small1000 (by rw [← hd.length]; exact hz)), fun p hp => q _ _ (s1.trans (same_upd hp)) ⟨p, vs, rfl, .inl (.inl upd_same), Dats.same (same_upd hp) hd⟩⟩
theorem ed_lst {t : TA} {ds : List D} (h : EvA K t σ H ds) (hz : ds.length ≤ 1000 := by first | decide | (simp only [List.length_cons, List.length_nil]; omega)) : EvD K (tLst t) σ H (.lst ds) := EvD.mk fun H0 s Q q =>
  h H0 s _ fun vs H1 s1 hd => ⟨Nat.le_of_lt (small1000 (by rw [← hd.length]; exact hz)), fun p hp => q _ _ (s1.trans (same_upd hp)) ⟨p, vs, rfl, .inl (.inl upd_same), Dats.same (same_upd hp) hd⟩⟩
/-! ### promises of pure defs -/
/-- a def of n arguments that are data: pre says which, and what is promised of the answer -/
def spP (K : PySem.W.Frag) (n : Nat) (pre : List D → (D → Prop) → Prop) : Sp := fun vs H Q _ =>
  vs.length = n ∧ ∃ ds post, pre ds post ∧ Dats K H ds vs ∧ ∀ v H' d, Same H H' → post d → Dat K H' d v → Q v H'
theorem ep_call {n : Nat} {pre : List D → (D → Prop) → Prop} {t : TA} {ds : List D} {E : XK} (h : EvA K t σ H ds) (hp : pre ds post) (hn : ds.length = n) : EvP K (tCall (spP K n pre) [] E t) σ H post := fun H0 s Q q =>
  h H0 s _ fun vs H1 s1 hd => by
    rw [List.append_nil]
    exact ⟨by rw [← hd.length]; exact hn, ds, post, hp, hd, fun v H' d s2 hpo hv => q v H' d (s1.trans s2) hpo hv⟩
theorem ed_call {n : Nat} {pre : List D → (D → Prop) → Prop} {t : TA} {ds : List D} {E : XK} (h : EvA K t σ H ds) (hp : pre ds (fun x => x = d)) (hn : ds.length = n) : EvD K (tCall (spP K n pre) [] E t) σ H d := ep_call h hp hn
/-! tests -/
theorem et_test {b : Bool} (h : EvD K te σ H (.bl b)) : EvT (tTest te) σ H b := fun H0 s Q q => h.use s fun x H1 s1 hx => ⟨b, hx, q H1 s1⟩
theorem et_val {b : Bool} (h : EvD K te σ H (.bl b)) : EvT (tB te) σ H b := fun H0 s Q q => h.use s fun x H1 s1 hx => ⟨b, hx, q H1 s1⟩
theorem et_not {t : TT} {b : Bool} (h : EvT t σ H b) : EvT (tNot t) σ H (!b) := fun H0 s Q q => h H0 s _ fun H1 s1 => q H1 s1
theorem et_and {t u : TT} {b c : Bool} (h : EvT t σ H b) (h2 : b = true → EvT u σ H c) : EvT (tAnd t u) σ H (b && c) := fun H0 s Q q =>
  h H0 s _ fun H1 s1 => by
    cases b with
    | true => exact iteT (h2 rfl H1 (s.trans s1) _ fun H2 s2 => q H2 (s1.trans s2))
    | false => exact iteF (q H1 s1)
theorem et_or {t u : TT} {b c : Bool} (h : EvT t σ H b) (h2 : b = false → EvT u σ H c) : EvT (tOr t u) σ H (b || c) := fun H0 s Q q =>
  h H0 s _ fun H1 s1 => by
    cases b with
    | true => exact iteT (q H1 s1)
    | false => exact iteF (h2 rfl H1 (s.trans s1) _ fun H2 s2 => q H2 (s1.trans s2))
theorem EvT.to {t : TT} {b c : Bool} (h : EvT t σ H b) (e : b = c) : EvT t σ H c := e ▸ h
/-! values of and, or, not, if -/
theorem ed_andV {b c : Bool} (h : EvD K ta σ H (.bl b)) (h2 : b = true → EvD K tb σ H (.bl c)) : EvD K (tAndV ta tb) σ H (.bl (b && c)) := EvD.mk fun H0 s Q q =>
  h.use s fun x H1 s1 hx => ⟨b, hx, by
    cases b with
    | true => exact iteT ((h2 rfl).use (s.trans s1) fun y H2 s2 hy => q y H2 (s1.trans s2) hy)
    | false => exact iteF (q _ H1 s1 rfl)⟩
theorem ed_orV {b c : Bool} (h : EvD K ta σ H (.bl b)) (h2 : b = false → EvD K tb σ H (.bl c)) : EvD K (tOrV ta tb) σ H (.bl (b || c)) := EvD.mk fun H0 s Q q =>
  h.use s fun x H1 s1 hx => ⟨b, hx, by
    cases b with
    | true => exact iteT (q _ H1 s1 rfl)
    | false => exact iteF ((h2 rfl).use (s.trans s1) fun y H2 s2 hy => q y H2 (s1.trans s2) hy)⟩
theorem ed_notV {b : Bool} (h : EvD K ta σ H (.bl b)) : EvD K (tNotV ta) σ H (.bl (!b)) := EvD.mk fun H0 s Q q => h.use s fun x H1 s1 hx => ⟨b, hx, q _ H1 s1 rfl⟩
theorem ed_ifE {t : TT} {b : Bool} (h : EvT t σ H b) (h1 : b = true → EvD K ta σ H d) (h2 : b = false → EvD K tb σ H d) : EvD K (tIf t ta tb) σ H d := EvD.mk fun H0 s Q q =>
  h H0 s _ fun H1 s1 => by
    cases b with
    | true => exact iteT ((h1 rfl).use (s.trans s1) fun y H2 s2 hy => q y H2 (s1.trans s2) hy)
    | false => exact iteF ((h2 rfl).use (s.trans s1) fun y H2 s2 hy => q y H2 (s1.trans s2) hy)
/-! statements -/
theorem q_ret {D : Ends} {H0 : Hp} (h : EvP K te σ H post) (s : Same H H0) (k : ∀ v H' d, Same H0 H' → post d → Dat K H' d v → D.rt v H') : tRet te D σ H0 := h H0 s _ k
theorem q_retD {D : Ends} {H0 : Hp} (h : EvD K te σ H d) (s : Same H H0) (k : ∀ v H', Same H0 H' → Dat K H' d v → D.rt v H') : tRet te D σ H0 := h.use s k
theorem q_set {D : Ends} {H0 : Hp} {i : Nat} {u : TS} (h : EvP K te σ H post) (s : Same H H0) (k : ∀ v H' d, Same H0 H' → post d → Dat K H' d v → u D (σ.set i (some v)) H') : tSeq (tAsg te (gName i)) u D σ H0 := h H0 s _ k
theorem q_setD {D : Ends} {H0 : Hp} {i : Nat} {u : TS} (h : EvD K te σ H d) (s : Same H H0) (k : ∀ v H', Same H0 H' → Dat K H' d v → u D (σ.set i (some v)) H') : tSeq (tAsg te (gName i)) u D σ H0 := h.use s k
theorem q_if {D : Ends} {H0 : Hp} {c : TT} {b : Bool} {t u w : TS} (h : EvT c σ H b) (s : Same H H0) (k1 : b = true → ∀ H', Same H0 H' → t { D with nx := w D } σ H') (k2 : b = false → ∀ H', Same H0 H' → u { D with nx := w D } σ H') : tSeq (tIfS c t u) w D σ H0 :=
  h H0 s _ fun H1 s1 => by
    cases b with
    | true => exact iteT (k1 rfl H1 s1)
    | false => exact iteF (k2 rfl H1 s1)
theorem q_if1 {D : Ends} {H0 : Hp} {c : TT} {b : Bool} {t u : TS} (h : EvT c σ H b) (s : Same H H0) (k1 : b = true → ∀ H', Same H0 H' → t D σ H') (k2 : b = false → ∀ H', Same H0 H' → u D σ H') : tIfS c t u D σ H0 :=
  h H0 s _ fun H1 s1 => by
    cases b with
    | true => exact iteT (k1 rfl H1 s1)
    | false => exact iteF (k2 rfl H1 s1)
/-- the answer of a pure def's body -/
theorem fin_P {n : Nat} {pre : List D → (D → Prop) → Prop} {vs : List V} {Q : VK} {E : XK} (h : spP K n pre vs H Q E) : vs.length = n := h.1
end
/-! ### fractions -/
def fr (q : Rat) : D := .tup [.int q.num, .int q.den]
def frs (xs : List Rat) : List D := xs.map fr
theorem nl_fr (q : Rat) : nl (fr q) = true := rfl
theorem fr_inj {p q : Rat} (h : fr p = fr q) : p = q := by
  unfold fr at h
  simp only [D.tup.injEq, List.cons.injEq, D.int.injEq, and_true] at h
  exact Rat.ext h.1 (by omega)
end Cb
set_option Elab.async false
set_option linter.all false
set_option maxRecDepth 100000
set_option maxHeartbeats 4000000
/-! walks: the world, fractions -/
namespace Cb
open PySem PySem.Spec PyProof.Rows L2
/-! ### the built-ins by name -/
theorem b_abs : bootBuiltins "abs" = some (.builtin "abs") := by decide +kernel
theorem b_all : bootBuiltins "all" = some (.builtin "all") := by decide +kernel
theorem b_isinstance : bootBuiltins "isinstance" = some (.builtin "isinstance") := by decide +kernel
theorem b_len : bootBuiltins "len" = some (.builtin "len") := by decide +kernel
theorem b_sorted : bootBuiltins "sorted" = some (.builtin "sorted") := by decide +kernel
theorem b_sum : bootBuiltins "sum" = some (.builtin "sum") := by decide +kernel
theorem b_bool : bootBuiltins "bool" = some (.type "bool") := by decide +kernel
theorem b_enumerate : bootBuiltins "enumerate" = some (.type "enumerate") := by decide +kernel
theorem b_int : bootBuiltins "int" = some (.type "int") := by decide +kernel
theorem b_list : bootBuiltins "list" = some (.type "list") := by decide +kernel
theorem b_range : bootBuiltins "range" = some (.type "range") := by decide +kernel
theorem b_set : bootBuiltins "set" = some (.type "set") := by decide +kernel
theorem b_str : bootBuiltins "str" = some (.type "str") := by decide +kernel
theorem b_tuple : bootBuiltins "tuple" = some (.type "tuple") := by decide +kernel
theorem b_zip : bootBuiltins "zip" = some (.type "zip") := by decide +kernel
/-! ### the world -/
structure Wd (P : Program) (K : PySem.W.Frag) (mg : Str → Option Value) (base : Heap) : Prop where
  seer : base.NoSeer
  tree : P.given.tree = none
  abs : mg "abs" = none
  all : mg "all" = none
  bool : mg "bool" = none
  enum : mg "enumerate" = none
  int : mg "int" = none
  isi : mg "isinstance" = none
  len : mg "len" = none
  list : mg "list" = none
  range : mg "range" = none
  set : mg "set" = none
  sorted : mg "sorted" = none
  str : mg "str" = none
  sum : mg "sum" = none
  tuple : mg "tuple" = none
  zip : mg "zip" = none
  zero : ∃ z, mg "ZERO" = some (.ref z) ∧ ∀ H, SqT K H z [.int 0, .int 1]
  one : ∃ z, mg "ONE" = some (.ref z) ∧ ∀ H, SqT K H z [.int 1, .int 1]
  mostP : ∃ t, mg "MOST_PEOPLE" = some (.int 6 t)
  mostT : ∃ t, mg "MOST_TURNS" = some (.int 12 t)
  mostD : ∃ t, mg "MOST_DEEP" = some (.int 8 t)
  mostE : ∃ t, mg "MOST_TERMS" = some (.int 60 t)
  mostA : ∃ t, mg "MOST_PARTS" = some (.int 8 t)
  mostW : ∃ t, mg "MOST_WEIGHT" = some (.int 99 t)
/-- a def as the top has left it -/
structure Df (K : PySem.W.Frag) (mg : Str → Option Value) (x : Str) (st : Stmt) : Prop where
  ex : ∃ f fd, FunD K x x (defArgs st) (defBody st) (defScope st) [] [] f fd ∧ mg x = some (.ref f)
abbrev BindOk (x : Str) (st : Stmt) (ps : List Str) : Prop := ∀ (kV doc pm : Value) (an : Option Addr) (cdv ct : Value) (us : List Value), us.length = ps.length → bindArgs (PySem.W.fnOf x x (defArgs st) (defBody st) (defScope st) .none kV doc pm an cdv ct) ⟨us, []⟩ = pure (ps.zip us)
section
variable {P : Program} {w : World} {K : PySem.W.Frag} {mg : Str → Option Value} {base : Heap}
/-- a def keeps its promise, by its body -/
theorem cal_sp {x : Str} {st : Stmt} {N ps : List Str} {k : Nat} {sp : Sp} (F : Df K mg x st) (S : FnScope N ps (defScope st)) (hb : BindOk x st ps) (hl : ∀ vs H Q E, sp vs H Q E → vs.length = ps.length)
    (hbody : ∀ (f : Addr) (cdv : Value) (A : Around) (outer : List Env) (s : Shared) (H : Hp) (vs : List V) (Q : VK) (E : XK), Room k (A.deeper (envOfC x (defScope st) s.heap.objs.size f cdv)) → sp vs H Q E →
      ∃ t, PSs (cxOf CX0 P w K mg base N x (defScope st) f cdv A outer s H E).nox (defBody st) t ∧ t { nx := fun _ H' => Q .non H', rt := Q } (start N vs) H) :
    C8.Cal P w K mg base (k + 1) x sp [] := by
  obtain ⟨f, fd, F, hm⟩ := F.ex
  exact ⟨f, fd, ps, [], F.ok S hl fun cdv A outer s H vs Q E hr h => (by
    obtain ⟨t, h1, h2⟩ := hbody f cdv A outer s H vs Q E hr h
    exact ⟨t, h1.nox, h2⟩), hm, F.kp, F.bindsN hb, .nil⟩
theorem cal_of {x : Str} {st : Stmt} {N ps : List Str} {k n : Nat} {pre : List D → (D → Prop) → Prop} (F : Df K mg x st) (S : FnScope N ps (defScope st)) (hb : BindOk x st ps) (hn : n = ps.length)
    (hbody : ∀ (f : Addr) (cdv : Value) (A : Around) (outer : List Env) (s : Shared) (H : Hp) (vs : List V) (Q : VK) (E : XK) (ds : List D) (post : D → Prop), Room k (A.deeper (envOfC x (defScope st) s.heap.objs.size f cdv)) →
      pre ds post → Dats K H ds vs → (∀ v H' d, Same H H' → post d → Dat K H' d v → Q v H') →
      ∃ t, PSs (cxOf CX0 P w K mg base N x (defScope st) f cdv A outer s H E).nox (defBody st) t ∧ t { nx := fun _ H' => Q .non H', rt := Q } (start N vs) H) :
    C8.Cal P w K mg base (k + 1) x (spP K n pre) [] :=
  cal_sp F S hb (fun vs H Q E h => by rw [h.1, hn]) fun f cdv A outer s H vs Q E hr ⟨hl, ds, post, hp, hd, q⟩ => hbody f cdv A outer s H vs Q E ds post hr hp hd q
theorem _root_.C8.Cal.up {k j : Nat} {x : Str} {sp : Sp} (c : C8.Cal P w K mg base k x sp []) (h : k ≤ j) : C8.Cal P w K mg base j x sp [] := by
  obtain ⟨f, fd, ps, ds, F, r⟩ := c.ex
  exact ⟨f, fd, ps, ds, F.mono h, r⟩
end
/-! ### own rules -/
section
variable {X : Cx}
theorem op_mulX : OpR X (binaryOp .Mult) (rI IntMulOk fun i j => .int (i * j)) := opI fun _ _ _ _ _ _ _ hc q => mul_int q hc
theorem op_fdivX (hS : X.base.NoSeer) (ht : X.prog.given.tree = none) (hd : X.A.depth + 100 < recursionLimit) (hst : X.stack = X.env :: X.outer) (hg : X.env.scope.isGenerator = false) (hc : X.env.scope.isCoroutine = false) :
    OpR X (binaryOp .FloorDiv) (rI (fun _ j => j ≠ 0) fun i j => .int (i.fdiv j)) := by
  intro pins s σ H x y v u Q I rx ry h
  obtain ⟨i, j, rfl, rfl, hj, q⟩ := h
  obtain ⟨t, rfl⟩ := rx
  obtain ⟨t', rfl⟩ := ry
  exact floordiv_int hj ⟨.int (i.fdiv j), H, I.tok _, ⟨_, rfl⟩, q⟩ (.inr (PySem.PylongRoom.of I.nolimit hd (PySem.SeerAt.of (hS.keeps I.bk) ht (by rw [I.ok.frames, hst]) hg hc I.ok.blt I.ok.glob)))
end
theorem depth_of {A : Around} {k : Nat} (hr : Room k A) (hk : 32 ≤ k) : A.depth + 100 < recursionLimit := by
  have := hr.dp
  omega
theorem mulOk_of {i j : Int} {a b : Nat} (h1 : i.natAbs < 2 ^ a) (h2 : j.natAbs < 2 ^ b) (h : a + b ≤ 134217728) : IntMulOk i j := by
  have key : ∀ {x : Int} {n : Nat}, x.natAbs < 2 ^ n → Builtin.Int.intBits x ≤ n := fun {x n} h => by
    unfold Builtin.Int.intBits
    split
    · exact Nat.zero_le _
    · rename_i hx
      have hne : x.natAbs ≠ 0 := fun z => hx (by have : x = 0 := by omega
                                                 simp [this])
      exact (Nat.log2_lt hne).mpr h
  have k1 := key h1
  have k2 := key h2
  intro z
  rw [Bool.and_eq_true] at z
  have z2 := of_decide_eq_true (show decide (((Builtin.Int.intBits i + Builtin.Int.intBits j : Nat) : Int) > bitsLine) = true from z.2)
  have e : bitsLine = 134217728 := by decide
  rw [e] at z2
  omega
/-! ### isinstance of data -/
section
variable {K : PySem.W.Frag} {H : Hp} {σ : L2.St} {ta : TE}
def tyD : D → String
  | .int _ => "int" | .str _ => "str" | .bl _ => "bool" | .non => "NoneType" | .tup _ => "tuple" | .lst _ => "list" | .rule _ _ _ => "object"
def notR : D → Bool
  | .rule _ _ _ => false
  | _ => true
theorem dat_ty : ∀ {d : D} {v : V}, notR d = true → Dat K H d v → TyX K H v (.type (tyD d))
  | .int i, v, _, e => by rw [show v = .int i from e]; exact .base (.int i)
  | .str i, v, _, e => by rw [show v = .str i from e]; exact .base (.str i)
  | .bl i, v, _, e => by rw [show v = .bl i from e]; exact .base (.bl i)
  | .non, v, _, e => by rw [show v = .non from e]; exact .base .non
  | .tup ds, v, _, ⟨a, xs, e, s, _⟩ => by
    subst e
    rcases s with (s | ⟨o, s⟩) | ⟨o, its, n, h1, h2, _⟩
    · exact .base (.tup s)
    · exact .fTuple s
    · exact .kTuple h1 h2
  | .lst ds, v, _, ⟨a, xs, e, s, _⟩ => by
    subst e
    rcases s with (s | ⟨o, s⟩) | ⟨o, its, n, h1, h2, _⟩
    · exact .base (.lst s)
    · exact .base (.frz s)
    · exact .kList h1 h2
theorem ed_isi {d : D} {T : String} {b : Bool} (ha : EvD K ta σ H d) (h : kitB (tyD d) T = some b) (hr : notR d = true := by rfl) : EvD K (tCB (rIsi K) (tCons ta (tCons (tC (.ty T)) tNil))) σ H (.bl b) := EvD.mk fun H0 s Q q =>
  ha.use s fun x H1 s1 hx => ⟨x, .ty T, .type (tyD d), .type T, b, rfl, .ty T, dat_ty hr hx, kit_ty h, q _ H1 s1 rfl⟩
end
/-! ### defs: fractions -/
def LIM : Nat := 67108864
section
variable {P : Program} {w : World} {K : PySem.W.Frag} {mg : Str → Option Value} {base : Heap}
theorem ed_abs {σ : L2.St} {H : Hp} {ta : TE} {i : Int} (ha : EvD K ta σ H (.int i)) : EvD K (tCB (fun xs H Q => ∃ i, xs = [.int i] ∧ Q (.int (if i < 0 then -i else i)) H) (tCons ta tNil)) σ H (.int i.natAbs) := EvD.mk fun H0 s Q q =>
  ha.use s fun x H1 s1 hx => ⟨i, by rw [show x = .int i from hx], q _ H1 s1 (by show V.int _ = V.int _; congr 1; split <;> omega)⟩
abbrev preDiv : List D → (D → Prop) → Prop := fun ds post => ∃ a b : Int, ds = [.int a, .int b] ∧ post = fun d => d = .int (Int.gcd a b)
theorem gcd_turn (a : Int) {b : Int} (h : 0 ≤ a) (hb : 0 < b) : Int.gcd a b = Int.gcd b (a.fmod b) := by
  rw [Int.fmod_eq_emod_of_nonneg a (by omega), Int.gcd_comm]
  show Nat.gcd b.natAbs a.natAbs = Nat.gcd b.natAbs (a % b).natAbs
  rw [Int.natAbs_emod_of_nonneg h, Nat.gcd_rec, Nat.gcd_comm]
theorem ok_divisor (W : Wd P K mg base) (F : Df K mg "divisor" s_divisor) : C8.Cal P w K mg base 33 "divisor" (spP K 2 preDiv) [] := by
  refine cal_of F sc_divisor (fun _ _ _ _ _ _ us hl => match us, hl with | [_, _], _ => rfl) rfl fun f cdv A outer s H vs Q E ds post hr hp hd q => ?_
  obtain ⟨a, b, rfl, rfl⟩ := hp
  obtain ⟨x, _, rfl, hx, y, _, rfl, hy, hz⟩ := hd
  obtain rfl : _ = [] := hz
  obtain rfl : x = .int a := hx
  obtain rfl : y = .int b := hy
  refine ⟨_, pss_cons (ps_par (i := 0) (j := 1) rfl sc_divisor.nd rfl rfl (by decide) rfl rfl (pa_cons (pe_callB call_abs (by rfl) W.abs b_abs (pa_cons (pv 0) pa_nil)) (pa_cons (pe_callB call_abs (by rfl) W.abs b_abs (pa_cons (pv 1) pa_nil)) pa_nil)) (by rfl))
    (pss_cons (ps_while PassesOwn.never (pt_cmpR op_gt (pv 1) pe_int (nomark _)) (pss_one (ps_par (i := 0) (j := 1) rfl sc_divisor.nd rfl rfl (by decide) rfl rfl (pa_cons (pv 1) (pa_cons (pe_op op_modN (pv 0) (pv 1)) pa_nil)) (by rfl))))
    (pss_one (ps_ret (pv 0)))), ?_⟩
  refine ⟨_, rfl, a, rfl, _, rfl, b, rfl, _, _, rfl, ?_⟩
  refine while_by (fun σ H' => H' = H ∧ ∃ c d : Int, σ = [some (.int c), some (.int d)] ∧ 0 ≤ c ∧ 0 ≤ d ∧ Int.gcd c d = Int.gcd a b) (fun σ _ => match σ with | [_, some (.int d)] => d.toNat | _ => 0) ?_ ?_ ?_
  · refine ⟨rfl, _, _, rfl, by split <;> omega, by split <;> omega, ?_⟩
    show Nat.gcd _ _ = Nat.gcd _ _
    congr 1 <;> (split <;> omega)
  · rintro σ H' ⟨rfl, c, d, rfl, h0, h1, hg⟩
    refine ⟨_, rfl, _, _, rfl, rfl, _, rfl, ?_⟩
    by_cases hd : 0 < d
    · rw [decide_eq_true hd]
      refine iteT ⟨_, rfl, _, rfl, _, rfl, c, d, rfl, rfl, by omega, _, _, rfl, ⟨rfl, d, c.fmod d, rfl, h1, ?_, ?_⟩, ?_⟩
      · rw [Int.fmod_eq_emod_of_nonneg c h1]; exact Int.emod_nonneg c (by omega)
      · rw [← hg]; exact (gcd_turn c h0 hd).symm
      · show (c.fmod d).toNat < d.toNat
        rw [Int.fmod_eq_emod_of_nonneg c h1]
        have := Int.emod_lt_of_pos c hd
        omega
    · rw [decide_eq_false hd]
      refine iteF ⟨_, rfl, ?_⟩
      have e : d = 0 := by omega
      subst e
      refine q _ _ _ (Same.refl _) rfl ?_
      show V.int c = V.int _
      rw [← hg, Int.gcd_zero_right]
      congr 1; omega
  · rintro σ H' Q1 Q2 hq ⟨v, e, i, j, h1, h2, k, e2, h3⟩
    exact ⟨v, e, i, j, h1, h2, k, e2, hq _ _ h3⟩
end
end Cb
set_option Elab.async false
set_option linter.all false
set_option maxRecDepth 100000
set_option maxHeartbeats 4000000
/-! walks: fractions -/
namespace Cb
open PySem PySem.Spec PyProof.Rows L2
theorem made_num {a b : Int} (hb : b ≠ 0) : a.fdiv (if b < 0 then -((Int.gcd a b : Nat) : Int) else ((Int.gcd a b : Nat) : Int)) = (Rat.divInt a b).num ∧ b.fdiv (if b < 0 then -((Int.gcd a b : Nat) : Int) else ((Int.gcd a b : Nat) : Int)) = ((Rat.divInt a b).den : Int) ∧
    (if b < 0 then -((Int.gcd a b : Nat) : Int) else ((Int.gcd a b : Nat) : Int)) ≠ 0 := by
  have g0 : 0 < Int.gcd a b := Int.gcd_pos_of_ne_zero_right a hb
  obtain ⟨u, hu⟩ := Int.gcd_dvd_left a b
  obtain ⟨v, hv⟩ := Int.gcd_dvd_right a b
  rw [Rat.num_divInt, Rat.den_divInt, if_neg hb, Int.gcd_comm b a]
  generalize Int.gcd a b = g at *
  have gn : ((g : Nat) : Int) ≠ 0 := by omega
  have eu : a / (g : Int) = u := by rw [hu]; exact Int.mul_ediv_cancel_left u gn
  have ev : b / (g : Int) = v := by rw [hv]; exact Int.mul_ediv_cancel_left v gn
  by_cases h : b < 0
  · rw [if_pos h]
    have hv0 : v < 0 := by
      rcases Int.lt_or_le v 0 with z | z
      · exact z
      · have := Int.mul_nonneg (a := (g : Int)) (b := v) (by omega) z
        omega
    have ea : a.fdiv (-(g : Int)) = -u := by
      rw [hu, show (g : Int) * u = (-(g : Int)) * (-u) by rw [Int.neg_mul_neg]]
      exact Int.mul_fdiv_cancel_left (-u) (by omega)
    have eb : b.fdiv (-(g : Int)) = -v := by
      rw [hv, show (g : Int) * v = (-(g : Int)) * (-v) by rw [Int.neg_mul_neg]]
      exact Int.mul_fdiv_cancel_left (-v) (by omega)
    refine ⟨?_, ?_, by omega⟩
    · rw [ea, Int.sign_eq_neg_one_of_neg h, show (-1 : Int) * a = (g : Int) * (-u) by rw [hu, Int.mul_neg, Int.neg_mul, Int.one_mul]]
      exact (Int.mul_ediv_cancel_left (-u) gn).symm
    · rw [eb]
      have : b.natAbs = g * v.natAbs := by rw [hv, Int.natAbs_mul]; rfl
      rw [this, Nat.mul_div_cancel_left _ g0]
      omega
  · rw [if_neg h]
    have hb1 : 0 < b := by omega
    have hv0 : 0 < v := by
      rcases Int.lt_or_le 0 v with z | z
      · exact z
      · have := Int.mul_nonneg (a := (g : Int)) (b := -v) (by omega) (by omega)
        rw [Int.mul_neg] at this
        omega
    refine ⟨?_, ?_, gn⟩
    · rw [Int.sign_eq_one_of_pos hb1, Int.one_mul, eu, Int.fdiv_eq_ediv_of_nonneg a (by omega), eu]
    · rw [Int.fdiv_eq_ediv_of_nonneg b (by omega), ev]
      have : b.natAbs = g * v.natAbs := by rw [hv, Int.natAbs_mul]; rfl
      rw [this, Nat.mul_div_cancel_left _ g0]
      omega
section
variable {K : PySem.W.Frag} {σ : L2.St} {H : Hp} {te ta tb : TE} {d : D}
theorem q_set1 {D' : Ends} {H0 : Hp} {i : Nat} (h : EvD K te σ H d) (s : Same H H0) (k : ∀ v H', Same H0 H' → Dat K H' d v → D'.nx (σ.set i (some v)) H') : tAsg te (gName i) D' σ H0 := h.use s k
theorem ed_mul {i j : Int} (ha : EvD K ta σ H (.int i)) (hb : EvD K tb σ H (.int j)) (h : IntMulOk i j) : EvD K (tOp (rI IntMulOk fun i j => .int (i * j)) ta tb) σ H (.int (i * j)) := ed_i ha hb h fun _ => rfl
theorem ed_fdiv {i j : Int} (ha : EvD K ta σ H (.int i)) (hb : EvD K tb σ H (.int j)) (h : j ≠ 0) : EvD K (tOp (rI (fun _ j => j ≠ 0) fun i j => .int (i.fdiv j)) ta tb) σ H (.int (i.fdiv j)) := ed_i ha hb h fun _ => rfl
theorem dats2 {d1 d2 : D} {vs : List V} (h : Dats K H [d1, d2] vs) : ∃ x y, vs = [x, y] ∧ Dat K H d1 x ∧ Dat K H d2 y := by
  obtain ⟨x, _, rfl, hx, y, _, rfl, hy, hz⟩ := h
  obtain rfl : _ = [] := hz
  exact ⟨x, y, rfl, hx, hy⟩
theorem dats1 {d1 : D} {vs : List V} (h : Dats K H [d1] vs) : ∃ x, vs = [x] ∧ Dat K H d1 x := by
  obtain ⟨x, _, rfl, hx, hz⟩ := h
  obtain rfl : _ = [] := hz
  exact ⟨x, rfl, hx⟩
theorem dats3 {d1 d2 d3 : D} {vs : List V} (h : Dats K H [d1, d2, d3] vs) : ∃ x y z, vs = [x, y, z] ∧ Dat K H d1 x ∧ Dat K H d2 y ∧ Dat K H d3 z := by
  obtain ⟨x, _, rfl, hx, h⟩ := h
  obtain ⟨y, z, rfl, hy, hz⟩ := dats2 h
  exact ⟨x, y, z, rfl, hx, hy, hz⟩
theorem dats4 {d1 d2 d3 d4 : D} {vs : List V} (h : Dats K H [d1, d2, d3, d4] vs) : ∃ x y z u, vs = [x, y, z, u] ∧ Dat K H d1 x ∧ Dat K H d2 y ∧ Dat K H d3 z ∧ Dat K H d4 u := by
  obtain ⟨x, _, rfl, hx, h⟩ := h
  obtain ⟨y, z, u, rfl, hy, hz, hu⟩ := dats3 h
  exact ⟨x, y, z, u, rfl, hx, hy, hz, hu⟩
theorem dats5 {d1 d2 d3 d4 d5 : D} {vs : List V} (h : Dats K H [d1, d2, d3, d4, d5] vs) : ∃ x y z u w, vs = [x, y, z, u, w] ∧ Dat K H d1 x ∧ Dat K H d2 y ∧ Dat K H d3 z ∧ Dat K H d4 u ∧ Dat K H d5 w := by
  obtain ⟨x, _, rfl, hx, h⟩ := h
  obtain ⟨y, z, u, w, rfl, hy, hz, hu, hw⟩ := dats4 h
  exact ⟨x, y, z, u, w, rfl, hx, hy, hz, hu, hw⟩
/-- the top, the bottom of a fraction -/
theorem ed_top {q : Rat} (h : EvD K ta σ H (fr q)) : EvD K (tOp (rIxT K) ta (tC (.int 0))) σ H (.int q.num) := ed_ixT h ed_int rfl
theorem ed_bot {q : Rat} (h : EvD K ta σ H (fr q)) : EvD K (tOp (rIxT K) ta (tC (.int 1))) σ H (.int q.den) := ed_ixT h ed_int rfl
end
theorem mul_ok {x y : Int} {n : Nat} (h1 : x.natAbs < 2 ^ n) (h2 : y.natAbs < 2 ^ n) (hn : n ≤ LIM) : IntMulOk x y := mulOk_of h1 h2 (by unfold LIM at hn; omega)
theorem Sz.den' {n : Nat} {q : Rat} (h : Sz n q) : ((q.den : Nat) : Int).natAbs < 2 ^ n := h.2
section
variable {P : Program} {w : World} {K : PySem.W.Frag} {mg : Str → Option Value} {base : Heap}
abbrev preMade : List D → (D → Prop) → Prop := fun ds post => ∃ a b : Int, b ≠ 0 ∧ ds = [.int a, .int b] ∧ post = fun d => d = fr (Rat.divInt a b)
theorem ok_made (W : Wd P K mg base) (F : Df K mg "made" s_made) (G : C8.Cal P w K mg base 33 "divisor" (spP K 2 preDiv) []) : C8.Cal P w K mg base 34 "made" (spP K 2 preMade) [] := by
  refine cal_of F sc_made (fun _ _ _ _ _ _ us hl => match us, hl with | [_, _], _ => rfl) rfl fun f cdv A outer s H vs Q E ds post hr hp hd q => ?_
  obtain ⟨a, b, hb, rfl, rfl⟩ := hp
  obtain ⟨x, y, rfl, hx, hy⟩ := dats2 hd
  refine ⟨_, pss_cons (ps_set (i := 2) sc_made.nd rfl (.inl rfl) (C8.pe_c G hr (by decide) (by rfl) (pa_cons (pv 0) (pa_cons (pv 1) pa_nil))))
    (pss_cons (ps_if (pt_cmpR op_lt (pv 1) pe_int (nomark _)) (pss_one (ps_set (i := 2) sc_made.nd rfl (.inl rfl) (pe_un un_neg (pv 2)))) pss_nil)
    (pss_one (ps_ret (pe_tup (pa_cons (pe_op (op_fdivX W.seer W.tree (depth_of hr (by decide)) rfl rfl rfl) (pv 0) (pv 2)) (pa_cons (pe_op (op_fdivX W.seer W.tree (depth_of hr (by decide)) rfl rfl rfl) (pv 1) (pv 2)) pa_nil)))))), ?_⟩
  refine q_setD (ed_call (ea_cons (ed_var rfl hx) (ea_cons (ed_var rfl hy) ea_nil)) ⟨a, b, rfl, rfl⟩ rfl) (Same.refl _) fun v H1 s1 hv => ?_
  obtain ⟨m1, m2, m3⟩ := made_num (a := a) hb
  have fin : ∀ (v : V) (H2 : Hp), Same H H2 → Dat K H2 (.int (if b < 0 then -((Int.gcd a b : Nat) : Int) else ((Int.gcd a b : Nat) : Int))) v →
      tRet (tTup (tCons (tOp (rI (fun _ j => j ≠ 0) fun i j => .int (i.fdiv j)) (tVar 0) (tVar 2)) (tCons (tOp (rI (fun _ j => j ≠ 0) fun i j => .int (i.fdiv j)) (tVar 1) (tVar 2)) tNil))) { nx := fun _ H' => Q .non H', rt := Q } [some x, some y, some v] H2 := fun v H2 s2 hv => by
    refine q_retD (ed_tup (ea_cons (ed_fdiv (ed_var rfl (Dat.same s2 hx)) (ed_var rfl hv) m3) (ea_cons (ed_fdiv (ed_var rfl (Dat.same s2 hy)) (ed_var rfl hv) m3) ea_nil))) (Same.refl _) fun u H3 s3 hu => ?_
    rw [m1, m2] at hu
    exact q u H3 _ (s2.trans s3) rfl hu
  refine q_if (et_test (ed_lt (ed_var rfl (Dat.same s1 hy)) ed_int)) (Same.refl _) (fun e H2 s2 => ?_) (fun e H2 s2 => ?_)
  · refine q_set1 (ed_neg (ed_var rfl (Dat.same s2 hv))) (Same.refl _) fun u H3 s3 hu => ?_
    refine fin u H3 ((s1.trans s2).trans s3) ?_
    rw [if_pos (of_decide_eq_true e)]
    exact hu
  · refine fin v H2 (s1.trans s2) ?_
    rw [if_neg (of_decide_eq_false e)]
    exact Dat.same s2 hv
/-- two fractions of at most so many bits -/
abbrev preBin (g : Rat → Rat → Rat) (c : Rat → Prop) : List D → (D → Prop) → Prop := fun ds post => ∃ (x y : Rat) (n : Nat), Sz n x ∧ Sz n y ∧ n ≤ LIM ∧ c y ∧ ds = [fr x, fr y] ∧ post = fun d => d = fr (g x y)
abbrev spPlus (K : PySem.W.Frag) : Sp := spP K 2 (preBin (fun x y => x + y) fun _ => True)
abbrev spMinus (K : PySem.W.Frag) : Sp := spP K 2 (preBin (fun x y => x - y) fun _ => True)
abbrev spTimes (K : PySem.W.Frag) : Sp := spP K 2 (preBin (fun x y => x * y) fun _ => True)
abbrev spOver (K : PySem.W.Frag) : Sp := spP K 2 (preBin (fun x y => x / y) fun y => y ≠ 0)
theorem ok_plus (W : Wd P K mg base) (F : Df K mg "plus" s_plus) (G : C8.Cal P w K mg base 34 "made" (spP K 2 preMade) []) : C8.Cal P w K mg base 35 "plus" (spPlus K) [] := by
  refine cal_of F sc_plus (fun _ _ _ _ _ _ us hl => match us, hl with | [_, _], _ => rfl) rfl fun f cdv A outer s H vs Q E ds post hr hp hd q => ?_
  obtain ⟨x, y, n, sx, sy, hn, _, rfl, rfl⟩ := hp
  obtain ⟨u, v, rfl, hx, hy⟩ := dats2 hd
  refine ⟨_, pss_one (ps_ret (C8.pe_c G hr (by decide) (by rfl) (pa_cons (pe_op op_add (pe_op op_mulX (pe_ix ix_tup (pv 0) pe_int (fun _ _ => rfl)) (pe_ix ix_tup (pv 1) pe_int (fun _ _ => rfl))) (pe_op op_mulX (pe_ix ix_tup (pv 1) pe_int (fun _ _ => rfl)) (pe_ix ix_tup (pv 0) pe_int (fun _ _ => rfl))))
    (pa_cons (pe_op op_mulX (pe_ix ix_tup (pv 0) pe_int (fun _ _ => rfl)) (pe_ix ix_tup (pv 1) pe_int (fun _ _ => rfl))) pa_nil)))), ?_⟩
  have e0 := ed_var (i := 0) (σ := [some u, some v]) rfl hx
  have e1 := ed_var (i := 1) (σ := [some u, some v]) rfl hy
  refine q_retD (ed_call (ea_cons (ed_add (ed_mul (ed_top e0) (ed_bot e1) (mul_ok sx.1 sy.den' hn)) (ed_mul (ed_top e1) (ed_bot e0) (mul_ok sy.1 sx.den' hn))) (ea_cons (ed_mul (ed_bot e0) (ed_bot e1) (mul_ok sx.den' sy.den' hn)) ea_nil)) ⟨_, _, Int.mul_ne_zero (denI x) (denI y), rfl, rfl⟩ rfl) (Same.refl _) fun r H1 s1 hr1 => ?_
  rw [← add_eq_divInt] at hr1
  exact q r H1 _ s1 rfl hr1
theorem ok_minus (W : Wd P K mg base) (F : Df K mg "minus" s_minus) (G : C8.Cal P w K mg base 34 "made" (spP K 2 preMade) []) : C8.Cal P w K mg base 35 "minus" (spMinus K) [] := by
  refine cal_of F sc_minus (fun _ _ _ _ _ _ us hl => match us, hl with | [_, _], _ => rfl) rfl fun f cdv A outer s H vs Q E ds post hr hp hd q => ?_
  obtain ⟨x, y, n, sx, sy, hn, _, rfl, rfl⟩ := hp
  obtain ⟨u, v, rfl, hx, hy⟩ := dats2 hd
  refine ⟨_, pss_one (ps_ret (C8.pe_c G hr (by decide) (by rfl) (pa_cons (pe_op op_sub (pe_op op_mulX (pe_ix ix_tup (pv 0) pe_int (fun _ _ => rfl)) (pe_ix ix_tup (pv 1) pe_int (fun _ _ => rfl))) (pe_op op_mulX (pe_ix ix_tup (pv 1) pe_int (fun _ _ => rfl)) (pe_ix ix_tup (pv 0) pe_int (fun _ _ => rfl))))
    (pa_cons (pe_op op_mulX (pe_ix ix_tup (pv 0) pe_int (fun _ _ => rfl)) (pe_ix ix_tup (pv 1) pe_int (fun _ _ => rfl))) pa_nil)))), ?_⟩
  have e0 := ed_var (i := 0) (σ := [some u, some v]) rfl hx
  have e1 := ed_var (i := 1) (σ := [some u, some v]) rfl hy
  refine q_retD (ed_call (ea_cons (ed_sub (ed_mul (ed_top e0) (ed_bot e1) (mul_ok sx.1 sy.den' hn)) (ed_mul (ed_top e1) (ed_bot e0) (mul_ok sy.1 sx.den' hn))) (ea_cons (ed_mul (ed_bot e0) (ed_bot e1) (mul_ok sx.den' sy.den' hn)) ea_nil)) ⟨_, _, Int.mul_ne_zero (denI x) (denI y), rfl, rfl⟩ rfl) (Same.refl _) fun r H1 s1 hr1 => ?_
  rw [← sub_eq_divInt] at hr1
  exact q r H1 _ s1 rfl hr1
theorem ok_times (W : Wd P K mg base) (F : Df K mg "times" s_times) (G : C8.Cal P w K mg base 34 "made" (spP K 2 preMade) []) : C8.Cal P w K mg base 35 "times" (spTimes K) [] := by
  refine cal_of F sc_times (fun _ _ _ _ _ _ us hl => match us, hl with | [_, _], _ => rfl) rfl fun f cdv A outer s H vs Q E ds post hr hp hd q => ?_
  obtain ⟨x, y, n, sx, sy, hn, _, rfl, rfl⟩ := hp
  obtain ⟨u, v, rfl, hx, hy⟩ := dats2 hd
  refine ⟨_, pss_one (ps_ret (C8.pe_c G hr (by decide) (by rfl) (pa_cons (pe_op op_mulX (pe_ix ix_tup (pv 0) pe_int (fun _ _ => rfl)) (pe_ix ix_tup (pv 1) pe_int (fun _ _ => rfl)))
    (pa_cons (pe_op op_mulX (pe_ix ix_tup (pv 0) pe_int (fun _ _ => rfl)) (pe_ix ix_tup (pv 1) pe_int (fun _ _ => rfl))) pa_nil)))), ?_⟩
  have e0 := ed_var (i := 0) (σ := [some u, some v]) rfl hx
  have e1 := ed_var (i := 1) (σ := [some u, some v]) rfl hy
  refine q_retD (ed_call (ea_cons (ed_mul (ed_top e0) (ed_top e1) (mul_ok sx.1 sy.1 hn)) (ea_cons (ed_mul (ed_bot e0) (ed_bot e1) (mul_ok sx.den' sy.den' hn)) ea_nil)) ⟨_, _, Int.mul_ne_zero (denI x) (denI y), rfl, rfl⟩ rfl) (Same.refl _) fun r H1 s1 hr1 => ?_
  rw [← mul_eq_divInt] at hr1
  exact q r H1 _ s1 rfl hr1
theorem ok_over (W : Wd P K mg base) (F : Df K mg "over" s_over) (G : C8.Cal P w K mg base 34 "made" (spP K 2 preMade) []) : C8.Cal P w K mg base 35 "over" (spOver K) [] := by
  refine cal_of F sc_over (fun _ _ _ _ _ _ us hl => match us, hl with | [_, _], _ => rfl) rfl fun f cdv A outer s H vs Q E ds post hr hp hd q => ?_
  obtain ⟨x, y, n, sx, sy, hn, hy0, rfl, rfl⟩ := hp
  obtain ⟨u, v, rfl, hx, hy⟩ := dats2 hd
  refine ⟨_, pss_one (ps_ret (C8.pe_c G hr (by decide) (by rfl) (pa_cons (pe_op op_mulX (pe_ix ix_tup (pv 0) pe_int (fun _ _ => rfl)) (pe_ix ix_tup (pv 1) pe_int (fun _ _ => rfl)))
    (pa_cons (pe_op op_mulX (pe_ix ix_tup (pv 0) pe_int (fun _ _ => rfl)) (pe_ix ix_tup (pv 1) pe_int (fun _ _ => rfl))) pa_nil)))), ?_⟩
  have e0 := ed_var (i := 0) (σ := [some u, some v]) rfl hx
  have e1 := ed_var (i := 1) (σ := [some u, some v]) rfl hy
  refine q_retD (ed_call (ea_cons (ed_mul (ed_top e0) (ed_bot e1) (mul_ok sx.1 sy.den' hn)) (ea_cons (ed_mul (ed_bot e0) (ed_top e1) (mul_ok sx.den' sy.1 hn)) ea_nil)) ⟨_, _, Int.mul_ne_zero (denI x) (num_ne hy0), rfl, rfl⟩ rfl) (Same.refl _) fun r H1 s1 hr1 => ?_
  rw [← div_eq_divInt] at hr1
  exact q r H1 _ s1 rfl hr1
abbrev spLess (K : PySem.W.Frag) : Sp := spP K 2 fun ds post => ∃ (x y : Rat) (n : Nat), Sz n x ∧ Sz n y ∧ n ≤ LIM ∧ ds = [fr x, fr y] ∧ post = fun d => d = .bl (decide (x < y))
theorem ok_is_less (W : Wd P K mg base) (F : Df K mg "is_less" s_is_less) : C8.Cal P w K mg base 35 "is_less" (spLess K) [] := by
  refine cal_of F sc_is_less (fun _ _ _ _ _ _ us hl => match us, hl with | [_, _], _ => rfl) rfl fun f cdv A outer s H vs Q E ds post hr hp hd q => ?_
  obtain ⟨x, y, n, sx, sy, hn, rfl, rfl⟩ := hp
  obtain ⟨u, v, rfl, hx, hy⟩ := dats2 hd
  refine ⟨_, pss_one (ps_ret (pe_cmpR op_lt (pe_op op_mulX (pe_ix ix_tup (pv 0) pe_int (fun _ _ => rfl)) (pe_ix ix_tup (pv 1) pe_int (fun _ _ => rfl))) (pe_op op_mulX (pe_ix ix_tup (pv 1) pe_int (fun _ _ => rfl)) (pe_ix ix_tup (pv 0) pe_int (fun _ _ => rfl))) (nomark _))), ?_⟩
  have e0 := ed_var (i := 0) (σ := [some u, some v]) rfl hx
  have e1 := ed_var (i := 1) (σ := [some u, some v]) rfl hy
  refine q_retD (ed_lt (ed_mul (ed_top e0) (ed_bot e1) (mul_ok sx.1 sy.den' hn)) (ed_mul (ed_top e1) (ed_bot e0) (mul_ok sy.1 sx.den' hn))) (Same.refl _) fun r H1 s1 hr1 => ?_
  refine q r H1 _ s1 rfl ?_
  rw [show decide (x < y) = decide (x.num * (y.den : Int) < y.num * (x.den : Int)) from decide_eq_decide.mpr (Rat.lt_iff x y)]
  exact hr1
/-- a call of is_less -/
theorem ed_less {σ : L2.St} {H : Hp} {ta tb : TE} {x y : Rat} {n : Nat} {E : XK} (ha : EvD K ta σ H (fr x)) (hb : EvD K tb σ H (fr y)) (sx : Sz n x) (sy : Sz n y) (hn : n ≤ LIM) : EvD K (tCall (spLess K) [] E (tCons ta (tCons tb tNil))) σ H (.bl (decide (x < y))) :=
  ed_call (ea_cons ha (ea_cons hb ea_nil)) ⟨x, y, n, sx, sy, hn, rfl, rfl⟩ rfl
theorem ed_bin {g : Rat → Rat → Rat} {c : Rat → Prop} {σ : L2.St} {H : Hp} {ta tb : TE} {x y : Rat} {n : Nat} {E : XK} (ha : EvD K ta σ H (fr x)) (hb : EvD K tb σ H (fr y)) (sx : Sz n x) (sy : Sz n y) (hn : n ≤ LIM) (hc : c y) : EvD K (tCall (spP K 2 (preBin g c)) [] E (tCons ta (tCons tb tNil))) σ H (fr (g x y)) :=
  ed_call (ea_cons ha (ea_cons hb ea_nil)) ⟨x, y, n, sx, sy, hn, hc, rfl, rfl⟩ rfl
end
end Cb
set_option Elab.async false
set_option linter.all false
set_option maxRecDepth 100000
set_option maxHeartbeats 4000000
/-! the walk's frame: loops and comprehensions over data -/
namespace Cb
open PySem PySem.Spec PyProof.Rows L2
section
variable {K : PySem.W.Frag} {σ : L2.St} {H H' : Hp} {te ta tb : TE} {d : D} {v : V}
/-- exactly this value, nothing new -/
def EvV (te : TE) (σ : L2.St) (H : Hp) (v : V) : Prop := ∀ H0, Same H H0 → ∀ Q : VK, Q v H0 → te σ H0 Q
theorem vv_var {i : Nat} (e : σ[i]? = some (some v)) : EvV (tVar i) σ H v := fun H0 s Q q => ⟨v, e, q⟩
theorem vv_c : EvV (tC v) σ H v := fun H0 s Q q => q
theorem EvV.dd (h : EvV te σ H v) (hd : Dat K H d v) : EvD K te σ H d := EvD.mk fun H0 s Q q => h H0 s _ (q v H0 (Same.refl _) (Dat.same s hd))
theorem vv_ixT {ds : List D} {i : Int} (h : EvV ta σ H v) (hd : Dat K H (.tup ds) v) (hb : EvV tb σ H (.int i)) (hi : atI ds i = some d) : ∃ u, Dat K H d u ∧ EvV (tOp (rIxT K) ta tb) σ H u := by
  obtain ⟨a, xs, rfl, sq, hx⟩ := hd
  obtain ⟨u, hu, hud⟩ := hx.atI hi
  refine ⟨u, hud, fun H0 s Q q => h H0 s _ (hb H0 s _ ⟨a, xs, i, u, rfl, rfl, ?_, hu, q⟩)⟩
  rcases sq with sq | sq
  · exact .inl (Same.tk s a xs sq)
  · exact .inr sq
/-! ### what is walked -/
/-- J walks the data ds wherever Hb stands -/
def Walks (K : PySem.W.Frag) (J : It) (Hb : Hp) (ds : List D) : Prop := ∀ H2, Same Hb H2 → (∀ i d, ds[i]? = some d → J.go i H2 ∧ ∀ x H', J.yld i H2 x H' → Same H2 H' ∧ Dat K H' d x) ∧ J.stop ds.length H2
def EvI (K : PySem.W.Frag) (wi : TI) (σ : L2.St) (H : Hp) (ds : List D) : Prop := ∀ H0, Same H H0 → ∀ R : It → Hp → Prop,
  (∀ J H1 Hb, Same H0 H1 → Same H Hb → Same Hb H1 → (∀ p, H0 p ≠ none → H p = none → Hb p = none) → Walks K J Hb ds → R J H1) → wi σ H0 R
theorem sqT_same {a : Addr} {xs : List V} (s : Same H H') (h : SqT K H a xs) : SqT K H' a xs := by
  rcases h with h | h
  · exact .inl (Same.tk s a xs h)
  · exact .inr h
theorem walks_list {a : Addr} {xs : List V} {ds : List D} (h : SqL K H a xs) (hd : Dats K H ds xs) : Walks K (Itl K a) H ds := fun H2 s => by
  have h2 := s.seq h
  have d2 := Dats.same s hd
  refine ⟨fun i d hi => ?_, xs, h2, Nat.le_of_eq d2.length.symm⟩
  obtain ⟨x, hx, hxd⟩ := d2.get hi
  refine ⟨⟨xs, x, h2, hx⟩, fun y H' hy => ?_⟩
  obtain ⟨rfl, hy⟩ := hy
  have e := hy xs h2
  rw [hx] at e
  cases e
  exact ⟨Same.refl _, hxd⟩
theorem walks_tup {a : Addr} {xs : List V} {ds : List D} (h : SqT K H a xs) (hd : Dats K H ds xs) : Walks K (Itt K a) H ds := fun H2 s => by
  have h2 := sqT_same s h
  have d2 := Dats.same s hd
  refine ⟨fun i d hi => ?_, xs, h2, Nat.le_of_eq d2.length.symm⟩
  obtain ⟨x, hx, hxd⟩ := d2.get hi
  refine ⟨⟨xs, x, h2, hx⟩, fun y H' hy => ?_⟩
  obtain ⟨rfl, hy⟩ := hy
  have e := hy xs h2
  rw [hx] at e
  cases e
  exact ⟨Same.refl _, hxd⟩
def rangeD (lo : Int) (n : Nat) : List D := (List.range n).map fun (i : Nat) => D.int (lo + (i : Int))
theorem rangeD_len (lo : Int) (n : Nat) : (rangeD lo n).length = n := by unfold rangeD; simp
theorem rangeD_get {lo : Int} {n i : Nat} {d : D} (h : (rangeD lo n)[i]? = some d) : i < n ∧ d = .int (lo + (i : Int)) := by
  unfold rangeD at h
  rw [List.getElem?_map, Option.map_eq_some_iff] at h
  obtain ⟨j, hj, e⟩ := h
  rw [List.getElem?_eq_some_iff] at hj
  obtain ⟨hi, e2⟩ := hj
  rw [List.getElem_range] at e2
  rw [List.length_range] at hi
  exact ⟨hi, by rw [← e, e2]⟩
theorem walks_range {lo : Int} {n : Nat} : Walks K (Itr lo n) H (rangeD lo n) := fun H2 s => by
  refine ⟨fun i d hi => ?_, by show n ≤ _; rw [rangeD_len]; exact Nat.le_refl _⟩
  obtain ⟨h1, h2⟩ := rangeD_get hi
  refine ⟨h1, fun x H' hy => ?_⟩
  obtain ⟨rfl, rfl⟩ := hy
  exact ⟨Same.refl _, by rw [h2]; rfl⟩
theorem ei_list {ds : List D} (h : EvV te σ H v) (hd : Dat K H (.lst ds) v) : EvI K (iList K te) σ H ds := fun H0 s R r => by
  obtain ⟨a, xs, rfl, sq, hx⟩ := hd
  exact h H0 s _ ⟨a, rfl, ⟨xs, s.seq sq⟩, r _ H0 H (Same.refl _) (Same.refl _) s (fun p _ h => h) (walks_list sq hx)⟩
theorem ei_tup {ds : List D} (h : EvV te σ H v) (hd : Dat K H (.tup ds) v) : EvI K (iTup K te) σ H ds := fun H0 s R r => by
  obtain ⟨a, xs, rfl, sq, hx⟩ := hd
  exact h H0 s _ ⟨a, rfl, ⟨xs, sqT_same s sq⟩, r _ H0 H (Same.refl _) (Same.refl _) s (fun p _ h => h) (walks_tup sq hx)⟩
theorem ei_range1 {n : Nat} (h : EvV te σ H (.int n)) (hn : n ≤ 1000000) : EvI K (iRng1 (tCons te tNil)) σ H (rangeD 0 n) := fun H0 s R r =>
  h H0 s _ ⟨n, rfl, by omega, by omega, r _ H0 H (Same.refl _) (Same.refl _) s (fun p _ h => h) walks_range⟩
theorem ei_range2 {lo : Int} {n : Nat} (h : EvV te σ H (.int lo)) (h2 : EvV ta σ H (.int (lo + n))) (hl : 0 ≤ lo) (hl2 : lo ≤ 1000000) (hn : n ≤ 1000000) : EvI K (iRng2 (tCons te (tCons ta tNil))) σ H (rangeD lo n) := fun H0 s R r =>
  h H0 s _ (h2 H0 s _ ⟨lo, lo + n, rfl, by omega, (by
    rw [show (lo + (n : Int) - lo).toNat = n by omega]
    exact r _ H0 H (Same.refl _) (Same.refl _) s (fun p _ h => h) walks_range)⟩)
theorem same_upd2 {H0 : Hp} {p : Addr} {o : HO} (s : Same H H0) : Same (upd H p o) (upd H0 p o) := fun b x e => by
  by_cases hb : b = p
  · subst hb; rw [upd_same] at e ⊢; exact e
  · rw [upd_ne hb] at e ⊢; exact s b x e
theorem cutV_from (xs : List V) (k : Nat) : cutV xs (some (k : Int)) none = xs.drop k := by
  unfold cutV
  rw [show HT.sIx xs.length 0 (some (k : Int)) = min k xs.length from HT.sIx_nat xs.length 0 k, HT.sIx_none]
  rcases Nat.le_total k xs.length with h | h
  · rw [Nat.min_eq_left h, List.take_of_length_le (by rw [List.length_drop]; exact Nat.le_refl _)]
  · rw [Nat.min_eq_right h, List.drop_length, List.drop_of_length_le h, List.take_nil]
theorem cutV_to (xs : List V) (k : Nat) : cutV xs none (some (k : Int)) = xs.take k := by
  unfold cutV
  rw [show HT.sIx xs.length xs.length (some (k : Int)) = min k xs.length from HT.sIx_nat xs.length xs.length k, HT.sIx_none]
  show (xs.drop 0).take (min k xs.length - 0) = _
  rw [List.drop_zero, Nat.sub_zero]
  rcases Nat.le_total k xs.length with h | h
  · rw [Nat.min_eq_left h]
  · rw [Nat.min_eq_right h, List.take_of_length_le (Nat.le_refl _), List.take_of_length_le h]
/-- a new list from one that stands: xs[k:], xs[:k] -/
theorem ei_cut {ds es : List D} {lo hi : Option Int} {tl th : TO} (h : EvV te σ H v) (hd : Dat K H (.lst ds) v) (hl : ∀ H0 Q, Q lo H0 → tl σ H0 Q) (hh : ∀ H0 Q, Q hi H0 → th σ H0 Q) (he : ∀ xs, Dats K H ds xs → Dats K H es (cutV xs lo hi)) :
    EvI K (iList K (tSl (rSlL K) te tl th)) σ H es := fun H0 s R r => by
  obtain ⟨a, xs, rfl, sq, hx⟩ := hd
  refine h H0 s _ (hl _ _ (hh _ _ ⟨a, xs, rfl, s.seq sq, fun p hp => ?_⟩))
  have hp0 : H p = none := s.free hp
  refine ⟨p, rfl, ⟨_, SqL.of upd_same⟩, r _ _ (upd H p (.lst (cutV xs lo hi))) (same_upd hp) (same_upd hp0) (same_upd2 s) (fun p' h1 h2 => ?_) (walks_list (SqL.of upd_same) (Dats.same (same_upd hp0) (he xs hx)))⟩
  rw [upd_ne (fun e => h1 (by rw [e]; exact hp))]
  exact h2
theorem ei_from {ds : List D} {k : Nat} (h : EvV te σ H v) (hd : Dat K H (.lst ds) v) : EvI K (iList K (tSl (rSlL K) te (tPart (tC (.int k))) tNoPart)) σ H (ds.drop k) :=
  ei_cut (lo := some (k : Int)) (hi := none) h hd (fun H0 Q q => ⟨k, rfl, q⟩) (fun H0 Q q => q) fun xs hx => by rw [cutV_from]; exact hx.drop k
theorem ei_to {ds : List D} {k : Nat} (h : EvV te σ H v) (hd : Dat K H (.lst ds) v) (hk : EvV ta σ H (.int k)) : EvI K (iList K (tSl (rSlL K) te tNoPart (tPart ta))) σ H (ds.take k) := fun H0 s R r => by
  obtain ⟨a, xs, rfl, sq, hx⟩ := hd
  refine h H0 s _ (hk H0 s _ ⟨k, rfl, a, xs, rfl, s.seq sq, fun p hp => ?_⟩)
  have hp0 : H p = none := s.free hp
  rw [cutV_to]
  refine ⟨p, rfl, ⟨_, SqL.of upd_same⟩, r _ _ (upd H p (.lst (xs.take k))) (same_upd hp) (same_upd hp0) (same_upd2 s) (fun p' h1 h2 => ?_) (walks_list (SqL.of upd_same) (Dats.same (same_upd hp0) (hx.take k)))⟩
  rw [upd_ne (fun e => h1 (by rw [e]; exact hp))]
  exact h2
/-! ### for -/
theorem for_data {J : It} {Hb : Hp} {ds : List D} {g : TG} {tb : TS} {D' : Ends} {σ : L2.St} {H : Hp} (hW : Walks K J Hb ds) (Pv : Nat → L2.St → Hp → Prop) (h0 : Pv 0 σ H) (hk : ∀ i σ H, Pv i σ H → Same Hb H)
    (hs : ∀ i d x σ H H', ds[i]? = some d → Pv i σ H → Same H H' → Dat K H' d x → g x σ H' fun σ2 H2 => tb { D' with nx := Pv (i + 1), ct := Pv (i + 1), bk := D'.nx } σ2 H2) (hd : ∀ σ H, Pv ds.length σ H → D'.nx σ H) :
    ∃ W : Nat → Nat → L2.St → Hp → Prop, (∃ m, W 0 m σ H) ∧ ∀ i m σ H, W i m σ H →
      (J.stop i H ∧ D'.nx σ H) ∨ (J.go i H ∧ ∃ N : L2.St → Hp → Prop, (∀ σ' H', N σ' H' → ∃ m', m' < m ∧ W (i + 1) m' σ' H') ∧ ∀ x H', J.yld i H x H' → g x σ H' fun σ2 H2 => tb { D' with nx := N, ct := N, bk := D'.nx } σ2 H2) := by
  refine ⟨fun i m σ H => m = ds.length - i ∧ i ≤ ds.length ∧ Pv i σ H, ⟨ds.length, by simp, Nat.zero_le _, h0⟩, ?_⟩
  rintro i m σ H ⟨rfl, hi, p⟩
  obtain ⟨hgo, hst⟩ := hW H (hk i σ H p)
  by_cases hlt : i < ds.length
  · obtain ⟨g1, g2⟩ := hgo i _ (List.getElem?_eq_getElem hlt)
    refine .inr ⟨g1, Pv (i + 1), fun σ' H' p' => ⟨ds.length - (i + 1), by omega, rfl, hlt, p'⟩, fun x H' y => ?_⟩
    obtain ⟨s1, s2⟩ := g2 x H' y
    exact hs i _ x σ H H' (List.getElem?_eq_getElem hlt) p s1 s2
  · have e : i = ds.length := by omega
    subst e
    exact .inl ⟨hst, hd σ H p⟩
/-- a whole for statement and what follows it -/
theorem q_for {wi : TI} {g : TG} {tb u : TS} {D' : Ends} {H0 : Hp} {ds : List D} (h : EvI K wi σ H ds) (s : Same H H0) (Pv : Nat → L2.St → Hp → Prop)
    (k : ∀ Hb H1, Same H Hb → Same H0 H1 → (∀ p, H0 p ≠ none → H p = none → Hb p = none) → Same Hb H1 → Pv 0 σ H1 ∧ (∀ i σ H, Pv i σ H → Same Hb H) ∧
      (∀ i d x σ H H', ds[i]? = some d → Pv i σ H → Same H H' → Dat K H' d x → g x σ H' fun σ2 H2 => tb { D' with nx := Pv (i + 1), ct := Pv (i + 1), bk := u D' } σ2 H2) ∧ ∀ σ H, Pv ds.length σ H → u D' σ H) :
    tSeq (tFor wi g tb) u D' σ H0 := h H0 s _ fun J H1 Hb s1 sb sb1 hp hW => by
  obtain ⟨k1, k2, k3, k4⟩ := k Hb H1 sb s1 hp sb1
  exact for_data (D' := { D' with nx := u D' }) hW Pv k1 k2 k3 k4
/-- .. where the invariant is told once Hb is known -/
theorem q_forB {wi : TI} {g : TG} {tb u : TS} {D' : Ends} {H0 : Hp} {ds : List D} (h : EvI K wi σ H ds) (s : Same H H0)
    (k : ∀ Hb H1, Same H Hb → Same H0 H1 → (∀ p, H0 p ≠ none → H p = none → Hb p = none) → Same Hb H1 → ∃ Pv : Nat → L2.St → Hp → Prop, Pv 0 σ H1 ∧ (∀ i σ H, Pv i σ H → Same Hb H) ∧
      (∀ i d x σ H H', ds[i]? = some d → Pv i σ H → Same H H' → Dat K H' d x → g x σ H' fun σ2 H2 => tb { D' with nx := Pv (i + 1), ct := Pv (i + 1), bk := u D' } σ2 H2) ∧ ∀ σ H, Pv ds.length σ H → u D' σ H) :
    tSeq (tFor wi g tb) u D' σ H0 := h H0 s _ fun J H1 Hb s1 sb sb1 hp hW => by
  obtain ⟨Pv, k1, k2, k3, k4⟩ := k Hb H1 sb s1 hp sb1
  exact for_data (D' := { D' with nx := u D' }) hW Pv k1 k2 k3 k4
/-- a while by an invariant and a measure -/
theorem while_ev {c : TT} {tb : TS} {D' : Ends} {σ : L2.St} {H : Hp} (Pv : L2.St → Hp → Prop) (μ : L2.St → Hp → Nat) (h0 : Pv σ H)
    (hs : ∀ σ H, Pv σ H → ∃ b, EvT c σ H b ∧ (b = true → ∀ H1, Same H H1 → tb { D' with nx := fun σ' H' => Pv σ' H' ∧ μ σ' H' < μ σ H, ct := fun σ' H' => Pv σ' H' ∧ μ σ' H' < μ σ H, bk := D'.nx } σ H1) ∧ (b = false → ∀ H1, Same H H1 → D'.nx σ H1)) : tWhile c tb D' σ H := by
  refine ⟨fun m σ H => m = μ σ H ∧ Pv σ H, ⟨_, rfl, h0⟩, ?_⟩
  rintro m σ H ⟨rfl, p⟩
  obtain ⟨b, h1, h2, h3⟩ := hs σ H p
  refine h1 H (Same.refl _) _ fun H1 s1 => ?_
  cases b with
  | true => exact iteT ⟨_, fun σ' H' ⟨p', l⟩ => ⟨_, l, rfl, p'⟩, h2 rfl H1 s1⟩
  | false => exact iteF (h3 rfl H1 s1)
/-! ### targets -/
theorem g_tup2 {i j : Nat} {d e : D} {x : V} {σ : L2.St} {H : Hp} {Q : L2.St → Hp → Prop} (h : Dat K H (.tup [d, e]) x) (q : ∀ u v, Dat K H d u → Dat K H e v → Q ((σ.set i (some u)).set j (some v)) H) :
    gTup K 2 (gCons (gName i) (gCons (gName j) gNil)) x σ H Q := by
  obtain ⟨a, xs, rfl, sq, hx⟩ := h
  obtain ⟨u, v, rfl, hu, hv⟩ := dats2 hx
  exact ⟨a, [u, v], rfl, sq, rfl, u, [v], rfl, v, [], rfl, rfl, q u v hu hv⟩
/-! ### list comprehensions -/
/-- over data, the target one name in slot j -/
theorem ed_lc {wi : TI} {tt : TT} {vs : List Nat} {j : Nat} {ds outs : List D} {p : D → Bool} {F : D → D} (h : EvI K wi σ H ds) (hj : ∀ x, wipe ((wipe σ vs).set j (some x)) vs = wipe σ vs) (hn : ∀ d ∈ ds, nl (F d) = true) (hz : ds.length ≤ 1000000)
    (he : ∀ d x H1, d ∈ ds → Same H H1 → Dat K H1 d x → EvT tt ((wipe σ vs).set j (some x)) H1 (p d) ∧ (p d = true → EvD K te ((wipe σ vs).set j (some x)) H1 (F d))) (ho : outs = (ds.filter p).map F) :
    EvD K (tLc wi (gName j) tt te vs) σ H (.lst outs) := EvD.mk fun H0 s Q q =>
  h H0 s _ fun J H1 Hb s1 sb sb1 hp hW => fun D hD => by
    have hD0 : H D = none := (s.trans s1).free hD
    have hDb : Hb D = none := sb1.free hD
    subst ho
    -- the invariant: what is made so far
    refine ⟨fun i m H2 => m = ds.length - i ∧ i ≤ ds.length ∧ Same H1 H2 ∧ ∃ acc, H2 D = some (.lst acc) ∧ Dats K H2 (((ds.take i).filter p).map F) acc, ⟨ds.length, by simp, Nat.zero_le _, same_upd hD, [], upd_same, by simpa using Dats.nil⟩, ?_⟩
    rintro i m H2 ⟨rfl, hi, s2, acc, ha, hacc⟩
    obtain ⟨hgo, hst⟩ := hW H2 (sb1.trans s2)
    by_cases hlt : i < ds.length
    · have hd := List.getElem?_eq_getElem hlt
      obtain ⟨g1, g2⟩ := hgo i _ hd
      refine .inr ⟨g1, _, fun H' w => ⟨ds.length - (i + 1), by omega, rfl, hlt, w⟩, fun x H' y => ?_⟩
      obtain ⟨y1, y2⟩ := g2 x H' y
      have sH : Same H H' := ((s.trans s1).trans s2).trans y1
      obtain ⟨t1, t2⟩ := he _ x H' (List.getElem_mem hlt) sH y2
      refine ⟨hj x, t1 H' (Same.refl _) _ fun H3 s3 => ?_⟩
      have etk : ds.take (i + 1) = ds.take i ++ [ds[i]] := by rw [List.take_succ, hd]; rfl
      have ha3 : H3 D = some (.lst acc) := s3 _ _ (y1 _ _ ha)
      have hacc3 := Dats.same (y1.trans s3) hacc
      cases hb : p ds[i] with
      | true =>
        refine iteT (EvD.use (EvP.mono s3 (t2 hb)) (Same.refl _) fun u H4 s4 hu => ⟨acc, s4 _ _ ha3, ?_, ?_, acc ++ [u], upd_same, ?_⟩)
        · rw [← hacc.length, List.length_map]
          refine small1M ?_
          have := List.length_filter_le p (ds.take i)
          rw [List.length_take] at this
          omega
        · intro b o e
          rw [upd_ne (ne_of_none e hD)]
          exact s4 _ _ (s3 _ _ (y1 _ _ (s2 _ _ e)))
        · have tk := tk_upd (o := HO.lst (acc ++ [u])) (s4 _ _ ha3)
          rw [etk, List.filter_append, List.map_append]
          have e1 : [ds[i]].filter p = [ds[i]] := by simp [hb]
          rw [e1]
          refine Dats.snoc (Dats.tk tk (nls_all fun z hz => ?_) (Dats.same s4 hacc3)) (Dat.tk tk (hn _ (List.getElem_mem hlt)) hu)
          obtain ⟨c, hc, rfl⟩ := List.mem_map.mp hz
          exact hn c (List.mem_of_mem_take (List.mem_filter.mp hc).1)
      | false =>
        refine iteF ⟨(s2.trans y1).trans s3, acc, ha3, ?_⟩
        rw [etk, List.filter_append, List.map_append]
        have e1 : [ds[i]].filter p = [] := by simp [hb]
        rw [e1]
        simpa using hacc3
    · have e : i = ds.length := by omega
      subst e
      refine .inl ⟨hst, q _ H2 (s1.trans s2) ⟨D, acc, rfl, SqL.of ha, ?_⟩⟩
      rw [List.take_length] at hacc
      exact hacc
/-- .. the target a pair -/
theorem ed_lc2 {wi : TI} {tt : TT} {vs : List Nat} {j k : Nat} {ds outs : List D} {p : D → Bool} {F : D → D} (h : EvI K wi σ H ds) (hj : ∀ x y, wipe (((wipe σ vs).set j (some x)).set k (some y)) vs = wipe σ vs) (hn : ∀ d ∈ ds, nl (F d) = true) (hz : ds.length ≤ 1000000)
    (he : ∀ d H1, d ∈ ds → Same H H1 → ∃ a b, d = .tup [a, b] ∧ ∀ x y, Dat K H1 a x → Dat K H1 b y → EvT tt (((wipe σ vs).set j (some x)).set k (some y)) H1 (p d) ∧ (p d = true → EvD K te (((wipe σ vs).set j (some x)).set k (some y)) H1 (F d))) (ho : outs = (ds.filter p).map F) :
    EvD K (tLc wi (gTup K 2 (gCons (gName j) (gCons (gName k) gNil))) tt te vs) σ H (.lst outs) := EvD.mk fun H0 s Q q =>
  h H0 s _ fun J H1 Hb s1 sb sb1 hp hW => fun D hD => by
    subst ho
    refine ⟨fun i m H2 => m = ds.length - i ∧ i ≤ ds.length ∧ Same H1 H2 ∧ ∃ acc, H2 D = some (.lst acc) ∧ Dats K H2 (((ds.take i).filter p).map F) acc, ⟨ds.length, by simp, Nat.zero_le _, same_upd hD, [], upd_same, by simpa using Dats.nil⟩, ?_⟩
    rintro i m H2 ⟨rfl, hi, s2, acc, ha, hacc⟩
    obtain ⟨hgo, hst⟩ := hW H2 (sb1.trans s2)
    by_cases hlt : i < ds.length
    · have hd := List.getElem?_eq_getElem hlt
      obtain ⟨g1, g2⟩ := hgo i _ hd
      refine .inr ⟨g1, _, fun H' w => ⟨ds.length - (i + 1), by omega, rfl, hlt, w⟩, fun x H' y => ?_⟩
      obtain ⟨y1, y2⟩ := g2 x H' y
      have sH : Same H H' := ((s.trans s1).trans s2).trans y1
      obtain ⟨a, b, ed, t12⟩ := he _ H' (List.getElem_mem hlt) sH
      rw [ed] at y2
      refine g_tup2 y2 fun u v hu hv => ?_
      obtain ⟨t1, t2⟩ := t12 u v hu hv
      refine ⟨hj u v, t1 H' (Same.refl _) _ fun H3 s3 => ?_⟩
      have etk : ds.take (i + 1) = ds.take i ++ [ds[i]] := by rw [List.take_succ, hd]; rfl
      have ha3 : H3 D = some (.lst acc) := s3 _ _ (y1 _ _ ha)
      have hacc3 := Dats.same (y1.trans s3) hacc
      cases hb : p ds[i] with
      | true =>
        refine iteT (EvD.use (EvP.mono s3 (t2 hb)) (Same.refl _) fun u H4 s4 hu => ⟨acc, s4 _ _ ha3, ?_, ?_, acc ++ [u], upd_same, ?_⟩)
        · rw [← hacc.length, List.length_map]
          refine small1M ?_
          have := List.length_filter_le p (ds.take i)
          rw [List.length_take] at this
          omega
        · intro b o e
          rw [upd_ne (ne_of_none e hD)]
          exact s4 _ _ (s3 _ _ (y1 _ _ (s2 _ _ e)))
        · have tk := tk_upd (o := HO.lst (acc ++ [u])) (s4 _ _ ha3)
          rw [etk, List.filter_append, List.map_append]
          have e1 : [ds[i]].filter p = [ds[i]] := by simp [hb]
          rw [e1]
          refine Dats.snoc (Dats.tk tk (nls_all fun z hz => ?_) (Dats.same s4 hacc3)) (Dat.tk tk (hn _ (List.getElem_mem hlt)) hu)
          obtain ⟨c, hc, rfl⟩ := List.mem_map.mp hz
          exact hn c (List.mem_of_mem_take (List.mem_filter.mp hc).1)
      | false =>
        refine iteF ⟨(s2.trans y1).trans s3, acc, ha3, ?_⟩
        rw [etk, List.filter_append, List.map_append]
        have e1 : [ds[i]].filter p = [] := by simp [hb]
        rw [e1]
        simpa using hacc3
    · have e : i = ds.length := by omega
      subst e
      refine .inl ⟨hst, q _ H2 (s1.trans s2) ⟨D, acc, rfl, SqL.of ha, ?_⟩⟩
      rw [List.take_length] at hacc
      exact hacc
theorem et_yes : EvT tYes σ H true := fun H0 s Q q => q H0 (Same.refl _)
/-! ### more calls on data -/
theorem ed_lenL {ds : List D} (h : EvD K te σ H (.lst ds)) : EvD K (tCB (fun xs H Q => ∃ p ys, xs = [.ref p] ∧ (SqL K H p ys ∨ SqT K H p ys) ∧ Q (.int ys.length) H) (tCons te tNil)) σ H (.int ds.length) := EvD.mk fun H0 s Q q =>
  h.use s fun x H1 s1 ⟨a, xs, e, sq, hx⟩ => ⟨a, xs, by rw [e], .inl sq, q _ H1 s1 (by rw [hx.length]; rfl)⟩
theorem ed_lenT {ds : List D} (h : EvD K te σ H (.tup ds)) : EvD K (tCB (fun xs H Q => ∃ p ys, xs = [.ref p] ∧ (SqL K H p ys ∨ SqT K H p ys) ∧ Q (.int ys.length) H) (tCons te tNil)) σ H (.int ds.length) := EvD.mk fun H0 s Q q =>
  h.use s fun x H1 s1 ⟨a, xs, e, sq, hx⟩ => ⟨a, xs, by rw [e], .inr sq, q _ H1 s1 (by rw [hx.length]; rfl)⟩
theorem vv_lenL {ds : List D} (h : EvV te σ H v) (hd : Dat K H (.lst ds) v) : EvV (tCB (fun xs H Q => ∃ p ys, xs = [.ref p] ∧ (SqL K H p ys ∨ SqT K H p ys) ∧ Q (.int ys.length) H) (tCons te tNil)) σ H (.int ds.length) := fun H0 s Q q => by
  obtain ⟨a, xs, rfl, sq, hx⟩ := hd
  exact h H0 s _ ⟨a, xs, rfl, .inl (s.seq sq), by rw [← hx.length]; exact q⟩
theorem vv_lenT {ds : List D} (h : EvV te σ H v) (hd : Dat K H (.tup ds) v) : EvV (tCB (fun xs H Q => ∃ p ys, xs = [.ref p] ∧ (SqL K H p ys ∨ SqT K H p ys) ∧ Q (.int ys.length) H) (tCons te tNil)) σ H (.int ds.length) := fun H0 s Q q => by
  obtain ⟨a, xs, rfl, sq, hx⟩ := hd
  exact h H0 s _ ⟨a, xs, rfl, .inr (sqT_same s sq), by rw [← hx.length]; exact q⟩
theorem vv_sub {i j : Int} (h : EvV ta σ H (.int i)) (h2 : EvV tb σ H (.int j)) : EvV (tOp (rI0 fun i j => .int (i - j)) ta tb) σ H (.int (i - j)) := fun H0 s Q q => h H0 s _ (h2 H0 s _ ⟨i, j, rfl, rfl, q⟩)
theorem vv_add {i j : Int} (h : EvV ta σ H (.int i)) (h2 : EvV tb σ H (.int j)) : EvV (tOp (rI0 fun i j => .int (i + j)) ta tb) σ H (.int (i + j)) := fun H0 s Q q => h H0 s _ (h2 H0 s _ ⟨i, j, rfl, rfl, q⟩)
theorem ed_all {bs : List Bool} (h : EvD K te σ H (.lst (bs.map D.bl))) : EvD K (tCB (rAll K) (tCons te tNil)) σ H (.bl (bs.all id)) := EvD.mk fun H0 s Q q =>
  h.use s fun x H1 s1 ⟨a, xs, e, sq, hx⟩ => ⟨a, bs, by rw [e], by rw [← Dats.bls_inv hx]; exact sq, q _ H1 s1 rfl⟩
theorem ed_sum {ns : List Int} (h : EvD K te σ H (.lst (ns.map D.int))) : EvD K (tCB (rSum K) (tCons te tNil)) σ H (.int ns.sum) := EvD.mk fun H0 s Q q =>
  h.use s fun x H1 s1 ⟨a, xs, e, sq, hx⟩ => ⟨a, ns, by rw [e], by rw [← Dats.ints_inv hx]; exact sq, q _ H1 s1 rfl⟩
/-- tuple(a list) -/
theorem ed_tupOf {ds : List D} (h : EvD K te σ H (.lst ds)) : EvD K (tCB (fun xs H Q => ∃ p ys, xs = [.ref p] ∧ ((SqL K H p ys ∧ ∀ l, H l = none → Q (.ref l) (upd H l (.tup ys))) ∨ (SqT K H p ys ∧ Q (.ref p) H))) (tCons te tNil)) σ H (.tup ds) := EvD.mk fun H0 s Q q =>
  h.use s fun x H1 s1 ⟨a, xs, e, sq, hx⟩ => ⟨a, xs, by rw [e], .inl ⟨sq, fun l hl => q _ _ (s1.trans (same_upd hl)) ⟨l, xs, rfl, .inl (.inl upd_same), Dats.same (same_upd hl) hx⟩⟩⟩
theorem ed_listOf {ds : List D} (h : EvD K te σ H (.tup ds)) : EvD K (tCB (fun xs H Q => ∃ p ys, xs = [.ref p] ∧ (SqL K H p ys ∨ SqT K H p ys) ∧ ∀ l, H l = none → Q (.ref l) (upd H l (.lst ys))) (tCons te tNil)) σ H (.lst ds) := EvD.mk fun H0 s Q q =>
  h.use s fun x H1 s1 ⟨a, xs, e, sq, hx⟩ => ⟨a, xs, by rw [e], .inr sq, fun l hl => q _ _ (s1.trans (same_upd hl)) ⟨l, xs, rfl, .inl (.inl upd_same), Dats.same (same_upd hl) hx⟩⟩
end
end Cb
set_option Elab.async false
set_option linter.all false
set_option maxRecDepth 100000
set_option maxHeartbeats 4000000
/-! walks: least, greatest, ascending, middle -/
namespace Cb
open PySem PySem.Spec PyProof.Rows L2
theorem frs_get {xs : List Rat} {i : Nat} {d : D} (h : (frs xs)[i]? = some d) : ∃ x, xs[i]? = some x ∧ d = fr x := by
  unfold frs at h
  rw [List.getElem?_map, Option.map_eq_some_iff] at h
  obtain ⟨x, h1, h2⟩ := h
  exact ⟨x, h1, h2.symm⟩
theorem frs_at {xs : List Rat} {i : Nat} {x : Rat} (h : xs[i]? = some x) : (frs xs)[i]? = some (fr x) := by
  unfold frs
  rw [List.getElem?_map, h]
  rfl
theorem frs_len (xs : List Rat) : (frs xs).length = xs.length := List.length_map _
theorem nls_frs (xs : List Rat) : nls (frs xs) = true := nls_all fun d hd => by
  obtain ⟨x, _, rfl⟩ := List.mem_map.mp hd
  rfl
theorem frs_app (xs ys : List Rat) : frs (xs ++ ys) = frs xs ++ frs ys := List.map_append
theorem frs_drop (xs : List Rat) (n : Nat) : (frs xs).drop n = frs (xs.drop n) := by unfold frs; rw [List.map_drop]
theorem frs_take (xs : List Rat) (n : Nat) : (frs xs).take n = frs (xs.take n) := by unfold frs; rw [List.map_take]
theorem atI_frs {xs : List Rat} {i : Nat} {x : Rat} (h : xs[i]? = some x) : atI (frs xs) (i : Int) = some (fr x) := atI_nat (frs_at h)
abbrev SzL (n : Nat) (xs : List Rat) : Prop := ∀ x ∈ xs, Sz n x
section
variable {P : Program} {w : World} {K : PySem.W.Frag} {mg : Str → Option Value} {base : Heap}
abbrev preList (g : List Rat → Rat) : List D → (D → Prop) → Prop := fun ds post => ∃ (xs : List Rat) (n : Nat), xs ≠ [] ∧ xs.length ≤ 1000000 ∧ SzL n xs ∧ n ≤ LIM ∧ ds = [.lst (frs xs)] ∧ post = fun d => d = fr (g xs)
abbrev spLeast (K : PySem.W.Frag) : Sp := spP K 1 (preList fun xs => rk xs 0)
abbrev spGreatest (K : PySem.W.Frag) : Sp := spP K 1 (preList fun xs => rk xs (xs.length - 1))
theorem mem_take_succ {xs : List Rat} {i : Nat} {x : Rat} (h : xs[i]? = some x) : xs.take (i + 1) = xs.take i ++ [x] := by
  rw [List.take_succ, h]; rfl
theorem ok_least_of (W : Wd P K mg base) (F : Df K mg "least_of" s_least_of) (G : C8.Cal P w K mg base 35 "is_less" (spLess K) []) : C8.Cal P w K mg base 36 "least_of" (spLeast K) [] := by
  refine cal_of F sc_least_of (fun _ _ _ _ _ _ us hl => match us, hl with | [_], _ => rfl) rfl fun f cdv A outer s H vs Q E ds post hr hp hd q => ?_
  obtain ⟨xs, n, hx0, hz, sx, hn, rfl, rfl⟩ := hp
  obtain ⟨u, rfl, hu⟩ := dats1 hd
  obtain ⟨x0, r, rfl⟩ := List.exists_cons_of_ne_nil hx0
  refine ⟨_, pss_cons (ps_set (i := 1) sc_least_of.nd rfl (.inl rfl) (pe_ix ix_list (pv 0) pe_int (fun _ _ => rfl)))
    (pss_cons (ps_for PassesOwn.never rfl (pi_list (pe_slice sl_list (pv 0) (po_some pe_int) po_none)) (pg_name (i := 2) sc_least_of.nd rfl (.inl rfl))
      (pss_one (ps_if (pt_val (C8.pe_c G hr (by decide) (by rfl) (pa_cons (pv 2) (pa_cons (pv 1) pa_nil)))) (pss_one (ps_set (i := 1) sc_least_of.nd rfl (.inl rfl) (pv 2))) pss_nil)))
    (pss_one (ps_ret (pv 1)))), ?_⟩
  refine q_setD (ed_ixL (ed_var rfl hu) ed_int (atI_frs (xs := x0 :: r) (i := 0) rfl)) (Same.refl _) fun v H1 s1 hv => ?_
  refine q_forB (ei_from (k := 1) (vv_var rfl) (Dat.same s1 hu)) (Same.refl _) fun Hb H2 sb s2 _ sb2 => ?_
  refine ⟨fun i σ H' => ∃ v y m, σ = [some u, some v, y] ∧ Same Hb H' ∧ Same H H' ∧ Dat K H' (fr m) v ∧ m ∈ (x0 :: r).take (i + 1) ∧ ∀ x ∈ (x0 :: r).take (i + 1), m ≤ x, ⟨v, none, x0, rfl, sb2, s1.trans s2, Dat.same s2 hv, by simp, by simp [Rat.le_refl]⟩, fun i σ H' ⟨_, _, _, _, h, _⟩ => h, ?_, ?_⟩
  · rintro i d x σ H3 H4 hi ⟨v, y, m, rfl, b1, b2, hm, m1, m2⟩ s4 hx
    rw [List.getElem?_drop, Nat.add_comm] at hi
    obtain ⟨z, hz1, rfl⟩ := frs_get hi
    have et := mem_take_succ hz1
    have zm : z ∈ x0 :: r := List.mem_of_getElem? hz1
    have mm : m ∈ x0 :: r := List.mem_of_mem_take m1
    refine q_if1 (et_val (ed_less (n := n) (ed_var rfl hx) (ed_var rfl (Dat.same s4 hm)) (sx _ zm) (sx _ mm) hn)) (Same.refl _) (fun e H5 s5 => ?_) (fun e H5 s5 => ?_)
    · refine q_set1 (ed_var rfl (Dat.same s5 hx)) (Same.refl _) fun t H6 s6 ht => ?_
      refine ⟨t, some x, z, rfl, ((b1.trans s4).trans s5).trans s6, ((b2.trans s4).trans s5).trans s6, ht, by rw [et]; simp, fun a ha => ?_⟩
      rw [et] at ha
      have e := of_decide_eq_true e
      rcases List.mem_append.mp ha with ha | ha
      · have := m2 a ha
        grind
      · have : a = z := by simpa using ha
        rw [this]; exact Rat.le_refl
    · refine ⟨v, some x, m, rfl, (b1.trans s4).trans s5, (b2.trans s4).trans s5, Dat.same (s4.trans s5) hm, by rw [et]; exact List.mem_append_left _ m1, fun a ha => ?_⟩
      rw [et] at ha
      have e := of_decide_eq_false e
      rcases List.mem_append.mp ha with ha | ha
      · exact m2 a ha
      · have : a = z := by simpa using ha
        rw [this]; grind
  · rintro σ H3 ⟨v, y, m, rfl, b1, b2, hm, m1, m2⟩
    rw [List.length_drop, frs_len] at m1 m2
    have hl : (x0 :: r).length - 1 + 1 = (x0 :: r).length := by simp
    rw [hl, List.take_length] at m1 m2
    refine q_retD (ed_var rfl hm) (Same.refl _) fun t H4 s4 ht => q t H4 _ (b2.trans s4) rfl ?_
    show Dat K H4 (fr (rk (x0 :: r) 0)) t
    rw [show rk (x0 :: r) 0 = m from rk_least m1 m2]
    exact ht
theorem ok_greatest_of (W : Wd P K mg base) (F : Df K mg "greatest_of" s_greatest_of) (G : C8.Cal P w K mg base 35 "is_less" (spLess K) []) : C8.Cal P w K mg base 36 "greatest_of" (spGreatest K) [] := by
  refine cal_of F sc_greatest_of (fun _ _ _ _ _ _ us hl => match us, hl with | [_], _ => rfl) rfl fun f cdv A outer s H vs Q E ds post hr hp hd q => ?_
  obtain ⟨xs, n, hx0, hz, sx, hn, rfl, rfl⟩ := hp
  obtain ⟨u, rfl, hu⟩ := dats1 hd
  obtain ⟨x0, r, rfl⟩ := List.exists_cons_of_ne_nil hx0
  refine ⟨_, pss_cons (ps_set (i := 1) sc_greatest_of.nd rfl (.inl rfl) (pe_ix ix_list (pv 0) pe_int (fun _ _ => rfl)))
    (pss_cons (ps_for PassesOwn.never rfl (pi_list (pe_slice sl_list (pv 0) (po_some pe_int) po_none)) (pg_name (i := 2) sc_greatest_of.nd rfl (.inl rfl))
      (pss_one (ps_if (pt_val (C8.pe_c G hr (by decide) (by rfl) (pa_cons (pv 1) (pa_cons (pv 2) pa_nil)))) (pss_one (ps_set (i := 1) sc_greatest_of.nd rfl (.inl rfl) (pv 2))) pss_nil)))
    (pss_one (ps_ret (pv 1)))), ?_⟩
  refine q_setD (ed_ixL (ed_var rfl hu) ed_int (atI_frs (xs := x0 :: r) (i := 0) rfl)) (Same.refl _) fun v H1 s1 hv => ?_
  refine q_forB (ei_from (k := 1) (vv_var rfl) (Dat.same s1 hu)) (Same.refl _) fun Hb H2 sb s2 _ sb2 => ?_
  refine ⟨fun i σ H' => ∃ v y m, σ = [some u, some v, y] ∧ Same Hb H' ∧ Same H H' ∧ Dat K H' (fr m) v ∧ m ∈ (x0 :: r).take (i + 1) ∧ ∀ x ∈ (x0 :: r).take (i + 1), x ≤ m, ⟨v, none, x0, rfl, sb2, s1.trans s2, Dat.same s2 hv, by simp, by simp [Rat.le_refl]⟩, fun i σ H' ⟨_, _, _, _, h, _⟩ => h, ?_, ?_⟩
  · rintro i d x σ H3 H4 hi ⟨v, y, m, rfl, b1, b2, hm, m1, m2⟩ s4 hx
    rw [List.getElem?_drop, Nat.add_comm] at hi
    obtain ⟨z, hz1, rfl⟩ := frs_get hi
    have et := mem_take_succ hz1
    have zm : z ∈ x0 :: r := List.mem_of_getElem? hz1
    have mm : m ∈ x0 :: r := List.mem_of_mem_take m1
    refine q_if1 (et_val (ed_less (n := n) (ed_var rfl (Dat.same s4 hm)) (ed_var rfl hx) (sx _ mm) (sx _ zm) hn)) (Same.refl _) (fun e H5 s5 => ?_) (fun e H5 s5 => ?_)
    · refine q_set1 (ed_var rfl (Dat.same s5 hx)) (Same.refl _) fun t H6 s6 ht => ?_
      refine ⟨t, some x, z, rfl, ((b1.trans s4).trans s5).trans s6, ((b2.trans s4).trans s5).trans s6, ht, by rw [et]; simp, fun a ha => ?_⟩
      rw [et] at ha
      have e := of_decide_eq_true e
      rcases List.mem_append.mp ha with ha | ha
      · have := m2 a ha
        grind
      · have : a = z := by simpa using ha
        rw [this]; exact Rat.le_refl
    · refine ⟨v, some x, m, rfl, (b1.trans s4).trans s5, (b2.trans s4).trans s5, Dat.same (s4.trans s5) hm, by rw [et]; exact List.mem_append_left _ m1, fun a ha => ?_⟩
      rw [et] at ha
      have e := of_decide_eq_false e
      rcases List.mem_append.mp ha with ha | ha
      · exact m2 a ha
      · have : a = z := by simpa using ha
        rw [this]; grind
  · rintro σ H3 ⟨v, y, m, rfl, b1, b2, hm, m1, m2⟩
    rw [List.length_drop, frs_len] at m1 m2
    have hl : (x0 :: r).length - 1 + 1 = (x0 :: r).length := by simp
    rw [hl, List.take_length] at m1 m2
    refine q_retD (ed_var rfl hm) (Same.refl _) fun t H4 s4 ht => q t H4 _ (b2.trans s4) rfl ?_
    show Dat K H4 (fr (rk (x0 :: r) ((x0 :: r).length - 1))) t
    rw [show rk (x0 :: r) ((x0 :: r).length - 1) = m from rk_greatest m1 m2]
    exact ht
abbrev spAsc (K : PySem.W.Frag) : Sp := spP K 1 fun ds post => ∃ (xs : List Rat) (n : Nat), xs.length ≤ 900000 ∧ SzL n xs ∧ n ≤ LIM ∧ ds = [.lst (frs xs)] ∧ post = fun d => d = .lst (frs (srt xs))
theorem ok_ascending (W : Wd P K mg base) (F : Df K mg "ascending" s_ascending) (G : C8.Cal P w K mg base 35 "is_less" (spLess K) []) : C8.Cal P w K mg base 36 "ascending" (spAsc K) [] := by
  refine cal_of F sc_ascending (fun _ _ _ _ _ _ us hl => match us, hl with | [_], _ => rfl) rfl fun f cdv A outer s H vs Q E ds post hr hp hd q => ?_
  obtain ⟨xs, n, hz, sx, hn, rfl, rfl⟩ := hp
  obtain ⟨u, rfl, hu⟩ := dats1 hd
  refine ⟨_, pss_cons (ps_set (i := 1) sc_ascending.nd rfl (.inl rfl) (pe_lst pa_nil))
    (pss_cons (ps_for PassesOwn.never rfl (pi_list (pv 0)) (pg_name (i := 2) sc_ascending.nd rfl (.inl rfl))
      (pss_cons (ps_set (i := 3) sc_ascending.nd rfl (.inl rfl) (pe_callB call_len_seq (by rfl) W.len b_len (pa_cons (pv 1) pa_nil)))
      (pss_cons (ps_while PassesOwn.never (PW.pt (pw_and (pt_cmpR op_gt (pv 3) pe_int (nomark _)) (pw_and1 (pt_val (C8.pe_c G hr (by decide) (by rfl) (pa_cons (pv 2) (pa_cons (pe_ix ix_list (pv 1) (pe_op op_sub (pv 3) pe_int) (fun _ _ => rfl)) pa_nil)))))))
          (pss_one (ps_aug (i := 3) sc_ascending.nd rfl (.inl rfl) pe_int ip_sub)))
      (pss_one (ps_expr (pe_bm PySem.F.plainAttrs_list PySem.F.slot_list_insert PySem.F.type_list_insert mt_insert (pv 1) (pa_cons (pv 3) (pa_cons (pv 2) pa_nil))))))))
    (pss_one (ps_ret (pv 1)))), ?_⟩
  refine ⟨Nat.zero_le _, fun p hp => ?_⟩
  refine q_forB (ei_list (vv_var rfl) hu) (same_upd hp) fun Hb H2 sb s2 hnp sb2 => ?_
  have hbp : Hb p = none := hnp p (by rw [upd_same]; exact fun z => nomatch z) hp
  refine ⟨fun i σ H' => ∃ y2 y3 ys acc, σ = [some u, some (.ref p), y2, y3] ∧ Same Hb H' ∧ H' p = some (.lst acc) ∧ Dats K H' (frs ys) acc ∧ ys.Perm (xs.take i) ∧ ys.Pairwise (· ≤ ·), ⟨none, none, [], [], rfl, sb2, s2 _ _ upd_same, Dats.nil, by simp, List.Pairwise.nil⟩, fun i σ H' ⟨_, _, _, _, _, h, _⟩ => h, ?_, ?_⟩
  · rintro i d x σ H3 H4 hi ⟨y2, y3, ys, acc, rfl, b1, ha, hacc, pm, so⟩ s4 hx
    obtain ⟨z, hz1, rfl⟩ := frs_get hi
    have zm : z ∈ xs := List.mem_of_getElem? hz1
    have ysm : ∀ y ∈ ys, y ∈ xs := fun y hy => List.mem_of_mem_take (pm.mem_iff.mp hy)
    have hil : i < xs.length := (List.getElem?_eq_some_iff.mp hz1).1
    have yl : ys.length = i := by rw [pm.length_eq, List.length_take]; omega
    have hp4 : H4 p = some (.lst acc) := s4 _ _ ha
    have dl : Dat K H4 (.lst (frs ys)) (.ref p) := ⟨p, acc, rfl, SqL.of hp4, Dats.same s4 hacc⟩
    refine q_setD (ed_lenL (ed_var rfl dl)) (Same.refl _) fun t H5 s5 ht => ?_
    obtain rfl : t = .int (frs ys).length := ht
    rw [frs_len]
    refine while_ev (fun σ H' => Same H5 H' ∧ ∃ k : Nat, σ = [some u, some (.ref p), some x, some (.int k)] ∧ k ≤ ys.length ∧ ∀ j y, k ≤ j → ys[j]? = some y → z < y) (fun σ _ => match σ with | [_, _, _, some (.int k)] => k.toNat | _ => 0) ⟨Same.refl _, ys.length, rfl, Nat.le_refl _, fun j y hj hy => by
      have := (List.getElem?_eq_some_iff.mp hy).1
      omega⟩ ?_
    rintro σ H6 ⟨s6, k, rfl, hk, hgt⟩
    have dl6 : Dat K H6 (.lst (frs ys)) (.ref p) := Dat.same (s5.trans s6) dl
    have hx6 : Dat K H6 (fr z) x := Dat.same (s5.trans s6) hx
    refine ⟨decide (0 < (k : Int)) && decide (z < ys.getD (k - 1) 0), et_and (et_test (K := K) (ed_gt (ed_var rfl rfl) ed_int)) (fun e => ?_), fun e H7 s7 => ?_, fun e H7 s7 => ?_⟩
    · have hk0 : 0 < k := by have := of_decide_eq_true e; omega
      have hlt : k - 1 < ys.length := by omega
      have gy : ys[k - 1]? = some (ys.getD (k - 1) 0) := by rw [List.getD_eq_getElem?_getD, List.getElem?_eq_getElem hlt]; rfl
      refine et_val (ed_less (n := n) (ed_var rfl hx6) (ed_ixL (ed_var rfl dl6) (ed_sub (ed_var rfl rfl) ed_int) ?_) (sx _ zm) (sx _ (ysm _ (List.mem_of_getElem? gy))) hn)
      rw [show (k : Int) - 1 = ((k - 1 : Nat) : Int) by omega]
      exact atI_frs gy
    · rw [Bool.and_eq_true] at e
      have hk0 : 0 < k := by have := of_decide_eq_true e.1; omega
      have hzl := of_decide_eq_true e.2
      refine ⟨_, rfl, _, _, rfl, rfl, ⟨s6.trans s7, k - 1, by rw [show ((k - 1 : Nat) : Int) = (k : Int) - 1 by omega]; rfl, by omega, fun j y hj hy => ?_⟩, ?_⟩
      · rcases Nat.eq_or_lt_of_le hj with e | e
        · subst e
          rw [List.getD_eq_getElem?_getD, hy] at hzl
          exact hzl
        · exact hgt j y (by omega) hy
      · show ((k : Int) - 1).toNat < (k : Int).toNat
        omega
    · have hp7 : H7 p = some (.lst acc) := s7 _ _ (s6 _ _ (s5 _ _ hp4))
      have hx7 : Dat K H7 (fr z) x := Dat.same s7 hx6
      have a7 := Dats.same (((s4.trans s5).trans s6).trans s7) hacc
      refine ⟨.ref p, rfl, .inl ⟨rfl, _, SqL.of hp7⟩, _, rfl, _, rfl, p, acc, k, x, rfl, rfl, hp7, ?_, by omega, ?_, ?_⟩
      · rw [← a7.length, frs_len]
        exact small1M (by omega)
      · have : ys.length ≤ 900000 := by omega
        omega
      · have tk := tk_upd (o := HO.lst (acc.take k ++ [x] ++ acc.drop k)) hp7
        refine ⟨some x, some (.int k), ys.take k ++ [z] ++ ys.drop k, acc.take k ++ [x] ++ acc.drop k, rfl, fun b o e => ?_, ?_, ?_, ?_, ?_⟩
        · rw [upd_ne (ne_of_none e hbp)]
          exact s7 _ _ (s6 _ _ (s5 _ _ (s4 _ _ (b1 _ _ e))))
        · rw [show ((k : Int)).toNat = k by omega]; exact upd_same
        · rw [frs_app, frs_app, ← frs_take, ← frs_drop]
          have nt : nls ((frs ys).take k) = true := nls_all fun d hd => nls_mem (nls_frs ys) (List.mem_of_mem_take hd)
          have nd : nls ((frs ys).drop k) = true := nls_all fun d hd => nls_mem (nls_frs ys) (List.mem_of_mem_drop hd)
          rw [show ((k : Int)).toNat = k by omega]
          exact ((Dats.tk tk nt (a7.take k)).append (.cons (Dat.tk tk rfl hx7) .nil)).append (Dats.tk tk nd (a7.drop k))
        · rw [mem_take_succ hz1]
          refine List.Perm.trans ?_ (pm.append_right [z])
          rw [List.append_assoc]
          refine List.Perm.trans (List.Perm.append_left _ List.perm_append_comm) ?_
          rw [← List.append_assoc, List.take_append_drop]
        · have hlow : ∀ y ∈ ys.take k, y ≤ z := fun y hy => by
            rcases Nat.eq_zero_or_pos k with e0 | e0
            · subst e0; simp at hy
            · have hlt : k - 1 < ys.length := by omega
              have last : ys[k - 1] ≤ z := by
                rw [Bool.and_eq_false_iff] at e
                rcases e with e | e
                · have := of_decide_eq_false e; omega
                · have e := of_decide_eq_false e
                  rw [List.getD_eq_getElem?_getD, List.getElem?_eq_getElem hlt] at e
                  exact Rat.not_lt.mp e
              obtain ⟨j, hj, rfl⟩ := List.mem_iff_getElem.mp hy
              rw [List.length_take] at hj
              rw [List.getElem_take]
              rcases Nat.eq_or_lt_of_le (show j ≤ k - 1 by omega) with q | q
              · subst q; exact last
              · exact Rat.le_trans (List.pairwise_iff_getElem.mp so j (k - 1) (by omega) hlt q) last
          have hhigh : ∀ y ∈ ys.drop k, z ≤ y := fun y hy => by
            obtain ⟨j, hj, rfl⟩ := List.mem_iff_getElem.mp hy
            rw [List.length_drop] at hj
            rw [List.getElem_drop]
            have := hgt (k + j) _ (by omega) (List.getElem?_eq_getElem (by omega))
            grind
          rw [List.append_assoc, List.pairwise_append]
          refine ⟨List.Pairwise.sublist (List.take_sublist k ys) so, List.pairwise_cons.mpr ⟨hhigh, List.Pairwise.sublist (List.drop_sublist k ys) so⟩, fun a ha b hb => ?_⟩
          have h1 := hlow a ha
          rcases List.mem_cons.mp hb with e | hb
          · rw [e]; exact h1
          · exact Rat.le_trans h1 (hhigh b hb)
  · rintro σ H3 ⟨y2, y3, ys, acc, rfl, b1, ha, hacc, pm, so⟩
    rw [frs_len, List.take_length] at pm
    have e := srt_uniq pm so
    subst e
    exact ⟨.ref p, rfl, q _ H3 _ (sb.trans b1) rfl ⟨p, acc, rfl, SqL.of ha, hacc⟩⟩
abbrev spMiddle (K : PySem.W.Frag) : Sp := spP K 3 fun ds post => ∃ (x y z : Rat) (n : Nat), Sz n x ∧ Sz n y ∧ Sz n z ∧ n ≤ LIM ∧ ds = [fr x, fr y, fr z] ∧ post = fun d => d = fr (rk [x, y, z] 1)
theorem ok_middle (W : Wd P K mg base) (F : Df K mg "middle" s_middle) (G : C8.Cal P w K mg base 36 "ascending" (spAsc K) []) : C8.Cal P w K mg base 37 "middle" (spMiddle K) [] := by
  refine cal_of F sc_middle (fun _ _ _ _ _ _ us hl => match us, hl with | [_, _, _], _ => rfl) rfl fun f cdv A outer s H vs Q E ds post hr hp hd q => ?_
  obtain ⟨x, y, z, n, sx, sy, sz, hn, rfl, rfl⟩ := hp
  obtain ⟨u, v, t, rfl, hu, hv, ht⟩ := dats3 hd
  refine ⟨_, pss_one (ps_ret (pe_ix ix_list (C8.pe_c G hr (by decide) (by rfl) (pa_cons (pe_lst (pa_cons (pv 0) (pa_cons (pv 1) (pa_cons (pv 2) pa_nil)))) pa_nil)) pe_int (fun _ _ => rfl))), ?_⟩
  refine q_retD (ed_ixL (ed_call (ea_cons (ed_lst (ea_cons (ed_var rfl hu) (ea_cons (ed_var rfl hv) (ea_cons (ed_var rfl ht) ea_nil)))) ea_nil) ⟨[x, y, z], n, by simp, ?_, hn, rfl, rfl⟩ rfl) ed_int (atI_frs (rk_get (i := 1) (by simp)))) (Same.refl _) fun r H1 s1 h1 => q r H1 _ s1 rfl h1
  intro a ha
  simp only [List.mem_cons, List.not_mem_nil, or_false] at ha
  rcases ha with e | e | e <;> (rw [e]; assumption)
end
end Cb
set_option Elab.async false
set_option linter.all false
set_option maxRecDepth 100000
set_option maxHeartbeats 4000000
/-! walks: checks -/
namespace Cb
open PySem PySem.Spec PyProof.Rows L2
section
variable {K : PySem.W.Frag} {σ : L2.St} {H : Hp} {te ta tb tc : TE} {d : D}
theorem ed_neI {i j : Int} (ha : EvD K ta σ H (.int i)) (hb : EvD K tb σ H (.int j)) : EvD K (tOp rNe ta tb) σ H (.bl (!decide (i = j))) :=
  ed_op ha hb fun x y H1 s hx hy Q q => by
    rw [show x = .int i from hx, show y = .int j from hy]
    refine ⟨rfl, q _ _ (Same.refl _) ?_⟩
    show V.bl _ = V.bl _
    rw [show decide (V.int i = V.int j) = decide (i = j) from decide_eq_decide.mpr ⟨fun e => V.int.inj e, fun e => by rw [e]⟩]
theorem ed_eqI {i j : Int} (ha : EvD K ta σ H (.int i)) (hb : EvD K tb σ H (.int j)) : EvD K (tOp rEq ta tb) σ H (.bl (decide (i = j))) :=
  ed_op ha hb fun x y H1 s hx hy Q q => by
    rw [show x = .int i from hx, show y = .int j from hy]
    refine ⟨rfl, q _ _ (Same.refl _) ?_⟩
    show V.bl _ = V.bl _
    rw [show decide (V.int i = V.int j) = decide (i = j) from decide_eq_decide.mpr ⟨fun e => V.int.inj e, fun e => by rw [e]⟩]
theorem ed_eqS {i j : Str} (ha : EvD K ta σ H (.str i)) (hb : EvD K tb σ H (.str j)) : EvD K (tOp rEq ta tb) σ H (.bl (decide (i = j))) :=
  ed_op ha hb fun x y H1 s hx hy Q q => by
    rw [show x = .str i from hx, show y = .str j from hy]
    refine ⟨rfl, q _ _ (Same.refl _) ?_⟩
    show V.bl _ = V.bl _
    rw [show decide (V.str i = V.str j) = decide (i = j) from decide_eq_decide.mpr ⟨fun e => V.str.inj e, fun e => by rw [e]⟩]
/-- i <= j <= k -/
theorem ed_leLe {i j k : Int} (ha : EvD K ta σ H (.int i)) (hb : EvD K tb σ H (.int j)) (hc : EvD K tc σ H (.int k)) :
    EvD K (tChain (rI0 fun i j => .bl (decide (i ≤ j))) (rI0 fun i j => .bl (decide (i ≤ j))) ta tb tc) σ H (.bl (decide (i ≤ j) && decide (j ≤ k))) := EvD.mk fun H0 s Q q =>
  ha.use s fun x H1 s1 hx => hb.use (s.trans s1) fun y H2 s2 hy => ⟨i, j, hx, hy, decide (i ≤ j), rfl, by
    by_cases h : i ≤ j
    · rw [decide_eq_true h] at *
      refine iteT (hc.use ((s.trans s1).trans s2) fun z H3 s3 hz => ⟨j, k, hy, hz, q _ H3 ((s1.trans s2).trans s3) ?_⟩)
      rfl
    · rw [decide_eq_false h] at *
      exact iteF (q _ H2 (s1.trans s2) rfl)⟩
theorem lk_term (x y : V) : ([("people", x), ("term", y)] : List (Str × V)).lookup ("term" : Str) = some y := by
  have h1 : (("term" : Str) == ("people" : Str)) = false := by decide +kernel
  simp only [List.lookup, h1, beq_self_eq_true]
/-- rule.people, rule.term -/
theorem ed_people {C : Addr} {n : Int} {t : D} (h : EvD K te σ H (.rule C n t)) (hc : Cls K C) (hn : NoAttr K C "people") : EvD K (tFld K te "people") σ H (.int n) := EvD.mk fun H0 s Q q =>
  h.use s fun x H1 s1 ⟨a, dx, tv, e, ha, _⟩ => ⟨a, C, dx, _, .int n, e, ha, hc, hn, rfl, q _ H1 s1 rfl⟩
theorem ed_term {C : Addr} {n : Int} {t : D} (h : EvD K te σ H (.rule C n t)) (hc : Cls K C) (hn : NoAttr K C "term") : EvD K (tFld K te "term") σ H t := EvD.mk fun H0 s Q q =>
  h.use s fun x H1 s1 ⟨a, dx, tv, e, ha, ht⟩ => ⟨a, C, dx, _, tv, e, ha, hc, hn, lk_term _ _, q _ H1 s1 ht⟩
end
theorem k_ii : kitB "int" "int" = some true := by decide +kernel
theorem k_ib : kitB "int" "bool" = some false := by decide +kernel
theorem k_tt : kitB "tuple" "tuple" = some true := by decide +kernel
theorem k_ss : kitB "str" "str" = some true := by decide +kernel
theorem filt_true {α : Type} (l : List α) : l.filter (fun _ => true) = l := List.filter_eq_self.mpr fun _ _ => rfl
/-! ### the rules with K told (within a comprehension) -/
section
variable {X : Cx} {K : PySem.W.Frag}
theorem in_K (h : X.K = K) : OpR X (compareOp .In) (rIn K false) := h ▸ op_in_seq
theorem ixT_K (h : X.K = K) : IxR X (rIxT K) := h ▸ ix_tup
theorem ixL_K (h : X.K = K) : IxR X (rIxL K) := h ▸ ix_list
theorem len_K (h : X.K = K) : CallR X (.builtin "len") (fun xs H Q => ∃ p ys, xs = [.ref p] ∧ (SqL K H p ys ∨ SqT K H p ys) ∧ Q (.int ys.length) H) := h ▸ call_len_seq
end
/-! ### facts of membership -/
theorem inV_ints {i : Int} {ns : List Int} : inV (.int i) (ns.map V.int) = decide (i ∈ ns) := by
  unfold inV
  induction ns with
  | nil => rfl
  | cons n r ih =>
    rw [List.map_cons, List.any_cons, ih, Bool.eq_iff_iff]
    show ((n == i) || decide (i ∈ r)) = true ↔ decide (i ∈ n :: r) = true
    simp only [Bool.or_eq_true, beq_iff_eq, decide_eq_true_eq, List.mem_cons]
    constructor
    · rintro (h | h)
      · exact .inl h.symm
      · exact .inr h
    · rintro (h | h)
      · exact .inl h.symm
      · exact .inr h
theorem flat_ints (ns : List Int) : (ns.map V.int).all flatV = true := by
  rw [List.all_eq_true]
  intro v hv
  obtain ⟨n, _, rfl⟩ := List.mem_map.mp hv
  rfl
abbrev intsD (ns : List Int) : List D := ns.map D.int
section
variable {K : PySem.W.Frag} {σ : L2.St} {H : Hp} {te ta tb tc : TE} {d : D}
theorem ed_inT {i : Int} {ns : List Int} (ha : EvD K ta σ H (.int i)) (hb : EvD K tb σ H (.tup (intsD ns))) : EvD K (tOp (rIn K false) ta tb) σ H (.bl (decide (i ∈ ns))) :=
  ed_op ha hb fun x y H1 s hx ⟨a, xs, e, sq, hy⟩ Q q => by
    have e2 := Dats.ints_inv hy
    subst e2
    rw [show x = .int i from hx]
    exact ⟨a, _, e, .inr sq, rfl, flat_ints ns, q _ _ (Same.refl _) (by show V.bl _ = V.bl _; rw [if_neg Bool.false_ne_true, inV_ints])⟩
theorem ed_inL {i : Int} {ns : List Int} (ha : EvD K ta σ H (.int i)) (hb : EvD K tb σ H (.lst (intsD ns))) : EvD K (tOp (rIn K false) ta tb) σ H (.bl (decide (i ∈ ns))) :=
  ed_op ha hb fun x y H1 s hx ⟨a, xs, e, sq, hy⟩ Q q => by
    have e2 := Dats.ints_inv hy
    subst e2
    rw [show x = .int i from hx]
    exact ⟨a, _, e, .inl sq, rfl, flat_ints ns, q _ _ (Same.refl _) (by show V.bl _ = V.bl _; rw [if_neg Bool.false_ne_true, inV_ints])⟩
end
theorem all_true {α : Type} {l : List α} : (l.map fun _ => true).all id = true := by
  rw [List.all_eq_true]
  intro b hb
  obtain ⟨_, _, rfl⟩ := List.mem_map.mp hb
  rfl
section
variable {P : Program} {w : World} {K : PySem.W.Frag} {mg : Str → Option Value} {base : Heap}
abbrev spIsInt (K : PySem.W.Frag) : Sp := spP K 1 fun ds post => ∃ i : Int, ds = [.int i] ∧ post = fun d => d = .bl true
theorem ok_is_integer (W : Wd P K mg base) (F : Df K mg "is_integer" s_is_integer) : C8.Cal P w K mg base 35 "is_integer" (spIsInt K) [] := by
  refine cal_of F sc_is_integer (fun _ _ _ _ _ _ us hl => match us, hl with | [_], _ => rfl) rfl fun f cdv A outer s H vs Q E ds post hr hp hd q => ?_
  obtain ⟨i, rfl, rfl⟩ := hp
  obtain ⟨u, rfl, hu⟩ := dats1 hd
  refine ⟨_, pss_one (ps_ret (pe_and (pe_callB call_isi (by rfl) W.isi b_isinstance (pa_cons (pv 0) (pa_cons (pe_bltn (v := .ty "int") (by rfl) W.int b_int rfl) pa_nil)))
    (pe_one (pe_not (pe_callB call_isi (by rfl) W.isi b_isinstance (pa_cons (pv 0) (pa_cons (pe_bltn (v := .ty "bool") (by rfl) W.bool b_bool rfl) pa_nil))))))), ?_⟩
  refine q_retD (ed_andV (b := true) (ed_isi (ed_var rfl hu) k_ii) fun _ => ed_notV (b := false) (ed_isi (ed_var rfl hu) k_ib)) (Same.refl _) fun r H1 s1 h1 => q r H1 _ s1 rfl h1
/-- a fraction in lowest terms is one -/
abbrev spIsFrac (K : PySem.W.Frag) : Sp := spP K 1 fun ds post => ∃ x : Rat, ds = [fr x] ∧ post = fun d => d = .bl true
theorem ok_is_fraction (W : Wd P K mg base) (F : Df K mg "is_fraction" s_is_fraction) (GI : C8.Cal P w K mg base 35 "is_integer" (spIsInt K) []) (GD : C8.Cal P w K mg base 33 "divisor" (spP K 2 preDiv) []) : C8.Cal P w K mg base 36 "is_fraction" (spIsFrac K) [] := by
  refine cal_of F sc_is_fraction (fun _ _ _ _ _ _ us hl => match us, hl with | [_], _ => rfl) rfl fun f cdv A outer s H vs Q E ds post hr hp hd q => ?_
  obtain ⟨x, rfl, rfl⟩ := hp
  obtain ⟨u, rfl, hu⟩ := dats1 hd
  refine ⟨_, pss_cons (ps_if (PW.pt (pw_or (pt_not (pt_val (pe_callB call_isi (by rfl) W.isi b_isinstance (pa_cons (pv 0) (pa_cons (pe_bltn (v := .ty "tuple") (by rfl) W.tuple b_tuple rfl) pa_nil)))))
      (pw_or (pt_cmpR op_ne (pe_callB call_len_seq (by rfl) W.len b_len (pa_cons (pv 0) pa_nil)) pe_int (nomark _))
      (pw_or1 (pt_not (pt_val (pe_callB (cr_all rfl) (by rfl) W.all b_all (pa_cons (pe_lc (own := [("part", 1)]) (g := gName 1) (tt := tYes) rfl sc_is_fraction.nd (pi_tup (pv 0)) (blkOk_by (N := n_is_fraction) (sc := defScope s_is_fraction) (by decide +kernel))
        (fun _ _ _ _ _ => pg_name (i := 1) sc_is_fraction.nd rfl (Or.inl rfl)) (fun _ _ _ _ _ => pts_nil) (fun _ _ _ _ _ => C8.pe_c GI hr (by decide) (by rfl) (pa_cons (pv 1) pa_nil))) pa_nil))))))))
      (pss_one (ps_ret pe_bl)) pss_nil)
    (pss_one (ps_ret (pe_and (pe_cmpR op_ge (pe_ix ix_tup (pv 0) pe_int (fun _ _ => rfl)) pe_int (nomark _))
      (pe_one (pe_cmpR op_eq (C8.pe_c GD hr (by decide) (by rfl) (pa_cons (pe_ix ix_tup (pv 0) pe_int (fun _ _ => rfl)) (pa_cons (pe_ix ix_tup (pv 0) pe_int (fun _ _ => rfl)) pa_nil))) pe_int (nomark _)))))), ?_⟩
  have e0 := ed_var (i := 0) (σ := [some u, none]) rfl hu
  refine q_if (b := false) ((et_or (b := false) (c := false) (et_not (b := true) (et_val (ed_isi e0 k_tt))) fun _ => et_or (b := false) (c := false) ((et_test (ed_neI (ed_lenT e0) ed_int)).to (by rfl)) fun _ => et_not (b := true) (et_val (ed_all (bs := [true, true])
    (ed_lc (p := fun _ => true) (F := fun _ => .bl true) (ei_tup (vv_var rfl) hu) (fun _ => rfl) (fun _ _ => rfl) (by show 2 ≤ 1000000; decide) (fun d x H1 hd s1 hx => ⟨et_yes, fun _ => ?_⟩) rfl))))) (Same.refl _) (fun e => nomatch e) fun _ H1 s1 => ?_
  · simp only [List.mem_cons, List.not_mem_nil, or_false] at hd
    rcases hd with rfl | rfl
    · exact ed_call (ea_cons (ed_var rfl hx) ea_nil) ⟨_, rfl, rfl⟩ rfl
    · exact ed_call (ea_cons (ed_var rfl hx) ea_nil) ⟨_, rfl, rfl⟩ rfl
  · have e1 := ed_var (i := 0) (σ := [some u, none]) rfl (Dat.same s1 hu)
    refine q_retD (ed_andV (ed_ge (ed_bot e1) ed_int) fun _ => ed_eqI (ed_call (d := .int (Int.gcd x.num x.den)) (ea_cons (ed_top e1) (ea_cons (ed_bot e1) ea_nil)) ⟨_, _, rfl, rfl⟩ rfl) ed_int) (Same.refl _) fun r H2 s2 h2 => ?_
    have g1 : decide ((1 : Int) ≤ x.den) = true := decide_eq_true (by have := x.den_nz; omega)
    have g2 : decide (((Int.gcd x.num x.den : Nat) : Int) = 1) = true := decide_eq_true (by
      have : Int.gcd x.num x.den = 1 := x.reduced
      rw [this]; rfl)
    rw [g1, g2] at h2
    exact q r H2 _ (s1.trans s2) rfl h2
abbrev spWithin (K : PySem.W.Frag) : Sp := spP K 3 fun ds post => ∃ i a b : Int, ds = [.int i, .int a, .int b] ∧ post = fun d => d = .bl (decide (a ≤ i) && decide (i ≤ b))
theorem ok_is_within (W : Wd P K mg base) (F : Df K mg "is_within" s_is_within) (GI : C8.Cal P w K mg base 35 "is_integer" (spIsInt K) []) : C8.Cal P w K mg base 36 "is_within" (spWithin K) [] := by
  refine cal_of F sc_is_within (fun _ _ _ _ _ _ us hl => match us, hl with | [_, _, _], _ => rfl) rfl fun f cdv A outer s H vs Q E ds post hr hp hd q => ?_
  obtain ⟨i, a, b, rfl, rfl⟩ := hp
  obtain ⟨u, v, t, rfl, hu, hv, ht⟩ := dats3 hd
  refine ⟨_, pss_one (ps_ret (pe_and (C8.pe_c GI hr (by decide) (by rfl) (pa_cons (pv 0) pa_nil)) (pe_one (pe_chain op_le op_le (pv 1) (pv 0) (pv 2))))), ?_⟩
  refine q_retD (ed_andV (b := true) (ed_call (ea_cons (ed_var rfl hu) ea_nil) ⟨_, rfl, rfl⟩ rfl) fun _ => ed_leLe (ed_var rfl hv) (ed_var rfl hu) (ed_var rfl ht)) (Same.refl _) fun r H1 s1 h1 => q r H1 _ s1 rfl h1
abbrev spIsNum (K : PySem.W.Frag) : Sp := spP K 1 fun ds post => ∃ x : Rat, 0 ≤ x ∧ x ≤ 1 ∧ ds = [fr x] ∧ post = fun d => d = .bl true
theorem ok_is_number (W : Wd P K mg base) (F : Df K mg "is_number" s_is_number) (G : C8.Cal P w K mg base 36 "is_fraction" (spIsFrac K) []) : C8.Cal P w K mg base 37 "is_number" (spIsNum K) [] := by
  refine cal_of F sc_is_number (fun _ _ _ _ _ _ us hl => match us, hl with | [_], _ => rfl) rfl fun f cdv A outer s H vs Q E ds post hr hp hd q => ?_
  obtain ⟨x, h0, h1, rfl, rfl⟩ := hp
  obtain ⟨u, rfl, hu⟩ := dats1 hd
  refine ⟨_, pss_one (ps_ret (pe_and (C8.pe_c G hr (by decide) (by rfl) (pa_cons (pv 0) pa_nil)) (pe_one (pe_chain op_le op_le pe_int (pe_ix ix_tup (pv 0) pe_int (fun _ _ => rfl)) (pe_ix ix_tup (pv 0) pe_int (fun _ _ => rfl)))))), ?_⟩
  have e0 := ed_var (i := 0) (σ := [some u]) rfl hu
  refine q_retD (ed_andV (b := true) (ed_call (ea_cons e0 ea_nil) ⟨_, rfl, rfl⟩ rfl) fun _ => ed_leLe ed_int (ed_top e0) (ed_bot e0)) (Same.refl _) fun r H1 s1 h2 => ?_
  obtain ⟨n0, n1⟩ := num_le_den h0 h1
  rw [decide_eq_true n0, decide_eq_true n1] at h2
  exact q r H1 _ s1 rfl h2
abbrev spChkNum (K : PySem.W.Frag) : Sp := spP K 1 fun ds post => ∃ x : Rat, 0 ≤ x ∧ x ≤ 1 ∧ ds = [fr x] ∧ post = fun d => d = .non
theorem ok_check_number (W : Wd P K mg base) (F : Df K mg "check_number" s_check_number) (G : C8.Cal P w K mg base 37 "is_number" (spIsNum K) []) : C8.Cal P w K mg base 38 "check_number" (spChkNum K) [] := by
  refine cal_of F sc_check_number (fun _ _ _ _ _ _ us hl => match us, hl with | [_], _ => rfl) rfl fun f cdv A outer s H vs Q E ds post hr hp hd q => ?_
  obtain ⟨x, h0, h1, rfl, rfl⟩ := hp
  obtain ⟨u, rfl, hu⟩ := dats1 hd
  refine ⟨_, pss_one (ps_if (pt_not (pt_val (C8.pe_c G hr (by decide) (by rfl) (pa_cons (pv 0) pa_nil)))) pss_never pss_nil), ?_⟩
  refine q_if1 (b := false) (et_not (b := true) (et_val (ed_call (ea_cons (ed_var rfl hu) ea_nil) ⟨x, h0, h1, rfl, rfl⟩ rfl))) (Same.refl _) (fun e => nomatch e) fun _ H1 s1 => q .non H1 _ s1 rfl rfl
abbrev spAreNum (K : PySem.W.Frag) : Sp := spP K 2 fun ds post => ∃ xs : List Rat, xs.length ≤ 900000 ∧ (∀ x ∈ xs, 0 ≤ x ∧ x ≤ 1) ∧ ds = [.tup (frs xs), .int xs.length] ∧ post = fun d => d = .bl true
theorem ok_are_numbers (W : Wd P K mg base) (F : Df K mg "are_numbers" s_are_numbers) (G : C8.Cal P w K mg base 37 "is_number" (spIsNum K) []) : C8.Cal P w K mg base 38 "are_numbers" (spAreNum K) [] := by
  refine cal_of F sc_are_numbers (fun _ _ _ _ _ _ us hl => match us, hl with | [_, _], _ => rfl) rfl fun f cdv A outer s H vs Q E ds post hr hp hd q => ?_
  obtain ⟨xs, hz, h0, rfl, rfl⟩ := hp
  obtain ⟨u, v, rfl, hu, hv⟩ := dats2 hd
  refine ⟨_, pss_one (ps_ret (pe_and (pe_callB call_isi (by rfl) W.isi b_isinstance (pa_cons (pv 0) (pa_cons (pe_bltn (v := .ty "tuple") (by rfl) W.tuple b_tuple rfl) pa_nil)))
    (pe_and (pe_cmpR op_eq (pe_callB call_len_seq (by rfl) W.len b_len (pa_cons (pv 0) pa_nil)) (pv 1) (nomark _))
    (pe_one (pe_callB (cr_all rfl) (by rfl) W.all b_all (pa_cons (pe_lc (own := [("part", 2)]) (g := gName 2) (tt := tYes) rfl sc_are_numbers.nd (pi_tup (pv 0)) (blkOk_by (N := n_are_numbers) (sc := defScope s_are_numbers) (by decide +kernel))
        (fun _ _ _ _ _ => pg_name (i := 2) sc_are_numbers.nd rfl (Or.inl rfl)) (fun _ _ _ _ _ => pts_nil) (fun _ _ _ _ _ => C8.pe_c G hr (by decide) (by rfl) (pa_cons (pv 2) pa_nil))) pa_nil)))))), ?_⟩
  have e0 := ed_var (i := 0) (σ := [some u, some v, none]) rfl hu
  refine q_retD (ed_andV (b := true) (ed_isi e0 k_tt) fun _ => ed_andV (ed_eqI (ed_lenT e0) (ed_var rfl hv)) fun _ => ed_all (bs := xs.map fun _ => true)
    (ed_lc (p := fun _ => true) (F := fun _ => .bl true) (ei_tup (vv_var rfl) hu) (fun _ => rfl) (fun _ _ => rfl) (by rw [frs_len]; omega) (fun d x H1 hd s1 hx => ⟨et_yes, fun _ => ?_⟩) ?_)) (Same.refl _) fun r H1 s1 h1 => ?_
  · obtain ⟨z, hz1, rfl⟩ := List.mem_map.mp hd
    exact ed_call (ea_cons (ed_var rfl hx) ea_nil) ⟨z, (h0 z hz1).1, (h0 z hz1).2, rfl, rfl⟩ rfl
  · rw [filt_true, List.map_map]
    unfold frs
    rw [List.map_map]
    rfl
  · rw [frs_len, decide_eq_true rfl, all_true] at h1
    exact q r H1 _ s1 rfl h1
/-- the class of rules as the top has left it -/
structure RCls (K : PySem.W.Frag) (C : Addr) : Prop where
  cl : Cls K C
  np : NoAttr K C "people"
  nt : NoAttr K C "term"
abbrev spChkW (K : PySem.W.Frag) (C : Addr) : Sp := spP K 2 fun ds post => ∃ (xs : List Rat) (t : D), xs.length ≤ 900000 ∧ (∀ x ∈ xs, 0 ≤ x ∧ x ≤ 1) ∧ ds = [.rule C xs.length t, .tup (frs xs)] ∧ post = fun d => d = .non
theorem ok_check_wishes {C : Addr} (W : Wd P K mg base) (R : RCls K C) (F : Df K mg "check_wishes" s_check_wishes) (G : C8.Cal P w K mg base 38 "are_numbers" (spAreNum K) []) : C8.Cal P w K mg base 39 "check_wishes" (spChkW K C) [] := by
  refine cal_of F sc_check_wishes (fun _ _ _ _ _ _ us hl => match us, hl with | [_, _], _ => rfl) rfl fun f cdv A outer s H vs Q E ds post hr hp hd q => ?_
  obtain ⟨xs, t, hz, h0, rfl, rfl⟩ := hp
  obtain ⟨u, v, rfl, hu, hv⟩ := dats2 hd
  refine ⟨_, pss_one (ps_if (pt_not (pt_val (C8.pe_c G hr (by decide) (by rfl) (pa_cons (pv 1) (pa_cons (pe_fld (pv 0) rfl) pa_nil))))) pss_never pss_nil), ?_⟩
  refine q_if1 (b := false) (et_not (b := true) (et_val (ed_call (ea_cons (ed_var rfl hv) (ea_cons (ed_people (ed_var rfl hu) R.cl R.np) ea_nil)) ⟨xs, hz, h0, rfl, rfl⟩ rfl))) (Same.refl _) (fun e => nomatch e) fun _ H1 s1 => q .non H1 _ s1 rfl rfl
abbrev spIsPerson (K : PySem.W.Frag) (C : Addr) : Sp := spP K 2 fun ds post => ∃ (n i : Int) (t : D), ds = [.rule C n t, .int i] ∧ post = fun d => d = .bl (decide (0 ≤ i) && decide (i ≤ n - 1))
theorem ok_is_person {C : Addr} (W : Wd P K mg base) (R : RCls K C) (F : Df K mg "is_person" s_is_person) (G : C8.Cal P w K mg base 36 "is_within" (spWithin K) []) : C8.Cal P w K mg base 37 "is_person" (spIsPerson K C) [] := by
  refine cal_of F sc_is_person (fun _ _ _ _ _ _ us hl => match us, hl with | [_, _], _ => rfl) rfl fun f cdv A outer s H vs Q E ds post hr hp hd q => ?_
  obtain ⟨n, i, t, rfl, rfl⟩ := hp
  obtain ⟨u, v, rfl, hu, hv⟩ := dats2 hd
  refine ⟨_, pss_one (ps_ret (C8.pe_c G hr (by decide) (by rfl) (pa_cons (pv 1) (pa_cons pe_int (pa_cons (pe_op op_sub (pe_fld (pv 0) rfl) pe_int) pa_nil))))), ?_⟩
  refine q_retD (ed_call (ea_cons (ed_var rfl hv) (ea_cons ed_int (ea_cons (ed_sub (ed_people (ed_var rfl hu) R.cl R.np) ed_int) ea_nil))) ⟨_, _, _, rfl, rfl⟩ rfl) (Same.refl _) fun r H1 s1 h1 => q r H1 _ s1 rfl h1
/-- a schedule -/
structure Sched (n : Nat) (sch : List Int) : Prop where
  len : sch.length ≤ 12
  rng : ∀ p ∈ sch, 0 ≤ p ∧ p < n
  all : ∀ p : Nat, p < n → (p : Int) ∈ sch
abbrev spRow (K : PySem.W.Frag) (C : Addr) : Sp := spP K 2 fun ds post => ∃ (n : Nat) (sch : List Int) (t : D), n ≤ 900000 ∧ Sched n sch ∧ ds = [.rule C n t, .tup (intsD sch)] ∧ post = fun d => d = .bl true
theorem ok_is_row_of_all {C : Addr} (W : Wd P K mg base) (R : RCls K C) (F : Df K mg "is_row_of_all" s_is_row_of_all) (G : C8.Cal P w K mg base 37 "is_person" (spIsPerson K C) []) : C8.Cal P w K mg base 38 "is_row_of_all" (spRow K C) [] := by
  obtain ⟨tk, mT⟩ := W.mostT
  refine cal_of F sc_is_row_of_all (fun _ _ _ _ _ _ us hl => match us, hl with | [_, _], _ => rfl) rfl fun f cdv A outer s H vs Q E ds post hr hp hd q => ?_
  obtain ⟨n, sch, t, hn, S, rfl, rfl⟩ := hp
  obtain ⟨u, v, rfl, hu, hv⟩ := dats2 hd
  refine ⟨_, pss_cons (ps_if (PW.pt (pw_or (pt_not (pt_val (pe_callB call_isi (by rfl) W.isi b_isinstance (pa_cons (pv 1) (pa_cons (pe_bltn (v := .ty "tuple") (by rfl) W.tuple b_tuple rfl) pa_nil)))))
      (pw_or1 (pt_cmpR op_gt (pe_callB call_len_seq (by rfl) W.len b_len (pa_cons (pv 1) pa_nil)) (pe_glob (v := .int 12) (by rfl) mT ⟨_, rfl⟩) (nomark _))))) (pss_one (ps_ret pe_bl)) pss_nil)
    (pss_cons (ps_if (pt_not (pt_val (pe_callB (cr_all rfl) (by rfl) W.all b_all (pa_cons (pe_lc (own := [("person", 2)]) (g := gName 2) (tt := tYes) rfl sc_is_row_of_all.nd (pi_tup (pv 1)) (blkOk_by (N := n_is_row_of_all) (sc := defScope s_is_row_of_all) (by decide +kernel))
        (fun _ _ _ _ _ => pg_name (i := 2) sc_is_row_of_all.nd rfl (Or.inl rfl)) (fun _ _ _ _ _ => pts_nil) (fun _ _ _ _ _ => C8.pe_c G hr (by decide) (by rfl) (pa_cons (pv 0) (pa_cons (pv 2) pa_nil)))) pa_nil)))) (pss_one (ps_ret pe_bl)) pss_nil)
    (pss_one (ps_ret (pe_callB (cr_all rfl) (by rfl) W.all b_all (pa_cons (pe_lc (own := [("person", 2)]) (g := gName 2) (tt := tYes) rfl sc_is_row_of_all.nd (pi_range1 (by rfl) W.range (pa_cons (pe_fld (pv 0) rfl) pa_nil)) (blkOk_by (N := n_is_row_of_all) (sc := defScope s_is_row_of_all) (by decide +kernel))
        (fun _ _ _ _ _ => pg_name (i := 2) sc_is_row_of_all.nd rfl (Or.inl rfl)) (fun _ _ _ _ _ => pts_nil) (fun _ _ _ _ _ => pe_cmpR (in_K rfl) (pv 2) (pv 1) (by rfl))) pa_nil))))), ?_⟩
  have e0 : ∀ {H1 : Hp}, Same H H1 → EvD K (tVar 0) [some u, some v, none] H1 (.rule C n t) := fun s => ed_var rfl (Dat.same s hu)
  have e1 : ∀ {H1 : Hp}, Same H H1 → EvD K (tVar 1) [some u, some v, none] H1 (.tup (intsD sch)) := fun s => ed_var rfl (Dat.same s hv)
  refine q_if (b := false) (et_or (b := false) (c := false) (et_not (b := true) (et_val (ed_isi (e1 (Same.refl _)) k_tt))) fun _ => (et_test (ed_gt (ed_lenT (e1 (Same.refl _))) (ed_c (d := .int 12) rfl))).to ?_) (Same.refl _) (fun e => nomatch e) fun _ H1 s1 => ?_
  · have := S.len
    rw [List.length_map]
    exact decide_eq_false (by omega)
  refine q_if (b := false) (et_not (b := true) (et_val ((ed_all (bs := sch.map fun _ => true)
    (ed_lc (p := fun _ => true) (F := fun _ => .bl true) (ei_tup (vv_var rfl) (Dat.same s1 hv)) (fun _ => rfl) (fun _ _ => rfl) (by have := S.len; rw [List.length_map]; omega) (fun d x H2 hd s2 hx => ⟨et_yes, fun _ => ?_⟩) ?_)).to (by rw [all_true])))) (Same.refl _) (fun e => nomatch e) fun _ H2 s2 => ?_
  · obtain ⟨p, hp, rfl⟩ := List.mem_map.mp hd
    have := S.rng p hp
    refine (ed_call (d := .bl (decide (0 ≤ p) && decide (p ≤ (n : Int) - 1))) (ea_cons (ed_var rfl (Dat.same (s1.trans s2) hu)) (ea_cons (ed_var rfl hx) ea_nil)) ⟨n, p, t, rfl, rfl⟩ rfl).to ?_
    rw [decide_eq_true (by omega), decide_eq_true (by omega)]
    rfl
  · rw [filt_true, List.map_map, List.map_map]
    rfl
  have s12 := s1.trans s2
  have evr : EvV (tFld K (tVar 0) "people") [some u, some v, none] H2 (.int (n : Int)) := fun H0 s3 Q' q' => by
    obtain ⟨a, dx, tv, e, ha, _⟩ := Dat.same (s12.trans s3) hu
    exact ⟨u, rfl, a, C, dx, _, .int n, e, ha, R.cl, R.np, rfl, q'⟩
  refine q_retD ((ed_all (bs := (List.range n).map fun _ => true)
    (ed_lc (p := fun _ => true) (F := fun _ => .bl true) (ei_range1 evr (by omega)) (fun _ => rfl) (fun _ _ => rfl) (by rw [rangeD_len]; omega) (fun d x H3 hd s3 hx => ⟨et_yes, fun _ => ?_⟩) ?_)).to (by rw [all_true])) (Same.refl _) fun r H3 s3 h3 => q r H3 _ (s12.trans s3) rfl h3
  · obtain ⟨p, hp, rfl⟩ := List.mem_map.mp hd
    have hp' : p < n := List.mem_range.mp hp
    refine (ed_inT (i := 0 + (p : Int)) (ns := sch) (ed_var rfl hx) (ed_var rfl (Dat.same (s12.trans s3) hv))).to ?_
    rw [decide_eq_true (by rw [Int.zero_add]; exact S.all p hp')]
  · unfold rangeD
    rw [filt_true, List.map_map, List.map_map]
    rfl
abbrev spChkS (K : PySem.W.Frag) (C : Addr) : Sp := spP K 2 fun ds post => ∃ (n : Nat) (sch : List Int) (t : D), n ≤ 900000 ∧ Sched n sch ∧ ds = [.rule C n t, .tup (intsD sch)] ∧ post = fun d => d = .non
theorem ok_check_schedule {C : Addr} (W : Wd P K mg base) (F : Df K mg "check_schedule" s_check_schedule) (G : C8.Cal P w K mg base 38 "is_row_of_all" (spRow K C) []) : C8.Cal P w K mg base 39 "check_schedule" (spChkS K C) [] := by
  refine cal_of F sc_check_schedule (fun _ _ _ _ _ _ us hl => match us, hl with | [_, _], _ => rfl) rfl fun f cdv A outer s H vs Q E ds post hr hp hd q => ?_
  obtain ⟨n, sch, t, hn, S, rfl, rfl⟩ := hp
  obtain ⟨u, v, rfl, hu, hv⟩ := dats2 hd
  refine ⟨_, pss_one (ps_if (pt_not (pt_val (C8.pe_c G hr (by decide) (by rfl) (pa_cons (pv 0) (pa_cons (pv 1) pa_nil))))) pss_never pss_nil), ?_⟩
  refine q_if1 (b := false) (et_not (b := true) (et_val (ed_call (ea_cons (ed_var rfl hu) (ea_cons (ed_var rfl hv) ea_nil)) ⟨n, sch, t, hn, S, rfl, rfl⟩ rfl))) (Same.refl _) (fun e => nomatch e) fun _ H1 s1 => q .non H1 _ s1 rfl rfl
end
end Cb
set_option Elab.async false
set_option linter.all false
set_option maxRecDepth 100000
set_option maxHeartbeats 4000000
/-! walks: numbers of terms -/
namespace Cb
open PySem PySem.Spec PyProof.Rows L2
section
variable {K : PySem.W.Frag} {σ : L2.St} {H H' : Hp} {te ta tb : TE} {v : V}
/-- over data, the target one name in slot j -/
theorem ed_lcA {wi : TI} {tt : TT} {vs : List Nat} {j : Nat} {α : Type} {l : List α} {G F : α → D} {outs : List D} {p : α → Bool} (h : EvI K wi σ H (l.map G)) (hj : ∀ x, wipe ((wipe σ vs).set j (some x)) vs = wipe σ vs) (hn : ∀ d ∈ l, nl (F d) = true) (hz : l.length ≤ 1000000)
    (he : ∀ d x H1, d ∈ l → Same H H1 → Dat K H1 (G d) x → EvT tt ((wipe σ vs).set j (some x)) H1 (p d) ∧ (p d = true → EvD K te ((wipe σ vs).set j (some x)) H1 (F d))) (ho : outs = (l.filter p).map F) :
    EvD K (tLc wi (gName j) tt te vs) σ H (.lst outs) := EvD.mk fun H0 s Q q =>
  h H0 s _ fun J H1 Hb s1 sb sb1 hp hW => fun D hD => by
    have hD0 : H D = none := (s.trans s1).free hD
    have hDb : Hb D = none := sb1.free hD
    subst ho
    -- the invariant: what is made so far
    refine ⟨fun i m H2 => m = l.length - i ∧ i ≤ l.length ∧ Same H1 H2 ∧ ∃ acc, H2 D = some (.lst acc) ∧ Dats K H2 (((l.take i).filter p).map F) acc, ⟨l.length, by simp, Nat.zero_le _, same_upd hD, [], upd_same, by simpa using Dats.nil⟩, ?_⟩
    rintro i m H2 ⟨rfl, hi, s2, acc, ha, hacc⟩
    obtain ⟨hgo, hst⟩ := hW H2 (sb1.trans s2)
    rw [List.length_map] at hst
    by_cases hlt : i < l.length
    · have hd := List.getElem?_eq_getElem hlt
      have hdG : (l.map G)[i]? = some (G l[i]) := by rw [List.getElem?_map, hd]; rfl
      obtain ⟨g1, g2⟩ := hgo i _ hdG
      refine .inr ⟨g1, _, fun H' w => ⟨l.length - (i + 1), by omega, rfl, hlt, w⟩, fun x H' y => ?_⟩
      obtain ⟨y1, y2⟩ := g2 x H' y
      have sH : Same H H' := ((s.trans s1).trans s2).trans y1
      obtain ⟨t1, t2⟩ := he _ x H' (List.getElem_mem hlt) sH y2
      refine ⟨hj x, t1 H' (Same.refl _) _ fun H3 s3 => ?_⟩
      have etk : l.take (i + 1) = l.take i ++ [l[i]] := by rw [List.take_succ, hd]; rfl
      have ha3 : H3 D = some (.lst acc) := s3 _ _ (y1 _ _ ha)
      have hacc3 := Dats.same (y1.trans s3) hacc
      cases hb : p l[i] with
      | true =>
        refine iteT (EvD.use (EvP.mono s3 (t2 hb)) (Same.refl _) fun u H4 s4 hu => ⟨acc, s4 _ _ ha3, ?_, ?_, acc ++ [u], upd_same, ?_⟩)
        · rw [← hacc.length, List.length_map]
          refine small1M ?_
          have := List.length_filter_le p (l.take i)
          rw [List.length_take] at this
          omega
        · intro b o e
          rw [upd_ne (ne_of_none e hD)]
          exact s4 _ _ (s3 _ _ (y1 _ _ (s2 _ _ e)))
        · have tk := tk_upd (o := HO.lst (acc ++ [u])) (s4 _ _ ha3)
          rw [etk, List.filter_append, List.map_append]
          have e1 : [l[i]].filter p = [l[i]] := by simp [hb]
          rw [e1]
          refine Dats.snoc (Dats.tk tk (nls_all fun z hz => ?_) (Dats.same s4 hacc3)) (Dat.tk tk (hn _ (List.getElem_mem hlt)) hu)
          obtain ⟨c, hc, rfl⟩ := List.mem_map.mp hz
          exact hn c (List.mem_of_mem_take (List.mem_filter.mp hc).1)
      | false =>
        refine iteF ⟨(s2.trans y1).trans s3, acc, ha3, ?_⟩
        rw [etk, List.filter_append, List.map_append]
        have e1 : [l[i]].filter p = [] := by simp [hb]
        rw [e1]
        simpa using hacc3
    · have e : i = l.length := by omega
      subst e
      refine .inl ⟨hst, q _ H2 (s1.trans s2) ⟨D, acc, rfl, SqL.of ha, ?_⟩⟩
      rw [List.take_length] at hacc
      exact hacc
/-- .. the target a pair -/
theorem ed_lcA2 {wi : TI} {tt : TT} {vs : List Nat} {j k : Nat} {α : Type} {l : List α} {G F : α → D} {outs : List D} {p : α → Bool} (h : EvI K wi σ H (l.map G)) (hj : ∀ x y, wipe (((wipe σ vs).set j (some x)).set k (some y)) vs = wipe σ vs) (hn : ∀ d ∈ l, nl (F d) = true) (hz : l.length ≤ 1000000)
    (he : ∀ d H1, d ∈ l → Same H H1 → ∃ a b, G d = .tup [a, b] ∧ ∀ x y, Dat K H1 a x → Dat K H1 b y → EvT tt (((wipe σ vs).set j (some x)).set k (some y)) H1 (p d) ∧ (p d = true → EvD K te (((wipe σ vs).set j (some x)).set k (some y)) H1 (F d))) (ho : outs = (l.filter p).map F) :
    EvD K (tLc wi (gTup K 2 (gCons (gName j) (gCons (gName k) gNil))) tt te vs) σ H (.lst outs) := EvD.mk fun H0 s Q q =>
  h H0 s _ fun J H1 Hb s1 sb sb1 hp hW => fun D hD => by
    subst ho
    refine ⟨fun i m H2 => m = l.length - i ∧ i ≤ l.length ∧ Same H1 H2 ∧ ∃ acc, H2 D = some (.lst acc) ∧ Dats K H2 (((l.take i).filter p).map F) acc, ⟨l.length, by simp, Nat.zero_le _, same_upd hD, [], upd_same, by simpa using Dats.nil⟩, ?_⟩
    rintro i m H2 ⟨rfl, hi, s2, acc, ha, hacc⟩
    obtain ⟨hgo, hst⟩ := hW H2 (sb1.trans s2)
    rw [List.length_map] at hst
    by_cases hlt : i < l.length
    · have hd := List.getElem?_eq_getElem hlt
      have hdG : (l.map G)[i]? = some (G l[i]) := by rw [List.getElem?_map, hd]; rfl
      obtain ⟨g1, g2⟩ := hgo i _ hdG
      refine .inr ⟨g1, _, fun H' w => ⟨l.length - (i + 1), by omega, rfl, hlt, w⟩, fun x H' y => ?_⟩
      obtain ⟨y1, y2⟩ := g2 x H' y
      have sH : Same H H' := ((s.trans s1).trans s2).trans y1
      obtain ⟨a, b, ed, t12⟩ := he _ H' (List.getElem_mem hlt) sH
      rw [ed] at y2
      refine g_tup2 y2 fun u v hu hv => ?_
      obtain ⟨t1, t2⟩ := t12 u v hu hv
      refine ⟨hj u v, t1 H' (Same.refl _) _ fun H3 s3 => ?_⟩
      have etk : l.take (i + 1) = l.take i ++ [l[i]] := by rw [List.take_succ, hd]; rfl
      have ha3 : H3 D = some (.lst acc) := s3 _ _ (y1 _ _ ha)
      have hacc3 := Dats.same (y1.trans s3) hacc
      cases hb : p l[i] with
      | true =>
        refine iteT (EvD.use (EvP.mono s3 (t2 hb)) (Same.refl _) fun u H4 s4 hu => ⟨acc, s4 _ _ ha3, ?_, ?_, acc ++ [u], upd_same, ?_⟩)
        · rw [← hacc.length, List.length_map]
          refine small1M ?_
          have := List.length_filter_le p (l.take i)
          rw [List.length_take] at this
          omega
        · intro b o e
          rw [upd_ne (ne_of_none e hD)]
          exact s4 _ _ (s3 _ _ (y1 _ _ (s2 _ _ e)))
        · have tk := tk_upd (o := HO.lst (acc ++ [u])) (s4 _ _ ha3)
          rw [etk, List.filter_append, List.map_append]
          have e1 : [l[i]].filter p = [l[i]] := by simp [hb]
          rw [e1]
          refine Dats.snoc (Dats.tk tk (nls_all fun z hz => ?_) (Dats.same s4 hacc3)) (Dat.tk tk (hn _ (List.getElem_mem hlt)) hu)
          obtain ⟨c, hc, rfl⟩ := List.mem_map.mp hz
          exact hn c (List.mem_of_mem_take (List.mem_filter.mp hc).1)
      | false =>
        refine iteF ⟨(s2.trans y1).trans s3, acc, ha3, ?_⟩
        rw [etk, List.filter_append, List.map_append]
        have e1 : [l[i]].filter p = [] := by simp [hb]
        rw [e1]
        simpa using hacc3
    · have e : i = l.length := by omega
      subst e
      refine .inl ⟨hst, q _ H2 (s1.trans s2) ⟨D, acc, rfl, SqL.of ha, ?_⟩⟩
      rw [List.take_length] at hacc
      exact hacc
end
/-! ### terms as data -/
def mpD (ws : List Nat) (ds : List D) : List D := List.zipWith (fun w d => D.tup [.int (w : Nat), d]) ws ds
def nodeD : Op → List D → D
  | .mean ws, ds => .tup [.str "mean", .tup (mpD ws ds)]
  | .least, ds => .tup [.str "least", .tup ds]
  | .greatest, ds => .tup [.str "greatest", .tup ds]
  | .ranked k, ds => .tup [.str "ranked", .int (k : Nat), .tup ds]
  | .between lo hi, ds => .tup (.str "between" :: fr lo :: fr hi :: ds)
mutual
def tD : Term → D
  | .bid p => .tup [.str "bid", .int (p : Nat)]
  | .fix q => .tup [.str "fixed", fr q]
  | .node o ts => nodeD o (tDs ts)
def tDs : List Term → List D
  | [] => []
  | t :: r => tD t :: tDs r
end
theorem tDs_map : ∀ ts : List Term, tDs ts = ts.map tD
  | [] => rfl
  | t :: r => by
    show tD t :: tDs r = _
    rw [tDs_map r]; rfl
theorem nls_mp : ∀ {ws : List Nat} {ds : List D}, nls ds = true → nls (mpD ws ds) = true
  | [], _, _ => by cases ‹List D› <;> rfl
  | _ :: _, [], _ => rfl
  | w :: ws, d :: ds, h => by
    have h : (nl d && nls ds) = true := h
    rw [Bool.and_eq_true] at h
    show ((true && (nl d && true)) && nls (mpD ws ds)) = true
    rw [h.1, nls_mp h.2]; rfl
theorem nl_node {o : Op} {ds : List D} (h : nls ds = true) : nl (nodeD o ds) = true := by
  cases o with
  | mean ws => show (true && (nls (mpD ws ds) && true)) = true; rw [nls_mp h]; rfl
  | least => show (true && (nls ds && true)) = true; rw [h]; rfl
  | greatest => show (true && (nls ds && true)) = true; rw [h]; rfl
  | ranked k => show (true && (true && (nls ds && true))) = true; rw [h]; rfl
  | between lo hi => show (true && (true && (true && nls ds))) = true; rw [h]; rfl
theorem nl_tD {P Dn : Nat} : ∀ {n : Nat} {t : Term}, Wf P Dn n t → nl (tD t) = true
  | 0, _, h => h.elim
  | _ + 1, .bid p, _ => rfl
  | _ + 1, .fix q, _ => rfl
  | n + 1, .node o ts, h => nl_node (by
    rw [tDs_map]
    exact nls_all fun d hd => by
      obtain ⟨t, ht, rfl⟩ := List.mem_map.mp hd
      exact nl_tD (h.2.2.2 t ht))
theorem mpD_mem : ∀ {ws : List Nat} {ts : List Term} {d : D}, d ∈ mpD ws (ts.map tD) → ∃ w t, w ∈ ws ∧ t ∈ ts ∧ d = .tup [.int (w : Nat), tD t]
  | [], ts, d, h => by cases ts <;> cases h
  | _ :: _, [], d, h => by cases h
  | w :: ws, t :: ts, d, h => by
    rcases List.mem_cons.mp h with e | h
    · exact ⟨w, t, List.mem_cons_self, List.mem_cons_self, e⟩
    · obtain ⟨w', t', h1, h2, h3⟩ := mpD_mem h
      exact ⟨w', t', List.mem_cons_of_mem _ h1, List.mem_cons_of_mem _ h2, h3⟩
theorem mpD_len {ws : List Nat} {ts : List Term} (h : ws.length = ts.length) : (mpD ws (ts.map tD)).length = ts.length := by
  unfold mpD
  rw [List.length_zipWith, List.length_map, h, Nat.min_self]
theorem mpD_zip (ws : List Nat) (ts : List Term) : mpD ws (ts.map tD) = (ws.zip ts).map fun p => D.tup [.int (p.1 : Nat), tD p.2] := by
  unfold mpD
  rw [List.zipWith_map_right, List.map_zip_eq_zipWith]
  rfl
def fstD : D → D
  | .tup (a :: _) => a
  | _ => .non
def sndD : D → D
  | .tup (_ :: b :: _) => b
  | _ => .non
theorem mpD_fst : ∀ {ws : List Nat} {ds : List D}, ws.length = ds.length → (mpD ws ds).map fstD = ws.map fun (w : Nat) => D.int (w : Int)
  | [], [], _ => rfl
  | w :: ws, d :: ds, h => by
    show D.int (w : Nat) :: (mpD ws ds).map fstD = _
    rw [mpD_fst (by simpa using h)]; rfl
theorem mpD_snd {F : D → D} : ∀ {ws : List Nat} {ds : List D}, ws.length = ds.length → (mpD ws ds).map (fun d => F (sndD d)) = ds.map F
  | [], [], _ => rfl
  | w :: ws, d :: ds, h => by
    show F d :: (mpD ws ds).map _ = _
    rw [mpD_snd (by simpa using h)]; rfl
/-! ### sizes of sums -/
def wpart (ws : List Nat) (xs : List Rat) (i : Nat) : Rat := ((ws.zip xs).take i).foldl (fun a p => a + (p.1 : Rat) * p.2) 0
theorem wpart_succ {ws : List Nat} {xs : List Rat} {i w : Nat} {x : Rat} (hw : ws[i]? = some w) (hx : xs[i]? = some x) : wpart ws xs (i + 1) = wpart ws xs i + (w : Rat) * x := by
  unfold wpart
  have : (ws.zip xs)[i]? = some (w, x) := by rw [List.getElem?_zip_eq_some]; exact ⟨hw, hx⟩
  rw [List.take_succ, this, List.foldl_append]
  rfl
theorem wpart_all {ws : List Nat} {xs : List Rat} {i : Nat} (h : xs.length ≤ i) : wpart ws xs i = wsum ws xs := by
  unfold wpart wsum
  rw [List.take_of_length_le (by rw [List.length_zip]; omega)]
theorem sz_nat {w : Nat} (h : w ≤ 99) : Sz 7 (w : Rat) := ⟨by rw [Rat.num_natCast]; show w < 2 ^ 7; omega, by rw [Rat.den_natCast]; decide⟩
theorem wpart_sz {ws : List Nat} {xs : List Rat} {n : Nat} (hw : ∀ w ∈ ws, 1 ≤ w ∧ w ≤ 99) (hx : SzL n xs) : ∀ i, Sz (1 + i * (n + 8)) (wpart ws xs i)
  | 0 => by
    show Sz (1 + 0 * (n + 8)) 0
    rw [Nat.zero_mul]
    exact ⟨by decide, by decide⟩
  | i + 1 => by
    have ih := wpart_sz hw hx i
    by_cases h : ∃ w x, ws[i]? = some w ∧ xs[i]? = some x
    · obtain ⟨w, x, h1, h2⟩ := h
      rw [wpart_succ h1 h2]
      have a := (sz_nat (hw w (List.mem_of_getElem? h1)).2).mul (hx x (List.mem_of_getElem? h2))
      exact (ih.add a).mono (by rw [Nat.succ_mul]; omega)
    · have e : wpart ws xs (i + 1) = wpart ws xs i := by
        unfold wpart
        have : (ws.zip xs).length ≤ i := by
          refine Classical.byContradiction fun hn => h ?_
          rw [List.length_zip] at hn
          exact ⟨_, _, List.getElem?_eq_getElem (by omega), List.getElem?_eq_getElem (by omega)⟩
        rw [List.take_of_length_le (by omega), List.take_of_length_le this]
      rw [e]
      exact ih.mono (by rw [Nat.succ_mul]; omega)
section
variable {K : PySem.W.Frag} {σ : L2.St} {H : Hp} {te ta tb : TE} {u v : V}
/-- zip of two lists of one length -/
theorem walks_zip {a b : Addr} {xs ys : List V} {ds es : List D} (h1 : SqL K H a xs) (h2 : SqL K H b ys) (d1 : Dats K H ds xs) (d2 : Dats K H es ys) (hl : ds.length = es.length) : Walks K (Itz K a b) H (List.zipWith (fun d e => D.tup [d, e]) ds es) := fun H2 s => by
  have g1 := s.seq h1
  have g2 := s.seq h2
  have q1 := Dats.same s d1
  have q2 := Dats.same s d2
  refine ⟨fun i d hi => ?_, xs, ys, g1, g2, .inl ?_⟩
  · rw [List.getElem?_zipWith_eq_some] at hi
    obtain ⟨c, e, hc, he, rfl⟩ := hi
    obtain ⟨x, hx, hxd⟩ := q1.get hc
    obtain ⟨y, hy, hyd⟩ := q2.get he
    refine ⟨⟨xs, ys, x, y, g1, g2, hx, hy⟩, fun z H' hz => ?_⟩
    obtain ⟨T, x', y', rfl, hT, rfl, f1, f2⟩ := hz
    have e1 := f1 xs g1
    have e2 := f2 ys g2
    rw [hx] at e1; rw [hy] at e2
    cases e1; cases e2
    exact ⟨same_upd hT, T, _, rfl, .inl (.inl upd_same), .cons (Dat.same (same_upd hT) hxd) (.cons (Dat.same (same_upd hT) hyd) .nil)⟩
  · rw [List.length_zipWith, ← q1.length]
    omega
theorem ei_zip {ds es : List D} (h : EvV ta σ H u) (h2 : EvV tb σ H v) (hd : Dat K H (.lst ds) u) (he : Dat K H (.lst es) v) (hl : ds.length = es.length) : EvI K (iZip K (tCons ta (tCons tb tNil))) σ H (List.zipWith (fun d e => D.tup [d, e]) ds es) := fun H0 s R r => by
  obtain ⟨a, xs, rfl, sq, hx⟩ := hd
  obtain ⟨b, ys, rfl, sq2, hy⟩ := he
  exact h H0 s _ (h2 H0 s _ ⟨a, b, xs, ys, rfl, s.seq sq, s.seq sq2, r _ H0 H (Same.refl _) (Same.refl _) s (fun p _ h => h) (walks_zip sq sq2 hx hy hl)⟩)
end
section
variable {P : Program} {w : World} {K : PySem.W.Frag} {mg : Str → Option Value} {base : Heap}
abbrev natsD (ws : List Nat) : List D := ws.map fun (w : Nat) => D.int (w : Int)
theorem sum_nats (ws : List Nat) : (ws.map fun (w : Nat) => (w : Int)).sum = ((ws.sum : Nat) : Int) := by
  induction ws with
  | nil => rfl
  | cons w r ih => rw [List.map_cons, List.sum_cons, List.sum_cons, ih, Int.natCast_add]
abbrev spMean (K : PySem.W.Frag) : Sp := spP K 2 fun ds post => ∃ (ws : List Nat) (xs : List Rat) (n : Nat), ws.length = xs.length ∧ xs ≠ [] ∧ xs.length ≤ 8 ∧ (∀ w ∈ ws, 1 ≤ w ∧ w ≤ 99) ∧ SzL n xs ∧ 8 * n + 100 ≤ LIM ∧ ds = [.lst (natsD ws), .lst (frs xs)] ∧ post = fun d => d = fr (opv (.mean ws) xs)
theorem fr_nat (w : Nat) : fr (w : Rat) = .tup [.int (w : Nat), .int 1] := rfl
theorem wsum_bound : ∀ {ws : List Nat}, (∀ w ∈ ws, 1 ≤ w ∧ w ≤ 99) → ws.sum ≤ 99 * ws.length
  | [], _ => by simp
  | w :: r, h => by
    have h1 := h w List.mem_cons_self
    have h2 := wsum_bound fun x hx => h x (List.mem_cons_of_mem _ hx)
    rw [List.sum_cons, List.length_cons]; omega
theorem ok_mean_of (W : Wd P K mg base) (F : Df K mg "mean_of" s_mean_of) (GM : C8.Cal P w K mg base 34 "made" (spP K 2 preMade) []) (GP : C8.Cal P w K mg base 35 "plus" (spPlus K) []) (GT : C8.Cal P w K mg base 35 "times" (spTimes K) []) : C8.Cal P w K mg base 36 "mean_of" (spMean K) [] := by
  obtain ⟨z, mz, hz⟩ := W.zero
  refine cal_of F sc_mean_of (fun _ _ _ _ _ _ us hl => match us, hl with | [_, _], _ => rfl) rfl fun f cdv A outer s H vs Q E ds post hr hp hd q => ?_
  obtain ⟨ws, xs, n, hl, hx0, h8, hw, sx, hn, rfl, rfl⟩ := hp
  obtain ⟨u, v, rfl, hu, hv⟩ := dats2 hd
  refine ⟨_, pss_cons (ps_set (i := 2) sc_mean_of.nd rfl (.inl rfl) (pe_glob (v := .ref z) (by rfl) mz rfl))
    (pss_cons (ps_for PassesOwn.never rfl (pi_zip (by rfl) W.zip (pa_cons (pv 0) (pa_cons (pv 1) pa_nil))) (pg_tup rfl (pgs_cons (pg_name (i := 3) sc_mean_of.nd rfl (.inl rfl)) (pgs_cons (pg_name (i := 4) sc_mean_of.nd rfl (.inl rfl)) pgs_nil)))
      (pss_one (ps_set (i := 2) sc_mean_of.nd rfl (.inl rfl) (C8.pe_c GP hr (by decide) (by rfl) (pa_cons (pv 2) (pa_cons (C8.pe_c GT hr (by decide) (by rfl) (pa_cons (pe_tup (pa_cons (pv 3) (pa_cons pe_int pa_nil))) (pa_cons (pv 4) pa_nil))) pa_nil))))))
    (pss_one (ps_ret (C8.pe_c GT hr (by decide) (by rfl) (pa_cons (pv 2) (pa_cons (C8.pe_c GM hr (by decide) (by rfl) (pa_cons pe_int (pa_cons (pe_callB (cr_sum rfl) (by rfl) W.sum b_sum (pa_cons (pv 0) pa_nil)) pa_nil))) pa_nil)))))), ?_⟩
  have lw : (natsD ws).length = (frs xs).length := by rw [List.length_map, frs_len, hl]
  refine q_setD (ed_c (d := fr 0) ⟨z, _, rfl, hz H, .cons rfl (.cons rfl .nil)⟩) (Same.refl _) fun t0 H1 s1 h0 => ?_
  refine q_forB (ei_zip (vv_var (i := 0) rfl) (vv_var (i := 1) rfl) (Dat.same s1 hu) (Dat.same s1 hv) lw) (Same.refl _) fun Hb H2 sb s2 _ sb2 => ?_
  refine ⟨fun i σ H' => ∃ t y3 y4, σ = [some u, some v, some t, y3, y4] ∧ Same Hb H' ∧ Same H H' ∧ Dat K H' (fr (wpart ws xs i)) t, ⟨t0, none, none, rfl, sb2, s1.trans s2, Dat.same s2 h0⟩, fun i σ H' ⟨_, _, _, _, h, _⟩ => h, ?_, ?_⟩
  · rintro i d x σ H3 H4 hi ⟨t, y3, y4, rfl, b1, b2, ht⟩ s4 hx
    rw [List.getElem?_zipWith_eq_some] at hi
    obtain ⟨c, e, hc, he, rfl⟩ := hi
    rw [List.getElem?_map, Option.map_eq_some_iff] at hc
    obtain ⟨wi, hwi, rfl⟩ := hc
    obtain ⟨xi, hxi, rfl⟩ := frs_get he
    refine g_tup2 hx fun a b ha hb => ?_
    have hil : i < xs.length := (List.getElem?_eq_some_iff.mp hxi).1
    have szw := sz_nat (hw wi (List.mem_of_getElem? hwi)).2
    have szx := sx xi (List.mem_of_getElem? hxi)
    have szp := szw.mul szx
    have szt := wpart_sz hw sx i
    have hin : i * (n + 8) ≤ 7 * (n + 8) := Nat.mul_le_mul_right _ (by omega)
    refine q_set1 (ed_bin (n := 8 * n + 100) (ed_var rfl (Dat.same s4 ht)) (ed_bin (n := n + 7) (x := (wi : Rat)) (ed_tup (ea_cons (ed_var (d := .int (wi : Nat)) rfl ha) (ea_cons ed_int ea_nil))) (ed_var rfl hb) (szw.mono (by omega)) (szx.mono (by omega)) (by omega) trivial) (szt.mono (by omega)) (szp.mono (by omega)) hn trivial) (Same.refl _) fun t' H5 s5 ht' => ?_
    refine ⟨t', some a, some b, rfl, (b1.trans s4).trans s5, (b2.trans s4).trans s5, ?_⟩
    rw [wpart_succ hwi hxi]
    exact ht'
  · rintro σ H3 ⟨t, y3, y4, rfl, b1, b2, ht⟩
    rw [List.length_zipWith, lw, frs_len, Nat.min_self, wpart_all (Nat.le_refl _)] at ht
    have hS : 0 < ws.sum := sum_pos (fun e => hx0 (by rw [e] at hl; exact List.length_eq_zero_iff.mp hl.symm)) hw
    have hS2 := wsum_bound hw
    have szt : Sz (8 * n + 100) (wsum ws xs) := (wpart_all (ws := ws) (xs := xs) (Nat.le_refl _)) ▸ (wpart_sz hw sx xs.length).mono (by
      have : xs.length * (n + 8) ≤ 8 * (n + 8) := Nat.mul_le_mul_right _ h8
      omega)
    have szd : Sz 10 (Rat.divInt 1 (ws.sum : Nat)) := Sz.of_divInt (by omega) (by decide) (by show ws.sum < 2 ^ 10; omega)
    have esum : EvD K (tCB (rSum K) (tCons (tVar 0) tNil)) [some u, some v, some t, y3, y4] H3 (.int ((ws.sum : Nat) : Int)) := (ed_sum (ns := ws.map fun (w : Nat) => (w : Int)) (by rw [List.map_map]; exact ed_var rfl (Dat.same b2 hu))).to (by rw [sum_nats])
    refine q_retD (ed_bin (n := 8 * n + 100) (ed_var rfl ht) (ed_call (d := fr (Rat.divInt 1 (ws.sum : Nat))) (ea_cons ed_int (ea_cons esum ea_nil)) ⟨1, _, by omega, rfl, rfl⟩ rfl) szt (szd.mono (by omega)) hn trivial) (Same.refl _) fun r H4 s4 h4 => q r H4 _ (b2.trans s4) rfl h4
abbrev spRanked (K : PySem.W.Frag) : Sp := spP K 2 fun ds post => ∃ (k n : Nat) (xs : List Rat), 1 ≤ k ∧ k ≤ xs.length ∧ xs.length ≤ 900000 ∧ SzL n xs ∧ n ≤ LIM ∧ ds = [.int (k : Nat), .lst (frs xs)] ∧ post = fun d => d = fr (rk xs (xs.length - k))
theorem ok_ranked_of (W : Wd P K mg base) (F : Df K mg "ranked_of" s_ranked_of) (G : C8.Cal P w K mg base 36 "ascending" (spAsc K) []) : C8.Cal P w K mg base 37 "ranked_of" (spRanked K) [] := by
  refine cal_of F sc_ranked_of (fun _ _ _ _ _ _ us hl => match us, hl with | [_, _], _ => rfl) rfl fun f cdv A outer s H vs Q E ds post hr hp hd q => ?_
  obtain ⟨k, n, xs, k1, k2, hz, sx, hn, rfl, rfl⟩ := hp
  obtain ⟨u, v, rfl, hu, hv⟩ := dats2 hd
  refine ⟨_, pss_one (ps_ret (pe_ix ix_list (C8.pe_c G hr (by decide) (by rfl) (pa_cons (pv 1) pa_nil)) (pe_op op_sub (pe_callB call_len_seq (by rfl) W.len b_len (pa_cons (pv 1) pa_nil)) (pv 0)) (fun _ _ => rfl))), ?_⟩
  refine q_retD (ed_ixL (ed_call (ea_cons (ed_var rfl hv) ea_nil) ⟨xs, n, hz, sx, hn, rfl, rfl⟩ rfl) (ed_sub (ed_lenL (ed_var rfl hv)) (ed_var rfl hu)) ?_) (Same.refl _) fun r H1 s1 h1 => q r H1 _ s1 rfl h1
  rw [frs_len, show ((xs.length : Int) - (k : Nat)) = ((xs.length - k : Nat) : Int) by omega]
  exact atI_frs (rk_get (by omega))
/-! ### value_of -/
theorem vv_neg1 {σ : L2.St} {H : Hp} : EvV (tUn (rU fun i => .int (-i)) (tC (.int 1))) σ H (.int (-1)) := fun H0 s Q q => ⟨1, rfl, q⟩
theorem pg_tupK {X : Cx} {es : List Expr} {k n : Nat} {t : TGs} {pos : Pos} (h : X.K = K) (hc : X.calm = true) (hP : PGs X es t) (hn : (assignEach es X.env).length = n := by rfl) (hst : (assignEach es X.env).findIdx? (·.1) = none := by rfl) :
    PG X (.Tuple es k pos) (gTup K n t) := h ▸ pg_tup hc hP hn hst
def bN (bs : List Rat) (p : Nat) : Rat := bs.getD p 0
theorem bN_get {bs : List Rat} {p : Nat} (h : p < bs.length) : bs[p]? = some (bN bs p) := by
  unfold bN
  rw [List.getD_eq_getElem?_getD, List.getElem?_eq_getElem h]; rfl
theorem bN_mem {bs : List Rat} {p : Nat} (h : p < bs.length) : bN bs p ∈ bs := List.mem_of_getElem? (bN_get h)
def MX : Nat := 1000000
abbrev preVal (d : Nat) : List D → (D → Prop) → Prop := fun ds post => ∃ (t : Term) (bs : List Rat) (Dn m : Nat), Wf bs.length Dn d t ∧ (∀ x ∈ bs, Nm Dn x) ∧ 0 < Dn ∧ Dn * wp t < 2 ^ m ∧ m ≤ MX ∧ ds = [tD t, .tup (frs bs)] ∧ post = fun e => e = fr (val (bN bs) t)
theorem wp_le {P Dn n : Nat} {o : Op} {ts : List Term} (h : Wf P Dn (n + 1) (.node o ts)) {t : Term} (ht : t ∈ ts) : wp t ≤ wp (.node o ts) := by
  rw [wp_node]
  have h1 := Nat.le_of_dvd (wps_pos h.2.2.2) (wp_dvd ht)
  exact Nat.le_trans h1 (Nat.le_mul_of_pos_left _ (oww_pos h.2.2.1 (ts_pos h.1)))
theorem et_word {K : PySem.W.Frag} {σ : L2.St} {H : Hp} {i : Nat} {a b : Str} {c : Bool} (e : σ[i]? = some (some (.str a))) (h : decide (a = b) = c) : EvT (tTest (tOp rEq (tVar i) (tC (.str b)))) σ H c :=
  (et_test (K := K) (ed_eqS (ed_var e rfl) ed_str)).to h
theorem node_word (o : Op) (ds : List D) : ∃ r, nodeD o ds = .tup (.str (match o with | .mean _ => "mean" | .least => "least" | .greatest => "greatest" | .ranked _ => "ranked" | .between _ _ => "between") :: r) := by
  cases o <;> exact ⟨_, rfl⟩
theorem atI_neg1 {α : Type} (xs : List α) (v : α) : atI (xs ++ [v]) (-1) = some v := atI_last xs v
theorem ok_value_of (W : Wd P K mg base) (F : Df K mg "value_of" s_value_of) (G_mean_of : C8.Cal P w K mg base 36 "mean_of" (spMean K) []) (G_middle : C8.Cal P w K mg base 37 "middle" (spMiddle K) []) (G_ranked_of : C8.Cal P w K mg base 37 "ranked_of" (spRanked K) [])
    (G_least_of : C8.Cal P w K mg base 36 "least_of" (spLeast K) []) (G_greatest_of : C8.Cal P w K mg base 36 "greatest_of" (spGreatest K) []) : ∀ d, C8.Cal P w K mg base (38 + d) "value_of" (spP K 2 (preVal d)) []
  | 0 => by
    refine cal_of F sc_value_of (fun _ _ _ _ _ _ us hl => match us, hl with | [_, _], _ => rfl) rfl fun f cdv A outer s H vs Q E ds post hr hp hd q => ?_
    obtain ⟨t, bs, Dn, m, h, _⟩ := hp
    exact h.elim
  | d + 1 => by
    have G := ok_value_of W F G_mean_of G_middle G_ranked_of G_least_of G_greatest_of d
    refine cal_of F sc_value_of (fun _ _ _ _ _ _ us hl => match us, hl with | [_, _], _ => rfl) rfl fun f cdv A outer s H vs Q E ds post hr hp hd q => ?_
    obtain ⟨t, bs, Dn, m, hw, hb, hD, hm, hmx, rfl, rfl⟩ := hp
    obtain ⟨u, v, rfl, hu, hv⟩ := dats2 hd
    have hr : Room (38 + d) (A.deeper (envOfC "value_of" (defScope s_value_of) s.heap.objs.size f cdv)) := hr
    have G_value_of := G
    refine ⟨_, (pss_cons (ps_set (i := 2) sc_value_of.nd rfl (.inl rfl) (pe_ix ix_tup (pv 0) pe_int (fun _ _ => rfl)))
    (pss_cons (ps_if (pt_cmpR op_eq (pv 2) pe_str (nomark _)) (pss_one (ps_ret (pe_ix ix_tup (pv 1) (pe_ix ix_tup (pv 0) pe_int (fun _ _ => rfl)) (fun _ _ => rfl)))) pss_nil)
    (pss_cons (ps_if (pt_cmpR op_eq (pv 2) pe_str (nomark _)) (pss_one (ps_ret (pe_ix ix_tup (pv 0) pe_int (fun _ _ => rfl)))) pss_nil)
    (pss_cons (ps_if (pt_cmpR op_eq (pv 2) pe_str (nomark _)) (pss_one (ps_ret (C8.pe_c G_mean_of hr (by omega) (by rfl) (pa_cons (pe_lc (own := [("weight", 5), ("part", 4)]) (g := gTup K 2 (gCons (gName 5) (gCons (gName 4) gNil))) (tt := tYes) rfl sc_value_of.nd (pi_tup (pe_ix ix_tup (pv 0) pe_int (fun _ _ => rfl))) (blkOk_by (N := n_value_of) (sc := defScope s_value_of) (by decide +kernel)) (fun _ _ _ _ _ => (pg_tupK rfl rfl (pgs_cons (pg_name (i := 5) sc_value_of.nd rfl (Or.inl rfl)) (pgs_cons (pg_name (i := 4) sc_value_of.nd rfl (Or.inl rfl)) pgs_nil)))) (fun _ _ _ _ _ => pts_nil) (fun _ _ _ _ _ => (pv 5))) (pa_cons (pe_lc (own := [("weight", 5), ("part", 4)]) (g := gTup K 2 (gCons (gName 5) (gCons (gName 4) gNil))) (tt := tYes) rfl sc_value_of.nd (pi_tup (pe_ix ix_tup (pv 0) pe_int (fun _ _ => rfl))) (blkOk_by (N := n_value_of) (sc := defScope s_value_of) (by decide +kernel)) (fun _ _ _ _ _ => (pg_tupK rfl rfl (pgs_cons (pg_name (i := 5) sc_value_of.nd rfl (Or.inl rfl)) (pgs_cons (pg_name (i := 4) sc_value_of.nd rfl (Or.inl rfl)) pgs_nil)))) (fun _ _ _ _ _ => pts_nil) (fun _ _ _ _ _ => (C8.pe_c G_value_of hr (by omega) (by rfl) (pa_cons (pv 4) (pa_cons (pv 1) pa_nil))))) pa_nil))))) pss_nil)
    (pss_cons (ps_if (pt_cmpR op_eq (pv 2) pe_str (nomark _)) (pss_one (ps_ret (C8.pe_c G_middle hr (by omega) (by rfl) (pa_cons (pe_ix ix_tup (pv 0) pe_int (fun _ _ => rfl)) (pa_cons (pe_ix ix_tup (pv 0) pe_int (fun _ _ => rfl)) (pa_cons (C8.pe_c G_value_of hr (by omega) (by rfl) (pa_cons (pe_ix ix_tup (pv 0) pe_int (fun _ _ => rfl)) (pa_cons (pv 1) pa_nil))) pa_nil)))))) pss_nil)
    (pss_cons (ps_setLc (i := 3) (own := [("part", 4)]) (g := gName 4) (tt := tYes) (by rfl) sc_value_of.nd rfl rfl (sw_true rfl rfl rfl (by decide +kernel)) (pi_tup (pe_ix ix_tup (pv 0) (pe_un un_neg pe_int) (fun _ _ => rfl))) (blkOk_by (N := n_value_of) (sc := defScope s_value_of) (by decide +kernel)) (fun _ _ _ _ _ => (pg_name (i := 4) sc_value_of.nd rfl (Or.inl rfl))) (fun _ _ _ _ _ => pts_nil) (fun _ _ _ _ _ => (C8.pe_c G_value_of hr (by omega) (by rfl) (pa_cons (pv 4) (pa_cons (pv 1) pa_nil)))))
    (pss_cons (ps_if (pt_cmpR op_eq (pv 2) pe_str (nomark _)) (pss_one (ps_ret (C8.pe_c G_ranked_of hr (by omega) (by rfl) (pa_cons (pe_ix ix_tup (pv 0) pe_int (fun _ _ => rfl)) (pa_cons (pv 3) pa_nil))))) pss_nil)
    (pss_one (ps_ret (pe_ifExp (pt_cmpR op_eq (pv 2) pe_str (nomark _)) (C8.pe_c G_least_of hr (by omega) (by rfl) (pa_cons (pv 3) pa_nil)) (C8.pe_c G_greatest_of hr (by omega) (by rfl) (pa_cons (pv 3) pa_nil)))))))))))), ?_⟩
    cases t with
    | bid p =>
      have hp : p < bs.length := hw
      refine q_setD (d := .str "bid") (ed_ixT (ed_var rfl hu) ed_int rfl) (Same.refl _) fun x H1 s1 hx => ?_
      obtain rfl : x = .str "bid" := hx
      refine q_if (b := true) (et_word (K := K) rfl (by decide +kernel)) (Same.refl _) (fun _ H2 s2 => ?_) (fun e => nomatch e)
      exact q_retD (ed_ixT (ed_var rfl (Dat.same (s1.trans s2) hv)) (ed_ixT (d := .int (p : Nat)) (ed_var rfl (Dat.same (s1.trans s2) hu)) ed_int rfl) (atI_frs (bN_get hp))) (Same.refl _) fun r H3 s3 h3 => q r H3 _ ((s1.trans s2).trans s3) rfl h3
    | fix z =>
      refine q_setD (d := .str "fixed") (ed_ixT (ed_var rfl hu) ed_int rfl) (Same.refl _) fun x H1 s1 hx => ?_
      obtain rfl : x = .str "fixed" := hx
      refine q_if (b := false) (et_word (K := K) rfl (by decide +kernel)) (Same.refl _) (fun e => nomatch e) fun _ H2 s2 => ?_
      refine q_if (b := true) (et_word (K := K) rfl (by decide +kernel)) (Same.refl _) (fun _ H3 s3 => ?_) (fun e => nomatch e)
      exact q_retD (ed_ixT (d := fr z) (ed_var rfl (Dat.same ((s1.trans s2).trans s3) hu)) ed_int rfl) (Same.refl _) fun r H4 s4 h4 => q r H4 _ (((s1.trans s2).trans s3).trans s4) rfl h4
    | node o ts =>
      have hts := hw.2.2.2
      have hl8 := hw.2.1
      have hne := hw.1
      -- a part's number
      have part : ∀ (t' : Term), t' ∈ ts → ∀ {σ' : L2.St} {H' : Hp} {ta tb : TE}, EvD K ta σ' H' (tD t') → EvD K tb σ' H' (.tup (frs bs)) → ∀ E', EvD K (tCall (spP K 2 (preVal d)) [] E' (tCons ta (tCons tb tNil))) σ' H' (fr (val (bN bs) t')) := fun t' ht' σ' H' ta tb ha hb' E' =>
        ed_call (ea_cons ha (ea_cons hb' ea_nil)) ⟨t', bs, Dn, m, hts t' ht', hb, hD, Nat.lt_of_le_of_lt (Nat.mul_le_mul_left _ (wp_le hw ht')) hm, hmx, rfl, rfl⟩ rfl
      have szv : SzL m (ts.map (val (bN bs))) := fun x hx => by
        obtain ⟨t', ht', rfl⟩ := List.mem_map.mp hx
        exact (val_nm hD (fun p hp => hb _ (bN_mem hp)) (hts t' ht')).sz (Nat.mul_pos hD (wp_pos (hts t' ht'))) (Nat.lt_of_le_of_lt (Nat.mul_le_mul_left _ (wp_le hw ht')) hm)
      -- the parts' numbers, in order
      have nums : ∀ {σ' : L2.St} {H' : Hp} {wi : TI} {E' : XK}, σ' = [some u, some v, σ'.getD 2 none, σ'.getD 3 none, none, none] → Same H H' → EvI K wi σ' H' (ts.map tD) → EvD K (tLc wi (gName 4) tYes (tCall (spP K 2 (preVal d)) [] E' (tCons (tVar 4) (tCons (tVar 1) tNil))) [4]) σ' H' (.lst (frs (ts.map (val (bN bs))))) := fun {σ' H' wi E'} e sh hI => by
        rw [e] at hI ⊢
        refine ed_lcA (l := ts) (G := tD) (F := fun t' => fr (val (bN bs) t')) (p := fun _ => true) hI (fun x => rfl) (fun t' _ => rfl) (by omega) (fun t' x H1 ht' s1 hx => ⟨et_yes, fun _ => part t' ht' (ed_var rfl hx) (ed_var rfl (Dat.same (sh.trans s1) hv)) _⟩) ?_
        rw [filt_true]
        unfold frs
        rw [List.map_map]; rfl
      have lv : (ts.map (val (bN bs))).length = ts.length := List.length_map _
      have vne : ts.map (val (bN bs)) ≠ [] := fun e => hne (List.map_eq_nil_iff.mp e)
      have hw3 := hw.2.2.1
      rw [val_node] at q
      cases o with
      | mean ws =>
        refine q_setD (d := .str "mean") (ed_ixT (ed_var rfl hu) ed_int rfl) (Same.refl _) fun x H1 s1 hx => ?_
        obtain rfl : x = .str "mean" := hx
        refine q_if (b := false) (et_word (K := K) rfl (by decide +kernel)) (Same.refl _) (fun e => nomatch e) fun _ H2 s2 => ?_
        refine q_if (b := false) (et_word (K := K) rfl (by decide +kernel)) (Same.refl _) (fun e => nomatch e) fun _ H3 s3 => ?_
        refine q_if (b := true) (et_word (K := K) rfl (by decide +kernel)) (Same.refl _) (fun _ H4 s4 => ?_) (fun e => nomatch e)
        have s04 := ((s1.trans s2).trans s3).trans s4
        have hz : (ws.zip ts).length ≤ 1000000 := by rw [List.length_zip]; omega
        have hu4 : Dat K H4 (.tup [.str "mean", .tup ((ws.zip ts).map fun p => D.tup [.int (p.1 : Nat), tD p.2])]) u := by
          rw [← mpD_zip, ← tDs_map]
          exact Dat.same s04 hu
        have its : ∀ {H5 : Hp}, Same H4 H5 → EvI K (iTup K (tOp (rIxT K) (tVar 0) (tC (.int 1)))) [some u, some v, some (.str "mean"), none, none, none] H5 ((ws.zip ts).map fun p => D.tup [.int (p.1 : Nat), tD p.2]) := fun s5 => by
          obtain ⟨y, hy, vy⟩ := vv_ixT (K := K) (ta := tVar 0) (tb := tC (.int 1)) (σ := [some u, some v, some (.str "mean"), none, none, none]) (i := 1) (vv_var rfl) (Dat.same s5 hu4) vv_c rfl
          exact ei_tup vy hy
        refine q_retD (ed_call (d := fr (opv (.mean ws) (ts.map (val (bN bs))))) (ea_cons
          (ed_lcA2 (l := ws.zip ts) (G := fun p => .tup [.int (p.1 : Nat), tD p.2]) (F := fun p => .int (p.1 : Nat)) (p := fun _ => true) (outs := natsD ws) (its (Same.refl _)) (fun _ _ => rfl) (fun _ _ => rfl) hz (fun p H5 hp s5 => ⟨_, _, rfl, fun x y hx hy => ⟨et_yes, fun _ => ed_var rfl hx⟩⟩) ?_)
          (ea_cons (ed_lcA2 (l := ws.zip ts) (G := fun p => .tup [.int (p.1 : Nat), tD p.2]) (F := fun p => fr (val (bN bs) p.2)) (p := fun _ => true) (outs := frs (ts.map (val (bN bs)))) (its (Same.refl _)) (fun _ _ => rfl) (fun _ _ => rfl) hz (fun p H5 hp s5 => ⟨_, _, rfl, fun x y hx hy => ⟨et_yes, fun _ => part p.2 (List.of_mem_zip hp).2 (ed_var rfl hy) (ed_var rfl (Dat.same (s04.trans s5) hv)) _⟩⟩) ?_) ea_nil))
          ⟨ws, ts.map (val (bN bs)), m, by rw [lv]; exact hw3.1, vne, by rw [lv]; exact hl8, hw3.2, szv, by unfold MX at hmx; unfold LIM; omega, rfl, rfl⟩ rfl) (Same.refl _) fun r H5 s5 h5 => q r H5 _ (s04.trans s5) rfl h5
        · rw [filt_true]
          have := List.map_fst_zip (l₁ := ws) (l₂ := ts) (by rw [hw3.1]; exact Nat.le_refl _)
          conv => lhs; rw [← this]
          unfold natsD
          rw [List.map_map]; rfl
        · rw [filt_true]
          have := List.map_snd_zip (l₁ := ws) (l₂ := ts) (by rw [hw3.1]; exact Nat.le_refl _)
          conv => lhs; rw [← this]
          unfold frs
          rw [List.map_map, List.map_map]; rfl
      | between lo hi =>
        obtain ⟨t0, rfl⟩ : ∃ t0, ts = [t0] := List.length_eq_one_iff.mp hw3.1
        refine q_setD (d := .str "between") (ed_ixT (ed_var rfl hu) ed_int rfl) (Same.refl _) fun x H1 s1 hx => ?_
        obtain rfl : x = .str "between" := hx
        refine q_if (b := false) (et_word (K := K) rfl (by decide +kernel)) (Same.refl _) (fun e => nomatch e) fun _ H2 s2 => ?_
        refine q_if (b := false) (et_word (K := K) rfl (by decide +kernel)) (Same.refl _) (fun e => nomatch e) fun _ H3 s3 => ?_
        refine q_if (b := false) (et_word (K := K) rfl (by decide +kernel)) (Same.refl _) (fun e => nomatch e) fun _ H4 s4 => ?_
        refine q_if (b := true) (et_word (K := K) rfl (by decide +kernel)) (Same.refl _) (fun _ H5 s5 => ?_) (fun e => nomatch e)
        have s05 := (((s1.trans s2).trans s3).trans s4).trans s5
        have hu5 : Dat K H5 (.tup [.str "between", fr lo, fr hi, tD t0]) u := Dat.same s05 hu
        have szb : ∀ {z : Rat}, Nm Dn z → Sz m z := fun hz => hz.sz hD (Nat.lt_of_le_of_lt (Nat.le_mul_of_pos_right _ (wp_pos hw)) hm)
        exact q_retD (ed_call (d := fr (rk [lo, hi, val (bN bs) t0] 1)) (ea_cons (ed_ixT (ed_var rfl hu5) ed_int rfl) (ea_cons (ed_ixT (ed_var rfl hu5) ed_int rfl) (ea_cons (part t0 (by simp) (ed_ixT (ed_var rfl hu5) ed_int rfl) (ed_var rfl (Dat.same s05 hv)) _) ea_nil)))
          ⟨lo, hi, val (bN bs) t0, m, szb hw3.2.1, szb hw3.2.2.1, szv _ (by simp), by unfold MX at hmx; unfold LIM; omega, rfl, rfl⟩ rfl) (Same.refl _) fun r H6 s6 h6 => q r H6 _ (s05.trans s6) rfl h6
      | least =>
        refine q_setD (d := .str "least") (ed_ixT (ed_var rfl hu) ed_int rfl) (Same.refl _) fun x H1 s1 hx => ?_
        obtain rfl : x = .str "least" := hx
        refine q_if (b := false) (et_word (K := K) rfl (by decide +kernel)) (Same.refl _) (fun e => nomatch e) fun _ H2 s2 => ?_
        refine q_if (b := false) (et_word (K := K) rfl (by decide +kernel)) (Same.refl _) (fun e => nomatch e) fun _ H3 s3 => ?_
        refine q_if (b := false) (et_word (K := K) rfl (by decide +kernel)) (Same.refl _) (fun e => nomatch e) fun _ H4 s4 => ?_
        refine q_if (b := false) (et_word (K := K) rfl (by decide +kernel)) (Same.refl _) (fun e => nomatch e) fun _ H5 s5 => ?_
        have s05 := (((s1.trans s2).trans s3).trans s4).trans s5
        have hu5 : Dat K H5 (.tup [.str "least", .tup (ts.map tD)]) u := by rw [← tDs_map]; exact Dat.same s05 hu
        obtain ⟨y, hy, vy⟩ := vv_ixT (K := K) (ta := tVar 0) (tb := tUn (rU fun i => .int (-i)) (tC (.int 1))) (σ := [some u, some v, some (.str "least"), none, none, none]) (i := -1) (vv_var rfl) hu5 vv_neg1 rfl
        refine q_setD (nums rfl s05 (ei_tup vy hy)) (Same.refl _) fun y2 H6 s6 hy2 => ?_
        refine q_if (b := false) (et_word (K := K) rfl (by decide +kernel)) (Same.refl _) (fun e => nomatch e) fun _ H7 s7 => ?_
        exact q_retD (ed_ifE (b := true) (et_word (K := K) rfl (by decide +kernel)) (fun _ => ed_call (ea_cons (ed_var rfl (Dat.same s7 hy2)) ea_nil) ⟨ts.map (val (bN bs)), m, vne, by rw [lv]; omega, szv, by unfold MX at hmx; unfold LIM; omega, rfl, rfl⟩ rfl) (fun e => nomatch e)) (Same.refl _) fun r H8 s8 h8 => q r H8 _ (((s05.trans s6).trans s7).trans s8) rfl h8
      | greatest =>
        refine q_setD (d := .str "greatest") (ed_ixT (ed_var rfl hu) ed_int rfl) (Same.refl _) fun x H1 s1 hx => ?_
        obtain rfl : x = .str "greatest" := hx
        refine q_if (b := false) (et_word (K := K) rfl (by decide +kernel)) (Same.refl _) (fun e => nomatch e) fun _ H2 s2 => ?_
        refine q_if (b := false) (et_word (K := K) rfl (by decide +kernel)) (Same.refl _) (fun e => nomatch e) fun _ H3 s3 => ?_
        refine q_if (b := false) (et_word (K := K) rfl (by decide +kernel)) (Same.refl _) (fun e => nomatch e) fun _ H4 s4 => ?_
        refine q_if (b := false) (et_word (K := K) rfl (by decide +kernel)) (Same.refl _) (fun e => nomatch e) fun _ H5 s5 => ?_
        have s05 := (((s1.trans s2).trans s3).trans s4).trans s5
        have hu5 : Dat K H5 (.tup [.str "greatest", .tup (ts.map tD)]) u := by rw [← tDs_map]; exact Dat.same s05 hu
        obtain ⟨y, hy, vy⟩ := vv_ixT (K := K) (ta := tVar 0) (tb := tUn (rU fun i => .int (-i)) (tC (.int 1))) (σ := [some u, some v, some (.str "greatest"), none, none, none]) (i := -1) (vv_var rfl) hu5 vv_neg1 rfl
        refine q_setD (nums rfl s05 (ei_tup vy hy)) (Same.refl _) fun y2 H6 s6 hy2 => ?_
        refine q_if (b := false) (et_word (K := K) rfl (by decide +kernel)) (Same.refl _) (fun e => nomatch e) fun _ H7 s7 => ?_
        exact q_retD (ed_ifE (b := false) (et_word (K := K) rfl (by decide +kernel)) (fun e => nomatch e) (fun _ => ed_call (ea_cons (ed_var rfl (Dat.same s7 hy2)) ea_nil) ⟨ts.map (val (bN bs)), m, vne, by rw [lv]; omega, szv, by unfold MX at hmx; unfold LIM; omega, rfl, rfl⟩ rfl)) (Same.refl _) fun r H8 s8 h8 => q r H8 _ (((s05.trans s6).trans s7).trans s8) rfl h8
      | ranked k =>
        refine q_setD (d := .str "ranked") (ed_ixT (ed_var rfl hu) ed_int rfl) (Same.refl _) fun x H1 s1 hx => ?_
        obtain rfl : x = .str "ranked" := hx
        refine q_if (b := false) (et_word (K := K) rfl (by decide +kernel)) (Same.refl _) (fun e => nomatch e) fun _ H2 s2 => ?_
        refine q_if (b := false) (et_word (K := K) rfl (by decide +kernel)) (Same.refl _) (fun e => nomatch e) fun _ H3 s3 => ?_
        refine q_if (b := false) (et_word (K := K) rfl (by decide +kernel)) (Same.refl _) (fun e => nomatch e) fun _ H4 s4 => ?_
        refine q_if (b := false) (et_word (K := K) rfl (by decide +kernel)) (Same.refl _) (fun e => nomatch e) fun _ H5 s5 => ?_
        have s05 := (((s1.trans s2).trans s3).trans s4).trans s5
        have hu5 : Dat K H5 (.tup [.str "ranked", .int (k : Nat), .tup (ts.map tD)]) u := by rw [← tDs_map]; exact Dat.same s05 hu
        obtain ⟨y, hy, vy⟩ := vv_ixT (K := K) (ta := tVar 0) (tb := tUn (rU fun i => .int (-i)) (tC (.int 1))) (σ := [some u, some v, some (.str "ranked"), none, none, none]) (i := -1) (vv_var rfl) hu5 vv_neg1 rfl
        refine q_setD (nums rfl s05 (ei_tup vy hy)) (Same.refl _) fun y2 H6 s6 hy2 => ?_
        refine q_if (b := true) (et_word (K := K) rfl (by decide +kernel)) (Same.refl _) (fun _ H7 s7 => ?_) (fun e => nomatch e)
        exact q_retD (ed_call (ea_cons (ed_ixT (d := .int (k : Nat)) (ed_var rfl (Dat.same (s6.trans s7) hu5)) ed_int rfl) (ea_cons (ed_var rfl (Dat.same s7 hy2)) ea_nil)) ⟨k, m, ts.map (val (bN bs)), hw3.1, by rw [lv]; exact hw3.2, by rw [lv]; omega, szv, by unfold MX at hmx; unfold LIM; omega, rfl, rfl⟩ rfl) (Same.refl _) fun r H8 s8 h8 => q r H8 _ (((s05.trans s6).trans s7).trans s8) rfl h8
end
end Cb
set_option Elab.async false
set_option linter.all false
set_option maxRecDepth 100000
set_option maxHeartbeats 4000000
/-! own rules: dicts whose keys are tuples, tracked or of the kit's part -/
namespace Cb
open PySem PySem.Spec PyProof.Rows L2
abbrev KK := List Key
abbrev tupK (P : Program) (w : World) : HeapKind P w KK := tupleKind (mixKind P w)
/-- the object itself -/
abbrev obO (a : Addr) (o : Obj) : HO := .ext fun h => h.get? a = some o
theorem obO_ok {P : Program} {w : World} {H : Hp} {h : Heap} {a : Addr} {o : Obj} (e : h.get? a = some o) : ObjOk P w H h a (obO a o) := ⟨e, ⟨o, e⟩, fun _ _ q k => k _ q⟩
def EntR (p : KK × Addr × V) (q : KK × Addr × Value) : Prop := p.1 = q.1 ∧ p.2.1 = q.2.1 ∧ RelV p.2.2 q.2.2
/-- the dict at a: its keys, where they stand, its values, in order -/
structure TdO (P : Program) (w : World) (a : Addr) (xs : List (KK × Addr × V)) (o : Obj) (es : List (KK × Addr × Value)) : Prop where
  lo : (a == sysModules) = false
  ex : o.ExactDict
  dt : ∃ ea ep, o.data = .dict ea ep ∧ ea.toList = es.map (entryOfKey (tupK P w))
  rel : Paired EntR xs es
  nd : (xs.map (·.1)).Nodup
  sz : xs.length ≤ sizeLine
def KAll (K : PySem.W.Frag) (H : Hp) (xs : List (KK × Addr × V)) : Prop := ∀ p ∈ xs, SqT K H p.2.1 (p.1.map kV)
structure Td (P : Program) (w : World) (K : PySem.W.Frag) (H : Hp) (a : Addr) (xs : List (KK × Addr × V)) : Prop where
  ob : ∃ o es, H a = some (obO a o) ∧ TdO P w a xs o es
  ks : KAll K H xs
theorem Td.same {P : Program} {w : World} {K : PySem.W.Frag} {H H' : Hp} {a : Addr} {xs : List (KK × Addr × V)} (d : Td P w K H a xs) (s : Same H H') : Td P w K H' a xs := by
  obtain ⟨⟨o, es, e, t⟩, k⟩ := d
  exact ⟨⟨o, es, s _ _ e, t⟩, fun p hp => sqT_same s (k p hp)⟩
theorem tk_updX {H : Hp} {p : Addr} {φ : Heap → Prop} {o : HO} (h : H p = some (.ext φ)) : Tk H (upd H p o) := fun a u r => by
  have ne : a ≠ p := fun e => by
    subst e
    rcases r with r | ⟨ob, r⟩
    · rw [h] at r; cases r
    · rw [h] at r; cases r
  rcases r with r | ⟨ob, r⟩
  · exact .inl (by rw [upd_ne ne]; exact r)
  · exact .inr ⟨ob, by rw [upd_ne ne]; exact r⟩
theorem sqT_tk {K : PySem.W.Frag} {H H' : Hp} {a : Addr} {xs : List V} (t : Tk H H') (h : SqT K H a xs) : SqT K H' a xs := h.elim (fun r => .inl (t a xs r)) .inr
/-- stored, in its place or at the end -/
def putT (xs : List (KK × Addr × V)) (k : KK) (b : Addr) (v : V) : List (KK × Addr × V) :=
  if (xs.any fun p => decide (p.1 = k)) = true then xs.map (fun p => if p.1 = k then (p.1, p.2.1, v) else p) else xs ++ [(k, b, v)]
theorem entR_any {k : KK} : ∀ {xs : List (KK × Addr × V)} {es : List (KK × Addr × Value)}, Paired EntR xs es → (xs.any fun p => decide (p.1 = k)) = (atKey es k).isSome
  | _, _, .nil => rfl
  | p :: xs, q :: es, .cons h t => by
    have ih := entR_any (k := k) t
    rw [List.any_cons, ih]
    unfold atKey
    rw [List.find?_cons, h.1]
    by_cases e : q.1 = k
    · simp [e]
    · simp [e]
theorem entR_map {k : KK} {v : V} {u : Value} (rv : RelV v u) : ∀ {xs : List (KK × Addr × V)} {es : List (KK × Addr × Value)}, Paired EntR xs es → Paired EntR (xs.map fun p => if p.1 = k then (p.1, p.2.1, v) else p) (es.map (putAt k u))
  | _, _, .nil => .nil
  | p :: xs, q :: es, .cons h t => by
    refine .cons ?_ (entR_map rv t)
    unfold putAt
    by_cases e : q.1 = k
    · have e' : p.1 = k := h.1.trans e
      simp only [e, e', if_true]
      exact ⟨rfl, h.2.1, rv⟩
    · have e' : ¬ p.1 = k := fun z => e (h.1.symm.trans z)
      simp only [e, e', if_false]
      exact h
theorem paired_snoc {α β : Type} {R : α → β → Prop} {a : α} {b : β} : ∀ {xs : List α} {es : List β}, Paired R xs es → R a b → Paired R (xs ++ [a]) (es ++ [b])
  | _, _, .nil, h => .cons h .nil
  | _, _, .cons h t, r => .cons h (paired_snoc t r)
theorem entR_put {k : KK} {b : Addr} {v : V} {u : Value} (rv : RelV v u) {xs : List (KK × Addr × V)} {es : List (KK × Addr × Value)} (h : Paired EntR xs es) : Paired EntR (putT xs k b v) (storedH es k b u) := by
  unfold putT storedH
  rw [entR_any h]
  split
  · exact entR_map rv h
  · exact paired_snoc h ⟨rfl, rfl, rv⟩
theorem any_key {xs : List (KK × Addr × V)} {k : KK} : ((xs.any fun p => decide (p.1 = k)) = true) ↔ k ∈ xs.map (·.1) := by
  rw [List.any_eq_true, List.mem_map]
  constructor
  · rintro ⟨p, h1, h2⟩; exact ⟨p, h1, of_decide_eq_true h2⟩
  · rintro ⟨p, h1, h2⟩; exact ⟨p, h1, decide_eq_true h2⟩
theorem putT_old {xs : List (KK × Addr × V)} {k : KK} {b : Addr} {v : V} (h : k ∈ xs.map (·.1)) : (putT xs k b v).map (·.1) = xs.map (·.1) := by
  unfold putT
  rw [if_pos (any_key.mpr h), List.map_map]
  refine List.map_congr_left fun p _ => ?_
  show (if p.1 = k then (p.1, p.2.1, v) else p).1 = p.1
  split <;> rfl
theorem putT_fresh {xs : List (KK × Addr × V)} {k : KK} {b : Addr} {v : V} (h : ¬ k ∈ xs.map (·.1)) : putT xs k b v = xs ++ [(k, b, v)] := by
  unfold putT
  rw [if_neg (fun z => h (any_key.mp z))]
theorem putT_mem {xs : List (KK × Addr × V)} {k : KK} {b : Addr} {v : V} {p : KK × Addr × V} (h : p ∈ putT xs k b v) : (∃ q ∈ xs, q.1 = p.1 ∧ q.2.1 = p.2.1) ∨ (p.1 = k ∧ p.2.1 = b) := by
  unfold putT at h
  split at h
  · obtain ⟨q, hq, rfl⟩ := List.mem_map.mp h
    refine .inl ⟨q, hq, ?_⟩
    split <;> exact ⟨rfl, rfl⟩
  · rcases List.mem_append.mp h with h | h
    · exact .inl ⟨p, h, rfl, rfl⟩
    · have : p = (k, b, v) := by simpa using h
      rw [this]; exact .inr ⟨rfl, rfl⟩
theorem putT_nodup {xs : List (KK × Addr × V)} {k : KK} {b : Addr} {v : V} (h : (xs.map (·.1)).Nodup) : ((putT xs k b v).map (·.1)).Nodup := by
  rcases Classical.em (k ∈ xs.map (·.1)) with hk | hk
  · rw [putT_old hk]; exact h
  · rw [putT_fresh hk, List.map_append]
    exact List.nodup_append.mpr ⟨h, by simp, fun a ha c hc e => hk (by
      have e' : a = k := e.trans (List.mem_singleton.mp hc)
      exact e' ▸ ha)⟩
theorem putT_len (xs : List (KK × Addr × V)) (k : KK) (b : Addr) (v : V) : (putT xs k b v).length ≤ xs.length + 1 := by
  unfold putT
  split
  · rw [List.length_map]; omega
  · rw [List.length_append]; simp
section
variable {X : Cx} {pins : List (Addr × Obj)} {σ : L2.St} {H : Hp} {s : Shared} {a b : Addr} {k : KK} {xs : List (KK × Addr × V)} {A : Around} {E : Value → Shared → Prop}
theorem key_sq (I : Inv X pins σ H s) (h : SqT X.K H b (k.map kV)) : (tupK X.prog X.w).is s.heap k b := by
  obtain ⟨its, rv, ⟨o, e, c, n, dd⟩, _⟩ := I.tuple h
  exact ⟨o, its.toArray, n, e, c, dd, by simpa using items_are rv⟩
theorem td_get (I : Inv X pins σ H s) (d : Td X.prog X.w X.K H a xs) : ∃ o es, H a = some (obO a o) ∧ TdO X.prog X.w a xs o es ∧ s.heap.get? a = some o ∧ s.heap.DictOfH (tupK X.prog X.w) a es := by
  obtain ⟨⟨o, es, e, t⟩, ks⟩ := d
  have g : s.heap.get? a = some o := (show ObjOk X.prog X.w H s.heap a (obO a o) from I.hok a _ e).1
  obtain ⟨ea, ep, d1, d2⟩ := t.dt
  refine ⟨o, es, e, t, g, o, ea, ep, g, t.ex, d1, d2, ?_, ?_⟩
  · have : ∀ {xs : List (KK × Addr × V)} {es : List (KK × Addr × Value)}, Paired EntR xs es → KAll X.K H xs → ∀ x ∈ es, (tupK X.prog X.w).is s.heap x.1 x.2.1 := by
      intro xs es r
      induction r with
      | nil => intro _ x hx; cases hx
      | @cons p q ps qs h t ih =>
        intro ks x hx
        rcases List.mem_cons.mp hx with rfl | hx
        · have := key_sq I (ks p List.mem_cons_self)
          rw [← h.1, ← h.2.1]; exact this
        · exact ih (fun p hp => ks p (List.mem_cons_of_mem _ hp)) x hx
    exact this t.rel ks
  · have : ∀ {xs : List (KK × Addr × V)} {es : List (KK × Addr × Value)}, Paired EntR xs es → xs.map (·.1) = es.map (·.1) := by
      intro xs es r
      induction r with
      | nil => rfl
      | cons h t ih => rw [List.map_cons, List.map_cons, ih, h.1]
    rw [← this t.rel]; exact t.nd
/-- what has become of the dict -/
theorem td_new (I : Inv X pins σ H s) (d : Td X.prog X.w X.K H a xs) (hb : SqT X.K H b (k.map kV)) {v : V} {r : Value} (rv : RelV v r) (hz : xs.length < sizeLine) {o : Obj} {es : List (KK × Addr × Value)} (he : H a = some (obO a o)) (t : TdO X.prog X.w a xs o es) {h' : Heap} {tk : Nat}
    (dd : h'.DictOfH (tupK X.prog X.w) a (storedH es k b r)) (hs : Heap.SameBut a s.heap h') : ∃ o', Inv X pins σ (upd H a (obO a o')) { s with heap := h', toks := tk } ∧ Td X.prog X.w X.K (upd H a (obO a o')) a (putT xs k b v) := by
  obtain ⟨o', ea, ep, g, x1, x2, x3, _, _⟩ := dd
  refine ⟨o', d_write I (by rw [he]; exact True.intro) hs ⟨o', g⟩ (obO_ok g), ⟨o', _, upd_same, t.lo, x1, ⟨ea, ep, x2, x3⟩, entR_put rv t.rel, putT_nodup t.nd, Nat.le_trans (putT_len xs k b v) hz⟩, fun p hp => ?_⟩
  refine sqT_tk (tk_updX he) ?_
  rcases putT_mem hp with ⟨q, hq, e1, e2⟩ | ⟨e1, e2⟩
  · rw [← e1, ← e2]; exact d.ks q hq
  · rw [e1, e2]; exact hb
theorem td_put {Q : Unit → Shared → Prop} {v : V} {r : Value} (hu : A.units + 1 < cLine) (I : Inv X pins σ H s) (d : Td X.prog X.w X.K H a xs) (hb : SqT X.K H b (k.map kV)) (rv : RelV v r) (hz : xs.length < sizeLine)
    (h : ∀ o' s', Inv X pins σ (upd H a (obO a o')) s' → Td X.prog X.w X.K (upd H a (obO a o')) a (putT xs k b v) → Q () s') : wpAny (model X.prog X.w) A (setItem (.ref a) (.ref b) r) Q E s := by
  obtain ⟨o, es, he, t, g, dd⟩ := td_get I d
  have hl : es.length = xs.length := (Paired.length t.rel).symm
  refine wpAny_setItem_heap (hsz := by rw [hl]; exact t.sz) (tupleKind_room_in1 hu) (key_sq I hb) dd fun h' dd' hs => ?_
  obtain ⟨o', I', d'⟩ := td_new (tk := _) I d hb rv hz he t dd' hs
  exact h o' _ I' d'
theorem td_set {Q : Unit → Shared → Prop} {v : V} {r : Value} (hu : A.units < cLine) (I : Inv X pins σ H s) (d : Td X.prog X.w X.K H a xs) (hb : SqT X.K H b (k.map kV)) (rv : RelV v r) (hz : xs.length < sizeLine)
    (h : ∀ o' s', Inv X pins σ (upd H a (obO a o')) s' → Td X.prog X.w X.K (upd H a (obO a o')) a (putT xs k b v) → Q () s') : wpAny (model X.prog X.w) A (dictSet a (.ref b) r) Q E s := by
  obtain ⟨o, es, he, t, g, dd⟩ := td_get I d
  have hl : es.length = xs.length := (Paired.length t.rel).symm
  refine wpAny_dictSet_heap (hsz := by rw [hl]; exact t.sz) (show (tupK X.prog X.w).room A from hu) (key_sq I hb) dd fun h' dd' hs => ?_
  obtain ⟨o', I', d'⟩ := td_new (tk := _) I d hb rv hz he t dd' hs
  exact h o' _ I' d'
end
/-! ### the rules -/
abbrev emptyD : Obj := { cls := .type "dict", data := .dict #[] }
theorem td_empty {P : Program} {w : World} {K : PySem.W.Frag} {H : Hp} {a : Addr} (h : (a == sysModules) = false) : Td P w K (upd H a (obO a emptyD)) a [] :=
  ⟨⟨emptyD, [], upd_same, h, ⟨rfl, rfl, rfl⟩, ⟨#[], 0, rfl, rfl⟩, .nil, List.nodup_nil, Nat.zero_le _⟩, fun p hp => nomatch hp⟩
def tNewTd (P : Program) (w : World) (K : PySem.W.Frag) : TE := fun _ H Q => ∀ p, H p = none → Td P w K (upd H p (obO p emptyD)) p [] → Q (.ref p) (upd H p (obO p emptyD))
def sPutTd (P : Program) (w : World) (K : PySem.W.Frag) (td ty tv : TE) : TS := fun D σ H => tv σ H fun v H1 => td σ H1 fun x H2 => ty σ H2 fun y H3 => ∃ a b k xs, x = .ref a ∧ y = .ref b ∧ Td P w K H3 a xs ∧ SqT K H3 b (k.map kV) ∧ xs.length < sizeLine ∧
  ∀ o', Td P w K (upd H3 a (obO a o')) a (putT xs k b v) → D.nx σ (upd H3 a (obO a o'))
section
variable {X : Cx} {o i value : Expr} {pos pos' : Pos} {td ty tv : TE}
theorem pe_newTd : PE X (.Dict [] [] pos) (tNewTd X.prog X.w X.K) := ⟨fun pins s σ H Q I h => by
  have lo : (s.heap.objs.size == sysModules) = false := beq_eq_false_iff_ne.mpr (Nat.ne_of_gt I.big)
  have hn : H s.heap.objs.size = none := I.hok.fresh (Nat.le_refl _)
  exact wpAny_Dict_empty ⟨.ref s.heap.objs.size, _, I.laid (a := s.heap.objs.size) (o := obO _ emptyD) (t' := s.toks) (fun _ _ q => Heap.get?_push_of_some _ q) (Nat.le_refl _) (obO_ok (Heap.get?_push_size _ rfl)), rfl, h _ hn (td_empty lo)⟩⟩
theorem ps_putTd (hu : X.A.units + 1 < cLine) (ho : PE X o td) (hi : PE X i ty) (hv : PE X value tv) (hs : swapsWith value (some (.Subscript o i pos')) pos.line X.env = pure false := by rfl) :
    PS X (.Assign [.Subscript o i pos'] value pos) (sPutTd X.prog X.w X.K td ty tv) := by
  refine ⟨fun pins s σ H D I h => ?_⟩
  refine wpAny_Assign_Subscript (thn (hv.run pins s σ H _ I h) fun r s1 ⟨v, H1, I1, rv, q1⟩ => thn (ho.run pins s1 σ H1 _ I1 q1) fun u s2 ⟨x, H2, I2, rx, q2⟩ => thn (hi.run pins s2 σ H2 _ I2 q2) fun iv s3 hlast => ?_) hs
  obtain ⟨y, H3, I3, ry, a, b, k, xs, rfl, rfl, d, hb, hz, q⟩ := hlast
  cases rx
  cases ry
  exact td_put hu I3 d hb rv hz fun o' s4 I4 d4 => ⟨σ, _, I4, q o' d4⟩
end
/-- list(d) -/
def rListTd (P : Program) (w : World) (K : PySem.W.Frag) (vs : List V) (H : Hp) (Q : VK) : Prop := ∃ a xs, vs = [V.ref a] ∧ Td P w K H a xs ∧ ∀ p, H p = none → Q (.ref p) (upd H p (.lst (xs.map fun x => V.ref x.2.1)))
theorem entR_adr : ∀ {xs : List (KK × Addr × V)} {es : List (KK × Addr × Value)}, Paired EntR xs es → xs.map (fun x => x.2.1) = es.map fun x => x.2.1
  | _, _, .nil => rfl
  | p :: xs, q :: es, .cons h t => by rw [List.map_cons, List.map_cons, entR_adr t, h.2.1]
theorem call_listTd {X : Cx} (hc : X.calm = true) : CallR X (.type "list") (rListTd X.prog X.w X.K) := by
  intro pins s σ H vs us Q I r h
  obtain ⟨a, xs, rfl, d, q⟩ := h
  obtain ⟨u, rfl, rx⟩ := r.one
  cases rx
  obtain ⟨o, es, he, t, g, dd⟩ := td_get I d
  obtain ⟨ea, ep, d1, d2⟩ := t.dt
  have hl : es.length = xs.length := (Paired.length t.rel).symm
  have l1 : ea.size = es.length := size_of_entries d2
  have zz := t.sz
  refine PySem.W.kdl_call (kdl_raw t.lo t.ex d1) (I.ok.hd hc) g (by omega) fun h' tk acc c kp e it => ?_
  have ea' : acc.toList = (es.map fun x => x.2.1).map Value.ref := by
    rw [List.map_map]
    refine List.ext_getElem? fun j => ?_
    rw [List.getElem?_map]
    have la : acc.toList.length = es.length := by rw [Array.length_toList, it.1]; exact l1
    by_cases hj : j < es.length
    · obtain ⟨en, hen, hv⟩ := it.2 j acc.toList[j] (by rw [← Array.getElem?_toList]; exact List.getElem?_eq_getElem (by omega))
      have qe := entry_at d2 j
      rw [hen, List.getElem?_eq_getElem hj] at qe
      rw [List.getElem?_eq_getElem (by omega), List.getElem?_eq_getElem hj, hv, Option.some.inj qe]
      rfl
    · rw [List.getElem?_eq_none (by omega), List.getElem?_eq_none (by omega)]; rfl
  have rv : Vals (xs.map fun x => V.ref x.2.1) acc.toList := by
    rw [ea', ← entR_adr t.rel, show (xs.map fun x => V.ref x.2.1) = (xs.map fun x => x.2.1).map V.ref by rw [List.map_map]; rfl]
    exact vals_refs _
  refine ⟨.ref s.heap.objs.size, _, I.laid (t' := tk) (o := .lst (xs.map fun x => V.ref x.2.1)) kp (Nat.le_refl _) ?_, rfl, q _ (I.hok.fresh (Nat.le_refl _))⟩
  exact ⟨by rw [List.length_map]; exact t.sz, acc.toList, c, rv, by rw [Array.toArray_toList]; exact e⟩
/-! ### {k: v for target in iter} -/
def tDct (P : Program) (w : World) (K : PySem.W.Frag) (wi : TI) (g : TG) (tk tv : TE) (vs : List Nat) : TE := fun σ H Q => wi σ H fun J H1 => ∀ D, H1 D = none → Td P w K (upd H1 D (obO D emptyD)) D [] →
  ∃ W : Nat → Nat → Hp → Prop, (∃ m, W 0 m (upd H1 D (obO D emptyD))) ∧ ∀ i m H, W i m H →
    (J.stop i H ∧ Q (.ref D) H) ∨ (J.go i H ∧ ∃ Nx : Hp → Prop, (∀ H', Nx H' → ∃ m', m' < m ∧ W (i + 1) m' H') ∧ ∀ x H', J.yld i H x H' → g x (wipe σ vs) H' fun σ2 H2 => wipe σ2 vs = wipe σ vs ∧
      tk σ2 H2 fun y H4 => tv σ2 H4 fun z H5 => ∃ xs k b, y = .ref b ∧ SqT K H5 b (k.map kV) ∧ Td P w K H5 D xs ∧ xs.length < sizeLine ∧ ∀ o', Td P w K (upd H5 D (obO D o')) D (putT xs k b z) → Nx (upd H5 D (obO D o')))
abbrev cellsC (X : Cx) (n : Nat) (sc : Scope) : List (Str × Addr) := cellsFrom (n + 1) sc.names (cloFrom X.env.cells sc.names [])
section
variable {X : Cx} {pins : List (Addr × Obj)} {σ : L2.St} {H : Hp} {s : Shared}
theorem dct_core {Q : VK} {kx vx tg iter : Expr} {scope : Scope} {own : List (Str × Nat)} {pos pos' : Pos} {wi : TI} {g : TG} {tk tv : TE} {use : Option (Value → Sem Unit)} {Qf : Value → Shared → Prop} (I : Inv X pins σ H s) (hu : X.A.units < cLine) (hc : X.calm = true) (hN : X.N.Nodup) (hi : PI X tg iter wi) (ok : BlkOk X.N X.env.scope scope own)
    (hg : ∀ (s : Shared) (H : Hp) (C : Addr) (cl : List (Str × Addr)) (fp : List Addr), PG (X.blk s H scope (compEnvC scope cl C X.env) fp) tg g)
    (hk : ∀ (s : Shared) (H : Hp) (C : Addr) (cl : List (Str × Addr)) (fp : List Addr), PE (X.blk s H scope (compEnvC scope cl C X.env) fp) kx tk)
    (hv : ∀ (s : Shared) (H : Hp) (C : Addr) (cl : List (Str × Addr)) (fp : List Addr), PE (X.blk s H scope (compEnvC scope cl C X.env) fp) vx tv) (hs : ∀ x, foldedSetIterable iter X.env x = pure x)
    (h : tDct X.prog X.w X.K wi g tk tv (own.map (·.2)) σ H Q) (last : ∀ D C s' m H', Inv X pins σ H' s' → Q (.ref D) H' → s'.heap.Ns C m → FpOk X pins H' C → compPost (model X.prog X.w) X.A X.xe use Qf (.ref D) C (.ok .next) s') :
    wpAny (model X.prog X.w) X.A (comprehension (.DictComp kx vx [⟨tg, iter, [], 0⟩] scope pos) scope X.env pos' newDict false (eval iter X.env) use) Qf X.xe s := by
  have clo : ∀ y ∈ scope.names, y.2 = .free → ∃ c, X.env.cells.lookup y.1 = some c := fun y hy e => (ok.free y hy e).elim (fun z => I.ok.has _ (.inl z)) (fun z => I.ok.has _ (.inr z))
  refine wpAny_comprehension_free (use := use) rfl hs (closure_ok clo) ok.kind (fun y hy e => by rw [ok.uniq y hy, e]) ?_
  refine thn (hi.run pins s σ H _ I h) fun iterable sA hA => thn hA fun walker sB hB => ?_
  obtain ⟨it, fp, tn, J, HB, rfl, IB, T, tB, fB, rest⟩ := hB
  refine wpAny_newObj_type (newEnv_comp ?_)
  have fresh : HB sB.heap.objs.size = none := IB.hok.fresh (Nat.le_refl _)
  have lo : (sB.heap.objs.size == sysModules) = false := beq_eq_false_iff_ne.mpr (Nat.ne_of_gt IB.big)
  obtain ⟨W, ⟨m0, w0⟩, turn⟩ := rest sB.heap.objs.size fresh (td_empty lo)
  -- the new dict is laid, then the block is entered
  have low : ∀ b ∈ fp, b < sB.heap.objs.size := fun b hb => let ⟨_, e, _⟩ := T.obj _ _ tB b hb; Heap.lt_size e
  have IC : Inv X pins σ (upd HB sB.heap.objs.size (obO sB.heap.objs.size emptyD)) { sB with heap := sB.heap.push emptyD } :=
    IB.laid (t' := sB.toks) (fun _ _ e => Heap.get?_push_of_some _ e) (Nat.le_refl _) (obO_ok (Heap.get?_push_size _ rfl))
  generalize hsC : ({ sB with heap := sB.heap.push emptyD } : Shared) = sC at IC
  have heapC : sC.heap = sB.heap.push emptyD := by rw [← hsC]
  generalize hHC : upd HB sB.heap.objs.size (obO sB.heap.objs.size emptyD) = HC at IC w0
  generalize hD : sB.heap.objs.size = D at *
  have fC : ∀ b ∈ fp, FpOk X pins HC b ∧ b < sC.heap.objs.size := fun b hb => by
    have l := low b hb
    refine ⟨⟨?_, (fB b hb).2⟩, ?_⟩
    · rw [← hHC, upd_ne (Nat.ne_of_lt l)]
      exact (fB b hb).1
    · rw [heapC, Heap.size_push, hD]
      exact Nat.lt_succ_of_lt l
  have tC : tn 0 sC.heap := T.keep _ _ _ tB fun b _ ob e => by
    rw [heapC]
    exact Heap.get?_push_of_some _ e
  have IE := block_start IC ok hN fC
  have ruleG := hg sC HC sC.heap.objs.size (cellsC X sC.heap.objs.size scope) fp
  have ruleK := hk sC HC sC.heap.objs.size (cellsC X sC.heap.objs.size scope) fp
  have ruleV := hv sC HC sC.heap.objs.size (cellsC X sC.heap.objs.size scope) fp
  have go : ∀ (R : Result → Shared → Prop), (∀ s' H', Inv X pins σ H' s' → Q (.ref D) H' → (∃ m, s'.heap.Ns sC.heap.objs.size m) → FpOk X pins H' sC.heap.objs.size → R (.ok .next) s') →
      codeAny (model X.prog X.w) X.A (.compStart (.DictComp kx vx [⟨tg, iter, [], 0⟩] scope pos) 0 (.ref it) (.ref D) (compEnvC scope (cellsC X sC.heap.objs.size scope) sC.heap.objs.size X.env)) R { sC with heap := pushCells (sC.heap.push emptyD) scope.names } := by
    intro R hR
    have noneC : ∀ b ∈ fp, HC b = none := fun b hb => (fC b hb).1.1
    generalize henv : compEnvC scope (cellsC X sC.heap.objs.size scope) sC.heap.objs.size X.env = env at IE ruleG ruleK ruleV ⊢
    have envL : env.locals = sC.heap.objs.size := by rw [← henv]; rfl
    generalize hsE : ({ sC with heap := pushCells (sC.heap.push emptyD) scope.names } : Shared) = sE at IE ⊢
    have tE : tn 0 sE.heap := T.keep _ _ _ tC fun b _ ob e => by
      rw [← hsE]
      exact pushCells_keeps _ _ _ _ (Heap.get?_push_of_some _ e)
    have foot : ∀ {σ' : L2.St} {H' : Hp} {s' : Shared}, Inv (X.blk sC HC scope env fp) [] σ' H' s' → (∀ b ∈ fp, H' b = none) → ∀ b ∈ fp, FpOk (X.blk sC HC scope env fp) [] H' b := fun I' nn b hb =>
      ⟨nn b hb, (I'.ok.exf b hb).1, I'.ok.exfs b hb, .inl hb, fun x c e => (I'.ok.exf b hb).2 x c e, fun p hp => absurd hp (by simp [Cx.blk])⟩
    have loop : codeAny (model X.prog X.w) X.A (.compLoop (.DictComp kx vx [⟨tg, iter, [], 0⟩] scope pos) 0 (.ref it) (.ref D) env) R sE := by
      refine compLoop_anyD (fun n s' => ∃ i H', Inv (X.blk sC HC scope env fp) [] (wipe σ (own.map (·.2))) H' s' ∧ tn i s'.heap ∧ (∀ b ∈ fp, H' b = none) ∧ W i n H') ?_ m0 ⟨0, HC, IE, tE, noneC, w0⟩
      rintro n sF ⟨i, HF, IF, tF, nF, wF⟩
      rcases turn i n HF wF with ⟨stop, done⟩ | ⟨more, Nx, hNx, step⟩
      · refine thnF (T.done (X.blk sC HC scope env fp) rfl rfl rfl hc i [] sF _ HF (fun _ _ => False) IF (foot IF nF) tF stop) fun r sG ⟨hr, IG⟩ => ?_
        subst hr
        have back : Inv X pins σ HF sG := IC.call' (ch := fp) IG.os IG.base IG.hok IG.bare fun b hb => let f := (fC b hb).1; ⟨f.2.2.2.1, f.2.1, f.2.2.2.2.1, f.2.2.2.2.2⟩
        have gone : HF sC.heap.objs.size = none := by rw [← envL]; exact IG.free
        obtain ⟨m, hn, _⟩ := IG.loc
        exact hR sG HF back done ⟨m, by rw [← envL]; exact hn⟩ (IC.fpOk (Nat.le_refl _) gone)
      · refine thnF (T.item (X.blk sC HC scope env fp) rfl rfl rfl hc i [] sF _ HF (fun _ _ => False) IF (foot IF nF) tF more) fun r sG ⟨u, hr, hG⟩ => ?_
        subst hr
        refine thnF hG fun _ sH ⟨x, HH, IH, rH, yH, tH, nH⟩ => ?_
        refine thnF (ruleG.run _ sH _ HH x u _ (IH.pinned (foot IH nH) (T.obj _ _ tH)) rH (step x HH yH)) fun _ sI ⟨σI, HI, II, hw, qI⟩ => ?_
        refine wpAny_pure ?_
        refine thnF (ruleK.run _ sI σI HI _ II qI) fun kv sJ ⟨y, HJ, IJ, rJ, qJ⟩ => ?_
        refine thnF (ruleV.run _ sJ σI HJ _ IJ qJ) fun vv sK ⟨z, HK, IK, rK, xs, k, b, ey, hb, dK, hz, nx⟩ => ?_
        subst ey
        cases rJ
        refine td_set (X := X.blk sC HC scope env fp) hu IK dK hb rK hz fun o' sL IL dL => ?_
        obtain ⟨m', hm, w'⟩ := hNx _ (nx o' dL)
        have stays : ∀ b ∈ fp, ∀ ob, sH.heap.get? b = some ob → sL.heap.get? b = some ob ∧ upd HK D (obO D o') b = none := fun b hb ob e =>
          let z := IL.pin (b, ob) (List.mem_append_right _ (List.mem_append_right _ (mem_pinsAt hb e)))
          ⟨z.1, z.2.1⟩
        refine ⟨m', hm, i + 1, _, (IL.unpinned (pins := [])).weak (by rw [← hw, wipe_length]) (fun j v e => ?_), T.keep _ _ _ tH fun b hb ob e => (stays b hb ob e).1, fun b hb => ?_, w'⟩
        · rw [← hw] at e
          exact (wipe_some e).1
        · obtain ⟨ob, e, _⟩ := T.obj _ _ tH b hb
          exact (stays b hb ob e).2
    exact codeAny_compStart_dict loop (T.self X.A 0 _ _ _ tE loop)
  exact go _ fun s' H' I' q ⟨m, hn⟩ f => last D sC.heap.objs.size s' m H' I' q hn f
variable {kx vx tg iter : Expr} {scope : Scope} {own : List (Str × Nat)} {pos spos : Pos} {wi : TI} {g : TG} {tk tv : TE}
theorem pe_dct (hu : X.A.units < cLine) (hc : X.calm = true) (hN : X.N.Nodup) (hi : PI X tg iter wi) (ok : BlkOk X.N X.env.scope scope own)
    (hg : ∀ (s : Shared) (H : Hp) (C : Addr) (cl : List (Str × Addr)) (fp : List Addr), PG (X.blk s H scope (compEnvC scope cl C X.env) fp) tg g)
    (hk : ∀ (s : Shared) (H : Hp) (C : Addr) (cl : List (Str × Addr)) (fp : List Addr), PE (X.blk s H scope (compEnvC scope cl C X.env) fp) kx tk)
    (hv : ∀ (s : Shared) (H : Hp) (C : Addr) (cl : List (Str × Addr)) (fp : List Addr), PE (X.blk s H scope (compEnvC scope cl C X.env) fp) vx tv) (hs : ∀ x, foldedSetIterable iter X.env x = pure x := by intro _; rfl) :
    PE X (.DictComp kx vx [⟨tg, iter, [], 0⟩] scope pos) (tDct X.prog X.w X.K wi g tk tv (own.map (·.2))) := ⟨fun pins s σ H Q I h => by
  rw [arm_eval_DictComp]
  refine dct_core I hu hc hN hi ok hg hk hv hs h fun D C s' m H' I' q hn f => ⟨m, hn, fun h'' sb => ?_⟩
  obtain ⟨f0, f1, _, f3, f4, f5⟩ := f
  exact ⟨.ref D, H', I'.turned (t' := s'.toks) (fun b o hb e => (sb.2 b hb).trans e) f0 f1 f3 f4 f5, rfl, q⟩⟩
/-- its value goes straight into a local name -/
theorem ps_setDct {i : Nat} {y : Str} {py : Pos} (hu : X.A.units < cLine) (hc : X.calm = true) (hN : X.N.Nodup) (hy : X.N[i]? = some y) (hyl : X.env.scope.names.lookup y = some .local) (hsw : swapsWith (.DictComp kx vx [⟨tg, iter, [], 0⟩] scope pos) (some (.Name y py)) spos.line X.env = pure true)
    (hi : PI X tg iter wi) (ok : BlkOk X.N X.env.scope scope own)
    (hg : ∀ (s : Shared) (H : Hp) (C : Addr) (cl : List (Str × Addr)) (fp : List Addr), PG (X.blk s H scope (compEnvC scope cl C X.env) fp) tg g)
    (hk : ∀ (s : Shared) (H : Hp) (C : Addr) (cl : List (Str × Addr)) (fp : List Addr), PE (X.blk s H scope (compEnvC scope cl C X.env) fp) kx tk)
    (hv : ∀ (s : Shared) (H : Hp) (C : Addr) (cl : List (Str × Addr)) (fp : List Addr), PE (X.blk s H scope (compEnvC scope cl C X.env) fp) vx tv) (hs : ∀ x, foldedSetIterable iter X.env x = pure x := by intro _; rfl) :
    PS X (.Assign [.Name y py] (.DictComp kx vx [⟨tg, iter, [], 0⟩] scope pos) spos) (tAsg (tDct X.prog X.w X.K wi g tk tv (own.map (·.2))) (gName i)) := ⟨fun pins s σ H D I h => by
  rw [exec_Assign_Name_used _ _ _ _ hsw]
  refine wpAny_bind (wpAny_standAt (wpAny_bind ?_))
  show wpAny _ X.A (do let _ ← comprehension (.DictComp kx vx [⟨tg, iter, [], 0⟩] scope pos) scope X.env (firstIterPos [⟨tg, iter, [], 0⟩] pos) newDict false (eval iter X.env) (some (assign (.Name y py) X.env))) _ _ s
  refine wpAny_bind (thn (dct_core (Q := fun x H1 => gName i x σ H1 D.nx) (Qf := fun _ s' => SP X pins D .next s') I hu hc hN hi ok hg hk hv hs h fun L C s' m H' I' q hn f => ?_) fun _ s' hq => wpAny_pure (wpAny_pure hq))
  obtain ⟨f0, f1, f2, f3, f4, f5⟩ := f
  show wpAny _ _ (assign (.Name y py) X.env (.ref L)) _ _ _
  refine wpAny_assign_Name (store_ok2 (v := V.ref L) I' hN hy (.inl hyl) rfl (fun s2 I2 hsb => ?_) (.inr hyl))
  obtain ⟨a, sb, ha⟩ := hsb
  have ne : C ≠ a := ha.elim (fun z => z ▸ f1) (fun z e => f4 y a z e.symm)
  exact ⟨m, hn.sameBut sb ne, fun h3 sb3 => ⟨_, H', I2.turned (t' := s2.toks) (fun b o hb e => (sb3.2 b hb).trans e) f0 f1 f3 f4 f5, q⟩⟩⟩
theorem sw_trueD {gs : List Comprehension} {py : Pos} {y : Str} {l : Nat} {env : Env} (hk : env.scope.kind = .function) (hy : env.scope.names.lookup y = some .local) (hl : (py.line == pos.line) = true) (ha : (scope.names.any fun (n, k) => n == y && (k == .local || k == .cell)) = false) :
    swapsWith (.DictComp kx vx gs scope pos) (some (.Name y py)) l env = pure true := by
  have hb : env.blockKind = .function := by unfold Env.blockKind; rw [hk]; rfl
  unfold swapsWith
  simp only [hb, show env.kindOf y = some .local from hy, ha, Expr.pos, hl]
  rfl
end
end Cb
set_option Elab.async false
set_option linter.all false
set_option maxRecDepth 100000
set_option maxHeartbeats 4000000
/-! own rules: the items of a dict with tuple keys, enumerate over a tuple -/
namespace Cb
open PySem PySem.Spec PyProof.Rows L2
theorem isTup_tuple {h : Heap} {a : Addr} {its : Array Value} (x : IsTup h a its) : h.IsTuple a its := x
/-! ### enumerate of a tuple -/
def Itet (K : PySem.W.Frag) (a : Addr) : It where
  go i H := ∃ xs : List V, SqT K H a xs ∧ i < xs.length
  yld i H v H' := ∃ T x, v = .ref T ∧ H T = none ∧ H' = upd H T (.tup [.int (i : Nat), x]) ∧ ∀ xs, SqT K H a xs → xs[i]? = some x
  stop i H := ∃ xs : List V, SqT K H a xs ∧ xs.length = i
theorem turn_enumT {P : Program} {w : World} {K : PySem.W.Frag} {elts : List Expr} {kk : Nat} {tpos : Pos} {a e it : Addr} (h1 : e ≠ it) (h2 : e ≠ a) (h3 : a ≠ it) :
    Turn P w K (.Tuple elts kk tpos) (Itet K a) [e, it] e (fun i h => (∃ old, IsEnum h e it ((i : Nat) : Int) old) ∧ h.IsTupleIter it a i) where
  mem := by simp
  obj := fun i h ⟨⟨old, he⟩, o, ho, hc, hd⟩ b hb => by
    rcases List.mem_cons.mp hb with rfl | hb
    · exact ⟨_, he, fun v q => nomatch q⟩
    · rw [List.mem_singleton.mp hb]
      exact ⟨o, ho, fun v q => by rw [hd] at q; cases q⟩
  keep := fun i h h' ⟨⟨old, he⟩, hi⟩ k => ⟨⟨old, k e (by simp) _ he⟩, hi.at fun o q => k it (by simp) o q⟩
  item := by
    rintro X rfl rfl rfl hc i pins s σ H E I hf ⟨⟨old, he⟩, hit⟩ ⟨xs, hq, hlt⟩
    obtain ⟨its, rv, p, hz⟩ := I.tuple hq
    have hx := List.getElem?_eq_getElem hlt
    obtain ⟨u, hu, ru⟩ := rv.get hx
    have lel : e < s.heap.objs.size := Heap.lt_size he
    have lil : it < s.heap.objs.size := let ⟨_, q, _⟩ := hit; Heap.lt_size q
    have hil : i < its.toArray.size := by rw [List.size_toArray, ← rv.length]; exact hlt
    refine wpAny_pyNext_enum_itemC (Draws.tuple (A := X.A.in1) (show X.A.in1.handled = none from I.ok.hd hc) it a h3 its.toArray) he ⟨hit, isTup_tuple p⟩ hil h1 (by simp [h1, h2]) fun y h' tk hy out st hT hsz keep => ?_
    obtain rfl : u = y := Option.some.inj ((show its.toArray[i]? = some u by simpa using hu).symm.trans hy)
    refine ⟨_, rfl, wpAny_letOwnedTupleGo_enum (s := { s with heap := h', toks := tk + 1 }) out fun h'' back sb => ?_⟩
    have tup2 := (sb.2 _ (Nat.ne_of_gt lel)).trans hT
    have ok2 : ObjOk X.prog X.w (upd H s.heap.objs.size (.tup [.int (i : Nat), xs[i]])) h'' s.heap.objs.size (.tup [.int (i : Nat), xs[i]]) := ⟨by show 2 ≤ sizeLine; decide, [.int i tk, u], .cons ⟨_, rfl⟩ (.cons ru .nil), ⟨_, tup2, rfl, _, rfl⟩⟩
    have I1 := I.turnedNew (t' := tk + 1) (ch := [e, it]) (fun b ob hb q => (sb.2 b fun z => hb (z ▸ List.mem_cons_self)).trans (keep b ob (fun z => hb (z ▸ List.mem_cons_self)) (fun z => hb (z ▸ List.mem_cons_of_mem _ List.mem_cons_self)) q)) hf (Nat.le_refl _) ok2
    refine ⟨.ref s.heap.objs.size, _, I1, rfl, ⟨_, _, rfl, I.hok.fresh (Nat.le_refl _), rfl, fun ys hy => by rw [I.tuple_inj hy hq]; exact hx⟩, ⟨⟨u, ?_⟩, st.1.at fun o q => (sb.2 it (Ne.symm h1)).trans q⟩, fun b hb => ?_⟩
    · rw [show ((i + 1 : Nat) : Int) = (i : Int) + 1 by omega]; exact back
    · have lb : b < s.heap.objs.size := by
        rcases List.mem_cons.mp hb with rfl | hb
        · exact lel
        · rw [List.mem_singleton.mp hb]; exact lil
      rw [upd_ne (Nat.ne_of_lt lb)]
      exact (hf b hb).1
  done := by
    rintro X rfl rfl rfl hc i pins s σ H E I hf ⟨⟨old, he⟩, hit⟩ ⟨xs, hq, hlt⟩
    obtain ⟨its, rv, p, hz⟩ := I.tuple hq
    obtain ⟨f0, f1, _, f3, f4, f5⟩ := hf it (by simp)
    have hs : its.toArray.size = i := by rw [List.size_toArray, ← rv.length]; exact hlt
    have st : s.heap.IsTupleIter it a its.toArray.size ∧ s.heap.IsTuple a its.toArray := ⟨by rw [hs]; exact hit, isTup_tuple p⟩
    exact wpAny_pyNext_enum_endD (Draws.tuple (A := X.A.in1) (show X.A.in1.handled = none from I.ok.hd hc) it a h3 its.toArray) he st fun h' eb => ⟨rfl, I.turned (t' := s.toks) (fun b o hb q => eb b o hb q) f0 f1 f3 f4 f5⟩
  self := fun A i s Q E ⟨⟨_, he⟩, _⟩ h => wpAny_pyIter_enum he h
theorem meets_enumB {v : Value} {o : Obj} {T : Heap → Prop} (B : Begins v o T) :
    Meets (Builtin.«enumerate.__new__» ⟨[.type "enumerate", v], []⟩) (fun _ R s => T s.heap ∧ R (.ok (.ret (.ref (s.heap.push o).objs.size))) { s with heap := (s.heap.push o).push { cls := .type "enumerate", data := .fields #[.none, .bool false, .ref s.heap.objs.size, rawInt 0, .none, .none] } }) :=
  .of_wp fun prog w A R s h => by
    obtain ⟨hp, g, d, tk, os⟩ := s; obtain ⟨h1, h⟩ := h
    have sub := sub_enumerate
    have go : ∀ {A' : Around} {E : Value → Shared → Prop} {Q : Value → Shared → Prop}, Q (.ref hp.objs.size) ⟨hp.push o, g, d, tk, os⟩ → wpAny (model prog w) A' (pyIter v) Q E ⟨hp, g, d, tk, os⟩ := fun q => B.iter prog w _ _ _ _ h1 q
    wp_walk using go
    refine wpAny_stack_any fun st => wpAny_pure ?_
    split
    · rename_i c _ _ _ _ _
      cases (c == Value.type "enumerate")
      · wp_walk using go
        exact ⟨_, rfl, h⟩
      · wp_walk using go
        exact ⟨_, rfl, h⟩
    · wp_walk using go
      exact ⟨_, rfl, h⟩
def iEnumT (K : PySem.W.Frag) (ta : TA) : TI := fun σ H R => ta σ H fun vs H1 => ∃ a xs, vs = [.ref a] ∧ SqT K H1 a xs ∧ R (Itet K a) H1
theorem pi_enumT {X : Cx} {e : Expr} {ta : TA} {p pos tpos : Pos} {elts : List Expr} {kk : Nat} (hg : Gl X "enumerate") (hm : X.mg "enumerate" = none) (ha : PA X [e] ta) (hs : starEach [e] X.env = [(false, eval e X.env)] := by rfl) :
    PI X (.Tuple elts kk tpos) (.Call (.Name "enumerate" p) [e] [] pos) (iEnumT X.K ta) := by
  refine ⟨fun pins s σ H R I h => ?_⟩
  refine Call_ (ld_blt I hg hm boot_enumerate (PyProof.Rows.callWith_type1 (thn (ha.run pos pins s σ H _ I h) fun us s1 ⟨vs, H1, I1, r1, a, xs, ex, hq, q⟩ => ?_) hs rfl))
  subst ex
  obtain ⟨u, rfl, ru⟩ := Vals.one r1
  cases ru
  obtain ⟨its, rv, p', hz⟩ := I1.tuple hq
  have lta : a < s1.heap.objs.size := let ⟨_, q, _⟩ := p'; Heap.lt_size q
  have sz1 : (s1.heap.push { cls := .type "tuple_iterator", data := .fields #[.ref a, .int 0 0] }).objs.size = s1.heap.objs.size + 1 := Heap.size_push ..
  refine callType_new F.called_enumerate (by decide) (F.typeCall_enumerate_1 _) (F.newCall_enumerate_1 _) (fun obj => F.args_object_init_2 obj _) F.entry_enumerate_new (meets_enumB (begins_tuple a its.toArray)) ⟨isTup_tuple p', ?_⟩
  show _ ∧ _
  rw [sz1]
  have en : IsEnum ((s1.heap.push { cls := .type "tuple_iterator", data := .fields #[.ref a, .int 0 0] }).push { cls := .type "enumerate", data := .fields #[.none, .bool false, .ref s1.heap.objs.size, rawInt 0, .none, .none] }) (s1.heap.objs.size + 1) s1.heap.objs.size 0 .none := by
    have z := Heap.get?_push_size (s1.heap.push { cls := .type "tuple_iterator", data := .fields #[.ref a, .int 0 0] }) (o := { cls := .type "enumerate", data := .fields #[.none, .bool false, .ref s1.heap.objs.size, rawInt 0, .none, .none] }) rfl
    rw [sz1] at z; exact z
  refine ⟨⟨_, en, rfl⟩, wpAny_pyIter_enum en ?_⟩
  have I2 := I1.kept (t' := s1.toks) (h' := (s1.heap.push { cls := .type "tuple_iterator", data := .fields #[.ref a, .int 0 0] }).push { cls := .type "enumerate", data := .fields #[.none, .bool false, .ref s1.heap.objs.size, rawInt 0, .none, .none] }) fun b o x => Heap.get?_push_of_some _ (Heap.get?_push_of_some _ x)
  refine ⟨s1.heap.objs.size + 1, [s1.heap.objs.size + 1, s1.heap.objs.size], _, _, H1, rfl, I2, turn_enumT (Nat.succ_ne_self _) (Nat.ne_of_gt (Nat.lt_succ_of_lt lta)) (Nat.ne_of_lt lta), ⟨⟨.none, en⟩, _, Heap.get?_push_of_some _ (Heap.get?_push_size _ rfl), rfl, rfl⟩, fun b hb => ?_, q⟩
  have lb : s1.heap.objs.size ≤ b := by
    rcases List.mem_cons.mp hb with rfl | hb
    · exact Nat.le_succ _
    · rw [List.mem_singleton.mp hb]; exact Nat.le_refl _
  exact I1.fpOk lb (I1.hok.fresh lb)
/-! ### the items of a dict with tuple keys -/
def Itx (d : Addr) (o : Obj) (xs : List (KK × Addr × V)) : It where
  go i H := H d = some (obO d o) ∧ i < xs.length
  yld i H x H' := ∃ T k b v, xs[i]? = some (k, b, v) ∧ x = .ref T ∧ H T = none ∧ H' = upd H T (.tup [.ref b, v])
  stop i H := H d = some (obO d o) ∧ i = xs.length
theorem entR_at {p : KK × Addr × V} : ∀ {xs : List (KK × Addr × V)} {es : List (KK × Addr × Value)} {i : Nat}, Paired EntR xs es → xs[i]? = some p → ∃ q, es[i]? = some q ∧ EntR p q
  | _, _, _, .nil, h => nomatch h
  | _, _, 0, .cons r _, h => by
    obtain rfl := Option.some.inj h
    exact ⟨_, rfl, r⟩
  | _, _, i + 1, .cons _ t, h => entR_at (i := i) t (by simpa using h)
theorem turn_itemsT {P : Program} {w : World} {K : PySem.W.Frag} {elts : List Expr} {kk : Nat} {tpos : Pos} {d it : Addr} {o : Obj} {xs : List (KK × Addr × V)} {es : List (KK × Addr × Value)} {ea : Array DictEntry} {ep : Nat} (t : TdO P w d xs o es) (dt : o.data = .dict ea ep) (de : ea.toList = es.map (entryOfKey (tupK P w))) :
    Turn P w K (.Tuple elts kk tpos) (Itx d o xs) [it] it (fun i h => ∃ ok ov, IsItemIter h it d i ea.size ep ok ov) where
  mem := by simp
  obj := fun i h ⟨ok, ov, e⟩ b hb => by
    rw [List.mem_singleton.mp hb]
    exact ⟨_, e, fun v z => nomatch z⟩
  keep := fun i h h' ⟨ok, ov, e⟩ k => ⟨ok, ov, k it (by simp) _ e⟩
  item := by
    rintro X rfl rfl rfl hc i pins s σ H E I hf ⟨ok, ov, he⟩ ⟨hd, hi⟩
    have g : s.heap.get? d = some o := (show ObjOk X.prog X.w H s.heap d (obO d o) from I.hok d _ hd).1
    have hx : ∃ k b v, xs[i]? = some (k, b, v) := ⟨_, _, _, List.getElem?_eq_getElem hi⟩
    obtain ⟨k, b, v, hx⟩ := hx
    obtain ⟨⟨k', b', u⟩, hq, e1, e2, ru⟩ := entR_at t.rel hx
    obtain rfl : b = b' := e2
    have len : ea.size = es.length := size_of_entries de
    have lis : i < ea.size := by rw [len, ← Paired.length t.rel]; exact hi
    have key : ea[i].key = .ref b ∧ ea[i].val = u := by
      have qe := entry_at de i
      rw [hq, Array.getElem?_eq_getElem lis] at qe
      rw [Option.some.inj qe]
      exact ⟨rfl, rfl⟩
    have lit : it < s.heap.objs.size := Heap.lt_size he
    refine wpAny_pyNext_items_item_raw he ⟨o, g, t.ex, dt⟩ lis fun h' out hT hz keep => ?_
    rw [key.1, key.2] at out hT
    refine ⟨_, rfl, wpAny_letOwnedTupleGo_items (s := { s with heap := h' }) out fun h'' back sb => ?_⟩
    have tup2 := (sb.2 _ (Nat.ne_of_gt lit)).trans hT
    have ok2 : ObjOk X.prog X.w (upd H s.heap.objs.size (.tup [.ref b, v])) h'' s.heap.objs.size (.tup [.ref b, v]) := ⟨by show 2 ≤ sizeLine; decide, [.ref b, u], .cons rfl (.cons ru .nil), ⟨_, tup2, rfl, _, rfl⟩⟩
    have I1 := I.turnedNew (t' := s.toks) (ch := [it]) (fun c ob hb e => (sb.2 c (by simpa using hb)).trans (keep c ob (by simpa using hb) e)) hf (Nat.le_refl _) ok2
    refine ⟨.ref s.heap.objs.size, _, I1, rfl, ⟨_, k, b, v, hx, rfl, I.hok.fresh (Nat.le_refl _), rfl⟩, ⟨.ref b, u, back⟩, fun c hb => ?_⟩
    rw [List.mem_singleton.mp hb, upd_ne (Nat.ne_of_lt lit)]
    exact (hf it (by simp)).1
  done := by
    rintro X rfl rfl rfl hc i pins s σ H E I hf ⟨ok, ov, he⟩ ⟨hd, hi⟩
    have g : s.heap.get? d = some o := (show ObjOk X.prog X.w H s.heap d (obO d o) from I.hok d _ hd).1
    obtain ⟨f0, f1, _, f3, f4, f5⟩ := hf it (by simp)
    have len : ea.size = es.length := size_of_entries de
    have lis : ea.size ≤ i := by rw [len, ← Paired.length t.rel, hi]; exact Nat.le_refl _
    exact wpAny_pyNext_items_end_raw (I.ok.hd hc) he ⟨o, g, t.ex, dt⟩ lis fun h' eb => ⟨rfl, I.turned (t' := s.toks) (fun b ob hb e => eb b ob hb e) f0 f1 f3 f4 f5⟩
  self := fun A i s Q E ⟨_, _, e⟩ h => PySem.W.kcp_self e h
def iItemsT (P : Program) (w : World) (K : PySem.W.Frag) (td : TE) : TI := fun σ H R => td σ H fun x H1 => ∃ d xs, x = .ref d ∧ Td P w K H1 d xs ∧ ∀ o es, H1 d = some (obO d o) → TdO P w d xs o es → R (Itx d o xs) H1
theorem pi_itemsT {X : Cx} {e : Expr} {td : TE} {apos cpos tpos : Pos} {elts : List Expr} {kk : Nat} (he : PE X e td) (hbase : attributeBase e "items" X.env (eval e X.env) = eval e X.env := by rfl) (hline : (apos.endLine == cpos.line) = true := by rfl) :
    PI X (.Tuple elts kk tpos) (.Call (.Attribute e "items" apos) [] [] cpos) (iItemsT X.prog X.w X.K td) := by
  refine ⟨fun pins s σ H R I h => ?_⟩
  refine wpAny_Call_method (T := "dict") (id := "dict.items") hbase rfl hline F.plainAttrs_dict F.slot_dict_items F.type_dict_items (thn (he.run pins s σ H _ I h) fun u s1 ⟨x, H1, I1, rx, d, xs, ex, hd, q⟩ => ?_)
  subst ex
  cases rx
  obtain ⟨o, es, ho, t, g, dd⟩ := td_get I1 hd
  obtain ⟨ea, ep, d1, d2⟩ := t.dt
  have raw : s1.heap.DictRaw d ea ep := ⟨o, g, t.ex, d1⟩
  refine ⟨raw.typeIs, fun b eb => by cases eb; exact ⟨o, g, t.ex.2.1⟩, ?_⟩
  have I2 : Inv X pins σ H1 { s1 with heap := s1.heap.push { cls := .type "dict_items", data := .fields #[.ref d] } } := I1.kept (t' := s1.toks) fun b ob z => Heap.get?_push_of_some _ z
  have walk : wpAny (model X.prog X.w) X.A (pyIter (.ref s1.heap.objs.size)) (PIE X pins σ (.Tuple elts kk tpos) R) X.xe { s1 with heap := s1.heap.push { cls := .type "dict_items", data := .fields #[.ref d] } } := by
    refine wpAny_pyIter_items_raw (d := d) ⟨_, Heap.get?_push_size _ rfl, rfl, rfl⟩ (raw.at fun _ z => Heap.get?_push_of_some _ z) (pi_one (tk := s1.toks) I2 _ (turn_itemsT t d1 d2) ⟨.none, .none, ?_⟩ (q o es ho t))
    exact Heap.get?_push_size _ rfl
  show wpAny _ _ (callWith cpos (.builtin "dict.items") [.ref d] [] []) _ X.xe s1
  exact method_meetsIn F.slot_dict_items F.entry_dict_items rfl (PySem.evalArgs_none ⟨rfl, raw.typeIs, F.args_dict_items_1 _, _, meets_dict_items_raw d t.lo, ⟨ea, ep, raw⟩, walk⟩)
end Cb
set_option Elab.async false
set_option linter.all false
set_option maxRecDepth 100000
set_option maxHeartbeats 4000000
/-! walks: bent lines, the small parts -/
namespace Cb
open PySem PySem.Spec PyProof.Rows L2
/-! ### == of data -/
mutual
def pyD : D → PyData
  | .int i => .int i
  | .str s => .str s
  | .bl b => .bool b
  | .non => .none
  | .tup ds => .tuple (pyDs ds)
  | .lst ds => .list (pyDs ds)
  | .rule _ _ _ => .none
def pyDs : List D → List PyData
  | [] => []
  | d :: r => pyD d :: pyDs r
end
mutual
def noR : D → Bool
  | .tup ds => noRs ds
  | .lst ds => noRs ds
  | .rule _ _ _ => false
  | _ => true
def noRs : List D → Bool
  | [] => true
  | d :: r => noR d && noRs r
end
mutual
theorem dat_dp {K : PySem.W.Frag} {H : Hp} : ∀ {d : D} {v : V}, noR d = true → Dat K H d v → Dp K H v (pyD d)
  | .int i, v, _, e => by obtain rfl : v = .int i := e; exact .int i
  | .str s, v, _, e => by obtain rfl : v = .str s := e; exact .str s
  | .bl b, v, _, e => by obtain rfl : v = .bl b := e; exact .bl b
  | .non, v, _, e => by obtain rfl : v = .non := e; exact .non
  | .tup ds, v, h, ⟨a, xs, e, sq, hx⟩ => by subst e; exact .tup sq (dats_dp h hx)
  | .lst ds, v, h, ⟨a, xs, e, sq, hx⟩ => by subst e; exact .lst sq (dats_dp h hx)
theorem dats_dp {K : PySem.W.Frag} {H : Hp} : ∀ {ds : List D} {vs : List V}, noRs ds = true → Dats K H ds vs → DpAll K H vs (pyDs ds)
  | [], vs, _, e => by obtain rfl : vs = [] := e; exact .nil
  | d :: r, vs, h, ⟨x, xr, e, h1, h2⟩ => by
    have h : (noR d && noRs r) = true := h
    rw [Bool.and_eq_true] at h
    subst e
    exact .cons (dat_dp h.1 h1) (dats_dp h.2 h2)
end
theorem hu64 {k : Nat} {A : Around} (hr : Room k A) : A.units + 64 < cLine := by have := hr.un; omega
theorem hu1 {k : Nat} {A : Around} (hr : Room k A) : A.units + 1 < cLine := by have := hr.un; omega
theorem hu0 {k : Nat} {A : Around} (hr : Room k A) : A.units < cLine := by have := hr.un; omega
section
variable {K : PySem.W.Frag} {σ : L2.St} {H : Hp} {ta tb : TE} {d e : D}
theorem ed_eqD (ha : EvD K ta σ H d) (hb : EvD K tb σ H e) (nd : noR d = true) (ne : noR e = true) (sd : SeqAt.shaped (pyD d) = true) (se : SeqAt.shaped (pyD e) = true) : EvD K (tOp (rEqD K) ta tb) σ H (.bl (PyData.eqv (pyD d) (pyD e))) :=
  ed_op ha hb fun x y H1 s hx hy Q q => ⟨_, _, dat_dp nd hx, dat_dp ne hy, sd, se, q _ _ (Same.refl _) rfl⟩
theorem eqv_fr (x y : Rat) : PyData.eqv (pyD (fr x)) (pyD (fr y)) = decide (x = y) := by
  show ((x.num == y.num) && ((((x.den : Nat) : Int) == ((y.den : Nat) : Int)) && true)) = decide (x = y)
  rw [Bool.and_true, Bool.eq_iff_iff, Bool.and_eq_true, beq_iff_eq, beq_iff_eq, decide_eq_true_eq]
  exact ⟨fun h => Rat.ext h.1 (by omega), fun h => by rw [h]; exact ⟨rfl, rfl⟩⟩
theorem ed_eqF {x y : Rat} (ha : EvD K ta σ H (fr x)) (hb : EvD K tb σ H (fr y)) : EvD K (tOp (rEqD K) ta tb) σ H (.bl (decide (x = y))) := by
  have := ed_eqD ha hb rfl rfl rfl rfl
  rw [eqv_fr] at this
  exact this
end
/-! ### first and last of a filtered range -/
theorem filt_first {p : Nat → Bool} : ∀ {n : Nat}, (∃ i, i < n ∧ p i = true) → ∃ i r, (List.range n).filter p = i :: r ∧ i < n ∧ p i = true ∧ ∀ j, j < i → p j = false
  | 0, ⟨i, h, _⟩ => absurd h (Nat.not_lt_zero i)
  | n + 1, ⟨i, hi, pi⟩ => by
    rw [List.range_succ, List.filter_append]
    by_cases h : ∃ i, i < n ∧ p i = true
    · obtain ⟨j, r, e, hj, pj, hl⟩ := filt_first h
      exact ⟨j, r ++ [n].filter p, by rw [e]; rfl, by omega, pj, hl⟩
    · have e : i = n := by
        rcases Nat.lt_or_ge i n with z | z
        · exact absurd ⟨i, z, pi⟩ h
        · omega
      subst e
      have e0 : (List.range i).filter p = [] := List.filter_eq_nil_iff.mpr fun j hj pj => h ⟨j, List.mem_range.mp hj, pj⟩
      refine ⟨i, [], by rw [e0]; simp [pi], by omega, pi, fun j hj => ?_⟩
      cases q : p j with
      | false => rfl
      | true => exact absurd ⟨j, hj, q⟩ h
theorem filt_last {p : Nat → Bool} : ∀ {n : Nat}, (∃ i, i < n ∧ p i = true) → ∃ i r, (List.range n).filter p = r ++ [i] ∧ i < n ∧ p i = true ∧ ∀ j, i < j → j < n → p j = false
  | 0, ⟨i, h, _⟩ => absurd h (Nat.not_lt_zero i)
  | n + 1, ⟨i, hi, pi⟩ => by
    rw [List.range_succ, List.filter_append]
    cases q : p n with
    | true => exact ⟨n, (List.range n).filter p, by simp [q], by omega, q, fun j h1 h2 => by omega⟩
    | false =>
      have lt : i < n := by
        rcases Nat.lt_or_ge i n with z | z
        · exact z
        · rw [show i = n by omega, q] at pi; cases pi
      have h : ∃ i, i < n ∧ p i = true := ⟨i, lt, pi⟩
      obtain ⟨j, r, e, hj, pj, hl⟩ := filt_last h
      refine ⟨j, r, by rw [e]; simp [q], by omega, pj, fun k h1 h2 => ?_⟩
      rcases Nat.lt_or_ge k n with z | z
      · exact hl k h1 z
      · rw [show k = n by omega]; exact q
/-! ### lines as data -/
abbrev Pt := Rat × Rat
def prD (p : Pt) : D := .tup [fr p.1, fr p.2]
def lnD (L : List Pt) : D := .tup (L.map prD)
theorem nls_map {α : Type} {f : α → D} {l : List α} (h : ∀ a, nl (f a) = true) : nls (l.map f) = true := nls_all fun d hd => by
  obtain ⟨a, _, rfl⟩ := List.mem_map.mp hd
  exact h a
theorem nl_lnD (L : List Pt) : nl (lnD L) = true := nls_map fun _ => rfl
theorem pr_get {L : List Pt} {i : Nat} {d : D} (h : (L.map prD)[i]? = some d) : ∃ p, L[i]? = some p ∧ d = prD p := by
  rw [List.getElem?_map, Option.map_eq_some_iff] at h
  obtain ⟨p, h1, h2⟩ := h
  exact ⟨p, h1, h2.symm⟩
theorem atI_pr {L : List Pt} {i : Nat} {p : Pt} (h : L[i]? = some p) : atI (L.map prD) (i : Int) = some (prD p) := atI_nat (by rw [List.getElem?_map, h]; rfl)
theorem atI_neg2 {α : Type} (xs : List α) (a b : α) : atI (xs ++ [a, b]) (-2) = some a := by
  unfold atI ixN
  have e : (xs ++ [a, b]).length = xs.length + 2 := by simp
  rw [if_neg (by decide), e, if_pos (by omega)]
  show (xs ++ [a, b])[(-2 + ((xs.length + 2 : Nat) : Int)).toNat]? = some a
  rw [show (-2 + ((xs.length + 2 : Nat) : Int)).toNat = xs.length by omega]
  simp
theorem atI_last2 {α : Type} (xs : List α) (a b : α) : atI (xs ++ [a, b]) (-1) = some b := by
  rw [show xs ++ [a, b] = (xs ++ [a]) ++ [b] by simp]
  exact atI_last _ b
section
variable {P : Program} {w : World} {K : PySem.W.Frag} {mg : Str → Option Value} {base : Heap}
abbrev spFlat (K : PySem.W.Frag) : Sp := spP K 1 fun ds post => ∃ q : Rat, ds = [fr q] ∧ post = fun d => d = lnD [(0, q), (1, q)]
theorem ok_flat (W : Wd P K mg base) (F : Df K mg "flat" s_flat) : C8.Cal P w K mg base 33 "flat" (spFlat K) [] := by
  obtain ⟨z, mz, hz⟩ := W.zero
  obtain ⟨o, mo, ho⟩ := W.one
  refine cal_of F sc_flat (fun _ _ _ _ _ _ us hl => match us, hl with | [_], _ => rfl) rfl fun f cdv A outer s H vs Q E ds post hr hp hd q => ?_
  obtain ⟨x, rfl, rfl⟩ := hp
  obtain ⟨u, rfl, hu⟩ := dats1 hd
  refine ⟨_, (pss_one (ps_ret (pe_tup (pa_cons (pe_tup (pa_cons (pe_glob (v := .ref z) (by rfl) mz rfl) (pa_cons (pv 0) pa_nil))) (pa_cons (pe_tup (pa_cons (pe_glob (v := .ref o) (by rfl) mo rfl) (pa_cons (pv 0) pa_nil))) pa_nil))))), ?_⟩
  have e0 : EvD K (tC (.ref z)) [some u] H (fr 0) := ed_c ⟨z, _, rfl, hz H, .cons rfl (.cons rfl .nil)⟩
  have e1 : EvD K (tC (.ref o)) [some u] H (fr 1) := ed_c ⟨o, _, rfl, ho H, .cons rfl (.cons rfl .nil)⟩
  exact q_retD (ed_tup (ea_cons (ed_tup (ea_cons e0 (ea_cons (ed_var rfl hu) ea_nil))) (ea_cons (ed_tup (ea_cons e1 (ea_cons (ed_var rfl hu) ea_nil))) ea_nil))) (Same.refl _) fun r H1 s1 h1 => q r H1 _ s1 rfl h1
abbrev spRising (K : PySem.W.Frag) : Sp := spP K 0 fun ds post => ds = [] ∧ post = fun d => d = lnD [(0, 0), (1, 1)]
theorem ok_rising (W : Wd P K mg base) (F : Df K mg "rising" s_rising) : C8.Cal P w K mg base 33 "rising" (spRising K) [] := by
  obtain ⟨z, mz, hz⟩ := W.zero
  obtain ⟨o, mo, ho⟩ := W.one
  refine cal_of F sc_rising (fun _ _ _ _ _ _ us hl => match us, hl with | [], _ => rfl) rfl fun f cdv A outer s H vs Q E ds post hr hp hd q => ?_
  obtain ⟨rfl, rfl⟩ := hp
  obtain rfl : vs = [] := hd
  refine ⟨_, (pss_one (ps_ret (pe_tup (pa_cons (pe_tup (pa_cons (pe_glob (v := .ref z) (by rfl) mz rfl) (pa_cons (pe_glob (v := .ref z) (by rfl) mz rfl) pa_nil))) (pa_cons (pe_tup (pa_cons (pe_glob (v := .ref o) (by rfl) mo rfl) (pa_cons (pe_glob (v := .ref o) (by rfl) mo rfl) pa_nil))) pa_nil))))), ?_⟩
  have e0 : EvD K (tC (.ref z)) [] H (fr 0) := ed_c ⟨z, _, rfl, hz H, .cons rfl (.cons rfl .nil)⟩
  have e1 : EvD K (tC (.ref o)) [] H (fr 1) := ed_c ⟨o, _, rfl, ho H, .cons rfl (.cons rfl .nil)⟩
  exact q_retD (ed_tup (ea_cons (ed_tup (ea_cons e0 (ea_cons e0 ea_nil))) (ea_cons (ed_tup (ea_cons e1 (ea_cons e1 ea_nil))) ea_nil))) (Same.refl _) fun r H1 s1 h1 => q r H1 _ s1 rfl h1
theorem EvV.to {te : TE} {σ : L2.St} {H : Hp} {v v' : V} (h : EvV te σ H v) (e : v = v') : EvV te σ H v' := e ▸ h
theorem sub_ne {x y : Rat} (h : x < y) : y - x ≠ 0 := fun e => by grind
abbrev spBtw (K : PySem.W.Frag) : Sp := spP K 3 fun ds post => ∃ (p r : Pt) (t : Rat) (S : Nat), Sz S p.1 ∧ Sz S p.2 ∧ Sz S r.1 ∧ Sz S r.2 ∧ Sz S t ∧ p.1 < r.1 ∧ 6 * S + 3 ≤ LIM ∧ ds = [prD p, prD r, fr t] ∧ post = fun d => d = fr (btw p r t)
theorem ok_between_pairs (W : Wd P K mg base) (F : Df K mg "between_pairs" s_between_pairs) (G_over : C8.Cal P w K mg base 35 "over" (spOver K) []) (G_minus : C8.Cal P w K mg base 35 "minus" (spMinus K) []) (G_plus : C8.Cal P w K mg base 35 "plus" (spPlus K) []) (G_times : C8.Cal P w K mg base 35 "times" (spTimes K) []) :
    C8.Cal P w K mg base 36 "between_pairs" (spBtw K) [] := by
  refine cal_of F sc_between_pairs (fun _ _ _ _ _ _ us hl => match us, hl with | [_, _, _], _ => rfl) rfl fun f cdv A outer s H vs Q E ds post hr hp hd q => ?_
  obtain ⟨p, r, t, S, p1, p2, r1, r2, st, hlt, hS, rfl, rfl⟩ := hp
  obtain ⟨u, v, y, rfl, hu, hv, hy⟩ := dats3 hd
  refine ⟨_, (pss_cons (ps_set (i := 3) sc_between_pairs.nd rfl (.inl rfl) (C8.pe_c G_over hr (by omega) (by rfl) (pa_cons (C8.pe_c G_minus hr (by omega) (by rfl) (pa_cons (pv 2) (pa_cons (pe_ix ix_tup (pv 0) pe_int (fun _ _ => rfl)) pa_nil))) (pa_cons (C8.pe_c G_minus hr (by omega) (by rfl) (pa_cons (pe_ix ix_tup (pv 1) pe_int (fun _ _ => rfl)) (pa_cons (pe_ix ix_tup (pv 0) pe_int (fun _ _ => rfl)) pa_nil))) pa_nil))))
    (pss_one (ps_ret (C8.pe_c G_plus hr (by omega) (by rfl) (pa_cons (pe_ix ix_tup (pv 0) pe_int (fun _ _ => rfl)) (pa_cons (C8.pe_c G_times hr (by omega) (by rfl) (pa_cons (pv 3) (pa_cons (C8.pe_c G_minus hr (by omega) (by rfl) (pa_cons (pe_ix ix_tup (pv 1) pe_int (fun _ _ => rfl)) (pa_cons (pe_ix ix_tup (pv 0) pe_int (fun _ _ => rfl)) pa_nil))) pa_nil))) pa_nil)))))), ?_⟩
  have e0 : ∀ {x : Option V} {H' : Hp}, Same H H' → EvD K (tVar 0) [some u, some v, some y, x] H' (prD p) := fun s => ed_var rfl (Dat.same s hu)
  have e1 : ∀ {x : Option V} {H' : Hp}, Same H H' → EvD K (tVar 1) [some u, some v, some y, x] H' (prD r) := fun s => ed_var rfl (Dat.same s hv)
  have e2 : ∀ {x : Option V} {H' : Hp}, Same H H' → EvD K (tVar 2) [some u, some v, some y, x] H' (fr t) := fun s => ed_var rfl (Dat.same s hy)
  have a1 := st.sub p1
  have a2 := r1.sub p1
  have a3 := r2.sub p2
  have a4 := a1.div a2 (sub_ne hlt)
  refine q_setD (ed_bin (n := 2 * S + 1) (ed_bin (n := S) (e2 (Same.refl _)) (ed_ixT (e0 (Same.refl _)) ed_int rfl) st p1 (by omega) trivial) (ed_bin (n := S) (ed_ixT (e1 (Same.refl _)) ed_int rfl) (ed_ixT (e0 (Same.refl _)) ed_int rfl) r1 p1 (by omega) trivial) (a1.mono (by omega)) (a2.mono (by omega)) (by omega) (sub_ne hlt)) (Same.refl _) fun x H1 s1 hx => ?_
  have hx : Dat K H1 (fr ((t - p.1) / (r.1 - p.1))) x := hx
  refine q_retD (ed_bin (n := 6 * S + 3) (y := (t - p.1) / (r.1 - p.1) * (r.2 - p.2)) (ed_ixT (e0 s1) ed_int rfl) (ed_bin (n := 4 * S + 2) (ed_var rfl hx) (ed_bin (n := S) (ed_ixT (e1 s1) ed_int rfl) (ed_ixT (e0 s1) ed_int rfl) r2 p2 (by omega) trivial) (a4.mono (by omega)) (a3.mono (by omega)) (by omega) trivial) (p2.mono (by omega)) ((a4.mul a3).mono (by omega)) hS trivial) (Same.refl _) fun z H2 s2 h2 => q z H2 _ (s1.trans s2) rfl h2
abbrev spAt (K : PySem.W.Frag) : Sp := spP K 2 fun ds post => ∃ (M m : Nat) (f : Rat → Rat) (L : List Pt) (t : Rat), Ln M f L ∧ M < 2 ^ m ∧ m ≤ MX ∧ 0 ≤ t ∧ t ≤ 1 ∧ t.den ≤ M ∧ L.length ≤ 900000 ∧ ds = [lnD L, fr t] ∧ post = fun d => d = fr (f t)
theorem ok_at (W : Wd P K mg base) (F : Df K mg "at" s_at) (G_is_less : C8.Cal P w K mg base 35 "is_less" (spLess K) []) (G_between_pairs : C8.Cal P w K mg base 36 "between_pairs" (spBtw K) []) : C8.Cal P w K mg base 37 "at" (spAt K) [] := by
  refine cal_of F sc_at (fun _ _ _ _ _ _ us hl => match us, hl with | [_, _], _ => rfl) rfl fun f cdv A outer s H vs Q E ds post hr hp hd q => ?_
  obtain ⟨M, m, g, L, t, hL, hM, hm, t0, t1, td, hz, rfl, rfl⟩ := hp
  obtain ⟨u, v, rfl, hu, hv⟩ := dats2 hd
  refine ⟨_, (pss_cons (ps_set (i := 2) sc_at.nd rfl (.inl rfl) (pe_ix ix_list (pe_lc (own := [("k", 3)]) (g := gName 3) rfl sc_at.nd (pi_range2 (by rfl) W.range (pa_cons pe_int (pa_cons (pe_callB call_len_seq (by rfl) W.len b_len (pa_cons (pv 0) pa_nil)) pa_nil))) (blkOk_by (N := n_at) (sc := defScope s_at) (by decide +kernel)) (fun _ _ _ _ _ => (pg_name (i := 3) sc_at.nd rfl (Or.inl rfl))) (fun _ _ _ _ _ => (pts_one (pt_not (pt_val (C8.pe_c G_is_less hr (by omega) (by rfl) (pa_cons (pe_ix (ixT_K rfl) (pe_ix (ixT_K rfl) (pv 0) (pv 3) (fun _ _ => rfl)) pe_int (fun _ _ => rfl)) (pa_cons (pv 1) pa_nil))))))) (fun _ _ _ _ _ => (pv 3))) pe_int (fun _ _ => rfl)))
    (pss_one (ps_ret (C8.pe_c G_between_pairs hr (by omega) (by rfl) (pa_cons (pe_ix ix_tup (pv 0) (pe_op op_sub (pv 2) pe_int) (fun _ _ => rfl)) (pa_cons (pe_ix ix_tup (pv 0) (pv 2) (fun _ _ => rfl)) (pa_cons (pv 1) pa_nil))))))), ?_⟩
  have hm : m ≤ 1000000 := hm
  have szt : Sz m t := Sz.unit t0 t1 (Nat.lt_of_le_of_lt td hM)
  have len2 := hL.len
  obtain ⟨n, hn⟩ : ∃ n, L.length = n + 1 := ⟨L.length - 1, by omega⟩
  have get : ∀ i, i < L.length → ∃ p, L[i]? = some p ∧ p ∈ L := fun i h => ⟨_, List.getElem?_eq_getElem h, List.getElem_mem h⟩
  -- the first that is not ahead of the place
  let tst : Nat → Bool := fun i => !decide ((L.getD (i + 1) (0, 0)).1 < t)
  have hex : ∃ i, i < n ∧ tst i = true := by
    refine ⟨n - 1, by omega, ?_⟩
    obtain ⟨v1, e⟩ := hL.lt
    have e2 : L[n]? = some (1, v1) := by
      rw [List.getLast?_eq_getElem?, hn] at e
      exact e
    show (!decide ((L.getD (n - 1 + 1) (0, 0)).1 < t)) = true
    rw [show n - 1 + 1 = n by omega, List.getD_eq_getElem?_getD, e2]
    show (!decide ((1 : Rat) < t)) = true
    rw [decide_eq_false (by grind)]; rfl
  obtain ⟨i, r, ei, hi, pi, lo⟩ := filt_first hex
  obtain ⟨p1, hp1, m1⟩ := get i (by omega)
  obtain ⟨p2, hp2, m2⟩ := get (i + 1) (by omega)
  have pt : ∀ {j : Nat} {p : Pt}, L[j]? = some p → (L.getD j (0, 0)) = p := fun {j p} h => by rw [List.getD_eq_getElem?_getD, h]; rfl
  have h2 : ¬ p2.1 < t := by
    have := pi
    simp only [tst, pt hp2, Bool.not_eq_true', decide_eq_false_iff_not] at this
    exact this
  have h1 : p1.1 ≤ t := by
    rcases Nat.eq_zero_or_pos i with z | z
    · subst z
      obtain ⟨v0, e⟩ := hL.hd
      rw [List.head?_eq_getElem?, hp1] at e
      rw [Option.some.inj e]; exact t0
    · have := lo (i - 1) (by omega)
      simp only [tst, show i - 1 + 1 = i by omega, pt hp1, Bool.not_eq_false', decide_eq_true_eq] at this
      grind
  obtain ⟨lt12, pc, ep, eq, g0, g1⟩ := ln_at hL hp1 hp2
  have val : btw p1 p2 t = g t := btw_eq hL.pos pc lt12 ep eq h1 (by grind)
  have eB : ∀ {x y : Option V} {H' : Hp}, Same H H' → EvD K (tVar 0) [some u, some v, x, y] H' (lnD L) := fun s => ed_var rfl (Dat.same s hu)
  have eT : ∀ {x y : Option V} {H' : Hp}, Same H H' → EvD K (tVar 1) [some u, some v, x, y] H' (fr t) := fun s => ed_var rfl (Dat.same s hv)
  refine q_setD (ed_ixL (ed_lcA (l := List.range n) (G := fun (i : Nat) => D.int (1 + (i : Int))) (F := fun (i : Nat) => D.int (1 + (i : Int))) (p := tst) (ei_range2 (n := n) vv_c ((vv_lenT (vv_var rfl) hu).to (by rw [List.length_map, hn]; show V.int _ = V.int _; congr 1; omega)) (by decide) (by decide) (by omega)) (fun _ => rfl) (fun _ _ => rfl) (by rw [List.length_range]; omega) (fun j x H1 hj s1 hx => ⟨?_, fun _ => ed_var rfl hx⟩) rfl) ed_int (d := .int (1 + (i : Int))) ?_) (Same.refl _) fun x H1 s1 hx => ?_
  · have hj : j < n := List.mem_range.mp hj
    obtain ⟨p, hp, mp⟩ := get (j + 1) (by omega)
    refine (et_not (et_val (ed_less (n := m) (ed_ixT (ed_ixT (d := prD p) (eB s1) (ed_var rfl hx) ?_) ed_int rfl) (eT s1) (hL.sz_t hM mp) szt (by unfold LIM; omega)))).to ?_
    · rw [show (1 : Int) + (j : Nat) = ((j + 1 : Nat) : Int) by omega]
      exact atI_pr hp
    · simp only [tst, pt hp]
  · rw [ei]
    exact atI_nat (j := 0) rfl
  · obtain rfl : x = .int (1 + (i : Int)) := hx
    refine q_retD (ed_call (d := fr (btw p1 p2 t)) (ea_cons (ed_ixT (d := prD p1) (eB s1) (ed_sub (ed_var (d := .int (1 + (i : Int))) rfl rfl) ed_int) ?_) (ea_cons (ed_ixT (d := prD p2) (eB s1) (ed_var (d := .int (1 + (i : Int))) rfl rfl) ?_) (ea_cons (eT s1) ea_nil))) ⟨p1, p2, t, m + m, (hL.sz_t hM m1).mono (by omega), hL.sz_v hM m1, (hL.sz_t hM m2).mono (by omega), hL.sz_v hM m2, szt.mono (by omega), lt12, by unfold LIM; omega, rfl, rfl⟩ rfl) (Same.refl _) fun z H2 s2 h2 => q z H2 _ (s1.trans s2) rfl (val ▸ h2)
    · rw [show (1 : Int) + (i : Nat) - 1 = ((i : Nat) : Int) by omega]
      exact atI_pr hp1
    · rw [show (1 : Int) + (i : Nat) = ((i + 1 : Nat) : Int) by omega]
      exact atI_pr hp2
abbrev spStraight (K : PySem.W.Frag) : Sp := spP K 1 fun ds post => ∃ (M m : Nat) (f : Rat → Rat) (L : List Pt), Ln M f L ∧ M < 2 ^ m ∧ m ≤ MX ∧ L.length ≤ 900000 ∧ ds = [.lst (L.map prD)] ∧ post = fun d => ∃ L', d = lnD L' ∧ Ln M f L' ∧ L'.length ≤ L.length
theorem chn_snoc {α : Type} {R : α → α → Prop} {G : List α} {p r : α} (h : Chn R (G ++ [p])) (e : R p r) : Chn R (G ++ [p, r]) := by
  have := (Chn.app (a := p) (xs := G) (ys := [r])).mpr ⟨h, Chn.mk e (Chn.one r)⟩
  exact this
theorem chn_front {α : Type} {R : α → α → Prop} {G : List α} {p : α} {r : List α} (h : Chn R (G ++ p :: r)) : Chn R (G ++ [p]) := (Chn.app.mp h).1
theorem chn_last2 {α : Type} {R : α → α → Prop} {G : List α} {p r : α} (h : Chn R (G ++ [p, r])) : R p r := ((Chn.app (a := p) (xs := G) (ys := [r])).mp h).2.cc.1
theorem snoc1 {α : Type} {F : List α} (h : F ≠ []) : ∃ G x, F = G ++ [x] := ⟨F.dropLast, F.getLast h, (List.dropLast_concat_getLast h).symm⟩
theorem snoc2 {α : Type} {F : List α} (h : 2 ≤ F.length) : ∃ G p r, F = G ++ [p, r] := by
  obtain ⟨G, r, rfl⟩ := snoc1 (F := F) (fun e => by rw [e] at h; simp at h)
  obtain ⟨G', p, rfl⟩ := snoc1 (F := G) (fun e => by rw [e] at h; simp at h)
  exact ⟨G', p, r, by simp⟩
theorem ok_straight (W : Wd P K mg base) (F : Df K mg "straight" s_straight) (G_between_pairs : C8.Cal P w K mg base 36 "between_pairs" (spBtw K) []) : C8.Cal P w K mg base 37 "straight" (spStraight K) [] := by
  refine cal_of F sc_straight (fun _ _ _ _ _ _ us hl => match us, hl with | [_], _ => rfl) rfl fun f cdv A outer s H vs Q E ds post hr hp hd q => ?_
  obtain ⟨M, m, g, L, hL, hM, hm, hz, rfl, rfl⟩ := hp
  obtain ⟨u, rfl, hu⟩ := dats1 hd
  refine ⟨_, (pss_cons (ps_set (i := 1) sc_straight.nd rfl (.inl rfl) (pe_lst pa_nil))
    (pss_cons (ps_for PassesOwn.never rfl (pi_list (pv 0)) (pg_name (i := 2) sc_straight.nd rfl (Or.inl rfl))
    (pss_cons (ps_while PassesOwn.never (PW.pt (pw_and (pt_cmpR op_gt (pe_callB call_len_seq (by rfl) W.len b_len (pa_cons (pv 1) pa_nil)) pe_int (nomark _)) (pw_and1 (pt_cmpR (op_eqD (hu64 hr)) (C8.pe_c G_between_pairs hr (by omega) (by rfl) (pa_cons (pe_ix ix_list (pv 1) (pe_un un_neg pe_int) (fun _ _ => rfl)) (pa_cons (pv 2) (pa_cons (pe_ix ix_tup (pe_ix ix_list (pv 1) (pe_un un_neg pe_int) (fun _ _ => rfl)) pe_int (fun _ _ => rfl)) pa_nil)))) (pe_ix ix_tup (pe_ix ix_list (pv 1) (pe_un un_neg pe_int) (fun _ _ => rfl)) pe_int (fun _ _ => rfl)) (nomark _))))) (pss_one (ps_expr (pe_bm0 PySem.F.plainAttrs_list PySem.F.slot_list_pop PySem.F.type_list_pop mt_pop (pv 1)))))
    (pss_one (ps_expr (pe_bm PySem.F.plainAttrs_list PySem.F.slot_list_append PySem.F.type_list_append mt_append (pv 1) (pa_cons (pv 2) pa_nil))))))
    (pss_one (ps_ret (pe_callTy call_tuple_of (by rfl) W.tuple b_tuple (pa_cons (pv 1) pa_nil)))))), ?_⟩
  have hm : m ≤ 1000000 := hm
  refine ⟨Nat.zero_le _, fun p hp => ?_⟩
  refine q_forB (ei_list (vv_var rfl) hu) (same_upd hp) fun Hb H2 sb s2 hnp sb2 => ?_
  have hbp : Hb p = none := hnp p (by rw [upd_same]; exact fun z => nomatch z) hp
  refine ⟨fun i σ H' => ∃ y2 F acc, σ = [some u, some (.ref p), y2] ∧ Same Hb H' ∧ H' p = some (.lst acc) ∧ Dats K H' (F.map prD) acc ∧ F.length ≤ i ∧ (∀ x ∈ F, x ∈ L) ∧ (0 < i → ∃ G x, F = G ++ [x] ∧ L[i - 1]? = some x ∧ F.head? = L.head? ∧ Chn (Sg M g) F) ∧ (i = 0 → F = []), ⟨none, [], [], rfl, sb2, s2 _ _ upd_same, Dats.nil, Nat.le_refl _, by simp, fun z => absurd z (by omega), fun _ => rfl⟩, fun i σ H' ⟨_, _, _, _, h, _⟩ => h, ?_, ?_⟩
  · rintro i d x σ H3 H4 hi ⟨y2, F0, acc0, rfl, b1, ha0, hd0, hl0, hin0, hch0, hz0⟩ s4 hx
    obtain ⟨pr, hpr, rfl⟩ := pr_get hi
    have hiL : i < L.length := (List.getElem?_eq_some_iff.mp hpr).1
    -- what is found, while it is shortened
    refine while_ev (fun σ H' => ∃ F acc, σ = [some u, some (.ref p), some x] ∧ Same Hb H' ∧ Dat K H' (prD pr) x ∧ H' p = some (.lst acc) ∧ Dats K H' (F.map prD) acc ∧ F.length ≤ i ∧ (∀ x ∈ F, x ∈ L) ∧ (0 < i → F.head? = L.head? ∧ Chn (Sg M g) (F ++ [pr]) ∧ F ≠ []) ∧ (i = 0 → F = []))
      (fun σ H' => match H' p with | some (.lst acc) => acc.length | _ => 0) ⟨F0, acc0, rfl, b1.trans s4, hx, s4 _ _ ha0, Dats.same s4 hd0, hl0, hin0, fun z => ?_, hz0⟩ ?_
    · obtain ⟨G, y, e1, e2, e3, e4⟩ := hch0 z
      refine ⟨e3, ?_, by rw [e1]; simp⟩
      rw [e1] at e4 ⊢
      rw [List.append_assoc]
      refine chn_snoc e4 (hL.ch.at e2 ?_)
      rw [show i - 1 + 1 = i by omega]
      exact hpr
    · rintro σ H5 ⟨F, acc, rfl, b5, hx5, ha, hacc, hl, hin, hch, hz5⟩
      have dl : Dat K H5 (.lst (F.map prD)) (.ref p) := ⟨p, acc, rfl, SqL.of ha, hacc⟩
      have eF : EvD K (tVar 1) [some u, some (.ref p), some x] H5 (.lst (F.map prD)) := ed_var rfl dl
      have eX : EvD K (tVar 2) [some u, some (.ref p), some x] H5 (prD pr) := ed_var rfl hx5
      have mpr : pr ∈ L := List.mem_of_getElem? hpr
      have lacc : acc.length = F.length := by rw [← hacc.length, List.length_map]
      -- no more is taken off
      have stop : ∀ (D' : Ends), (∀ σ H', (∃ y2 F acc, σ = [some u, some (.ref p), y2] ∧ Same Hb H' ∧ H' p = some (.lst acc) ∧ Dats K H' (F.map prD) acc ∧ F.length ≤ i + 1 ∧ (∀ x ∈ F, x ∈ L) ∧ (0 < i + 1 → ∃ G x, F = G ++ [x] ∧ L[i + 1 - 1]? = some x ∧ F.head? = L.head? ∧ Chn (Sg M g) F) ∧ (i + 1 = 0 → F = [])) → D'.nx σ H') → ∀ H7, Same H5 H7 → tDrop (tBM K "list" rAppend (tVar 1) (tCons (tVar 2) tNil)) D' [some u, some (.ref p), some x] H7 := fun D' hn H7 s7 => by
        have ha7 : H7 p = some (.lst acc) := s7 _ _ ha
        refine ⟨.ref p, rfl, .inl ⟨rfl, _, SqL.of ha7⟩, _, rfl, p, acc, x, rfl, rfl, ha7, small1M (by rw [lacc]; omega), hn _ _ ?_⟩
        have tk := tk_upd (o := HO.lst (acc ++ [x])) ha7
        refine ⟨some x, F ++ [pr], acc ++ [x], rfl, fun b o e => ?_, upd_same, ?_, ?_, ?_, ?_, fun z => absurd z (by omega)⟩
        · rw [upd_ne (ne_of_none e hbp)]
          exact s7 _ _ (b5 _ _ e)
        · rw [List.map_append]
          exact (Dats.tk tk (nls_map fun _ => rfl) (Dats.same s7 hacc)).append (.cons (Dat.tk tk rfl (Dat.same s7 hx5)) .nil)
        · rw [List.length_append]; simp; omega
        · intro y hy
          rcases List.mem_append.mp hy with hy | hy
          · exact hin y hy
          · rw [List.mem_singleton.mp hy]; exact mpr
        · intro _
          refine ⟨F, pr, rfl, by simpa using hpr, ?_, ?_⟩
          · rcases Nat.eq_zero_or_pos i with z | z
            · rw [hz5 z]
              subst z
              rw [List.head?_eq_getElem? (l := L), hpr]; rfl
            · obtain ⟨e1, _, e3⟩ := hch z
              rw [← e1]
              cases F with
              | nil => exact absurd rfl e3
              | cons a r => rfl
          · rcases Nat.eq_zero_or_pos i with z | z
            · rw [hz5 z]; exact Chn.one pr
            · exact (hch z).2.1
      by_cases h2 : 2 ≤ F.length
      · obtain ⟨G, a, b, rfl⟩ := snoc2 h2
        have hi0 : 0 < i := by simp at hl; omega
        obtain ⟨c1, c2, c3⟩ := hch hi0
        have ma : a ∈ L := hin a (by simp)
        have mb : b ∈ L := hin b (by simp)
        have ch3 : Chn (Sg M g) (G ++ a :: [b, pr]) := by
          have := c2
          rw [List.append_assoc] at this
          exact this
        have sab := (Chn.app.mp ch3).2.cc.1
        have sbp := (Chn.app.mp ch3).2.cc.2.cc.1
        have at2 : atI ((G ++ [a, b]).map prD) (-2) = some (prD a) := by rw [List.map_append]; exact atI_neg2 _ _ _
        have at1 : atI ((G ++ [a, b]).map prD) (-1) = some (prD b) := by rw [List.map_append]; exact atI_last2 _ _ _
        have eb : EvD K (tOp (rIxL K) (tVar 1) (tUn (rU fun i => .int (-i)) (tC (.int 1)))) [some u, some (.ref p), some x] H5 (prD b) := ed_ixL eF (ed_neg ed_int) at1
        refine ⟨decide (btw a pr b.1 = b.2), (et_and (b := true) ((et_test (K := K) (ed_gt (ed_lenL eF) ed_int)).to (decide_eq_true (by rw [List.length_map]; omega))) fun _ => et_test (K := K) (ed_eqF (ed_call (d := fr (btw a pr b.1)) (ea_cons (ed_ixL eF (ed_neg ed_int) at2) (ea_cons eX (ea_cons (ed_ixT eb ed_int rfl) ea_nil)))
          ⟨a, pr, b.1, m + m, (hL.sz_t hM ma).mono (by omega), hL.sz_v hM ma, (hL.sz_t hM mpr).mono (by omega), hL.sz_v hM mpr, (hL.sz_t hM mb).mono (by omega), ?_, by unfold LIM; omega, rfl, rfl⟩ rfl) (ed_ixT eb ed_int rfl))).to (by rw [Bool.true_and]), fun et H7 s7 => ?_, fun _ H7 s7 => stop _ (fun _ _ z => z) H7 s7⟩
        · trace_state
          have e := of_decide_eq_true et
          have ha7 : H7 p = some (.lst acc) := s7 _ _ ha
          have lac2 : acc.length = G.length + 2 := by rw [lacc]; simp
          have hlast : acc[acc.length - 1]? = some (acc[acc.length - 1]'(by omega)) := List.getElem?_eq_getElem (by omega)
          refine ⟨.ref p, rfl, .inl ⟨rfl, _, SqL.of ha7⟩, p, acc, _, rfl, rfl, ha7, hlast, ⟨G ++ [a], acc.dropLast, rfl, fun q o e => ?_, ?_, upd_same, ?_, ?_, ?_, fun _ => ⟨?_, ?_, by simp⟩, fun z => absurd z (by omega)⟩, ?_⟩
          · rw [upd_ne (ne_of_none e hbp)]
            exact s7 _ _ (b5 _ _ e)
          · exact Dat.tk (tk_upd ha7) rfl (Dat.same s7 hx5)
          · have tk := tk_upd (o := HO.lst acc.dropLast) ha7
            refine Dats.tk tk (nls_map fun _ => rfl) (Dats.same s7 ?_)
            have t1 := Dats.take (G.length + 1) hacc
            rw [← List.map_take, show (G ++ [a, b]).take (G.length + 1) = G ++ [a] by
              rw [show G ++ [a, b] = (G ++ [a]) ++ [b] by simp]
              exact List.take_left' (by simp)] at t1
            rw [List.dropLast_eq_take, show acc.length - 1 = G.length + 1 by omega]
            exact t1
          · simp at hl ⊢; omega
          · intro y hy
            refine hin y ?_
            simp only [List.mem_append, List.mem_cons, List.not_mem_nil, or_false] at hy ⊢
            rcases hy with hy | hy
            · exact .inl hy
            · exact .inr (.inl hy)
          · rw [← c1]
            cases G <;> rfl
          · rw [List.append_assoc]
            exact chn_snoc (chn_front ch3) (sg_join hL.pos sab sbp (hL.on a ma) (hL.on b mb) (hL.on pr mpr) e)
          · show (match upd H7 p (.lst acc.dropLast) p with | some (.lst acc) => acc.length | _ => 0) < (match H5 p with | some (.lst acc) => acc.length | _ => 0)
            rw [upd_same, ha]
            show acc.dropLast.length < acc.length
            rw [List.length_dropLast]; omega
        · have h1 := sab.1
          have h2 := sbp.1
          grind
      · exact ⟨false, (et_and (b := false) (c := false) ((et_test (K := K) (ed_gt (ed_lenL eF) ed_int)).to (decide_eq_false (by rw [List.length_map]; omega))) (fun e => nomatch e)).to rfl, fun e => Bool.noConfusion e, fun _ H7 s7 => stop _ (fun _ _ z => z) H7 s7⟩
  · rintro σ H3 ⟨y2, F, acc, rfl, b1, ha, hacc, hl, hin, hch, _⟩
    rw [List.length_map] at hl hch
    have l2 := hL.len
    obtain ⟨G, x, e1, e2, e3, e4⟩ := hch (by omega)
    refine q_retD (ed_tupOf (ed_var (d := .lst (F.map prD)) rfl ⟨p, acc, rfl, SqL.of ha, hacc⟩)) (Same.refl _) fun r H4 s4 h4 => q r H4 _ ((sb.trans b1).trans s4) ⟨F, rfl, ⟨hL.pos, fun p hp => hL.on p (hin p hp), fun p hp => hL.den p (hin p hp), e4, ?_, ?_, hL.rng⟩, hl⟩ h4
    · obtain ⟨v, e⟩ := hL.hd
      exact ⟨v, by rw [e3]; exact e⟩
    · obtain ⟨v, e⟩ := hL.lt
      rw [List.getLast?_eq_getElem?] at e
      rw [e] at e2
      exact ⟨v, by rw [e1, List.getLast?_concat, ← e2]⟩
end
end Cb
set_option Elab.async false
set_option linter.all false
set_option maxRecDepth 100000
set_option maxHeartbeats 4000000
/-! walks: places, crossings -/
namespace Cb
open PySem PySem.Spec PyProof.Rows L2
/-! ### a dict as a set of fractions -/
def keyQ (q : Rat) : KK := [.inl q.num, .inl (q.den : Int)]
theorem keyQ_inj {p q : Rat} (h : keyQ p = keyQ q) : p = q := by
  unfold keyQ at h
  simp only [List.cons.injEq, Sum.inl.injEq, and_true] at h
  exact Rat.ext h.1 (by omega)
def insQ (S : List Rat) (q : Rat) : List Rat := if q ∈ S then S else S ++ [q]
theorem mem_insQ {S : List Rat} {q x : Rat} : x ∈ insQ S q ↔ x ∈ S ∨ x = q := by
  unfold insQ
  split
  · rename_i h
    exact ⟨.inl, fun z => z.elim id fun e => e ▸ h⟩
  · simp
theorem insQ_len (S : List Rat) (q : Rat) : (insQ S q).length ≤ S.length + 1 := by
  unfold insQ
  split
  · omega
  · simp
theorem insQ_nodup {S : List Rat} {q : Rat} (h : S.Nodup) : (insQ S q).Nodup := by
  unfold insQ
  split
  · exact h
  · rename_i hq
    exact List.nodup_append.mpr ⟨h, by simp, fun a ha b hb e => hq (by rw [List.mem_singleton] at hb; rw [← hb, ← e]; exact ha)⟩
def FS (P : Program) (w : World) (K : PySem.W.Frag) (H : Hp) (a : Addr) (S : List Rat) : Prop := ∃ xs, Td P w K H a xs ∧ xs.map (·.1) = S.map keyQ ∧ S.Nodup
section
variable {P : Program} {w : World} {K : PySem.W.Frag} {H H' : Hp} {a b : Addr} {S : List Rat} {q : Rat}
theorem FS.same (h : FS P w K H a S) (s : Same H H') : FS P w K H' a S := let ⟨xs, d, r⟩ := h; ⟨xs, d.same s, r⟩
theorem FS.ext (h : FS P w K H a S) : ∃ φ, H a = some (.ext φ) := let ⟨_, ⟨⟨_, _, e, _⟩, _⟩, _⟩ := h; ⟨_, e⟩
theorem FS.put {v : V} {xs : List (KK × Addr × V)} {o' : Obj} (h : Td P w K (upd H a (obO a o')) a (putT xs (keyQ q) b v)) (e : xs.map (·.1) = S.map keyQ) (nd : S.Nodup) : FS P w K (upd H a (obO a o')) a (insQ S q) := by
  refine ⟨_, h, ?_, insQ_nodup nd⟩
  have key : keyQ q ∈ xs.map (·.1) ↔ q ∈ S := by
    rw [e, List.mem_map]
    exact ⟨fun ⟨x, hx, ex⟩ => keyQ_inj ex ▸ hx, fun hq => ⟨q, hq, rfl⟩⟩
  unfold insQ
  by_cases hq : q ∈ S
  · rw [if_pos hq, putT_old (key.mpr hq), e]
  · rw [if_neg hq, putT_fresh (fun z => hq (key.mp z)), List.map_append, List.map_append, e]; rfl
theorem fr_sq {v : V} (h : Dat K H (fr q) v) : ∃ b, v = .ref b ∧ SqT K H b ((keyQ q).map kV) := by
  obtain ⟨b, xs, e, sq, hx⟩ := h
  obtain ⟨x, y, rfl, h1, h2⟩ := dats2 hx
  obtain rfl : x = .int q.num := h1
  obtain rfl : y = .int q.den := h2
  exact ⟨b, e, sq⟩
theorem sq_fr (h : SqT K H b ((keyQ q).map kV)) : Dat K H (fr q) (.ref b) := ⟨b, _, rfl, h, .cons rfl (.cons rfl .nil)⟩
/-- the heap without what stands at a -/
def hide (H : Hp) (a : Addr) : Hp := fun b => if b = a then none else H b
theorem hide_none : hide H a a = none := if_pos rfl
theorem hide_same : Same (hide H a) H := fun b o e => by
  unfold hide at e
  split at e
  · cases e
  · exact e
theorem same_hide {H0 : Hp} (s : Same H0 H) (h : H0 a = none) : Same H0 (hide H a) := fun b o e => by
  unfold hide
  rw [if_neg (ne_of_none e h)]
  exact s b o e
theorem tk_hide {φ : Heap → Prop} (h : H a = some (.ext φ)) : Tk H (hide H a) := fun c u r => by
  have ne : c ≠ a := fun e => by
    subst e
    rcases r with r | ⟨ob, r⟩
    · rw [h] at r; cases r
    · rw [h] at r; cases r
  have e : hide H a c = H c := if_neg ne
  rcases r with r | ⟨ob, r⟩
  · exact .inl (by rw [e]; exact r)
  · exact .inr ⟨ob, by rw [e]; exact r⟩
theorem same_updN {H0 : Hp} {o : HO} (s : Same H0 H) (h : H0 a = none) : Same H0 (upd H a o) := fun b x e => by
  rw [upd_ne (ne_of_none e h)]
  exact s b x e
variable {σ : L2.St} {td ty tv te : TE} {dv : D}
/-- found[q] = .. -/
theorem q_putF {D' : Ends} {H0 : Hp} (s : Same H H0) (hd : EvV td σ H0 (.ref a)) (hy : EvD K ty σ H (fr q)) (hv : EvD K tv σ H dv) (hS : FS P w K H0 a S) (hz : S.length ≤ 1000000) (k : ∀ H3 o', Same H0 H3 → FS P w K (upd H3 a (obO a o')) a (insQ S q) → Tk H3 (upd H3 a (obO a o')) → D'.nx σ (upd H3 a (obO a o'))) :
    sPutTd P w K td ty tv D' σ H0 := hv.use s fun v H1 s1 hv1 => hd H1 s1 _ (hy.use (s.trans s1) fun y H2 s2 hy2 => by
  obtain ⟨b, rfl, sq⟩ := fr_sq hy2
  obtain ⟨xs, d, e, nd⟩ := hS.same (s1.trans s2)
  have hl : xs.length = S.length := by rw [← List.length_map (f := fun x : KK × Addr × V => x.1), e, List.length_map]
  obtain ⟨⟨o0, es, e0, _⟩, _⟩ := id d
  exact ⟨a, b, keyQ q, xs, rfl, rfl, d, sq, small1M (by rw [hl]; exact hz), fun o' d' => k H2 o' (s1.trans s2) (FS.put d' e nd) (tk_updX e0)⟩)
/-- list(found) -/
theorem ed_listF (hd : EvV te σ H (.ref a)) (hS : FS P w K H a S) : EvD K (tCB (rListTd P w K) (tCons te tNil)) σ H (.lst (frs S)) := EvD.mk fun H0 s Q k => hd H0 s _ (by
  obtain ⟨xs, d, e, nd⟩ := hS.same s
  refine ⟨a, xs, rfl, d, fun p hp => k _ _ (same_upd hp) ⟨p, _, rfl, SqL.of upd_same, Dats.same (same_upd hp) ?_⟩⟩
  have : ∀ (xs : List (KK × Addr × V)) (S : List Rat), xs.map (·.1) = S.map keyQ → KAll K H0 xs → Dats K H0 (frs S) (xs.map fun x => V.ref x.2.1) := by
    intro xs
    induction xs with
    | nil => intro S e _; cases S with
      | nil => rfl
      | cons _ _ => cases e
    | cons x r ih =>
      intro S e ks
      cases S with
      | nil => cases e
      | cons q S =>
        rw [List.map_cons, List.map_cons, List.cons.injEq] at e
        have k0 := ks x List.mem_cons_self
        rw [e.1] at k0
        exact .cons (sq_fr k0) (ih S e.2 fun p hp => ks p (List.mem_cons_of_mem _ hp))
  exact this xs S e d.ks)
end
/-! ### crossing -/
theorem num_mul_sign (x y : Rat) : (0 ≤ x.num * y.num) ↔ 0 ≤ x * y := by
  have h1 := mul_den x
  have h2 := mul_den y
  have p1 := denR_pos x
  have p2 := denR_pos y
  have e : x * y * ((x.den : Rat) * (y.den : Rat)) = ((x.num * y.num : Int) : Rat) := by
    rw [Rat.intCast_mul, ← h1, ← h2]; grind
  have pp : (0 : Rat) < (x.den : Rat) * (y.den : Rat) := Rat.mul_pos p1 p2
  constructor
  · intro h
    have h3 := intR_nonneg h
    rw [← e] at h3
    refine le_of_mul_le pp ?_
    rw [Rat.zero_mul]; exact h3
  · intro h
    have h3 : (0 : Rat) ≤ ((x.num * y.num : Int) : Rat) := by
      rw [← e]
      exact Rat.mul_nonneg h (by grind)
    exact Rat.intCast_nonneg.mp h3
section
variable {P : Program} {w : World} {K : PySem.W.Frag} {mg : Str → Option Value} {base : Heap}
abbrev spCross (K : PySem.W.Frag) : Sp := spP K 4 fun ds post => ∃ (M m : Nat) (f g : Rat → Rat) (L1 L2 : List Pt) (c d : Rat), Ln M f L1 ∧ Ln M g L2 ∧ M < 2 ^ m ∧ m ≤ MX ∧ 0 ≤ c ∧ c < d ∧ d ≤ 1 ∧ c.den ≤ M ∧ d.den ≤ M ∧ L1.length ≤ 900000 ∧ L2.length ≤ 900000 ∧ ds = [lnD L1, lnD L2, fr c, fr d] ∧
  post = fun e => e = if (f c - g c) * (f d - g d) < 0 then fr (zero f g c d) else .non
theorem ok_crossing (W : Wd P K mg base) (F : Df K mg "crossing" s_crossing) (G_at : C8.Cal P w K mg base 37 "at" (spAt K) []) (G_over : C8.Cal P w K mg base 35 "over" (spOver K) []) (G_minus : C8.Cal P w K mg base 35 "minus" (spMinus K) []) (G_plus : C8.Cal P w K mg base 35 "plus" (spPlus K) []) (G_times : C8.Cal P w K mg base 35 "times" (spTimes K) []) :
    C8.Cal P w K mg base 38 "crossing" (spCross K) [] := by
  refine cal_of F sc_crossing (fun _ _ _ _ _ _ us hl => match us, hl with | [_, _, _, _], _ => rfl) rfl fun f cdv A outer s H vs Q E ds post hr hp hd q => ?_
  obtain ⟨M, m, f, g, L1, L2, c, d, h1, h2, hM, hm, c0, cd, d1, cM, dM, z1, z2, rfl, rfl⟩ := hp
  obtain ⟨u1, u2, u3, u4, rfl, hu1, hu2, hu3, hu4⟩ := dats4 hd
  refine ⟨_, (pss_cons (ps_set (i := 4) sc_crossing.nd rfl (.inl rfl) (C8.pe_c G_minus hr (by omega) (by rfl) (pa_cons (C8.pe_c G_at hr (by omega) (by rfl) (pa_cons (pv 0) (pa_cons (pv 2) pa_nil))) (pa_cons (C8.pe_c G_at hr (by omega) (by rfl) (pa_cons (pv 1) (pa_cons (pv 2) pa_nil))) pa_nil))))
    (pss_cons (ps_set (i := 5) sc_crossing.nd rfl (.inl rfl) (C8.pe_c G_minus hr (by omega) (by rfl) (pa_cons (C8.pe_c G_at hr (by omega) (by rfl) (pa_cons (pv 0) (pa_cons (pv 3) pa_nil))) (pa_cons (C8.pe_c G_at hr (by omega) (by rfl) (pa_cons (pv 1) (pa_cons (pv 3) pa_nil))) pa_nil))))
    (pss_cons (ps_if (pt_cmpR op_ge (pe_op op_mulX (pe_ix ix_tup (pv 4) pe_int (fun _ _ => rfl)) (pe_ix ix_tup (pv 5) pe_int (fun _ _ => rfl))) pe_int (nomark _)) (pss_one (ps_ret pe_non)) pss_nil)
    (pss_one (ps_ret (C8.pe_c G_plus hr (by omega) (by rfl) (pa_cons (pv 2) (pa_cons (C8.pe_c G_times hr (by omega) (by rfl) (pa_cons (C8.pe_c G_over hr (by omega) (by rfl) (pa_cons (pv 4) (pa_cons (C8.pe_c G_minus hr (by omega) (by rfl) (pa_cons (pv 4) (pa_cons (pv 5) pa_nil))) pa_nil))) (pa_cons (C8.pe_c G_minus hr (by omega) (by rfl) (pa_cons (pv 3) (pa_cons (pv 2) pa_nil))) pa_nil))) pa_nil)))))))), ?_⟩
  have hm' : m ≤ 1000000 := hm
  have c1 : c ≤ 1 := by grind
  have d0 : 0 ≤ d := by grind
  have szc : Sz m c := Sz.unit c0 c1 (Nat.lt_of_le_of_lt cM hM)
  have szd : Sz m d := Sz.unit d0 d1 (Nat.lt_of_le_of_lt dM hM)
  have e1 : ∀ {x y : Option V} {H' : Hp}, Same H H' → EvD K (tVar 0) [some u1, some u2, some u3, some u4, x, y] H' (lnD L1) := fun s => ed_var rfl (Dat.same s hu1)
  have e2 : ∀ {x y : Option V} {H' : Hp}, Same H H' → EvD K (tVar 1) [some u1, some u2, some u3, some u4, x, y] H' (lnD L2) := fun s => ed_var rfl (Dat.same s hu2)
  have e3 : ∀ {x y : Option V} {H' : Hp}, Same H H' → EvD K (tVar 2) [some u1, some u2, some u3, some u4, x, y] H' (fr c) := fun s => ed_var rfl (Dat.same s hu3)
  have e4 : ∀ {x y : Option V} {H' : Hp}, Same H H' → EvD K (tVar 3) [some u1, some u2, some u3, some u4, x, y] H' (fr d) := fun s => ed_var rfl (Dat.same s hu4)
  have sfc := h1.sz_at hM c0 c1 cM
  have sgc := h2.sz_at hM c0 c1 cM
  have sfd := h1.sz_at hM d0 d1 dM
  have sgd := h2.sz_at hM d0 d1 dM
  have shere := sfc.sub sgc
  have sthere := sfd.sub sgd
  refine q_setD (d := fr (f c - g c)) (ed_bin (n := m + m) (ed_call (d := fr (f c)) (ea_cons (e1 (Same.refl _)) (ea_cons (e3 (Same.refl _)) ea_nil)) ⟨M, m, f, L1, c, h1, hM, hm, c0, c1, cM, z1, rfl, rfl⟩ rfl) (ed_call (d := fr (g c)) (ea_cons (e2 (Same.refl _)) (ea_cons (e3 (Same.refl _)) ea_nil)) ⟨M, m, g, L2, c, h2, hM, hm, c0, c1, cM, z2, rfl, rfl⟩ rfl) sfc sgc (by unfold LIM; omega) trivial) (Same.refl _) fun x H1 s1 hx => ?_
  refine q_setD (d := fr (f d - g d)) (ed_bin (n := m + m) (ed_call (d := fr (f d)) (ea_cons (e1 s1) (ea_cons (e4 s1) ea_nil)) ⟨M, m, f, L1, d, h1, hM, hm, d0, d1, dM, z1, rfl, rfl⟩ rfl) (ed_call (d := fr (g d)) (ea_cons (e2 s1) (ea_cons (e4 s1) ea_nil)) ⟨M, m, g, L2, d, h2, hM, hm, d0, d1, dM, z2, rfl, rfl⟩ rfl) sfd sgd (by unfold LIM; omega) trivial) (Same.refl _) fun y H2 s2 hy => ?_
  have ex : ∀ {H' : Hp}, Same H2 H' → EvD K (tVar 4) [some u1, some u2, some u3, some u4, some x, some y] H' (fr (f c - g c)) := fun s => ed_var rfl (Dat.same (s2.trans s) hx)
  have ey : ∀ {H' : Hp}, Same H2 H' → EvD K (tVar 5) [some u1, some u2, some u3, some u4, some x, some y] H' (fr (f d - g d)) := fun s => ed_var rfl (Dat.same s hy)
  have s02 := s1.trans s2
  refine q_if (et_test (K := K) (ed_ge (ed_mul (ed_top (ex (Same.refl _))) (ed_top (ey (Same.refl _))) (mul_ok (n := m + m + (m + m) + 1) shere.1 sthere.1 (by unfold LIM; omega))) ed_int)) (Same.refl _) (fun e H3 s3 => ?_) (fun e H3 s3 => ?_)
  · have e := (num_mul_sign _ _).mp (of_decide_eq_true e)
    refine q_retD (ed_non (K := K)) (Same.refl _) fun r H4 s4 h4 => q r H4 _ ((s02.trans s3).trans s4) rfl ?_
    rw [if_neg (by grind)]
    exact h4
  · have e : ¬ 0 ≤ (f c - g c) * (f d - g d) := fun z => of_decide_eq_false e ((num_mul_sign _ _).mpr z)
    have hneg : (f c - g c) * (f d - g d) < 0 := by grind
    have dn : (f c - g c) - (f d - g d) ≠ 0 := fun z => by
      have : f c - g c = f d - g d := by grind
      rw [this] at e
      have : 0 ≤ (f d - g d) * (f d - g d) := by
        rcases @Rat.le_total 0 (f d - g d) with z | z
        · exact Rat.mul_nonneg z z
        · have := Rat.mul_nonneg (a := -(f d - g d)) (b := -(f d - g d)) (by grind) (by grind)
          grind
      exact e this
    have sdiff := shere.sub sthere
    have sq1 := shere.div sdiff dn
    have sdc := szd.sub szc
    have sp := sq1.mul sdc
    refine q_retD (d := fr (zero f g c d)) (ed_bin (n := 14 * m + 5) (y := (f c - g c) / (f c - g c - (f d - g d)) * (d - c)) (e3 (s02.trans s3)) (ed_bin (n := 12 * m + 4) (x := (f c - g c) / (f c - g c - (f d - g d))) (ed_bin (n := 8 * m + 3) (y := f c - g c - (f d - g d)) (ex s3) (ed_bin (n := 4 * m + 1) (ex s3) (ey s3) (shere.mono (by omega)) (sthere.mono (by omega)) (by unfold LIM; omega) trivial) (shere.mono (by omega)) (sdiff.mono (by omega)) (by unfold LIM; omega) dn) (ed_bin (n := m) (e4 (s02.trans s3)) (e3 (s02.trans s3)) szd szc (by unfold LIM; omega) trivial) (sq1.mono (by omega)) (sdc.mono (by omega)) (by unfold LIM; omega) trivial) (szc.mono (by omega)) (sp.mono (by omega)) (by unfold LIM; omega) trivial) (Same.refl _) fun r H4 s4 h4 => q r H4 _ ((s02.trans s3).trans s4) rfl ?_
    rw [if_pos hneg]
    exact h4
end
end Cb
set_option Elab.async false
set_option linter.all false
set_option maxRecDepth 100000
set_option maxHeartbeats 4000000
/-! walks: places of lines, crossings -/
namespace Cb
open PySem PySem.Spec PyProof.Rows L2
abbrev LF := (Rat → Rat) × List Pt
abbrev lnsD (l : List LF) : List D := l.map fun p => lnD p.2
def tot (l : List LF) : Nat := (l.map fun p => p.2.length).sum
theorem tot_le {l : List LF} {p : LF} (h : p ∈ l) : p.2.length ≤ tot l := by
  unfold tot
  induction l with
  | nil => cases h
  | cons a r ih =>
    rw [List.map_cons, List.sum_cons]
    rcases List.mem_cons.mp h with rfl | h
    · omega
    · have := ih h; omega
theorem tot_take_succ {l : List LF} {i : Nat} {p : LF} (h : l[i]? = some p) : tot (l.take (i + 1)) = tot (l.take i) + p.2.length := by
  unfold tot
  rw [List.take_succ, h, List.map_append, List.sum_append]
  simp
theorem tot_take_le (l : List LF) (i : Nat) : tot (l.take i) ≤ tot l := by
  unfold tot
  conv => rhs; rw [← List.take_append_drop i l]
  rw [List.map_append, List.sum_append]
  omega
theorem lns_get {l : List LF} {i : Nat} {d : D} (h : (lnsD l)[i]? = some d) : ∃ p, l[i]? = some p ∧ d = lnD p.2 := by
  rw [List.getElem?_map, Option.map_eq_some_iff] at h
  obtain ⟨p, h1, h2⟩ := h
  exact ⟨p, h1, h2.symm⟩
theorem srt_lt {S : List Rat} (h : S.Nodup) : (srt S).Pairwise (· < ·) := by
  have nd : (srt S).Nodup := (srt_perm S).nodup_iff.mpr h
  have so := srt_sorted S
  exact (so.and nd).imp fun ⟨h1, h2⟩ => by
    rcases Rat.le_iff_lt_or_eq.mp h1 with z | z
    · exact z
    · exact absurd z h2
section
variable {K : PySem.W.Frag} {σ : L2.St} {H : Hp}
/-- a for that ends its block -/
theorem q_forE {wi : TI} {g : TG} {tb : TS} {D' : Ends} {H0 : Hp} {ds : List D} (h : EvI K wi σ H ds) (s : Same H H0)
    (k : ∀ Hb H1, Same H Hb → Same H0 H1 → (∀ p, H0 p ≠ none → H p = none → Hb p = none) → Same Hb H1 → ∃ Pv : Nat → L2.St → Hp → Prop, Pv 0 σ H1 ∧ (∀ i σ H, Pv i σ H → Same Hb H) ∧
      (∀ i d x σ H H', ds[i]? = some d → Pv i σ H → Same H H' → Dat K H' d x → g x σ H' fun σ2 H2 => tb { D' with nx := Pv (i + 1), ct := Pv (i + 1), bk := D'.nx } σ2 H2) ∧ ∀ σ H, Pv ds.length σ H → D'.nx σ H) :
    tFor wi g tb D' σ H0 := h H0 s _ fun J H1 Hb s1 sb sb1 hp hW => by
  obtain ⟨Pv, k1, k2, k3, k4⟩ := k Hb H1 sb s1 hp sb1
  exact for_data hW Pv k1 k2 k3 k4
end
section
variable {P : Program} {w : World} {K : PySem.W.Frag} {mg : Str → Option Value} {base : Heap}
abbrev spPlaces (K : PySem.W.Frag) : Sp := spP K 1 fun ds post => ∃ (M m : Nat) (l : List LF), Lns M l ∧ M < 2 ^ m ∧ m ≤ MX ∧ tot l ≤ 900000 ∧ ds = [.lst (lnsD l)] ∧ post = fun d => ∃ ps, d = .lst (frs ps) ∧ AllP l ps ∧ ps.Pairwise (· < ·) ∧ ps.length ≤ tot l
theorem ok_places_of (W : Wd P K mg base) (F : Df K mg "places_of" s_places_of) (G_ascending : C8.Cal P w K mg base 36 "ascending" (spAsc K) []) : C8.Cal P w K mg base 37 "places_of" (spPlaces K) [] := by
  refine cal_of F sc_places_of (fun _ _ _ _ _ _ us hl => match us, hl with | [_], _ => rfl) rfl fun f cdv A outer s H vs Q E ds post hr hp hd q => ?_
  obtain ⟨M, m, l, hl, hM, hm, hz, rfl, rfl⟩ := hp
  obtain ⟨u, rfl, hu⟩ := dats1 hd
  refine ⟨_, (pss_cons (ps_set (i := 1) sc_places_of.nd rfl (.inl rfl) pe_newTd)
    (pss_cons (ps_for PassesOwn.never rfl (pi_list (pv 0)) (pg_name (i := 2) sc_places_of.nd rfl (Or.inl rfl))
    (pss_one (ps_for PassesOwn.never rfl (pi_tup (pv 2)) (pg_tup rfl (pgs_cons (pg_name (i := 3) sc_places_of.nd rfl (Or.inl rfl)) (pgs_cons (pg_name (i := 4) sc_places_of.nd rfl (Or.inl rfl)) pgs_nil)))
    (pss_one (ps_putTd (hu1 hr) (pv 1) (pv 3) pe_bl)))))
    (pss_one (ps_ret (C8.pe_c G_ascending hr (by omega) (by rfl) (pa_cons (pe_callTy (call_listTd rfl) (by rfl) W.list b_list (pa_cons (pv 1) pa_nil)) pa_nil)))))), ?_⟩
  have hm : m ≤ 1000000 := hm
  refine fun a ha htd => ?_
  have fs0 : FS P w K (upd H a (obO a emptyD)) a [] := ⟨[], htd, rfl, List.nodup_nil⟩
  refine q_forB (ei_list (vv_var rfl) hu) (same_upd ha) fun Hb H2 sb s2 hnp sb2 => ?_
  have hba : Hb a = none := hnp a (by rw [upd_same]; exact fun z => nomatch z) ha
  refine ⟨fun i σ H' => ∃ y2 y3 y4 S, σ = [some u, some (.ref a), y2, y3, y4] ∧ Same Hb H' ∧ FS P w K H' a S ∧ (∀ x, x ∈ S ↔ ∃ p ∈ l.take i, ∃ v, (x, v) ∈ p.2) ∧ S.length ≤ tot (l.take i), ⟨none, none, none, [], rfl, sb2, fs0.same s2, fun x => by simp, Nat.zero_le _⟩, fun i σ H' ⟨_, _, _, _, _, h, _⟩ => h, ?_, ?_⟩
  · rintro i d x σ H3 H4 hi ⟨y2, y3, y4, S, rfl, b1, fs, mem, len⟩ s4 hx
    obtain ⟨p, hp, rfl⟩ := lns_get hi
    have fs4 := fs.same s4
    obtain ⟨φ, eφ⟩ := fs4.ext
    have b4 : Same Hb (hide H4 a) := same_hide (b1.trans s4) hba
    have hx4 : Dat K (hide H4 a) (lnD p.2) x := Dat.tk (tk_hide eφ) (nl_lnD _) hx
    have mp : p ∈ l := List.mem_of_getElem? hp
    have tt := tot_take_le l (i + 1)
    have te := tot_take_succ hp
    refine q_forE (ei_tup (vv_var rfl) hx4) hide_same fun Hc H5 sc s5 hnc sc5 => ?_
    have hca : Hc a = none := hnc a (by rw [eφ]; exact fun z => nomatch z) hide_none
    refine ⟨fun j σ H' => ∃ y3 y4 S', σ = [some u, some (.ref a), some x, y3, y4] ∧ Same Hc H' ∧ FS P w K H' a S' ∧ (∀ z, z ∈ S' ↔ z ∈ S ∨ ∃ v, (z, v) ∈ p.2.take j) ∧ S'.length ≤ S.length + j, ⟨y3, y4, S, rfl, sc5, fs4.same s5, fun z => by simp, by omega⟩, fun j σ H' ⟨_, _, _, _, h, _⟩ => h, ?_, ?_⟩
    · rintro j d z σ H6 H7 hj ⟨y3, y4, S', rfl, b6, fs6, mem', len'⟩ s7 hz'
      obtain ⟨t, ht, rfl⟩ := pr_get hj
      refine g_tup2 hz' fun v1 v2 hv1 hv2 => ?_
      have hjl : j < p.2.length := (List.getElem?_eq_some_iff.mp ht).1
      refine q_putF (q := t.1) (dv := .bl true) (Same.refl _) (vv_var rfl) (ed_var rfl hv1) ed_bl (fs6.same s7) (by omega) fun H8 o' s8 fs8 _ => ?_
      refine ⟨some v1, some v2, insQ S' t.1, rfl, same_updN ((b6.trans s7).trans s8) hca, fs8, fun z => ?_, by have := insQ_len S' t.1; omega⟩
      rw [mem_insQ, mem', List.take_succ, ht]
      constructor
      · rintro ((h | ⟨v, h⟩) | h)
        · exact .inl h
        · exact .inr ⟨v, List.mem_append_left _ h⟩
        · exact .inr ⟨t.2, List.mem_append_right _ (by rw [h]; simp)⟩
      · rintro (h | ⟨v, h⟩)
        · exact .inl (.inl h)
        · rcases List.mem_append.mp h with h | h
          · exact .inl (.inr ⟨v, h⟩)
          · have : (z, v) = t := by simpa using h
            exact .inr (by rw [← this])
    · rintro σ H6 ⟨y3, y4, S', rfl, b6, fs6, mem', len'⟩
      rw [List.length_map, List.take_length] at mem'
      rw [List.length_map] at len'
      refine ⟨some x, y3, y4, S', rfl, (b4.trans sc).trans b6, fs6, fun z => ?_, by omega⟩
      rw [mem', mem, List.take_succ, hp]
      constructor
      · rintro (⟨q, hq, h⟩ | h)
        · exact ⟨q, List.mem_append_left _ hq, h⟩
        · exact ⟨p, List.mem_append_right _ (by simp), h⟩
      · rintro ⟨q, hq, h⟩
        rcases List.mem_append.mp hq with hq | hq
        · exact .inl ⟨q, hq, h⟩
        · have : q = p := by simpa using hq
          subst this
          exact .inr h
  · rintro σ H3 ⟨y2, y3, y4, S, rfl, b1, fs, mem, len⟩
    rw [List.length_map, List.take_length] at mem len
    have nd : S.Nodup := let ⟨_, _, _, nd⟩ := fs; nd
    refine q_retD (ed_call (d := .lst (frs (srt S))) (ea_cons (ed_listF (vv_var rfl) fs) ea_nil) ⟨S, m, by omega, fun x hx => ?_, by unfold LIM; omega, rfl, rfl⟩ rfl) (Same.refl _) fun r H4 s4 h4 => q r H4 _ ((sb.trans b1).trans s4) ⟨srt S, rfl, fun x => ?_, srt_lt nd, by rw [srt_len]; exact len⟩ h4
    · obtain ⟨p, hp, v, hv⟩ := (mem x).mp hx
      exact (hl p hp).sz_t hM hv
    · rw [(srt_perm S).mem_iff]; exact mem x
end
end Cb
set_option Elab.async false
set_option linter.all false
set_option maxRecDepth 100000
set_option maxHeartbeats 4000000
/-! walks: dicts by comprehensions, enumerate; crossings of lines -/
namespace Cb
open PySem PySem.Spec PyProof.Rows L2
/-- a dict from fractions, what stands at a key is told by the key -/
def FM (P : Program) (w : World) (K : PySem.W.Frag) (H : Hp) (a : Addr) (S : List Rat) (vf : Rat → D) : Prop := ∃ xs, Td P w K H a xs ∧ xs.map (·.1) = S.map keyQ ∧ S.Nodup ∧ ∀ x ∈ xs, ∀ q, x.1 = keyQ q → Dat K H (vf q) x.2.2
def dd (qs : List Rat) : List Rat := qs.foldl insQ []
theorem foldl_ins_mem {x : Rat} : ∀ {qs S : List Rat}, x ∈ qs.foldl insQ S ↔ x ∈ S ∨ x ∈ qs
  | [], S => by simp
  | q :: qs, S => by
    rw [List.foldl_cons, foldl_ins_mem, mem_insQ, List.mem_cons]
    constructor
    · rintro ((h | h) | h)
      · exact .inl h
      · exact .inr (.inl h)
      · exact .inr (.inr h)
    · rintro (h | h | h)
      · exact .inl (.inl h)
      · exact .inl (.inr h)
      · exact .inr h
theorem mem_dd {x : Rat} {qs : List Rat} : x ∈ dd qs ↔ x ∈ qs := by
  unfold dd
  rw [foldl_ins_mem]
  simp
theorem foldl_ins_len : ∀ {qs S : List Rat}, (qs.foldl insQ S).length ≤ S.length + qs.length
  | [], S => by simp
  | q :: qs, S => by
    rw [List.foldl_cons]
    have := foldl_ins_len (qs := qs) (S := insQ S q)
    have := insQ_len S q
    rw [List.length_cons]; omega
theorem dd_len (qs : List Rat) : (dd qs).length ≤ qs.length := by
  have := foldl_ins_len (qs := qs) (S := [])
  unfold dd
  simpa using this
theorem dd_take_succ {qs : List Rat} {i : Nat} {q : Rat} (h : qs[i]? = some q) : dd (qs.take (i + 1)) = insQ (dd (qs.take i)) q := by
  unfold dd
  rw [List.take_succ, h, List.foldl_append]; rfl
section
variable {P : Program} {w : World} {K : PySem.W.Frag} {H H' : Hp} {a b : Addr} {S : List Rat} {q : Rat} {vf : Rat → D} {σ : L2.St} {te ta tb tk tv : TE}
theorem FM.fs (h : FM P w K H a S vf) : FS P w K H a S := let ⟨xs, d, e, n, _⟩ := h; ⟨xs, d, e, n⟩
theorem FM.same (h : FM P w K H a S vf) (s : Same H H') : FM P w K H' a S vf := let ⟨xs, d, e, n, k⟩ := h; ⟨xs, d.same s, e, n, fun x hx q hq => Dat.same s (k x hx q hq)⟩
/-- {key: value for .. in ..} -/
theorem dct_ev {wi : TI} {vs : List Nat} {j : Nat} {qs : List Rat} {H0 : Hp} {Q : VK} (h : EvI K wi σ H (frs qs)) (s : Same H H0) (hj : ∀ x, wipe ((wipe σ vs).set j (some x)) vs = wipe σ vs) (hz : qs.length ≤ 1000000) (hn : ∀ q, nl (vf q) = true)
    (he : ∀ q x H1, q ∈ qs → Same H H1 → Dat K H1 (fr q) x → EvD K tk ((wipe σ vs).set j (some x)) H1 (fr q) ∧ EvD K tv ((wipe σ vs).set j (some x)) H1 (vf q)) (hQ : ∀ a H', Same H0 H' → H0 a = none → FM P w K H' a (dd qs) vf → Q (.ref a) H') :
    tDct P w K wi (gName j) tk tv vs σ H0 Q := h H0 s _ fun J H1 Hb s1 sb sb1 hp hW => fun D hD htd => by
  have hD0 : H0 D = none := s1.free hD
  have hDb : Hb D = none := sb1.free hD
  refine ⟨fun i m H2 => m = qs.length - i ∧ i ≤ qs.length ∧ Same H1 H2 ∧ FM P w K H2 D (dd (qs.take i)) vf, ⟨qs.length, by simp, Nat.zero_le _, same_upd hD, [], htd, rfl, List.nodup_nil, fun x hx => nomatch hx⟩, ?_⟩
  rintro i m H2 ⟨rfl, hi, s2, fm⟩
  obtain ⟨hgo, hst⟩ := hW H2 (sb1.trans s2)
  rw [frs_len] at hst
  by_cases hlt : i < qs.length
  · have hq := List.getElem?_eq_getElem hlt
    obtain ⟨g1, g2⟩ := hgo i _ (show (frs qs)[i]? = some (fr qs[i]) by unfold frs; rw [List.getElem?_map, hq]; rfl)
    refine .inr ⟨g1, _, fun H' z => ⟨qs.length - (i + 1), by omega, rfl, hlt, z⟩, fun x H3 y => ?_⟩
    obtain ⟨y1, y2⟩ := g2 x H3 y
    have sH : Same H H3 := ((s.trans s1).trans s2).trans y1
    obtain ⟨ek, ev⟩ := he _ x H3 (List.getElem_mem hlt) sH y2
    refine ⟨hj x, EvD.use ek (Same.refl _) fun u H4 s4 hu => EvD.use (EvP.mono s4 ev) (Same.refl _) fun z H5 s5 hz5 => ?_⟩
    obtain ⟨b, rfl, sq⟩ := fr_sq hu
    obtain ⟨xs, d, e, nd, vals⟩ := fm.same ((y1.trans s4).trans s5)
    have hl : xs.length = (dd (qs.take i)).length := by rw [← List.length_map (f := fun x : KK × Addr × V => x.1), e, List.length_map]
    have hl2 := dd_len (qs.take i)
    rw [List.length_take] at hl2
    obtain ⟨⟨o0, es, e0, _⟩, _⟩ := id d
    refine ⟨xs, keyQ qs[i], b, rfl, sqT_same s5 sq, d, small1M (by omega), fun o' d' => ⟨fun c o ec => ?_, ?_⟩⟩
    · rw [upd_ne (ne_of_none ec hD)]
      exact s5 _ _ (s4 _ _ (y1 _ _ (s2 _ _ ec)))
    · have tk := tk_updX (o := obO D o') e0
      obtain ⟨xs', d2, e2, nd2⟩ := FS.put d' e nd
      rw [dd_take_succ hq]
      refine ⟨_, d', ?_, nd2, fun x hx q eq => ?_⟩
      · unfold insQ
        have key : keyQ qs[i] ∈ xs.map (·.1) ↔ qs[i] ∈ dd (qs.take i) := by
          rw [e, List.mem_map]
          exact ⟨fun ⟨x, hx, ex⟩ => keyQ_inj ex ▸ hx, fun hq => ⟨_, hq, rfl⟩⟩
        by_cases hq' : qs[i] ∈ dd (qs.take i)
        · rw [if_pos hq', putT_old (key.mpr hq'), e]
        · rw [if_neg hq', putT_fresh (fun z => hq' (key.mp z)), List.map_append, List.map_append, e]; rfl
      · unfold putT at hx
        split at hx
        · obtain ⟨x0, hx0, ex0⟩ := List.mem_map.mp hx
          by_cases hk : x0.1 = keyQ qs[i]
          · rw [if_pos hk] at ex0
            rw [← ex0] at eq ⊢
            have : qs[i] = q := keyQ_inj (hk.symm.trans eq)
            rw [← this]
            exact Dat.tk tk (hn _) hz5
          · rw [if_neg hk] at ex0
            rw [← ex0] at eq ⊢
            exact Dat.tk tk (hn _) (vals x0 hx0 q eq)
        · rcases List.mem_append.mp hx with hx | hx
          · exact Dat.tk tk (hn _) (vals x hx q eq)
          · have hx : x = (keyQ qs[i], b, z) := by simpa using hx
            rw [hx] at eq ⊢
            have : qs[i] = q := keyQ_inj eq
            rw [← this]
            exact Dat.tk tk (hn _) hz5
  · have e : i = qs.length := by omega
    subst e
    rw [List.take_length] at fm
    exact .inl ⟨hst, hQ D H2 (s1.trans s2) hD0 fm⟩
theorem q_setDct {D' : Ends} {u : TS} {i : Nat} {wi : TI} {vs : List Nat} {j : Nat} {qs : List Rat} {H0 : Hp} (vf : Rat → D) (h : EvI K wi σ H (frs qs)) (s : Same H H0) (hj : ∀ x, wipe ((wipe σ vs).set j (some x)) vs = wipe σ vs) (hz : qs.length ≤ 1000000) (hn : ∀ q, nl (vf q) = true)
    (he : ∀ q x H1, q ∈ qs → Same H H1 → Dat K H1 (fr q) x → EvD K tk ((wipe σ vs).set j (some x)) H1 (fr q) ∧ EvD K tv ((wipe σ vs).set j (some x)) H1 (vf q)) (hQ : ∀ a H', Same H0 H' → H0 a = none → FM P w K H' a (dd qs) vf → u D' (σ.set i (some (.ref a))) H') :
    tSeq (tAsg (tDct P w K wi (gName j) tk tv vs) (gName i)) u D' σ H0 := by
  show tDct P w K wi (gName j) tk tv vs σ H0 fun x H1 => gName i x σ H1 (u D')
  exact dct_ev h s hj hz hn he hQ
/-! ### enumerate -/
def enD (ds : List D) : List D := ds.zipIdx.map fun p => D.tup [.int (p.2 : Nat), p.1]
theorem enD_get {ds : List D} {i : Nat} {d : D} (h : (enD ds)[i]? = some d) : ∃ e, ds[i]? = some e ∧ d = .tup [.int (i : Nat), e] := by
  unfold enD at h
  rw [List.getElem?_map, List.getElem?_zipIdx, Option.map_eq_some_iff] at h
  obtain ⟨p, h1, h2⟩ := h
  rw [Option.map_eq_some_iff] at h1
  obtain ⟨e, h3, h4⟩ := h1
  refine ⟨e, h3, ?_⟩
  rw [← h2, ← h4]
  simp
theorem enD_len (ds : List D) : (enD ds).length = ds.length := by unfold enD; simp
theorem ei_enumL {ds : List D} {v : V} (h : EvV te σ H v) (hd : Dat K H (.lst ds) v) : EvI K (iEnum K (tCons te tNil)) σ H (enD ds) := fun H0 s R r => by
  obtain ⟨c, xs, rfl, sq, hx⟩ := hd
  refine h H0 s _ ⟨c, xs, rfl, s.seq sq, r _ H0 H (Same.refl _) (Same.refl _) s (fun p _ h => h) fun H2 s2 => ?_⟩
  have g1 := s2.seq sq
  have q1 := Dats.same s2 hx
  refine ⟨fun i d hi => ?_, xs, g1, by rw [enD_len, q1.length]; exact Nat.le_refl _⟩
  obtain ⟨e, he, rfl⟩ := enD_get hi
  obtain ⟨x, hx2, hxd⟩ := q1.get he
  refine ⟨⟨xs, x, g1, hx2⟩, fun z H' hz => ?_⟩
  obtain ⟨T, x', rfl, hT, rfl, f1⟩ := hz
  have e1 := f1 xs g1
  rw [hx2] at e1
  cases e1
  exact ⟨same_upd hT, T, _, rfl, .inl (.inl upd_same), .cons rfl (.cons (Dat.same (same_upd hT) hxd) .nil)⟩
theorem ei_enumT {ds : List D} {v : V} (h : EvV te σ H v) (hd : Dat K H (.tup ds) v) : EvI K (iEnumT K (tCons te tNil)) σ H (enD ds) := fun H0 s R r => by
  obtain ⟨c, xs, rfl, sq, hx⟩ := hd
  refine h H0 s _ ⟨c, xs, rfl, sqT_same s sq, r _ H0 H (Same.refl _) (Same.refl _) s (fun p _ h => h) fun H2 s2 => ?_⟩
  have g1 := sqT_same s2 sq
  have q1 := Dats.same s2 hx
  refine ⟨fun i d hi => ?_, xs, g1, by rw [enD_len, q1.length]⟩
  obtain ⟨e, he, rfl⟩ := enD_get hi
  obtain ⟨x, hx2, hxd⟩ := q1.get he
  refine ⟨⟨xs, g1, (List.getElem?_eq_some_iff.mp hx2).1⟩, fun z H' hz => ?_⟩
  obtain ⟨T, x', rfl, hT, rfl, f1⟩ := hz
  have e1 := f1 xs g1
  rw [hx2] at e1
  cases e1
  exact ⟨same_upd hT, T, _, rfl, .inl (.inl upd_same), .cons rfl (.cons (Dat.same (same_upd hT) hxd) .nil)⟩
end
def tri : Nat → Nat
  | 0 => 0
  | n + 1 => tri n + n
theorem tri_mono {m n : Nat} (h : m ≤ n) : tri m ≤ tri n := by
  induction h with
  | refl => exact Nat.le_refl _
  | step _ ih => exact Nat.le_trans ih (Nat.le_add_right _ _)
theorem fns_get {l : List LF} {i : Nat} {p : LF} (h : l[i]? = some p) : (fns l)[i]? = some p.1 := by
  rw [List.getElem?_map, h]; rfl
section
variable {P : Program} {w : World} {K : PySem.W.Frag} {mg : Str → Option Value} {base : Heap}
def isNonD : D → Bool
  | .non => true
  | _ => false
theorem dat_non {H : Hp} : ∀ {d : D} {v : V}, Dat K H d v → decide (v = V.non) = isNonD d
  | .int i, v, e => by obtain rfl : v = .int i := e; rfl
  | .str i, v, e => by obtain rfl : v = .str i := e; rfl
  | .bl i, v, e => by obtain rfl : v = .bl i := e; rfl
  | .non, v, e => by obtain rfl : v = .non := e; rfl
  | .tup ds, v, ⟨a, xs, e, _⟩ => by subst e; rfl
  | .lst ds, v, ⟨a, xs, e, _⟩ => by subst e; rfl
  | .rule _ _ _, v, ⟨a, _, xs, e, _⟩ => by subst e; rfl
theorem ed_notN {σ : L2.St} {H : Hp} {ta : TE} {d : D} (h : EvD K ta σ H d) : EvD K (tOp (fun x y H Q => y = .non ∧ Q (.bl (!decide (x = .non))) H) ta (tC .non)) σ H (.bl (!isNonD d)) := EvD.mk fun H0 s Q q =>
  h.use s fun x H1 s1 hx => ⟨rfl, q _ H1 s1 (by rw [dat_non hx]; rfl)⟩
theorem ed_isN {σ : L2.St} {H : Hp} {ta : TE} {d : D} (h : EvD K ta σ H d) : EvD K (tOp (fun x y H Q => y = .non ∧ Q (.bl (decide (x = .non))) H) ta (tC .non)) σ H (.bl (isNonD d)) := EvD.mk fun H0 s Q q =>
  h.use s fun x H1 s1 hx => ⟨rfl, q _ H1 s1 (by rw [dat_non hx]; rfl)⟩
abbrev spCrossings (K : PySem.W.Frag) : Sp := spP K 2 fun ds post => ∃ (M m : Nat) (l : List LF) (P0 : List Rat), Lns M l ∧ l ≠ [] ∧ M < 2 ^ m ∧ m ≤ MX ∧ tot l ≤ 900000 ∧ AllP l P0 ∧ P0.Pairwise (· < ·) ∧ P0.length + P0.length * tri l.length ≤ 900000 ∧ ds = [.lst (lnsD l), .lst (frs P0)] ∧
  post = fun d => ∃ ps, d = .lst (frs ps) ∧ Refd l P0 ps ∧ ps.length ≤ P0.length + P0.length * tri l.length
theorem ok_crossings (W : Wd P K mg base) (F : Df K mg "crossings" s_crossings) (G_ascending : C8.Cal P w K mg base 36 "ascending" (spAsc K) []) (G_crossing : C8.Cal P w K mg base 38 "crossing" (spCross K) []) : C8.Cal P w K mg base 39 "crossings" (spCrossings K) [] := by
  refine cal_of F sc_crossings (fun _ _ _ _ _ _ us hl => match us, hl with | [_, _], _ => rfl) rfl fun f cdv A outer s H vs Q E ds post hr hp hd q => ?_
  obtain ⟨M, m, l, P0, hl, hl0, hM, hm, hz, ha, so, hz2, rfl, rfl⟩ := hp
  obtain ⟨u, v, rfl, hu, hv⟩ := dats2 hd
  refine ⟨_, (pss_cons (ps_setDct (i := 3) (own := [("place", 2)]) (g := gName 2) (hu0 hr) rfl sc_crossings.nd rfl rfl (sw_trueD rfl rfl rfl (by decide +kernel)) (pi_list (pv 1)) (blkOk_by (N := n_crossings) (sc := defScope s_crossings) (by decide +kernel)) (fun _ _ _ _ _ => (pg_name (i := 2) sc_crossings.nd rfl (Or.inl rfl))) (fun _ _ _ _ _ => (pv 2)) (fun _ _ _ _ _ => pe_bl))
    (pss_cons (ps_for PassesOwn.never rfl (pi_range2 (by rfl) W.range (pa_cons pe_int (pa_cons (pe_callB call_len_seq (by rfl) W.len b_len (pa_cons (pv 1) pa_nil)) pa_nil))) (pg_name (i := 4) sc_crossings.nd rfl (Or.inl rfl))
    (pss_one (ps_for PassesOwn.never rfl (pi_enum (by rfl) W.enum (pa_cons (pv 0) pa_nil)) (pg_tup rfl (pgs_cons (pg_name (i := 5) sc_crossings.nd rfl (Or.inl rfl)) (pgs_cons (pg_name (i := 6) sc_crossings.nd rfl (Or.inl rfl)) pgs_nil)))
    (pss_one (ps_for PassesOwn.never rfl (pi_list (pe_slice sl_list (pv 0) po_none (po_some (pv 5)))) (pg_name (i := 7) sc_crossings.nd rfl (Or.inl rfl))
    (pss_cons (ps_set (i := 2) sc_crossings.nd rfl (.inl rfl) (C8.pe_c G_crossing hr (by omega) (by rfl) (pa_cons (pv 7) (pa_cons (pv 6) (pa_cons (pe_ix ix_list (pv 1) (pe_op op_sub (pv 4) pe_int) (fun _ _ => rfl)) (pa_cons (pe_ix ix_list (pv 1) (pv 4) (fun _ _ => rfl)) pa_nil))))))
    (pss_one (ps_if (pt_cmpR op_notN (pv 2) pe_non (nomark _)) (pss_one (ps_putTd (hu1 hr) (pv 3) (pv 2) pe_bl)) pss_nil))))))))
    (pss_one (ps_ret (C8.pe_c G_ascending hr (by omega) (by rfl) (pa_cons (pe_callTy (call_listTd rfl) (by rfl) W.list b_list (pa_cons (pv 3) pa_nil)) pa_nil)))))), ?_⟩
  have hm' : m ≤ 1000000 := hm
  have pl := allP_pl hl hl0 ha so
  have hP0 : 0 < P0.length := List.length_pos_of_mem pl.mem0
  obtain ⟨N, hN⟩ : ∃ N, P0.length = N + 1 := ⟨P0.length - 1, by omega⟩
  have pden : ∀ {x : Rat}, x ∈ P0 → x.den ≤ M := fun h => pl.dn _ h
  refine q_setDct (fun _ => .bl true) (ei_list (vv_var rfl) hv) (Same.refl _) (fun _ => rfl) (by omega) (fun _ => rfl) (fun x y H1 _ _ hy => ⟨ed_var rfl hy, ed_bl⟩) fun a H1 s1 ha0 fm => ?_
  have fs0 := fm.fs
  have eN : EvV (tCB (fun xs H Q => ∃ p ys, xs = [.ref p] ∧ (SqL K H p ys ∨ SqT K H p ys) ∧ Q (.int ys.length) H) (tCons (tVar 1) tNil)) [some u, some v, none, some (.ref a), none, none, none, none] H (.int (1 + (N : Int))) := (vv_lenL (vv_var rfl) hv).to (by rw [frs_len, hN]; show V.int _ = V.int _; congr 1; omega)
  refine q_forB (K := K) (ei_range2 (n := N) vv_c eN (by decide) (by decide) (by omega)) s1 fun Hb H2 sb s2 hnp sb2 => ?_
  obtain ⟨φ0, eφ0⟩ := fs0.ext
  have hba : Hb a = none := hnp a (by rw [eφ0]; exact fun z => nomatch z) ha0
  refine ⟨fun i σ H' => ∃ y2 y4 y5 y6 y7 S, σ = [some u, some v, y2, some (.ref a), y4, y5, y6, y7] ∧ Same Hb H' ∧ FS P w K H' a S ∧ (∀ x ∈ P0, x ∈ S) ∧ (∀ z ∈ S, z ∈ P0 ∨ ∃ i c d, P0[i]? = some c ∧ P0[i + 1]? = some d ∧ ∃ f ∈ fns l, ∃ g ∈ fns l, (f c - g c) * (f d - g d) < 0 ∧ z = zero f g c d) ∧
    (∀ i', i' < i → ∀ c d, P0[i']? = some c → P0[i' + 1]? = some d → ∀ (j k : Nat) f g, j < k → (fns l)[j]? = some f → (fns l)[k]? = some g → (f c - g c) * (f d - g d) < 0 → zero f g c d ∈ S) ∧ S.length ≤ P0.length + i * tri l.length,
    ⟨none, none, none, none, none, dd P0, rfl, sb2, fs0.same s2, fun x hx => mem_dd.mpr hx, fun z hz => .inl (mem_dd.mp hz), fun i' h => absurd h (Nat.not_lt_zero _), by have := dd_len P0; omega⟩, fun i σ H' ⟨_, _, _, _, _, _, _, h, _⟩ => h, ?_, ?_⟩
  · rintro i dk xk σ H3 H4 hi ⟨y2, y4, y5, y6, y7, S, rfl, b1, fs, sub, sup, cr, len⟩ s4 hx
    obtain ⟨hiN, rfl⟩ := rangeD_get hi
    obtain rfl : xk = .int (1 + (i : Int)) := hx
    have fs4 := fs.same s4
    obtain ⟨φ, eφ⟩ := fs4.ext
    have b4 : Same Hb (hide H4 a) := same_hide (b1.trans s4) hba
    have hc := List.getElem?_eq_getElem (l := P0) (i := i) (by omega)
    have hd' := List.getElem?_eq_getElem (l := P0) (i := i + 1) (by omega)
    generalize hcv : P0[i] = c at hc
    generalize hdv : P0[i + 1] = dd' at hd'
    obtain ⟨cd, mc, md, _⟩ := pl_gap pl hc hd'
    have tin : i * tri l.length + tri l.length ≤ P0.length * tri l.length := by
      rw [← Nat.succ_mul]; exact Nat.mul_le_mul_right _ (by omega)
    refine q_forE (ei_enumL (ds := lnsD l) (vv_var rfl) (Dat.same (sb.trans b4) hu)) hide_same fun Hc H5 sc s5 hnc sc5 => ?_
    have hca : Hc a = none := hnc a (by rw [eφ]; exact fun z => nomatch z) hide_none
    refine ⟨fun far σ H' => ∃ y2 y5 y6 y7 S, σ = [some u, some v, y2, some (.ref a), some (.int (1 + (i : Int))), y5, y6, y7] ∧ Same Hc H' ∧ FS P w K H' a S ∧ (∀ x ∈ P0, x ∈ S) ∧ (∀ z ∈ S, z ∈ P0 ∨ ∃ i c d, P0[i]? = some c ∧ P0[i + 1]? = some d ∧ ∃ f ∈ fns l, ∃ g ∈ fns l, (f c - g c) * (f d - g d) < 0 ∧ z = zero f g c d) ∧
      (∀ i', i' < i → ∀ c d, P0[i']? = some c → P0[i' + 1]? = some d → ∀ (j k : Nat) f g, j < k → (fns l)[j]? = some f → (fns l)[k]? = some g → (f c - g c) * (f d - g d) < 0 → zero f g c d ∈ S) ∧
      (∀ (j k : Nat) f g, j < k → k < far → (fns l)[j]? = some f → (fns l)[k]? = some g → (f c - g c) * (f dd' - g dd') < 0 → zero f g c dd' ∈ S) ∧ S.length ≤ P0.length + i * tri l.length + tri far,
      ⟨y2, y5, y6, y7, S, rfl, sc5, fs4.same s5, sub, sup, cr, fun j k f g _ h => absurd h (Nat.not_lt_zero _), len⟩, fun far σ H' ⟨_, _, _, _, _, _, h, _⟩ => h, ?_, ?_⟩
    · rintro far dx xx σ H6 H7 hfar ⟨z2, z5, z6, z7, S1, rfl, b6, fs6, sub1, sup1, cr1, cr2, len1⟩ s7 hxx
      obtain ⟨e, he, rfl⟩ := enD_get hfar
      obtain ⟨p2, hp2, rfl⟩ := lns_get he
      have hfl : far < l.length := (List.getElem?_eq_some_iff.mp hp2).1
      have mp2 : p2 ∈ l := List.mem_of_getElem? hp2
      refine g_tup2 hxx fun v1 v2 hv1 hv2 => ?_
      obtain rfl : v1 = .int (far : Nat) := hv1
      have fs7 := fs6.same s7
      obtain ⟨φ7, eφ7⟩ := fs7.ext
      have c7 : Same Hc (hide H7 a) := same_hide (b6.trans s7) hca
      have tf := tri_mono (show far + 1 ≤ l.length from hfl)
      have tf' : tri (far + 1) = tri far + far := rfl
      have hu7 := Dat.same (((sb.trans b4).trans sc).trans c7) hu
      have hv7 := Dat.same (((sb.trans b4).trans sc).trans c7) hv
      have hv2' : Dat K (hide H7 a) (lnD p2.2) v2 := Dat.tk (tk_hide eφ7) (nl_lnD _) hv2
      refine q_forE (ei_to (ds := lnsD l) (k := far) (vv_var rfl) hu7 (vv_var rfl)) hide_same fun He H8 se s8 hne se8 => ?_
      have hea : He a = none := hne a (by rw [eφ7]; exact fun z => nomatch z) hide_none
      refine ⟨fun j σ H' => ∃ y2 y7 S, σ = [some u, some v, y2, some (.ref a), some (.int (1 + (i : Int))), some (.int (far : Nat)), some v2, y7] ∧ Same He H' ∧ FS P w K H' a S ∧ (∀ x ∈ S1, x ∈ S) ∧ (∀ z ∈ S, z ∈ P0 ∨ ∃ i c d, P0[i]? = some c ∧ P0[i + 1]? = some d ∧ ∃ f ∈ fns l, ∃ g ∈ fns l, (f c - g c) * (f d - g d) < 0 ∧ z = zero f g c d) ∧
        (∀ (j' : Nat) f, j' < j → (fns l)[j']? = some f → (f c - p2.1 c) * (f dd' - p2.1 dd') < 0 → zero f p2.1 c dd' ∈ S) ∧ S.length ≤ P0.length + i * tri l.length + tri far + j,
        ⟨z2, z7, S1, rfl, se8, fs7.same s8, fun x hx => hx, sup1, fun j' f h => absurd h (Nat.not_lt_zero _), by omega⟩, fun j σ H' ⟨_, _, _, _, h, _⟩ => h, ?_, ?_⟩
      · rintro j dj xj σ H9 H10 hj ⟨w2, w7, S2, rfl, b9, fs9, sub2, sup2, cr3, len2⟩ s10 hxj
        rw [List.getElem?_take] at hj
        have hjf : j < far := by
          rcases Nat.lt_or_ge j far with z | z
          · exact z
          · rw [if_neg (by omega)] at hj; cases hj
        rw [if_pos hjf] at hj
        obtain ⟨p1, hp1, rfl⟩ := lns_get hj
        have mp1 : p1 ∈ l := List.mem_of_getElem? hp1
        have s7x : Same (hide H7 a) H10 := (se.trans b9).trans s10
        have ln1 := hl p1 mp1
        have ln2 := hl p2 mp2
        have t1 := tot_le mp1
        have t2 := tot_le mp2
        have ePl : EvD K (tVar 1) [some u, some v, w2, some (.ref a), some (.int (1 + (i : Int))), some (.int (far : Nat)), some v2, some xj] H10 (.lst (frs P0)) := ed_var rfl (Dat.same s7x hv7)
        have eK : EvD K (tVar 4) [some u, some v, w2, some (.ref a), some (.int (1 + (i : Int))), some (.int (far : Nat)), some v2, some xj] H10 (.int (1 + (i : Int))) := ed_var rfl rfl
        refine q_setD (d := if (p1.1 c - p2.1 c) * (p1.1 dd' - p2.1 dd') < 0 then fr (zero p1.1 p2.1 c dd') else .non) (ed_call (ea_cons (ed_var rfl hxj) (ea_cons (ed_var rfl (Dat.same s7x hv2')) (ea_cons (ed_ixL (d := fr c) ePl (ed_sub eK ed_int) ?_) (ea_cons (ed_ixL (d := fr dd') ePl eK ?_) ea_nil))))
          ⟨M, m, p1.1, p2.1, p1.2, p2.2, c, dd', ln1, ln2, hM, hm, pl.ge mc, cd, pl.le md, pden mc, pden md, by omega, by omega, rfl, rfl⟩ rfl) (Same.refl _) fun y H11 s11 hy => ?_
        · rw [show (1 : Int) + (i : Nat) - 1 = ((i : Nat) : Int) by omega]; exact atI_frs hc
        · rw [show (1 : Int) + (i : Nat) = ((i + 1 : Nat) : Int) by omega]; exact atI_frs hd'
        · have gf1 := fns_get hp1
          by_cases hneg : (p1.1 c - p2.1 c) * (p1.1 dd' - p2.1 dd') < 0
          · rw [if_pos hneg] at hy
            refine q_if1 (b := true) (et_test (K := K) ((ed_notN (ed_var rfl hy)).to rfl)) (Same.refl _) (fun _ H12 s12 => ?_) (fun e => nomatch e)
            refine q_putF (q := zero p1.1 p2.1 c dd') (dv := .bl true) (Same.refl _) (vv_var rfl) (ed_var rfl (Dat.same s12 hy)) ed_bl (fs9.same ((s10.trans s11).trans s12)) (by omega) fun H13 o' s13 fs13 _ => ?_
            refine ⟨some y, some xj, insQ S2 (zero p1.1 p2.1 c dd'), rfl, same_updN ((((b9.trans s10).trans s11).trans s12).trans s13) hea, fs13, fun x hx => mem_insQ.mpr (.inl (sub2 x hx)), fun z hz => ?_, fun j' f hj' hf hn => ?_, by have := insQ_len S2 (zero p1.1 p2.1 c dd'); omega⟩
            · rcases mem_insQ.mp hz with hz | hz
              · exact sup2 z hz
              · exact .inr ⟨i, c, dd', hc, hd', p1.1, List.mem_of_getElem? gf1, p2.1, List.mem_of_getElem? (fns_get hp2), hneg, hz⟩
            · rw [mem_insQ]
              rcases Nat.lt_or_ge j' j with z | z
              · exact .inl (cr3 j' f z hf hn)
              · have : j' = j := by omega
                subst this
                rw [gf1] at hf
                cases hf
                exact .inr rfl
          · rw [if_neg hneg] at hy
            refine q_if1 (b := false) (et_test (K := K) ((ed_notN (ed_var rfl hy)).to rfl)) (Same.refl _) (fun e => nomatch e) (fun _ H12 s12 => ?_)
            refine ⟨some y, some xj, S2, rfl, ((b9.trans s10).trans s11).trans s12, fs9.same ((s10.trans s11).trans s12), sub2, sup2, fun j' f hj' hf hn => ?_, by omega⟩
            rcases Nat.lt_or_ge j' j with z | z
            · exact cr3 j' f z hf hn
            · have : j' = j := by omega
              subst this
              rw [gf1] at hf
              cases hf
              exact absurd hn hneg
      · rintro σ H9 ⟨w2, w7, S2, rfl, b9, fs9, sub2, sup2, cr3, len2⟩
        have eL : ((lnsD l).take far).length = far := by rw [List.length_take, List.length_map]; omega
        rw [eL] at cr3 len2
        refine ⟨w2, some (.int (far : Nat)), some v2, w7, S2, rfl, (c7.trans se).trans b9, fs9, fun x hx => sub2 x (sub1 x hx), sup2, fun i' hi' c d h1 h2 j k f g hjk hf hg hn => sub2 _ (cr1 i' hi' c d h1 h2 j k f g hjk hf hg hn), fun j k f g hjk hk hf hg hn => ?_, by omega⟩
        rcases Nat.lt_or_ge k far with z | z
        · exact sub2 _ (cr2 j k f g hjk z hf hg hn)
        · have : k = far := by omega
          subst this
          rw [fns_get hp2] at hg
          cases hg
          exact cr3 j f hjk hf hn
    · rintro σ H6 ⟨z2, z5, z6, z7, S1, rfl, b6, fs6, sub1, sup1, cr1, cr2, len1⟩
      rw [enD_len, List.length_map] at cr2 len1
      refine ⟨z2, some (.int (1 + (i : Int))), z5, z6, z7, S1, rfl, (b4.trans sc).trans b6, fs6, sub1, sup1, fun i' hi' c2 d2 h1 h2 j k f g hjk hf hg hn => ?_, by rw [Nat.succ_mul]; omega⟩
      rcases Nat.lt_or_ge i' i with z | z
      · exact cr1 i' z c2 d2 h1 h2 j k f g hjk hf hg hn
      · have : i' = i := by omega
        subst this
        rw [hc] at h1
        rw [hd'] at h2
        cases h1
        cases h2
        exact cr2 j k f g hjk (by have := (List.getElem?_eq_some_iff.mp hg).1; rw [List.length_map] at this; exact this) hf hg hn
  · rintro σ H3 ⟨y2, y4, y5, y6, y7, S, rfl, b1, fs, sub, sup, cr, len⟩
    rw [rangeD_len] at cr len
    have nd : S.Nodup := let ⟨_, _, _, nd⟩ := fs; nd
    have hlen : S.length ≤ P0.length + P0.length * tri l.length := Nat.le_trans len (Nat.add_le_add_left (Nat.mul_le_mul_right _ (by omega)) _)
    have szS : SzL m S := fun z hz => by
      rcases sup z hz with h | ⟨i, c, d, h1, h2, f, hf, g, hg, hn, rfl⟩
      · exact Sz.unit (pl.ge h) (pl.le h) (Nat.lt_of_le_of_lt (pden h) hM)
      · obtain ⟨cd, mc, md, gap⟩ := pl_gap pl h1 h2
        have pf := gap_pc hl (fun x => (ha x).mpr) (pl.ge mc) (pl.le md) cd gap
        obtain ⟨z1, z2, z3⟩ := zero_den (hl _ (List.head_mem hl0)).pos (pf f hf) (pf g hg) cd hn
        have := pl.ge mc
        have := pl.le md
        exact Sz.unit (by grind) (by grind) (Nat.lt_of_le_of_lt z1 hM)
    refine q_retD (ed_call (d := .lst (frs (srt S))) (ea_cons (ed_listF (vv_var rfl) fs) ea_nil) ⟨S, m, by omega, szS, by unfold LIM; omega, rfl, rfl⟩ rfl) (Same.refl _) fun r H4 s4 h4 => q r H4 _ ((sb.trans b1).trans s4) ⟨srt S, rfl, ⟨srt_lt nd, fun x hx => (srt_perm S).mem_iff.mpr (sub x hx), fun z hz => sup z ((srt_perm S).mem_iff.mp hz), fun i c d h1 h2 j k f g hjk hf hg hn => (srt_perm S).mem_iff.mpr (cr i ?_ c d h1 h2 j k f g hjk hf hg hn)⟩, by rw [srt_len]; exact hlen⟩ h4
    have := (List.getElem?_eq_some_iff.mp h2).1
    omega
end
end Cb
set_option Elab.async false
set_option linter.all false
set_option maxRecDepth 100000
set_option maxHeartbeats 4000000
/-! walks: lines of terms -/
namespace Cb
open PySem PySem.Spec PyProof.Rows L2
section
variable {K : PySem.W.Frag} {σ : L2.St} {H : Hp} {te ta tb tc : TE} {d d1 d2 : D} {post post2 : D → Prop} {pre : List D → (D → Prop) → Prop} {E : XK}
theorem ep_call1 (ha : EvP K ta σ H post2) (hp : ∀ e, post2 e → pre [e] post) : EvP K (tCall (spP K 1 pre) [] E (tCons ta tNil)) σ H post := fun H0 s Q q =>
  ha H0 s _ fun v H1 e s1 pe he => ⟨rfl, [e], post, hp e pe, .cons he .nil, fun r H2 d s2 pd hd => q r H2 d (s1.trans s2) pd hd⟩
theorem ep_call2 (ha : EvD K ta σ H d1) (hb : EvP K tb σ H post2) (hp : ∀ e, post2 e → pre [d1, e] post) : EvP K (tCall (spP K 2 pre) [] E (tCons ta (tCons tb tNil))) σ H post := fun H0 s Q q =>
  ha.use s fun u H1 s1 hu => hb H1 (s.trans s1) _ fun v H2 e s2 pe he => ⟨rfl, [d1, e], post, hp e pe, .cons (Dat.same s2 hu) (.cons he .nil), fun r H3 d s3 pd hd => q r H3 d ((s1.trans s2).trans s3) pd hd⟩
theorem ep_call2W (ha : EvD K ta σ H d1) (hb : EvP K tb σ H post2) (hp : ∀ e, post2 e → ∃ post', pre [d1, e] post' ∧ ∀ d, post' d → post d) : EvP K (tCall (spP K 2 pre) [] E (tCons ta (tCons tb tNil))) σ H post := fun H0 s Q q =>
  ha.use s fun u H1 s1 hu => hb H1 (s.trans s1) _ fun v H2 e s2 pe he => by
    obtain ⟨post', p1, p2⟩ := hp e pe
    exact ⟨rfl, [d1, e], post', p1, .cons (Dat.same s2 hu) (.cons he .nil), fun r H3 d s3 pd hd => q r H3 d ((s1.trans s2).trans s3) (p2 d pd) hd⟩
theorem ep_call3 (ha : EvD K ta σ H d1) (hb : EvD K tb σ H d2) (hc : EvP K tc σ H post2) (hp : ∀ e, post2 e → pre [d1, d2, e] post) : EvP K (tCall (spP K 3 pre) [] E (tCons ta (tCons tb (tCons tc tNil)))) σ H post := fun H0 s Q q =>
  ha.use s fun u H1 s1 hu => hb.use (s.trans s1) fun v H2 s2 hv => hc H2 ((s.trans s1).trans s2) _ fun w H3 e s3 pe he => ⟨rfl, [d1, d2, e], post, hp e pe, .cons (Dat.same (s2.trans s3) hu) (.cons (Dat.same s3 hv) (.cons he .nil)), fun r H4 d s4 pd hd => q r H4 d (((s1.trans s2).trans s3).trans s4) pd hd⟩
theorem pi_listK {X : Cx} {tg l : Expr} {tl : TE} (h : X.K = K) (hl : PE X l tl) : PI X tg l (iList K tl) := h ▸ pi_list hl
theorem pi_tupK {X : Cx} {tg l : Expr} {tl : TE} (h : X.K = K) (hl : PE X l tl) : PI X tg l (iTup K tl) := h ▸ pi_tup hl
/-- a list comprehension, the items told by a relation -/
theorem ep_lcR {wi : TI} {g : TG} {vs : List Nat} {α : Type} {l : List α} {G : α → D} (R : α → D → Prop) (h : EvI K wi σ H (l.map G)) (hn : ∀ a ∈ l, ∀ e, R a e → nl e = true) (hz : l.length ≤ 1000000)
    (he : ∀ a x H1, a ∈ l → Same H H1 → Dat K H1 (G a) x → ∀ Q : L2.St → Hp → Prop, (∀ σ2, wipe σ2 vs = wipe σ vs → EvP K te σ2 H1 (R a) → Q σ2 H1) → g x (wipe σ vs) H1 Q) :
    EvP K (tLc wi g tYes te vs) σ H (fun d => ∃ es : List D, d = .lst es ∧ es.length = l.length ∧ ∀ (i : Nat) (a : α), l[i]? = some a → ∃ e, es[i]? = some e ∧ R a e) := fun H0 s Q q => h H0 s _ fun J H1 Hb s1 sb sb1 hp hW => fun D hD => by
  have hDb : Hb D = none := sb1.free hD
  refine ⟨fun i m H2 => m = l.length - i ∧ i ≤ l.length ∧ Same H1 H2 ∧ ∃ acc es, H2 D = some (.lst acc) ∧ Dats K H2 es acc ∧ es.length = i ∧ nls es = true ∧ ∀ j a, j < i → l[j]? = some a → ∃ e, es[j]? = some e ∧ R a e, ⟨l.length, by simp, Nat.zero_le _, same_upd hD, [], [], upd_same, Dats.nil, rfl, rfl, fun j a z => absurd z (Nat.not_lt_zero _)⟩, ?_⟩
  rintro i m H2 ⟨rfl, hi, s2, acc, es, ha, hacc, hlen, hnl, hR⟩
  obtain ⟨hgo, hst⟩ := hW H2 (sb1.trans s2)
  rw [List.length_map] at hst
  by_cases hlt : i < l.length
  · have hd := List.getElem?_eq_getElem hlt
    have hdG : (l.map G)[i]? = some (G l[i]) := by rw [List.getElem?_map, hd]; rfl
    obtain ⟨g1, g2⟩ := hgo i _ hdG
    refine .inr ⟨g1, _, fun H' w => ⟨l.length - (i + 1), by omega, rfl, hlt, w⟩, fun x H' y => ?_⟩
    obtain ⟨y1, y2⟩ := g2 x H' y
    have sH : Same H H' := ((s.trans s1).trans s2).trans y1
    refine he _ x H' (List.getElem_mem hlt) sH y2 _ fun σ2 hw ev => ⟨hw, ?_⟩
    refine et_yes H' (Same.refl _) _ fun H3 s3 => iteT (ev H3 s3 _ fun u H4 e s4' pe hu => ⟨acc, s4' _ _ (s3 _ _ (y1 _ _ ha)), small1M (by rw [← hacc.length, hlen]; omega), fun b o eb => ?_, acc ++ [u], es ++ [e], upd_same, ?_, by simp [hlen], ?_, fun j a hj ea => ?_⟩)
    · rw [upd_ne (ne_of_none eb hD)]
      exact (s3.trans s4') _ _ (y1 _ _ (s2 _ _ eb))
    · have s4 := s3.trans s4'
      have tk := tk_upd (o := HO.lst (acc ++ [u])) (s4 _ _ (y1 _ _ ha))
      exact (Dats.tk tk hnl (Dats.same (y1.trans s4) hacc)).append (.cons (Dat.tk tk (hn _ (List.getElem_mem hlt) e pe) hu) .nil)
    · refine nls_all fun z hz => ?_
      rcases List.mem_append.mp hz with hz | hz
      · exact nls_mem hnl hz
      · rw [List.mem_singleton.mp hz]; exact hn _ (List.getElem_mem hlt) e pe
    · rcases Nat.lt_or_ge j i with z | z
      · obtain ⟨e', h1, h2⟩ := hR j a z ea
        exact ⟨e', by rw [List.getElem?_append_left (by omega)]; exact h1, h2⟩
      · have : j = i := by omega
        subst this
        rw [hd] at ea
        cases ea
        exact ⟨e, by rw [← hlen]; simp, pe⟩
  · have e : i = l.length := by omega
    subst e
    refine .inl ⟨hst, q _ H2 _ (s1.trans s2) ⟨es, rfl, hlen, fun i a ea => hR i a (List.getElem?_eq_some_iff.mp ea).1 ea⟩ ⟨D, acc, rfl, SqL.of ha, hacc⟩⟩
end
section
variable {P : Program} {w : World} {K : PySem.W.Frag} {mg : Str → Option Value} {base : Heap}
abbrev fAt (l : List LF) (t : Rat) : List Rat := (fns l).map fun f => f t
theorem pts_map (ps : List Rat) (f : Rat → Rat) : (ps.map fun t => ((t, f t) : Pt)).map prD = ps.map fun t => prD (t, f t) := by rw [List.map_map]; rfl
abbrev spMeanLine (K : PySem.W.Frag) : Sp := spP K 2 fun ds post => ∃ (M m Dn : Nat) (l : List LF) (ws : List Nat), Lns M l ∧ l ≠ [] ∧ l.length ≤ 8 ∧ OpOk Dn (.mean ws) l.length ∧ ws.sum * M < 2 ^ m ∧ m ≤ MX ∧ tot l ≤ 900000 ∧ ds = [.lst (natsD ws), .lst (lnsD l)] ∧
  post = fun d => ∃ L, d = lnD L ∧ Ln (ws.sum * M) (fun t => opv (.mean ws) (fAt l t)) L ∧ L.length ≤ tot l
theorem ok_mean_line (W : Wd P K mg base) (F : Df K mg "mean_line" s_mean_line) (G_places_of : C8.Cal P w K mg base 37 "places_of" (spPlaces K) []) (G_straight : C8.Cal P w K mg base 37 "straight" (spStraight K) []) (G_mean_of : C8.Cal P w K mg base 36 "mean_of" (spMean K) []) (G_at : C8.Cal P w K mg base 37 "at" (spAt K) []) :
    C8.Cal P w K mg base 38 "mean_line" (spMeanLine K) [] := by
  refine cal_of F sc_mean_line (fun _ _ _ _ _ _ us hl => match us, hl with | [_, _], _ => rfl) rfl fun f cdv A outer s H vs Q E ds post hr hp hd q => ?_
  obtain ⟨M, m, Dn, l, ws, hl, hl0, h8, ho, hM, hm, hz, rfl, rfl⟩ := hp
  obtain ⟨u, v, rfl, hu, hv⟩ := dats2 hd
  refine ⟨_, (pss_cons (ps_set (i := 2) sc_mean_line.nd rfl (by first | exact Or.inl rfl | exact Or.inr rfl) (C8.pe_c G_places_of hr (by omega) (by rfl) (pa_cons (pv 1) pa_nil)))
    (pss_one (ps_ret (C8.pe_c G_straight hr (by omega) (by rfl) (pa_cons (pe_lc (own := [("place", 3)]) (g := gName 3) (tt := tYes) rfl sc_mean_line.nd (pi_list (pv 2)) (blkOk_by (N := n_mean_line) (sc := defScope s_mean_line) (by decide +kernel)) (fun _ _ _ _ _ => (pg_name (i := 3) sc_mean_line.nd rfl (by first | exact Or.inl rfl | exact Or.inr rfl))) (fun _ _ _ _ _ => pts_nil) (fun _ _ _ _ _ => (pe_tup (pa_cons (pv 3) (pa_cons (C8.pe_c G_mean_of hr (by omega) (by rfl) (pa_cons (pv 0) (pa_cons (pe_lc (own := [("bent", 4)]) (g := gName 4) (tt := tYes) rfl sc_mean_line.nd (pi_listK rfl (pv 1)) (blkOk_by (N := n_mean_line) (sc := relS _ (defScope s_mean_line)) (by decide +kernel)) (fun _ _ _ _ _ => (pg_name (i := 4) sc_mean_line.nd rfl (by first | exact Or.inl rfl | exact Or.inr rfl))) (fun _ _ _ _ _ => pts_nil) (fun _ _ _ _ _ => (C8.pe_c G_at hr (by omega) (by rfl) (pa_cons (pv 4) (pa_cons (pv 3) pa_nil))))) pa_nil))) pa_nil))))) pa_nil))))), ?_⟩
  have hm' : m ≤ 1000000 := hm
  have hn : 0 < l.length := List.length_pos_iff.mpr hl0
  have hS : 0 < ws.sum := oww_pos ho hn
  have hM' : M < 2 ^ m := Nat.lt_of_le_of_lt (Nat.le_mul_of_pos_left M hS) hM
  refine q_set (ep_call1 (post2 := fun d => d = .lst (lnsD l)) (ed_var rfl hv) fun e he => ⟨M, m, l, hl, hM', hm, hz, by rw [he], rfl⟩) (Same.refl _) fun x H1 d s1 hpo hx => ?_
  obtain ⟨ps, rfl, ha, so, hlen⟩ := hpo
  have pl := allP_pl hl hl0 ha so
  have ln := mean_ln (M := M) (n := 0) hl hl0 ha so ho
  refine q_ret (ep_call1 (post2 := fun d => d = .lst (ps.map fun t => prD (t, opv (.mean ws) (fAt l t)))) (ed_lcA (l := ps) (G := fr) (F := fun t => prD (t, opv (.mean ws) (fAt l t))) (p := fun _ => true) (ei_list (vv_var rfl) hx) (fun _ => rfl) (fun _ _ => rfl) (by omega) (fun t y H2 ht s2 hy => ⟨et_yes, fun _ => ?_⟩) (by rw [filt_true])) fun e he => ⟨ws.sum * M, m, _, _, ln, hM, hm, by rw [List.length_map]; omega, by rw [he, pts_map], rfl⟩) (Same.refl _) fun r H2 d s2 hpo h2 => q r H2 d (s1.trans s2) ?_ h2
  · -- a point
    refine ed_tup (ea_cons (ed_var rfl hy) (ea_cons (ed_call (d := fr (opv (.mean ws) (fAt l t))) (ea_cons (ed_var rfl (Dat.same (s1.trans s2) hu)) (ea_cons (ed_lcA (l := l) (G := fun p => lnD p.2) (F := fun p => fr (p.1 t)) (p := fun _ => true) (outs := frs (fAt l t)) (ei_list (vv_var rfl) (Dat.same (s1.trans s2) hv)) (fun _ => rfl) (fun _ _ => rfl) (by omega) (fun p z H3 hp s3 hz3 => ⟨et_yes, fun _ => ?_⟩) ?_) ea_nil))
      ⟨ws, fAt l t, m + m, by rw [ho.1]; simp, fun e => hl0 (by simpa using e), by simpa using h8, ho.2, ?_, by unfold LIM; omega, rfl, rfl⟩ rfl) ea_nil))
    · have := tot_le hp
      exact ed_call (ea_cons (ed_var rfl hz3) (ea_cons (ed_var rfl (Dat.same s3 hy)) ea_nil)) ⟨M, m, p.1, p.2, t, hl p hp, hM', hm, pl.ge ht, pl.le ht, pl.dn t ht, by omega, rfl, rfl⟩ rfl
    · rw [filt_true]
      unfold frs
      rw [List.map_map, List.map_map]; rfl
    · intro y hy
      obtain ⟨f, hf, rfl⟩ := List.mem_map.mp hy
      obtain ⟨p, hp, rfl⟩ := List.mem_map.mp hf
      exact (hl p hp).sz_at hM' (pl.ge ht) (pl.le ht) (pl.dn t ht)
  · obtain ⟨L, e1, e2, e3⟩ := hpo
    rw [List.length_map] at e3
    exact ⟨L, e1, e2, by omega⟩
abbrev spRankLine (K : PySem.W.Frag) : Sp := spP K 2 fun ds post => ∃ (M m k : Nat) (l : List LF), Lns M l ∧ l ≠ [] ∧ 1 ≤ k ∧ k ≤ l.length ∧ M < 2 ^ m ∧ m ≤ MX ∧ tot l + tot l * tri l.length ≤ 900000 ∧ l.length ≤ 900000 ∧ ds = [.int (k : Nat), .lst (lnsD l)] ∧
  post = fun d => ∃ L, d = lnD L ∧ Ln M (fun t => rk (fAt l t) (l.length - k)) L ∧ L.length ≤ tot l + tot l * tri l.length
theorem ok_ranked_line (W : Wd P K mg base) (F : Df K mg "ranked_line" s_ranked_line) (G_places_of : C8.Cal P w K mg base 37 "places_of" (spPlaces K) []) (G_crossings : C8.Cal P w K mg base 39 "crossings" (spCrossings K) []) (G_straight : C8.Cal P w K mg base 37 "straight" (spStraight K) []) (G_ranked_of : C8.Cal P w K mg base 37 "ranked_of" (spRanked K) []) (G_at : C8.Cal P w K mg base 37 "at" (spAt K) []) :
    C8.Cal P w K mg base 40 "ranked_line" (spRankLine K) [] := by
  refine cal_of F sc_ranked_line (fun _ _ _ _ _ _ us hl => match us, hl with | [_, _], _ => rfl) rfl fun f cdv A outer s H vs Q E ds post hr hp hd q => ?_
  obtain ⟨M, m, k, l, hl, hl0, k1, k2, hM, hm, hz, hzl, rfl, rfl⟩ := hp
  obtain ⟨u, v, rfl, hu, hv⟩ := dats2 hd
  refine ⟨_, (pss_cons (ps_set (i := 2) sc_ranked_line.nd rfl (by first | exact Or.inl rfl | exact Or.inr rfl) (C8.pe_c G_crossings hr (by omega) (by rfl) (pa_cons (pv 1) (pa_cons (C8.pe_c G_places_of hr (by omega) (by rfl) (pa_cons (pv 1) pa_nil)) pa_nil))))
    (pss_one (ps_ret (C8.pe_c G_straight hr (by omega) (by rfl) (pa_cons (pe_lc (own := [("place", 3)]) (g := gName 3) (tt := tYes) rfl sc_ranked_line.nd (pi_list (pv 2)) (blkOk_by (N := n_ranked_line) (sc := defScope s_ranked_line) (by decide +kernel)) (fun _ _ _ _ _ => (pg_name (i := 3) sc_ranked_line.nd rfl (by first | exact Or.inl rfl | exact Or.inr rfl))) (fun _ _ _ _ _ => pts_nil) (fun _ _ _ _ _ => (pe_tup (pa_cons (pv 3) (pa_cons (C8.pe_c G_ranked_of hr (by omega) (by rfl) (pa_cons (pv 0) (pa_cons (pe_lc (own := [("bent", 4)]) (g := gName 4) (tt := tYes) rfl sc_ranked_line.nd (pi_listK rfl (pv 1)) (blkOk_by (N := n_ranked_line) (sc := relS _ (defScope s_ranked_line)) (by decide +kernel)) (fun _ _ _ _ _ => (pg_name (i := 4) sc_ranked_line.nd rfl (by first | exact Or.inl rfl | exact Or.inr rfl))) (fun _ _ _ _ _ => pts_nil) (fun _ _ _ _ _ => (C8.pe_c G_at hr (by omega) (by rfl) (pa_cons (pv 4) (pa_cons (pv 3) pa_nil))))) pa_nil))) pa_nil))))) pa_nil))))), ?_⟩
  have hm' : m ≤ 1000000 := hm
  refine q_set (ep_call2W (post2 := fun d => ∃ ps, d = .lst (frs ps) ∧ AllP l ps ∧ ps.Pairwise (· < ·) ∧ ps.length ≤ tot l) (ed_var rfl hv) (ep_call1 (post2 := fun d => d = .lst (lnsD l)) (ed_var rfl hv) fun e he => ⟨M, m, l, hl, hM, hm, by omega, by rw [he], rfl⟩) (post := fun d => ∃ P0 ps, d = .lst (frs ps) ∧ AllP l P0 ∧ P0.Pairwise (· < ·) ∧ Refd l P0 ps ∧ ps.length ≤ tot l + tot l * tri l.length) fun e ⟨P0, he, ha, so, hlen⟩ => ?_) (Same.refl _) fun x H1 d s1 hpo hx => ?_
  · have lt := Nat.mul_le_mul_right (tri l.length) hlen
    exact ⟨_, ⟨M, m, l, P0, hl, hl0, hM, hm, by omega, ha, so, by omega, by rw [he], rfl⟩, fun d ⟨ps, h1, h2, h3⟩ => ⟨P0, ps, h1, ha, so, h2, by omega⟩⟩
  · obtain ⟨P0, ps, rfl, ha, so, hr, hlen⟩ := hpo
    have pl := refd_pl hl hl0 ha (allP_pl hl hl0 ha so) hr
    have ki : l.length - k < l.length := by omega
    have ln := rank_ln hl hl0 ha so hr ki
    refine q_ret (ep_call1 (post2 := fun d => d = .lst (ps.map fun t => prD (t, rk (fAt l t) (l.length - k)))) (ed_lcA (l := ps) (G := fr) (F := fun t => prD (t, rk (fAt l t) (l.length - k))) (p := fun _ => true) (ei_list (vv_var rfl) hx) (fun _ => rfl) (fun _ _ => rfl) (by omega) (fun t y H2 ht s2 hy => ⟨et_yes, fun _ => ?_⟩) (by rw [filt_true])) fun e he => ⟨M, m, _, _, ln, hM, hm, by rw [List.length_map]; omega, by rw [he, pts_map], rfl⟩) (Same.refl _) fun r H2 d s2 hpo h2 => q r H2 d (s1.trans s2) ?_ h2
    · refine ed_tup (ea_cons (ed_var rfl hy) (ea_cons (ed_call (d := fr (rk (fAt l t) (l.length - k))) (ea_cons (ed_var (d := .int (k : Nat)) rfl (Dat.same (s1.trans s2) hu)) (ea_cons (ed_lcA (l := l) (G := fun p => lnD p.2) (F := fun p => fr (p.1 t)) (p := fun _ => true) (outs := frs (fAt l t)) (ei_list (vv_var rfl) (Dat.same (s1.trans s2) hv)) (fun _ => rfl) (fun _ _ => rfl) (by omega) (fun p z H3 hp s3 hz3 => ⟨et_yes, fun _ => ?_⟩) ?_) ea_nil))
        ⟨k, m + m, fAt l t, k1, by simpa using k2, by simpa using hzl, ?_, by unfold LIM; omega, rfl, by simp⟩ rfl) ea_nil))
      · have := tot_le hp
        exact ed_call (ea_cons (ed_var rfl hz3) (ea_cons (ed_var rfl (Dat.same s3 hy)) ea_nil)) ⟨M, m, p.1, p.2, t, hl p hp, hM, hm, pl.ge ht, pl.le ht, pl.dn t ht, by omega, rfl, rfl⟩ rfl
      · rw [filt_true]
        unfold frs
        rw [List.map_map, List.map_map]; rfl
      · intro y hy
        obtain ⟨f, hf, rfl⟩ := List.mem_map.mp hy
        obtain ⟨p, hp, rfl⟩ := List.mem_map.mp hf
        exact (hl p hp).sz_at hM (pl.ge ht) (pl.le ht) (pl.dn t ht)
    · obtain ⟨L, e1, e2, e3⟩ := hpo
      rw [List.length_map] at e3
      exact ⟨L, e1, e2, by omega⟩
end
end Cb
set_option Elab.async false
set_option linter.all false
set_option maxRecDepth 100000
set_option maxHeartbeats 4000000
/-! walks: lines of terms -/
namespace Cb
open PySem PySem.Spec PyProof.Rows L2
theorem ep_ifE {K : PySem.W.Frag} {σ : L2.St} {H : Hp} {ta tb : TE} {post : D → Prop} {t : TT} {b : Bool} (h : EvT t σ H b) (h1 : b = true → EvP K ta σ H post) (h2 : b = false → EvP K tb σ H post) : EvP K (tIf t ta tb) σ H post := fun H0 s Q q =>
  h H0 s _ fun H1 s1 => by
    cases b with
    | true => exact iteT (h1 rfl H1 (s.trans s1) _ fun v H2 d s2 pd hd => q v H2 d (s1.trans s2) pd hd)
    | false => exact iteF (h2 rfl H1 (s.trans s1) _ fun v H2 d s2 pd hd => q v H2 d (s1.trans s2) pd hd)
theorem ep_call3W {K : PySem.W.Frag} {σ : L2.St} {H : Hp} {ta tb tc : TE} {d1 d2 : D} {post post2 : D → Prop} {pre : List D → (D → Prop) → Prop} {E : XK} (ha : EvD K ta σ H d1) (hb : EvD K tb σ H d2) (hc : EvP K tc σ H post2) (hp : ∀ e, post2 e → ∃ post', pre [d1, d2, e] post' ∧ ∀ d, post' d → post d) : EvP K (tCall (spP K 3 pre) [] E (tCons ta (tCons tb (tCons tc tNil)))) σ H post := fun H0 s Q q =>
  ha.use s fun u H1 s1 hu => hb.use (s.trans s1) fun v H2 s2 hv => hc H2 ((s.trans s1).trans s2) _ fun w H3 e s3 pe he => by
    obtain ⟨post', p1, p2⟩ := hp e pe
    exact ⟨rfl, [d1, d2, e], post', p1, .cons (Dat.same (s2.trans s3) hu) (.cons (Dat.same s3 hv) (.cons he .nil)), fun r H4 d s4 pd hd => q r H4 d (((s1.trans s2).trans s3).trans s4) (p2 d pd) hd⟩
abbrev lowB (l : List LF) : Nat := tot l + tot l * tri l.length
def wayF (l : List LF) (p : Nat) : Rat → Rat := match l[p]? with
  | some q => q.1
  | none => fun _ => 0
def nb : Op → Nat → Nat → Nat
  | .mean _, S, _ => S
  | .between _ _, S, _ => (S + 4) * 4
  | _, S, n => S + S * tri n
mutual
/-- how long a term's line can be -/
def lb : Term → Nat
  | .bid _ => 2
  | .fix _ => 2
  | .node o ts => nb o (lbs ts) ts.length
def lbs : List Term → Nat
  | [] => 0
  | t :: r => lb t + lbs r
end
theorem lbs_ge : ∀ {ts : List Term} {t : Term}, t ∈ ts → lb t ≤ lbs ts
  | a :: r, t, h => by
    rcases List.mem_cons.mp h with rfl | h
    · exact Nat.le_add_right _ _
    · exact Nat.le_trans (lbs_ge h) (Nat.le_add_left _ _)
theorem nb_ge (o : Op) (S n : Nat) : S ≤ nb o S n := by
  cases o with
  | mean ws => exact Nat.le_refl _
  | between lo hi => show S ≤ (S + 4) * 4; omega
  | least => exact Nat.le_add_right _ _
  | greatest => exact Nat.le_add_right _ _
  | ranked k => exact Nat.le_add_right _ _
/-- the function that a term tells along the ways -/
abbrev tF (l : List LF) (t : Term) : Rat → Rat := fun x => val (fun p => wayF l p x) t
theorem gather {M : Nat} {lf : List LF} {Dn : Nat} (hM : 0 < M) : ∀ {ts : List Term} {es : List D}, es.length = ts.length → (∀ t ∈ ts, Dn * wp t ∣ M) → (∀ (i : Nat) (t : Term), ts[i]? = some t → ∃ e, es[i]? = some e ∧ ∃ L, e = lnD L ∧ Ln (Dn * wp t) (tF lf t) L ∧ L.length ≤ lb t) →
    ∃ l : List LF, es = lnsD l ∧ fns l = ts.map (tF lf) ∧ Lns M l ∧ tot l ≤ lbs ts
  | [], [], _, _, _ => ⟨[], rfl, rfl, (fun p hp => nomatch hp), Nat.le_refl _⟩
  | t :: ts, e :: es, hl, hd, h => by
    obtain ⟨l, e1, e2, e3, e4⟩ := gather hM (ts := ts) (es := es) (by simpa using hl) (fun t ht => hd t (List.mem_cons_of_mem _ ht)) fun i t ht => by
      obtain ⟨e', h1, h2⟩ := h (i + 1) t (by simpa using ht)
      exact ⟨e', by simpa using h1, h2⟩
    obtain ⟨e', h1, L, h2, h3, h4⟩ := h 0 t rfl
    have : e = e' := by simpa using h1
    subst this
    refine ⟨(tF lf t, L) :: l, by rw [e1, h2]; rfl, by show _ :: fns l = _; rw [e2]; rfl, fun p hp => ?_, ?_⟩
    · rcases List.mem_cons.mp hp with rfl | hp
      · exact h3.to (hd t List.mem_cons_self) hM
      · exact e3 p hp
    · show L.length + tot l ≤ lb t + lbs ts
      omega
theorem fAt_fns {l lf : List LF} {ts : List Term} (h : fns l = ts.map (tF lf)) (x : Rat) : fAt l x = ts.map (val fun p => wayF lf p x) := by
  unfold fAt
  rw [h, List.map_map]; rfl
section
variable {P : Program} {w : World} {K : PySem.W.Frag} {mg : Str → Option Value} {base : Heap}
abbrev preLow (g : Nat → Nat) : List D → (D → Prop) → Prop := fun ds post => ∃ (M m : Nat) (l : List LF), Lns M l ∧ l ≠ [] ∧ M < 2 ^ m ∧ m ≤ MX ∧ lowB l ≤ 900000 ∧ l.length ≤ 900000 ∧ ds = [.lst (lnsD l)] ∧ post = fun d => ∃ L, d = lnD L ∧ Ln M (fun t => rk (fAt l t) (g l.length)) L ∧ L.length ≤ lowB l
theorem ok_lowest (W : Wd P K mg base) (F : Df K mg "lowest" s_lowest) (G_ranked_line : C8.Cal P w K mg base 40 "ranked_line" (spRankLine K) []) : C8.Cal P w K mg base 41 "lowest" (spP K 1 (preLow fun _ => 0)) [] := by
  refine cal_of F sc_lowest (fun _ _ _ _ _ _ us hl => match us, hl with | [_], _ => rfl) rfl fun f cdv A outer s H vs Q E ds post hr hp hd q => ?_
  obtain ⟨M, m, l, hl, hl0, hM, hm, hz, hzl, rfl, rfl⟩ := hp
  obtain ⟨u, rfl, hu⟩ := dats1 hd
  refine ⟨_, (pss_one (ps_ret (C8.pe_c G_ranked_line hr (by omega) (by rfl) (pa_cons (pe_callB call_len_seq (by rfl) W.len b_len (pa_cons (pv 0) pa_nil)) (pa_cons (pv 0) pa_nil))))), ?_⟩
  have hn : 0 < l.length := List.length_pos_iff.mpr hl0
  have eL : EvD K (tCB (fun xs H Q => ∃ p ys, xs = [.ref p] ∧ (SqL K H p ys ∨ SqT K H p ys) ∧ Q (.int ys.length) H) (tCons (tVar 0) tNil)) [some u] H (.int (l.length : Nat)) := (ed_lenL (ed_var rfl hu)).to (by rw [List.length_map])
  refine q_ret (ep_call (ea_cons eL (ea_cons (ed_var rfl hu) ea_nil)) ⟨M, m, l.length, l, hl, hl0, hn, Nat.le_refl _, hM, hm, hz, hzl, rfl, rfl⟩ rfl) (Same.refl _) fun r H1 d s1 hpo h1 => q r H1 d s1 ?_ h1
  rw [Nat.sub_self] at hpo
  exact hpo
theorem ok_highest (W : Wd P K mg base) (F : Df K mg "highest" s_highest) (G_ranked_line : C8.Cal P w K mg base 40 "ranked_line" (spRankLine K) []) : C8.Cal P w K mg base 41 "highest" (spP K 1 (preLow fun n => n - 1)) [] := by
  refine cal_of F sc_highest (fun _ _ _ _ _ _ us hl => match us, hl with | [_], _ => rfl) rfl fun f cdv A outer s H vs Q E ds post hr hp hd q => ?_
  obtain ⟨M, m, l, hl, hl0, hM, hm, hz, hzl, rfl, rfl⟩ := hp
  obtain ⟨u, rfl, hu⟩ := dats1 hd
  refine ⟨_, (pss_one (ps_ret (C8.pe_c G_ranked_line hr (by omega) (by rfl) (pa_cons pe_int (pa_cons (pv 0) pa_nil))))), ?_⟩
  have hn : 0 < l.length := List.length_pos_iff.mpr hl0
  exact q_ret (ep_call (ea_cons (ed_int (i := ((1 : Nat) : Int))) (ea_cons (ed_var rfl hu) ea_nil)) ⟨M, m, 1, l, hl, hl0, Nat.le_refl _, hn, hM, hm, hz, hzl, rfl, rfl⟩ rfl) (Same.refl _) fun r H1 d s1 hpo h1 => q r H1 d s1 hpo h1
abbrev spWithinL (K : PySem.W.Frag) : Sp := spP K 3 fun ds post => ∃ (M m : Nat) (f : Rat → Rat) (L : List Pt) (lo hi : Rat), Ln M f L ∧ Nm M lo ∧ Nm M hi ∧ M < 2 ^ m ∧ m ≤ MX ∧ (L.length + 4) * 4 ≤ 900000 ∧ ds = [fr lo, fr hi, lnD L] ∧ post = fun d => ∃ L', d = lnD L' ∧ Ln M (fun t => rk [lo, hi, f t] 1) L' ∧ L'.length ≤ (L.length + 4) * 4
theorem ok_within (W : Wd P K mg base) (F : Df K mg "within" s_within) (G_ranked_line : C8.Cal P w K mg base 40 "ranked_line" (spRankLine K) []) (G_flat : C8.Cal P w K mg base 33 "flat" (spFlat K) []) : C8.Cal P w K mg base 41 "within" (spWithinL K) [] := by
  refine cal_of F sc_within (fun _ _ _ _ _ _ us hl => match us, hl with | [_, _, _], _ => rfl) rfl fun f cdv A outer s H vs Q E ds post hr hp hd q => ?_
  obtain ⟨M, m, g, L, lo, hi, hL, h1, h2, hM, hm, hz, rfl, rfl⟩ := hp
  obtain ⟨u, v, x, rfl, hu, hv, hx⟩ := dats3 hd
  refine ⟨_, (pss_one (ps_ret (C8.pe_c G_ranked_line hr (by omega) (by rfl) (pa_cons pe_int (pa_cons (pe_lst (pa_cons (C8.pe_c G_flat hr (by omega) (by rfl) (pa_cons (pv 0) pa_nil)) (pa_cons (pv 2) (pa_cons (C8.pe_c G_flat hr (by omega) (by rfl) (pa_cons (pv 1) pa_nil)) pa_nil)))) pa_nil))))), ?_⟩
  let l : List LF := [(fun _ => lo, [(0, lo), (1, lo)]), (g, L), (fun _ => hi, [(0, hi), (1, hi)])]
  have hl : Lns M l := fun p hp => by
    simp only [l, List.mem_cons, List.not_mem_nil, or_false] at hp
    rcases hp with rfl | rfl | rfl
    · exact Ln.flat hL.pos h1
    · exact hL
    · exact Ln.flat hL.pos h2
  have tl : tot l = L.length + 4 := by
    show 2 + (L.length + (2 + 0)) = _
    omega
  have t3 : tri l.length = 3 := rfl
  refine q_ret (ep_call (ea_cons (ed_int (i := ((2 : Nat) : Int))) (ea_cons (ed_lst (ea_cons (ed_call (ea_cons (ed_var rfl hu) ea_nil) ⟨lo, rfl, rfl⟩ rfl) (ea_cons (ed_var rfl hx) (ea_cons (ed_call (ea_cons (ed_var rfl hv) ea_nil) ⟨hi, rfl, rfl⟩ rfl) ea_nil)))) ea_nil)) ⟨M, m, 2, l, hl, by simp [l], by decide, by show 2 ≤ 3; decide, hM, hm, by rw [tl, t3]; omega, by show 3 ≤ 900000; decide, rfl, rfl⟩ rfl) (Same.refl _) fun r H1 d s1 ⟨L', e1, e2, e3⟩ h1 => q r H1 d s1 ⟨L', e1, e2.congr fun t => ?_, by rw [tl, t3] at e3; omega⟩ h1
  show rk [lo, g t, hi] 1 = rk [lo, hi, g t] 1
  exact rk_of_perm (List.Perm.cons _ (List.Perm.swap _ _ _)) 1
abbrev preLine (d : Nat) : List D → (D → Prop) → Prop := fun ds post => ∃ (t : Term) (l : List LF) (Dn m : Nat), Wf l.length Dn d t ∧ Lns Dn l ∧ (∀ p ∈ l, p.2.length ≤ 2) ∧ 0 < Dn ∧ Dn * wp t < 2 ^ m ∧ m ≤ MX ∧ lb t ≤ 900000 ∧ ds = [tD t, .lst (lnsD l)] ∧ post = fun e => ∃ L, e = lnD L ∧ Ln (Dn * wp t) (tF l t) L ∧ L.length ≤ lb t
theorem ok_line_of (W : Wd P K mg base) (F : Df K mg "line_of" s_line_of) (G_flat : C8.Cal P w K mg base 33 "flat" (spFlat K) []) (G_mean_line : C8.Cal P w K mg base 38 "mean_line" (spMeanLine K) []) (G_ranked_line : C8.Cal P w K mg base 40 "ranked_line" (spRankLine K) [])
    (G_within : C8.Cal P w K mg base 41 "within" (spWithinL K) []) (G_lowest : C8.Cal P w K mg base 41 "lowest" (spP K 1 (preLow fun _ => 0)) []) (G_highest : C8.Cal P w K mg base 41 "highest" (spP K 1 (preLow fun n => n - 1)) []) : ∀ d, C8.Cal P w K mg base (42 + d) "line_of" (spP K 2 (preLine d)) []
  | 0 => by
    refine cal_of F sc_line_of (fun _ _ _ _ _ _ us hl => match us, hl with | [_, _], _ => rfl) rfl fun f cdv A outer s H vs Q E ds post hr hp hd q => ?_
    obtain ⟨t, l, Dn, m, h, _⟩ := hp
    exact h.elim
  | d + 1 => by
    have G_line_of := ok_line_of W F G_flat G_mean_line G_ranked_line G_within G_lowest G_highest d
    refine cal_of F sc_line_of (fun _ _ _ _ _ _ us hl => match us, hl with | [_, _], _ => rfl) rfl fun f cdv A outer s H vs Q E ds post hr hp hd q => ?_
    obtain ⟨t, l, Dn, m, hw, hl, hl2, hD, hM, hm, hlb, rfl, rfl⟩ := hp
    obtain ⟨u, v, rfl, hu, hv⟩ := dats2 hd
    have hr : Room (42 + d) (A.deeper (envOfC "line_of" (defScope s_line_of) s.heap.objs.size f cdv)) := hr
    refine ⟨_, (pss_cons (ps_set (i := 2) sc_line_of.nd rfl (by first | exact Or.inl rfl | exact Or.inr rfl) (pe_ix ix_tup (pv 0) pe_int (fun _ _ => rfl)))
    (pss_cons (ps_if (pt_cmpR op_eq (pv 2) pe_str (nomark _)) (pss_one (ps_ret (pe_ix ix_list (pv 1) (pe_ix ix_tup (pv 0) pe_int (fun _ _ => rfl)) (fun _ _ => rfl)))) pss_nil)
    (pss_cons (ps_if (pt_cmpR op_eq (pv 2) pe_str (nomark _)) (pss_one (ps_ret (C8.pe_c G_flat hr (by omega) (by rfl) (pa_cons (pe_ix ix_tup (pv 0) pe_int (fun _ _ => rfl)) pa_nil)))) pss_nil)
    (pss_cons (ps_if (pt_cmpR op_eq (pv 2) pe_str (nomark _)) (pss_one (ps_ret (C8.pe_c G_mean_line hr (by omega) (by rfl) (pa_cons (pe_lc (own := [("weight", 5), ("part", 4)]) (g := gTup K 2 (gCons (gName 5) (gCons (gName 4) gNil))) (tt := tYes) rfl sc_line_of.nd (pi_tup (pe_ix ix_tup (pv 0) pe_int (fun _ _ => rfl))) (blkOk_by (N := n_line_of) (sc := defScope s_line_of) (by decide +kernel)) (fun _ _ _ _ _ => (pg_tupK rfl rfl (pgs_cons (pg_name (i := 5) sc_line_of.nd rfl (by first | exact Or.inl rfl | exact Or.inr rfl)) (pgs_cons (pg_name (i := 4) sc_line_of.nd rfl (by first | exact Or.inl rfl | exact Or.inr rfl)) pgs_nil)))) (fun _ _ _ _ _ => pts_nil) (fun _ _ _ _ _ => (pv 5))) (pa_cons (pe_lc (own := [("weight", 5), ("part", 4)]) (g := gTup K 2 (gCons (gName 5) (gCons (gName 4) gNil))) (tt := tYes) rfl sc_line_of.nd (pi_tup (pe_ix ix_tup (pv 0) pe_int (fun _ _ => rfl))) (blkOk_by (N := n_line_of) (sc := defScope s_line_of) (by decide +kernel)) (fun _ _ _ _ _ => (pg_tupK rfl rfl (pgs_cons (pg_name (i := 5) sc_line_of.nd rfl (by first | exact Or.inl rfl | exact Or.inr rfl)) (pgs_cons (pg_name (i := 4) sc_line_of.nd rfl (by first | exact Or.inl rfl | exact Or.inr rfl)) pgs_nil)))) (fun _ _ _ _ _ => pts_nil) (fun _ _ _ _ _ => (C8.pe_c G_line_of hr (by omega) (by rfl) (pa_cons (pv 4) (pa_cons (pv 1) pa_nil))))) pa_nil))))) pss_nil)
    (pss_cons (ps_if (pt_cmpR op_eq (pv 2) pe_str (nomark _)) (pss_one (ps_ret (C8.pe_c G_within hr (by omega) (by rfl) (pa_cons (pe_ix ix_tup (pv 0) pe_int (fun _ _ => rfl)) (pa_cons (pe_ix ix_tup (pv 0) pe_int (fun _ _ => rfl)) (pa_cons (C8.pe_c G_line_of hr (by omega) (by rfl) (pa_cons (pe_ix ix_tup (pv 0) pe_int (fun _ _ => rfl)) (pa_cons (pv 1) pa_nil))) pa_nil)))))) pss_nil)
    (pss_cons (ps_setLc (i := 3) (own := [("part", 4)]) (g := gName 4) (tt := tYes) (by rfl) sc_line_of.nd rfl rfl (sw_true rfl rfl rfl (by decide +kernel)) (pi_tup (pe_ix ix_tup (pv 0) (pe_un un_neg pe_int) (fun _ _ => rfl))) (blkOk_by (N := n_line_of) (sc := defScope s_line_of) (by decide +kernel)) (fun _ _ _ _ _ => (pg_name (i := 4) sc_line_of.nd rfl (by first | exact Or.inl rfl | exact Or.inr rfl))) (fun _ _ _ _ _ => pts_nil) (fun _ _ _ _ _ => (C8.pe_c G_line_of hr (by omega) (by rfl) (pa_cons (pv 4) (pa_cons (pv 1) pa_nil)))))
    (pss_cons (ps_if (pt_cmpR op_eq (pv 2) pe_str (nomark _)) (pss_one (ps_ret (C8.pe_c G_ranked_line hr (by omega) (by rfl) (pa_cons (pe_ix ix_tup (pv 0) pe_int (fun _ _ => rfl)) (pa_cons (pv 3) pa_nil))))) pss_nil)
    (pss_one (ps_ret (pe_ifExp (pt_cmpR op_eq (pv 2) pe_str (nomark _)) (C8.pe_c G_lowest hr (by omega) (by rfl) (pa_cons (pv 3) pa_nil)) (C8.pe_c G_highest hr (by omega) (by rfl) (pa_cons (pv 3) pa_nil)))))))))))), ?_⟩
    cases t with
    | bid p =>
      have hp : p < l.length := hw
      refine q_setD (d := .str "bid") (ed_ixT (ed_var rfl hu) ed_int rfl) (Same.refl _) fun x H1 s1 hx => ?_
      obtain rfl : x = .str "bid" := hx
      refine q_if (b := true) (et_word (K := K) rfl (by decide +kernel)) (Same.refl _) (fun _ H2 s2 => ?_) (fun e => nomatch e)
      have hg := List.getElem?_eq_getElem hp
      refine q_retD (d := lnD l[p].2) (ed_ixL (ed_var rfl (Dat.same (s1.trans s2) hv)) (ed_ixT (d := .int (p : Nat)) (ed_var rfl (Dat.same (s1.trans s2) hu)) ed_int rfl) (atI_nat (by rw [List.getElem?_map, hg]; rfl))) (Same.refl _) fun r H3 s3 h3 => q r H3 _ ((s1.trans s2).trans s3) ⟨_, rfl, ?_, hl2 _ (List.getElem_mem hp)⟩ h3
      have ln := hl _ (List.getElem_mem hp)
      have e : tF l (.bid p) = l[p].1 := by
        funext x
        show wayF l p x = _
        unfold wayF
        rw [hg]
      rw [e]
      show Ln (Dn * 1) _ _
      rw [Nat.mul_one]; exact ln
    | fix z =>
      refine q_setD (d := .str "fixed") (ed_ixT (ed_var rfl hu) ed_int rfl) (Same.refl _) fun x H1 s1 hx => ?_
      obtain rfl : x = .str "fixed" := hx
      refine q_if (b := false) (et_word (K := K) rfl (by decide +kernel)) (Same.refl _) (fun e => nomatch e) fun _ H2 s2 => ?_
      refine q_if (b := true) (et_word (K := K) rfl (by decide +kernel)) (Same.refl _) (fun _ H3 s3 => ?_) (fun e => nomatch e)
      refine q_retD (ed_call (ea_cons (ed_ixT (d := fr z) (ed_var rfl (Dat.same ((s1.trans s2).trans s3) hu)) ed_int rfl) ea_nil) ⟨z, rfl, rfl⟩ rfl) (Same.refl _) fun r H4 s4 h4 => q r H4 _ (((s1.trans s2).trans s3).trans s4) ⟨_, rfl, ?_, Nat.le_refl _⟩ h4
      show Ln (Dn * 1) (fun _ => z) _
      rw [Nat.mul_one]
      exact Ln.flat hD hw
    | node o ts =>
      have hts := hw.2.2.2
      have hl8 := hw.2.1
      have hne := hw.1
      have ho := hw.2.2.1
      have hwps := wps_pos hts
      have hMp : 0 < Dn * wps ts := Nat.mul_pos hD hwps
      have how := oww_pos ho (ts_pos hne)
      have eM : Dn * wp (.node o ts) = oww o * (Dn * wps ts) := by rw [wp_node, Nat.mul_left_comm]
      have hMm : Dn * wps ts < 2 ^ m := Nat.lt_of_le_of_lt (by rw [eM]; exact Nat.le_mul_of_pos_left _ how) hM
      have hdv : ∀ t ∈ ts, Dn * wp t ∣ Dn * wps ts := fun t ht => Nat.mul_dvd_mul_left _ (wp_dvd ht)
      have hlbs : lbs ts ≤ nb o (lbs ts) ts.length := nb_ge _ _ _
      have hlb : nb o (lbs ts) ts.length ≤ 900000 := hlb
      -- a part's line
      let R : Term → D → Prop := fun t e => ∃ L, e = lnD L ∧ Ln (Dn * wp t) (tF l t) L ∧ L.length ≤ lb t
      have part : ∀ (t' : Term), t' ∈ ts → ∀ {σ' : L2.St} {H' : Hp} {ta tb : TE}, EvD K ta σ' H' (tD t') → EvD K tb σ' H' (.lst (lnsD l)) → ∀ E', EvP K (tCall (spP K 2 (preLine d)) [] E' (tCons ta (tCons tb tNil))) σ' H' (R t') := fun t' ht' σ' H' ta tb ha hb' E' =>
        ep_call (ea_cons ha (ea_cons hb' ea_nil)) ⟨t', l, Dn, m, hts t' ht', hl, hl2, hD, Nat.lt_of_le_of_lt (Nat.mul_le_mul_left _ (wp_le hw ht')) hM, hm, Nat.le_trans (lbs_ge ht') (Nat.le_trans hlbs hlb), rfl, rfl⟩ rfl
      have nlR : ∀ a ∈ ts, ∀ e, R a e → nl e = true := fun a _ e ⟨L, e1, _⟩ => by rw [e1]; exact nl_lnD L
      have col : ∀ (es : List D), es.length = ts.length → (∀ (i : Nat) (a : Term), ts[i]? = some a → ∃ e, es[i]? = some e ∧ R a e) → ∃ l' : List LF, es = lnsD l' ∧ fns l' = ts.map (tF l) ∧ Lns (Dn * wps ts) l' ∧ tot l' ≤ lbs ts := fun es h1 h2 => gather hMp h1 hdv h2
      have nums : ∀ {σ' : L2.St} {H' : Hp} {wi : TI} {E' : XK}, σ' = [some u, some v, σ'.getD 2 none, σ'.getD 3 none, none, none] → Same H H' → EvI K wi σ' H' (ts.map tD) →
          EvP K (tLc wi (gName 4) tYes (tCall (spP K 2 (preLine d)) [] E' (tCons (tVar 4) (tCons (tVar 1) tNil))) [4]) σ' H' (fun e => ∃ es : List D, e = .lst es ∧ es.length = ts.length ∧ ∀ (i : Nat) (a : Term), ts[i]? = some a → ∃ e, es[i]? = some e ∧ R a e) := fun {σ' H' wi E'} e sh hI => by
        rw [e] at hI ⊢
        exact ep_lcR (l := ts) (G := tD) R hI nlR (by omega) fun t' x H1 ht' s1 hx Q' q' => q' _ rfl (part t' ht' (ed_var rfl hx) (ed_var rfl (Dat.same (sh.trans s1) hv)) _)
      have vne : ∀ {l' : List LF}, fns l' = ts.map (tF l) → l' ≠ [] ∧ l'.length = ts.length := fun {l'} h => by
        have : (fns l').length = (ts.map (tF l)).length := by rw [h]
        rw [List.length_map, List.length_map] at this
        exact ⟨fun z => hne (List.length_eq_zero_iff.mp (by rw [← this, z]; rfl)), this⟩
      have fin : ∀ {l' : List LF}, fns l' = ts.map (tF l) → (fun x => opv o (fAt l' x)) = tF l (.node o ts) := fun {l'} h => by
        funext x
        show _ = val _ (.node o ts)
        rw [val_node, fAt_fns h]
      have lowL : ∀ {l' : List LF}, l'.length = ts.length → tot l' ≤ lbs ts → lowB l' ≤ lbs ts + lbs ts * tri ts.length := fun {l'} h1 h2 => by
        have := Nat.mul_le_mul_right (tri ts.length) h2
        show tot l' + tot l' * tri l'.length ≤ _
        rw [h1]; omega
      cases o with
      | mean ws =>
        refine q_setD (d := .str "mean") (ed_ixT (ed_var rfl hu) ed_int rfl) (Same.refl _) fun x H1 s1 hx => ?_
        obtain rfl : x = .str "mean" := hx
        refine q_if (b := false) (et_word (K := K) rfl (by decide +kernel)) (Same.refl _) (fun e => nomatch e) fun _ H2 s2 => ?_
        refine q_if (b := false) (et_word (K := K) rfl (by decide +kernel)) (Same.refl _) (fun e => nomatch e) fun _ H3 s3 => ?_
        refine q_if (b := true) (et_word (K := K) rfl (by decide +kernel)) (Same.refl _) (fun _ H4 s4 => ?_) (fun e => nomatch e)
        have s04 := ((s1.trans s2).trans s3).trans s4
        have hz : (ws.zip ts).length ≤ 1000000 := by rw [List.length_zip]; omega
        have hu4 : Dat K H4 (.tup [.str "mean", .tup ((ws.zip ts).map fun p => D.tup [.int (p.1 : Nat), tD p.2])]) u := by
          rw [← mpD_zip, ← tDs_map]
          exact Dat.same s04 hu
        have its : ∀ {H5 : Hp}, Same H4 H5 → EvI K (iTup K (tOp (rIxT K) (tVar 0) (tC (.int 1)))) [some u, some v, some (.str "mean"), none, none, none] H5 ((ws.zip ts).map fun p => D.tup [.int (p.1 : Nat), tD p.2]) := fun s5 => by
          obtain ⟨y, hy, vy⟩ := vv_ixT (K := K) (ta := tVar 0) (tb := tC (.int 1)) (σ := [some u, some v, some (.str "mean"), none, none, none]) (i := 1) (vv_var rfl) (Dat.same s5 hu4) vv_c rfl
          exact ei_tup vy hy
        have zl : (ws.zip ts).map (fun p => p.2) = ts := List.map_snd_zip (by rw [ho.1]; exact Nat.le_refl _)
        have zlen : (ws.zip ts).length = ts.length := by rw [List.length_zip, ho.1, Nat.min_self]
        refine q_ret (ep_call2W (post := fun e => ∃ L, e = lnD L ∧ Ln (Dn * wp (.node (.mean ws) ts)) (tF l (.node (.mean ws) ts)) L ∧ L.length ≤ lb (.node (.mean ws) ts))
          (ed_lcA2 (l := ws.zip ts) (G := fun p => .tup [.int (p.1 : Nat), tD p.2]) (F := fun p => .int (p.1 : Nat)) (p := fun _ => true) (outs := natsD ws) (its (Same.refl _)) (fun _ _ => rfl) (fun _ _ => rfl) hz (fun p H5 hp s5 => ⟨_, _, rfl, fun x y hx hy => ⟨et_yes, fun _ => ed_var rfl hx⟩⟩) ?_)
          (ep_lcR (l := ws.zip ts) (G := fun p => .tup [.int (p.1 : Nat), tD p.2]) (fun p => R p.2) (its (Same.refl _)) (fun p hp => nlR p.2 (List.of_mem_zip hp).2) hz fun p x H5 hp s5 hx Q' q' => g_tup2 hx fun a b ha hb => q' _ rfl (part p.2 (List.of_mem_zip hp).2 (ed_var rfl hb) (ed_var rfl (Dat.same (s04.trans s5) hv)) _))
          fun e ⟨es, he, hlen, hR⟩ => ?_) (Same.refl _) fun r H5 d s5 hpo h5 => q r H5 d (s04.trans s5) hpo h5
        · rw [filt_true]
          have := List.map_fst_zip (l₁ := ws) (l₂ := ts) (by rw [ho.1]; exact Nat.le_refl _)
          conv => lhs; rw [← this]
          unfold natsD
          rw [List.map_map]; rfl
        · obtain ⟨l', e1, e2, e3, e4⟩ := col es (by rw [hlen, zlen]) fun i a hia => by
            have : (ws.zip ts)[i]? = some (ws.getD i 0, a) := by
              rw [List.getElem?_zip_eq_some]
              refine ⟨?_, hia⟩
              have hi := (List.getElem?_eq_some_iff.mp hia).1
              rw [List.getD_eq_getElem?_getD, List.getElem?_eq_getElem (by rw [ho.1]; exact hi)]; rfl
            exact hR i _ this
          obtain ⟨v1, v2⟩ := vne e2
          refine ⟨_, ⟨Dn * wps ts, m, Dn, l', ws, e3, v1, by rw [v2]; exact hl8, by rw [v2]; exact ho, by rw [eM] at hM; exact hM, hm, Nat.le_trans e4 (Nat.le_trans hlbs hlb), by rw [he, e1], rfl⟩, fun d ⟨L, d1, d2, d3⟩ => ⟨L, d1, ?_, Nat.le_trans d3 e4⟩⟩
          rw [eM, ← fin e2]
          exact d2
      | between lo hi =>
        obtain ⟨t0, rfl⟩ : ∃ t0, ts = [t0] := List.length_eq_one_iff.mp ho.1
        refine q_setD (d := .str "between") (ed_ixT (ed_var rfl hu) ed_int rfl) (Same.refl _) fun x H1 s1 hx => ?_
        obtain rfl : x = .str "between" := hx
        refine q_if (b := false) (et_word (K := K) rfl (by decide +kernel)) (Same.refl _) (fun e => nomatch e) fun _ H2 s2 => ?_
        refine q_if (b := false) (et_word (K := K) rfl (by decide +kernel)) (Same.refl _) (fun e => nomatch e) fun _ H3 s3 => ?_
        refine q_if (b := false) (et_word (K := K) rfl (by decide +kernel)) (Same.refl _) (fun e => nomatch e) fun _ H4 s4 => ?_
        refine q_if (b := true) (et_word (K := K) rfl (by decide +kernel)) (Same.refl _) (fun _ H5 s5 => ?_) (fun e => nomatch e)
        have s05 := (((s1.trans s2).trans s3).trans s4).trans s5
        have hu5 : Dat K H5 (.tup [.str "between", fr lo, fr hi, tD t0]) u := Dat.same s05 hu
        have e1 : wps [t0] = wp t0 := Nat.mul_one _
        rw [e1] at hMp hMm hdv eM
        have eM : Dn * wp (.node (.between lo hi) [t0]) = Dn * wp t0 := by rw [eM]; exact Nat.one_mul _
        refine q_ret (ep_call3W (post2 := R t0) (post := fun d => ∃ L', d = lnD L' ∧ Ln (Dn * wp t0) (fun x => rk [lo, hi, tF l t0 x] 1) L' ∧ L'.length ≤ (lb t0 + 4) * 4) (ed_ixT (d := fr lo) (ed_var rfl hu5) ed_int rfl) (ed_ixT (d := fr hi) (ed_var rfl hu5) ed_int rfl) (part t0 (by simp) (ed_ixT (ed_var rfl hu5) ed_int rfl) (ed_var rfl (Dat.same s05 hv)) _) ?_) (Same.refl _) fun r H6 d s6 ⟨L, d1, d2, d3⟩ h6 => q r H6 d (s05.trans s6) ⟨L, d1, ?_, d3⟩ h6
        · rintro e ⟨L, rfl, d2, d3⟩
          have z1 : (L.length + 4) * 4 ≤ (lb t0 + 4) * 4 := Nat.mul_le_mul_right _ (by omega)
          have z2 : (lb t0 + 4) * 4 ≤ 900000 := hlb
          have dv : Dn ∣ Dn * wp t0 := Nat.dvd_mul_right _ _
          exact ⟨_, ⟨Dn * wp t0, m, tF l t0, L, lo, hi, d2, ho.2.1.to dv, ho.2.2.1.to dv, hMm, hm, by omega, rfl, rfl⟩, fun d ⟨L', a1, a2, a3⟩ => ⟨L', a1, a2, by omega⟩⟩
        · rw [eM]; exact d2
      | least =>
        refine q_setD (d := .str "least") (ed_ixT (ed_var rfl hu) ed_int rfl) (Same.refl _) fun x H1 s1 hx => ?_
        obtain rfl : x = .str "least" := hx
        refine q_if (b := false) (et_word (K := K) rfl (by decide +kernel)) (Same.refl _) (fun e => nomatch e) fun _ H2 s2 => ?_
        refine q_if (b := false) (et_word (K := K) rfl (by decide +kernel)) (Same.refl _) (fun e => nomatch e) fun _ H3 s3 => ?_
        refine q_if (b := false) (et_word (K := K) rfl (by decide +kernel)) (Same.refl _) (fun e => nomatch e) fun _ H4 s4 => ?_
        refine q_if (b := false) (et_word (K := K) rfl (by decide +kernel)) (Same.refl _) (fun e => nomatch e) fun _ H5 s5 => ?_
        have s05 := (((s1.trans s2).trans s3).trans s4).trans s5
        have hu5 : Dat K H5 (.tup [.str "least", .tup (ts.map tD)]) u := by rw [← tDs_map]; exact Dat.same s05 hu
        obtain ⟨y, hy, vy⟩ := vv_ixT (K := K) (ta := tVar 0) (tb := tUn (rU fun i => .int (-i)) (tC (.int 1))) (σ := [some u, some v, some (.str "least"), none, none, none]) (i := -1) (vv_var rfl) hu5 vv_neg1 rfl
        refine q_set (nums rfl s05 (ei_tup vy hy)) (Same.refl _) fun y2 H6 d6 s6 ⟨es, hes, hlen, hR⟩ hy2 => ?_
        obtain ⟨l', e1, e2, e3, e4⟩ := col es hlen hR
        obtain ⟨v1, v2⟩ := vne e2
        subst hes e1
        refine q_if (b := false) (et_word (K := K) rfl (by decide +kernel)) (Same.refl _) (fun e => nomatch e) fun _ H7 s7 => ?_
        have lw := lowL v2 e4
        refine q_ret (ep_ifE (b := true) (et_word (K := K) rfl (by decide +kernel)) (fun _ => ep_call (ea_cons (ed_var rfl (Dat.same s7 hy2)) ea_nil) ⟨Dn * wps ts, m, l', e3, v1, hMm, hm, Nat.le_trans lw hlb, by omega, rfl, rfl⟩ rfl) (fun e => nomatch e)) (Same.refl _) fun r H8 d s8 ⟨L, d1, d2, d3⟩ h8 => q r H8 d (((s05.trans s6).trans s7).trans s8) ⟨L, d1, ?_, Nat.le_trans d3 lw⟩ h8
        rw [eM, ← fin e2]
        show Ln (1 * _) _ _
        rw [Nat.one_mul]; exact d2
      | greatest =>
        refine q_setD (d := .str "greatest") (ed_ixT (ed_var rfl hu) ed_int rfl) (Same.refl _) fun x H1 s1 hx => ?_
        obtain rfl : x = .str "greatest" := hx
        refine q_if (b := false) (et_word (K := K) rfl (by decide +kernel)) (Same.refl _) (fun e => nomatch e) fun _ H2 s2 => ?_
        refine q_if (b := false) (et_word (K := K) rfl (by decide +kernel)) (Same.refl _) (fun e => nomatch e) fun _ H3 s3 => ?_
        refine q_if (b := false) (et_word (K := K) rfl (by decide +kernel)) (Same.refl _) (fun e => nomatch e) fun _ H4 s4 => ?_
        refine q_if (b := false) (et_word (K := K) rfl (by decide +kernel)) (Same.refl _) (fun e => nomatch e) fun _ H5 s5 => ?_
        have s05 := (((s1.trans s2).trans s3).trans s4).trans s5
        have hu5 : Dat K H5 (.tup [.str "greatest", .tup (ts.map tD)]) u := by rw [← tDs_map]; exact Dat.same s05 hu
        obtain ⟨y, hy, vy⟩ := vv_ixT (K := K) (ta := tVar 0) (tb := tUn (rU fun i => .int (-i)) (tC (.int 1))) (σ := [some u, some v, some (.str "greatest"), none, none, none]) (i := -1) (vv_var rfl) hu5 vv_neg1 rfl
        refine q_set (nums rfl s05 (ei_tup vy hy)) (Same.refl _) fun y2 H6 d6 s6 ⟨es, hes, hlen, hR⟩ hy2 => ?_
        obtain ⟨l', e1, e2, e3, e4⟩ := col es hlen hR
        obtain ⟨v1, v2⟩ := vne e2
        subst hes e1
        refine q_if (b := false) (et_word (K := K) rfl (by decide +kernel)) (Same.refl _) (fun e => nomatch e) fun _ H7 s7 => ?_
        have lw := lowL v2 e4
        refine q_ret (ep_ifE (b := false) (et_word (K := K) rfl (by decide +kernel)) (fun e => nomatch e) (fun _ => ep_call (ea_cons (ed_var rfl (Dat.same s7 hy2)) ea_nil) ⟨Dn * wps ts, m, l', e3, v1, hMm, hm, Nat.le_trans lw hlb, by omega, rfl, rfl⟩ rfl)) (Same.refl _) fun r H8 d s8 ⟨L, d1, d2, d3⟩ h8 => q r H8 d (((s05.trans s6).trans s7).trans s8) ⟨L, d1, ?_, Nat.le_trans d3 lw⟩ h8
        rw [eM, ← fin e2]
        show Ln (1 * _) (fun x => rk (fAt l' x) ((fAt l' x).length - 1)) _
        rw [Nat.one_mul]
        refine d2.congr fun t => ?_
        rw [show (fAt l' t).length = l'.length by simp]
      | ranked k =>
        refine q_setD (d := .str "ranked") (ed_ixT (ed_var rfl hu) ed_int rfl) (Same.refl _) fun x H1 s1 hx => ?_
        obtain rfl : x = .str "ranked" := hx
        refine q_if (b := false) (et_word (K := K) rfl (by decide +kernel)) (Same.refl _) (fun e => nomatch e) fun _ H2 s2 => ?_
        refine q_if (b := false) (et_word (K := K) rfl (by decide +kernel)) (Same.refl _) (fun e => nomatch e) fun _ H3 s3 => ?_
        refine q_if (b := false) (et_word (K := K) rfl (by decide +kernel)) (Same.refl _) (fun e => nomatch e) fun _ H4 s4 => ?_
        refine q_if (b := false) (et_word (K := K) rfl (by decide +kernel)) (Same.refl _) (fun e => nomatch e) fun _ H5 s5 => ?_
        have s05 := (((s1.trans s2).trans s3).trans s4).trans s5
        have hu5 : Dat K H5 (.tup [.str "ranked", .int (k : Nat), .tup (ts.map tD)]) u := by rw [← tDs_map]; exact Dat.same s05 hu
        obtain ⟨y, hy, vy⟩ := vv_ixT (K := K) (ta := tVar 0) (tb := tUn (rU fun i => .int (-i)) (tC (.int 1))) (σ := [some u, some v, some (.str "ranked"), none, none, none]) (i := -1) (vv_var rfl) hu5 vv_neg1 rfl
        refine q_set (nums rfl s05 (ei_tup vy hy)) (Same.refl _) fun y2 H6 d6 s6 ⟨es, hes, hlen, hR⟩ hy2 => ?_
        obtain ⟨l', e1, e2, e3, e4⟩ := col es hlen hR
        obtain ⟨v1, v2⟩ := vne e2
        subst hes e1
        refine q_if (b := true) (et_word (K := K) rfl (by decide +kernel)) (Same.refl _) (fun _ H7 s7 => ?_) (fun e => nomatch e)
        have lw := lowL v2 e4
        refine q_ret (ep_call (ea_cons (ed_ixT (d := .int (k : Nat)) (ed_var rfl (Dat.same (s6.trans s7) hu5)) ed_int rfl) (ea_cons (ed_var rfl (Dat.same s7 hy2)) ea_nil)) ⟨Dn * wps ts, m, k, l', e3, v1, ho.1, by rw [v2]; exact ho.2, hMm, hm, Nat.le_trans lw hlb, by omega, rfl, rfl⟩ rfl) (Same.refl _) fun r H8 d s8 ⟨L, d1, d2, d3⟩ h8 => q r H8 d (((s05.trans s6).trans s7).trans s8) ⟨L, d1, ?_, Nat.le_trans d3 lw⟩ h8
        rw [eM, ← fin e2]
        show Ln (1 * _) (fun x => rk (fAt l' x) ((fAt l' x).length - k)) _
        rw [Nat.one_mul]
        refine d2.congr fun t => ?_
        rw [show (fAt l' t).length = l'.length by simp]
end
end Cb
set_option Elab.async false
set_option linter.all false
set_option maxRecDepth 100000
set_option maxHeartbeats 4000000
/-! walks: the best places of a line -/
namespace Cb
open PySem PySem.Spec PyProof.Rows L2
theorem ln_head {M : Nat} {F : Rat → Rat} {L : List Pt} (h : Ln M F L) : L[0]? = some (0, F 0) := by
  obtain ⟨r, e⟩ := h.first
  rw [e]; rfl
theorem ln_tail {M : Nat} {F : Rat → Rat} {L : List Pt} (h : Ln M F L) : L[L.length - 1]? = some (1, F 1) := by
  have := h.last
  rw [List.getLast?_eq_getElem?] at this
  exact this
theorem atI_pr_last {M : Nat} {F : Rat → Rat} {L : List Pt} (h : Ln M F L) : atI (L.map prD) (-1) = some (prD (1, F 1)) := by
  have l2 := h.len
  obtain ⟨G, x, e⟩ := snoc1 (F := L) (fun z => by rw [z] at l2; simp at l2)
  have t := h.last
  rw [e, List.getLast?_concat] at t
  rw [e, List.map_append, Option.some.inj t]
  exact atI_last _ _
section
variable {P : Program} {w : World} {K : PySem.W.Frag} {mg : Str → Option Value} {base : Heap}
abbrev spPb (K : PySem.W.Frag) : Sp := spP K 3 fun ds post => ∃ (p r : Pt) (t : Rat) (S : Nat), Sz S p.1 ∧ Sz S p.2 ∧ Sz S r.1 ∧ Sz S r.2 ∧ Sz S t ∧ p.2 < r.2 ∧ 6 * S + 3 ≤ LIM ∧ ds = [prD p, prD r, fr t] ∧ post = fun d => d = fr (pb p r t)
theorem ok_place_between (W : Wd P K mg base) (F : Df K mg "place_between" s_place_between) (G_over : C8.Cal P w K mg base 35 "over" (spOver K) []) (G_minus : C8.Cal P w K mg base 35 "minus" (spMinus K) []) (G_plus : C8.Cal P w K mg base 35 "plus" (spPlus K) []) (G_times : C8.Cal P w K mg base 35 "times" (spTimes K) []) :
    C8.Cal P w K mg base 36 "place_between" (spPb K) [] := by
  refine cal_of F sc_place_between (fun _ _ _ _ _ _ us hl => match us, hl with | [_, _, _], _ => rfl) rfl fun f cdv A outer s H vs Q E ds post hr hp hd q => ?_
  obtain ⟨p, r, t, S, p1, p2, r1, r2, st, hlt, hS, rfl, rfl⟩ := hp
  obtain ⟨u, v, y, rfl, hu, hv, hy⟩ := dats3 hd
  refine ⟨_, (pss_cons (ps_set (i := 3) sc_place_between.nd rfl (by first | exact Or.inl rfl | exact Or.inr rfl) (C8.pe_c G_over hr (by omega) (by rfl) (pa_cons (C8.pe_c G_minus hr (by omega) (by rfl) (pa_cons (pv 2) (pa_cons (pe_ix ix_tup (pv 0) pe_int (fun _ _ => rfl)) pa_nil))) (pa_cons (C8.pe_c G_minus hr (by omega) (by rfl) (pa_cons (pe_ix ix_tup (pv 1) pe_int (fun _ _ => rfl)) (pa_cons (pe_ix ix_tup (pv 0) pe_int (fun _ _ => rfl)) pa_nil))) pa_nil))))
    (pss_one (ps_ret (C8.pe_c G_plus hr (by omega) (by rfl) (pa_cons (pe_ix ix_tup (pv 0) pe_int (fun _ _ => rfl)) (pa_cons (C8.pe_c G_times hr (by omega) (by rfl) (pa_cons (pv 3) (pa_cons (C8.pe_c G_minus hr (by omega) (by rfl) (pa_cons (pe_ix ix_tup (pv 1) pe_int (fun _ _ => rfl)) (pa_cons (pe_ix ix_tup (pv 0) pe_int (fun _ _ => rfl)) pa_nil))) pa_nil))) pa_nil)))))), ?_⟩
  have e0 : ∀ {x : Option V} {H' : Hp}, Same H H' → EvD K (tVar 0) [some u, some v, some y, x] H' (prD p) := fun s => ed_var rfl (Dat.same s hu)
  have e1 : ∀ {x : Option V} {H' : Hp}, Same H H' → EvD K (tVar 1) [some u, some v, some y, x] H' (prD r) := fun s => ed_var rfl (Dat.same s hv)
  have e2 : ∀ {x : Option V} {H' : Hp}, Same H H' → EvD K (tVar 2) [some u, some v, some y, x] H' (fr t) := fun s => ed_var rfl (Dat.same s hy)
  have a1 := st.sub p2
  have a2 := r2.sub p2
  have a3 := r1.sub p1
  have a4 := a1.div a2 (sub_ne hlt)
  refine q_setD (ed_bin (n := 2 * S + 1) (ed_bin (n := S) (e2 (Same.refl _)) (ed_ixT (e0 (Same.refl _)) ed_int rfl) st p2 (by omega) trivial) (ed_bin (n := S) (ed_ixT (e1 (Same.refl _)) ed_int rfl) (ed_ixT (e0 (Same.refl _)) ed_int rfl) r2 p2 (by omega) trivial) (a1.mono (by omega)) (a2.mono (by omega)) (by omega) (sub_ne hlt)) (Same.refl _) fun x H1 s1 hx => ?_
  have hx : Dat K H1 (fr ((t - p.2) / (r.2 - p.2))) x := hx
  refine q_retD (ed_bin (n := 6 * S + 3) (y := (t - p.2) / (r.2 - p.2) * (r.1 - p.1)) (ed_ixT (e0 s1) ed_int rfl) (ed_bin (n := 4 * S + 2) (ed_var rfl hx) (ed_bin (n := S) (ed_ixT (e1 s1) ed_int rfl) (ed_ixT (e0 s1) ed_int rfl) r1 p1 (by omega) trivial) (a4.mono (by omega)) (a3.mono (by omega)) (by omega) trivial) (p1.mono (by omega)) ((a4.mul a3).mono (by omega)) hS trivial) (Same.refl _) fun z H2 s2 h2 => q z H2 _ (s1.trans s2) rfl h2
/-- a line and a number between its ends, over M -/
structure NumIn (M m : Nat) (F : Rat → Rat) (L : List Pt) (y : Rat) : Prop where
  ln : Ln M F L
  hM : M < 2 ^ m
  hm : m ≤ MX
  hl : L.length ≤ 900000
  z : ∃ z : Int, y * (M : Rat) = (z : Rat)
  lo : F 0 ≤ y
  hi : y ≤ F 1
theorem NumIn.sz {M m : Nat} {F : Rat → Rat} {L : List Pt} {y : Rat} (h : NumIn M m F L y) : Sz m y := by
  obtain ⟨z, hz⟩ := h.z
  have r0 := h.ln.rng 0 (by decide) (by decide)
  have r1 := h.ln.rng 1 (by decide) (by decide)
  have a := h.lo
  have b := h.hi
  exact Sz.unit (by grind) (by grind) (Nat.lt_of_le_of_lt (den_le h.ln.pos hz) h.hM)
abbrev spFirst (K : PySem.W.Frag) : Sp := spP K 2 fun ds post => ∃ (M m : Nat) (F : Rat → Rat) (L : List Pt) (y : Rat), NumIn M m F L y ∧ ds = [lnD L, fr y] ∧ post = fun d => ∃ e, d = fr e ∧ IsFirst M F y e
theorem ok_first_at (W : Wd P K mg base) (F : Df K mg "first_at" s_first_at) (G_is_less : C8.Cal P w K mg base 35 "is_less" (spLess K) []) (G_place_between : C8.Cal P w K mg base 36 "place_between" (spPb K) []) : C8.Cal P w K mg base 37 "first_at" (spFirst K) [] := by
  obtain ⟨z, mz, hzz⟩ := W.zero
  refine cal_of F sc_first_at (fun _ _ _ _ _ _ us hl => match us, hl with | [_, _], _ => rfl) rfl fun f cdv A outer s H vs Q E ds post hr hp hd q => ?_
  obtain ⟨M, m, g, L, y, hN, rfl, rfl⟩ := hp
  obtain ⟨u, v, rfl, hu, hv⟩ := dats2 hd
  refine ⟨_, (pss_cons (ps_if (pt_not (pt_val (C8.pe_c G_is_less hr (by omega) (by rfl) (pa_cons (pe_ix ix_tup (pe_ix ix_tup (pv 0) pe_int (fun _ _ => rfl)) pe_int (fun _ _ => rfl)) (pa_cons (pv 1) pa_nil))))) (pss_one (ps_ret (pe_glob (v := .ref z) (by rfl) mz rfl))) pss_nil)
    (pss_cons (ps_set (i := 2) sc_first_at.nd rfl (by first | exact Or.inl rfl | exact Or.inr rfl) (pe_ix ix_list (pe_lc (own := [("k", 3)]) (g := gName 3) rfl sc_first_at.nd (pi_range2 (by rfl) W.range (pa_cons pe_int (pa_cons (pe_callB call_len_seq (by rfl) W.len b_len (pa_cons (pv 0) pa_nil)) pa_nil))) (blkOk_by (N := n_first_at) (sc := defScope s_first_at) (by decide +kernel)) (fun _ _ _ _ _ => (pg_name (i := 3) sc_first_at.nd rfl (by first | exact Or.inl rfl | exact Or.inr rfl))) (fun _ _ _ _ _ => (pts_one (pt_not (pt_val (C8.pe_c G_is_less hr (by omega) (by rfl) (pa_cons (pe_ix (ixT_K rfl) (pe_ix (ixT_K rfl) (pv 0) (pv 3) (fun _ _ => rfl)) pe_int (fun _ _ => rfl)) (pa_cons (pv 1) pa_nil))))))) (fun _ _ _ _ _ => (pv 3))) pe_int (fun _ _ => rfl)))
    (pss_one (ps_ret (C8.pe_c G_place_between hr (by omega) (by rfl) (pa_cons (pe_ix ix_tup (pv 0) (pe_op op_sub (pv 2) pe_int) (fun _ _ => rfl)) (pa_cons (pe_ix ix_tup (pv 0) (pv 2) (fun _ _ => rfl)) (pa_cons (pv 1) pa_nil)))))))), ?_⟩
  have hL := hN.ln
  have hM := hN.hM
  have hm : m ≤ 1000000 := hN.hm
  have hl := hN.hl
  have szy := hN.sz
  obtain ⟨zz, hz⟩ := hN.z
  have len2 := hL.len
  obtain ⟨n, hn⟩ : ∃ n, L.length = n + 1 := ⟨L.length - 1, by omega⟩
  have eB : ∀ {x y : Option V} {H' : Hp}, Same H H' → EvD K (tVar 0) [some u, some v, x, y] H' (lnD L) := fun s => ed_var rfl (Dat.same s hu)
  have eT : ∀ {x y' : Option V} {H' : Hp}, Same H H' → EvD K (tVar 1) [some u, some v, x, y'] H' (fr y) := fun s => ed_var rfl (Dat.same s hv)
  have h0 := ln_head hL
  have m0 := List.mem_of_getElem? h0
  have sz0 := hL.sz_v hM m0
  refine q_if (et_not (et_val (ed_less (n := m + m) (ed_ixT (ed_ixT (d := prD (0, g 0)) (eB (Same.refl _)) ed_int (atI_pr h0)) ed_int rfl) (eT (Same.refl _)) sz0 (szy.mono (by omega)) (by unfold LIM; omega)))) (Same.refl _) (fun e H1 s1 => ?_) (fun e H1 s1 => ?_)
  · have e : ¬ g 0 < y := by simpa using e
    have lo := hN.lo
    exact q_retD (ed_c (d := fr 0) ⟨z, _, rfl, hzz H1, .cons rfl (.cons rfl .nil)⟩) (Same.refl _) fun r H2 s2 h2 => q r H2 _ (s1.trans s2) ⟨0, rfl, first_zero hL (by grind)⟩ h2
  · have e : g 0 < y := by simpa using e
    let tst : Nat → Bool := fun i => !decide ((L.getD (i + 1) (0, 0)).2 < y)
    have pt : ∀ {j : Nat} {p : Pt}, L[j]? = some p → (L.getD j (0, 0)) = p := fun {j p} h => by rw [List.getD_eq_getElem?_getD, h]; rfl
    have hlast := ln_tail hL
    have hhi := hN.hi
    have hex : ∃ i, i < n ∧ tst i = true := by
      refine ⟨n - 1, by omega, ?_⟩
      have e2 : L[n]? = some (1, g 1) := by rw [hn] at hlast; exact hlast
      show (!decide ((L.getD (n - 1 + 1) (0, 0)).2 < y)) = true
      rw [show n - 1 + 1 = n by omega, pt e2]
      show (!decide (g 1 < y)) = true
      rw [decide_eq_false (by grind)]; rfl
    obtain ⟨i, r, ei, hi, pi, lo⟩ := filt_first hex
    have get : ∀ i, i < L.length → ∃ p, L[i]? = some p ∧ p ∈ L := fun i h => ⟨_, List.getElem?_eq_getElem h, List.getElem_mem h⟩
    obtain ⟨p1, hp1, m1⟩ := get i (by omega)
    obtain ⟨p2, hp2, m2⟩ := get (i + 1) (by omega)
    have h2 : y ≤ p2.2 := by
      have := pi
      simp only [tst, pt hp2, Bool.not_eq_true', decide_eq_false_iff_not] at this
      grind
    have h1 : p1.2 < y := by
      rcases Nat.eq_zero_or_pos i with z | z
      · subst z
        rw [hp1] at h0
        rw [Option.some.inj h0]; exact e
      · have := lo (i - 1) (by omega)
        simp only [tst, show i - 1 + 1 = i by omega, pt hp1, Bool.not_eq_false', decide_eq_true_eq] at this
        exact this
    refine q_setD (ed_ixL (ed_lcA (l := List.range n) (G := fun (i : Nat) => D.int (1 + (i : Int))) (F := fun (i : Nat) => D.int (1 + (i : Int))) (p := tst) (ei_range2 (n := n) vv_c ((vv_lenT (vv_var rfl) (Dat.same s1 hu)).to (by rw [List.length_map, hn]; show V.int _ = V.int _; congr 1; omega)) (by decide) (by decide) (by omega)) (fun _ => rfl) (fun _ _ => rfl) (by rw [List.length_range]; omega) (fun j x H2 hj s2 hx => ⟨?_, fun _ => ed_var rfl hx⟩) rfl) ed_int (d := .int (1 + (i : Int))) ?_) (Same.refl _) fun x H2 s2 hx => ?_
    · have hj : j < n := List.mem_range.mp hj
      obtain ⟨p, hp, mp⟩ := get (j + 1) (by omega)
      refine (et_not (et_val (ed_less (n := m + m) (ed_ixT (ed_ixT (d := prD p) (eB (s1.trans s2)) (ed_var rfl hx) ?_) ed_int rfl) (eT (s1.trans s2)) (hL.sz_v hM mp) (szy.mono (by omega)) (by unfold LIM; omega)))).to ?_
      · rw [show (1 : Int) + (j : Nat) = ((j + 1 : Nat) : Int) by omega]
        exact atI_pr hp
      · simp only [tst, pt hp]
    · rw [ei]
      exact atI_nat (j := 0) rfl
    · obtain rfl : x = .int (1 + (i : Int)) := hx
      have s02 := s1.trans s2
      refine q_retD (ed_call (d := fr (pb p1 p2 y)) (ea_cons (ed_ixT (d := prD p1) (eB s02) (ed_sub (ed_var (d := .int (1 + (i : Int))) rfl rfl) ed_int) ?_) (ea_cons (ed_ixT (d := prD p2) (eB s02) (ed_var (d := .int (1 + (i : Int))) rfl rfl) ?_) (ea_cons (eT s02) ea_nil))) ⟨p1, p2, y, m + m, (hL.sz_t hM m1).mono (by omega), hL.sz_v hM m1, (hL.sz_t hM m2).mono (by omega), hL.sz_v hM m2, szy.mono (by omega), by grind, by unfold LIM; omega, rfl, rfl⟩ rfl) (Same.refl _) fun z H3 s3 h3 => q z H3 _ (s02.trans s3) ⟨_, rfl, first_between hL hp1 hp2 hz h1 h2⟩ h3
      · rw [show (1 : Int) + (i : Nat) - 1 = ((i : Nat) : Int) by omega]
        exact atI_pr hp1
      · rw [show (1 : Int) + (i : Nat) = ((i + 1 : Nat) : Int) by omega]
        exact atI_pr hp2
abbrev spLast (K : PySem.W.Frag) : Sp := spP K 2 fun ds post => ∃ (M m : Nat) (F : Rat → Rat) (L : List Pt) (y : Rat), NumIn M m F L y ∧ ds = [lnD L, fr y] ∧ post = fun d => ∃ e, d = fr e ∧ IsLast M F y e
theorem atI_end {α : Type} {r : List α} {x : α} : atI (r ++ [x]) (-1) = some x := atI_last r x
theorem ok_last_at (W : Wd P K mg base) (F : Df K mg "last_at" s_last_at) (G_is_less : C8.Cal P w K mg base 35 "is_less" (spLess K) []) (G_place_between : C8.Cal P w K mg base 36 "place_between" (spPb K) []) : C8.Cal P w K mg base 37 "last_at" (spLast K) [] := by
  obtain ⟨o, mo, hoo⟩ := W.one
  refine cal_of F sc_last_at (fun _ _ _ _ _ _ us hl => match us, hl with | [_, _], _ => rfl) rfl fun f cdv A outer s H vs Q E ds post hr hp hd q => ?_
  obtain ⟨M, m, g, L, y, hN, rfl, rfl⟩ := hp
  obtain ⟨u, v, rfl, hu, hv⟩ := dats2 hd
  refine ⟨_, (pss_cons (ps_if (pt_not (pt_val (C8.pe_c G_is_less hr (by omega) (by rfl) (pa_cons (pv 1) (pa_cons (pe_ix ix_tup (pe_ix ix_tup (pv 0) (pe_un un_neg pe_int) (fun _ _ => rfl)) pe_int (fun _ _ => rfl)) pa_nil))))) (pss_one (ps_ret (pe_glob (v := .ref o) (by rfl) mo rfl))) pss_nil)
    (pss_cons (ps_set (i := 2) sc_last_at.nd rfl (by first | exact Or.inl rfl | exact Or.inr rfl) (pe_ix ix_list (pe_lc (own := [("k", 3)]) (g := gName 3) rfl sc_last_at.nd (pi_range1 (by rfl) W.range (pa_cons (pe_op op_sub (pe_callB call_len_seq (by rfl) W.len b_len (pa_cons (pv 0) pa_nil)) pe_int) pa_nil)) (blkOk_by (N := n_last_at) (sc := defScope s_last_at) (by decide +kernel)) (fun _ _ _ _ _ => (pg_name (i := 3) sc_last_at.nd rfl (by first | exact Or.inl rfl | exact Or.inr rfl))) (fun _ _ _ _ _ => (pts_one (pt_not (pt_val (C8.pe_c G_is_less hr (by omega) (by rfl) (pa_cons (pv 1) (pa_cons (pe_ix (ixT_K rfl) (pe_ix (ixT_K rfl) (pv 0) (pv 3) (fun _ _ => rfl)) pe_int (fun _ _ => rfl)) pa_nil))))))) (fun _ _ _ _ _ => (pv 3))) (pe_un un_neg pe_int) (fun _ _ => rfl)))
    (pss_one (ps_ret (C8.pe_c G_place_between hr (by omega) (by rfl) (pa_cons (pe_ix ix_tup (pv 0) (pv 2) (fun _ _ => rfl)) (pa_cons (pe_ix ix_tup (pv 0) (pe_op op_add (pv 2) pe_int) (fun _ _ => rfl)) (pa_cons (pv 1) pa_nil)))))))), ?_⟩
  have hL := hN.ln
  have hM := hN.hM
  have hm : m ≤ 1000000 := hN.hm
  have hl := hN.hl
  have szy := hN.sz
  obtain ⟨zz, hz⟩ := hN.z
  have len2 := hL.len
  obtain ⟨n, hn⟩ : ∃ n, L.length = n + 1 := ⟨L.length - 1, by omega⟩
  have eB : ∀ {x y : Option V} {H' : Hp}, Same H H' → EvD K (tVar 0) [some u, some v, x, y] H' (lnD L) := fun s => ed_var rfl (Dat.same s hu)
  have eT : ∀ {x y' : Option V} {H' : Hp}, Same H H' → EvD K (tVar 1) [some u, some v, x, y'] H' (fr y) := fun s => ed_var rfl (Dat.same s hv)
  have h0 := ln_tail hL
  have m0 := List.mem_of_getElem? h0
  have sz0 := hL.sz_v hM m0
  refine q_if (et_not (et_val (ed_less (n := m + m) (eT (Same.refl _)) (ed_ixT (ed_ixT (d := prD (1, g 1)) (eB (Same.refl _)) (ed_neg ed_int) (atI_pr_last hL)) ed_int rfl) (szy.mono (by omega)) sz0 (by unfold LIM; omega)))) (Same.refl _) (fun e H1 s1 => ?_) (fun e H1 s1 => ?_)
  · have e : ¬ y < g 1 := by simpa using e
    have hi := hN.hi
    exact q_retD (ed_c (d := fr 1) ⟨o, _, rfl, hoo H1, .cons rfl (.cons rfl .nil)⟩) (Same.refl _) fun r H2 s2 h2 => q r H2 _ (s1.trans s2) ⟨1, rfl, last_one hL (by grind)⟩ h2
  · have e : y < g 1 := by simpa using e
    let tst : Nat → Bool := fun i => !decide (y < (L.getD i (0, 0)).2)
    have pt : ∀ {j : Nat} {p : Pt}, L[j]? = some p → (L.getD j (0, 0)) = p := fun {j p} h => by rw [List.getD_eq_getElem?_getD, h]; rfl
    have hhead := ln_head hL
    have hlo := hN.lo
    have hex : ∃ i, i < n ∧ tst i = true := by
      refine ⟨0, by omega, ?_⟩
      show (!decide (y < (L.getD 0 (0, 0)).2)) = true
      rw [pt hhead]
      show (!decide (y < g 0)) = true
      rw [decide_eq_false (by grind)]; rfl
    obtain ⟨i, r, ei, hi, pi, lo⟩ := filt_last hex
    have get : ∀ i, i < L.length → ∃ p, L[i]? = some p ∧ p ∈ L := fun i h => ⟨_, List.getElem?_eq_getElem h, List.getElem_mem h⟩
    obtain ⟨p1, hp1, m1⟩ := get i (by omega)
    obtain ⟨p2, hp2, m2⟩ := get (i + 1) (by omega)
    have h1 : p1.2 ≤ y := by
      have := pi
      simp only [tst, pt hp1, Bool.not_eq_true', decide_eq_false_iff_not] at this
      grind
    have h2 : y < p2.2 := by
      rcases Nat.lt_or_ge (i + 1) n with z | z
      · have := lo (i + 1) (by omega) z
        simp only [tst, pt hp2, Bool.not_eq_false', decide_eq_true_eq] at this
        exact this
      · rw [show L.length - 1 = i + 1 by omega, hp2] at h0
        rw [Option.some.inj h0]; exact e
    have eN : ∀ {σ' : L2.St} {H' : Hp}, σ' = [some u, some v, none, none] → Same H H' → EvV (tOp (rI0 fun i j => .int (i - j)) (tCB (fun xs H Q => ∃ p ys, xs = [.ref p] ∧ (SqL K H p ys ∨ SqT K H p ys) ∧ Q (.int ys.length) H) (tCons (tVar 0) tNil)) (tC (.int 1))) σ' H' (.int (n : Nat)) := fun {σ' H'} e s => by
      rw [e]
      exact (vv_sub (vv_lenT (vv_var rfl) (Dat.same s hu)) vv_c).to (by rw [List.length_map, hn]; show V.int _ = V.int _; congr 1; omega)
    refine q_setD (ed_ixL (ed_lcA (l := List.range n) (G := fun (i : Nat) => D.int (0 + (i : Int))) (F := fun (i : Nat) => D.int (0 + (i : Int))) (p := tst) (ei_range1 (n := n) (eN rfl s1) (by omega)) (fun _ => rfl) (fun _ _ => rfl) (by rw [List.length_range]; omega) (fun j x H2 hj s2 hx => ⟨?_, fun _ => ed_var rfl hx⟩) rfl) (ed_neg ed_int) (d := .int (0 + (i : Int))) ?_) (Same.refl _) fun x H2 s2 hx => ?_
    · have hj : j < n := List.mem_range.mp hj
      obtain ⟨p, hp, mp⟩ := get j (by omega)
      refine (et_not (et_val (ed_less (n := m + m) (eT (s1.trans s2)) (ed_ixT (ed_ixT (d := prD p) (eB (s1.trans s2)) (ed_var rfl hx) ?_) ed_int rfl) (szy.mono (by omega)) (hL.sz_v hM mp) (by unfold LIM; omega)))).to ?_
      · rw [show (0 : Int) + (j : Nat) = ((j : Nat) : Int) by omega]
        exact atI_pr hp
      · simp only [tst, pt hp]
    · rw [ei, List.map_append]
      exact atI_end
    · obtain rfl : x = .int (0 + (i : Int)) := hx
      have s02 := s1.trans s2
      refine q_retD (ed_call (d := fr (pb p1 p2 y)) (ea_cons (ed_ixT (d := prD p1) (eB s02) (ed_var (d := .int (0 + (i : Int))) rfl rfl) ?_) (ea_cons (ed_ixT (d := prD p2) (eB s02) (ed_add (ed_var (d := .int (0 + (i : Int))) rfl rfl) ed_int) ?_) (ea_cons (eT s02) ea_nil))) ⟨p1, p2, y, m + m, (hL.sz_t hM m1).mono (by omega), hL.sz_v hM m1, (hL.sz_t hM m2).mono (by omega), hL.sz_v hM m2, szy.mono (by omega), by grind, by unfold LIM; omega, rfl, rfl⟩ rfl) (Same.refl _) fun z H3 s3 h3 => q z H3 _ (s02.trans s3) ⟨_, rfl, last_between hL hp1 hp2 hz h1 h2⟩ h3
      · rw [show (0 : Int) + (i : Nat) = ((i : Nat) : Int) by omega]
        exact atI_pr hp1
      · rw [show (0 : Int) + (i : Nat) + 1 = ((i + 1 : Nat) : Int) by omega]
        exact atI_pr hp2
end
end Cb
set_option Elab.async false
set_option linter.all false
set_option maxRecDepth 100000
set_option maxHeartbeats 4000000
/-! walks: best places -/
namespace Cb
open PySem PySem.Spec PyProof.Rows L2
section
variable {K : PySem.W.Frag} {σ : L2.St} {H : Hp} {te ta tb : TE}
/-- a tuple of two, told by relations -/
theorem ep_tup2 {p1 p2 post : D → Prop} (ha : EvP K ta σ H p1) (hb : EvP K tb σ H p2) (hp : ∀ a b, p1 a → p2 b → post (.tup [a, b])) : EvP K (tTup (tCons ta (tCons tb tNil))) σ H post := fun H0 s Q q =>
  ha H0 s _ fun u H1 d1 s1 pd1 hu => hb H1 (s.trans s1) _ fun v H2 d2 s2 pd2 hv => ⟨by show 2 ≤ sizeLine; decide, fun p hp' => q _ _ _ ((s1.trans s2).trans (same_upd hp')) (hp d1 d2 pd1 pd2) ⟨p, [u, v], rfl, .inl (.inl upd_same), .cons (Dat.same (s2.trans (same_upd hp')) hu) (.cons (Dat.same (same_upd hp') hv) .nil)⟩⟩
end
section
variable {P : Program} {w : World} {K : PySem.W.Frag} {mg : Str → Option Value} {base : Heap}
abbrev spFL (K : PySem.W.Frag) : Sp := spP K 2 fun ds post => ∃ (M m : Nat) (F : Rat → Rat) (L : List Pt) (y : Rat), NumIn M m F L y ∧ ds = [lnD L, fr y] ∧ post = fun d => ∃ e0 e1, d = .tup [fr e0, fr e1] ∧ IsFirst M F y e0 ∧ IsLast M F y e1
theorem ok_first_and_last (W : Wd P K mg base) (F : Df K mg "first_and_last" s_first_and_last) (G_is_less : C8.Cal P w K mg base 35 "is_less" (spLess K) []) (G_first_at : C8.Cal P w K mg base 37 "first_at" (spFirst K) []) (G_last_at : C8.Cal P w K mg base 37 "last_at" (spLast K) []) : C8.Cal P w K mg base 38 "first_and_last" (spFL K) [] := by
  refine cal_of F sc_first_and_last (fun _ _ _ _ _ _ us hl => match us, hl with | [_, _], _ => rfl) rfl fun f cdv A outer s H vs Q E ds post hr hp hd q => ?_
  obtain ⟨M, m, g, L, y, hN, rfl, rfl⟩ := hp
  obtain ⟨u, v, rfl, hu, hv⟩ := dats2 hd
  refine ⟨_, (pss_cons (ps_if (PW.pt (pw_or (pt_val (C8.pe_c G_is_less hr (by omega) (by rfl) (pa_cons (pv 1) (pa_cons (pe_ix ix_tup (pe_ix ix_tup (pv 0) pe_int (fun _ _ => rfl)) pe_int (fun _ _ => rfl)) pa_nil)))) (pw_or1 (pt_val (C8.pe_c G_is_less hr (by omega) (by rfl) (pa_cons (pe_ix ix_tup (pe_ix ix_tup (pv 0) (pe_un un_neg pe_int) (fun _ _ => rfl)) pe_int (fun _ _ => rfl)) (pa_cons (pv 1) pa_nil))))))) (pss_one (ps_ret pe_non)) pss_nil)
    (pss_one (ps_ret (pe_tup (pa_cons (C8.pe_c G_first_at hr (by omega) (by rfl) (pa_cons (pv 0) (pa_cons (pv 1) pa_nil))) (pa_cons (C8.pe_c G_last_at hr (by omega) (by rfl) (pa_cons (pv 0) (pa_cons (pv 1) pa_nil))) pa_nil)))))), ?_⟩
  have hL := hN.ln
  have hM := hN.hM
  have hm : m ≤ 1000000 := hN.hm
  have szy := hN.sz
  have h0 := ln_head hL
  have h1 := ln_tail hL
  have lo := hN.lo
  have hi := hN.hi
  have eB : EvD K (tVar 0) [some u, some v] H (lnD L) := ed_var rfl hu
  have eT : EvD K (tVar 1) [some u, some v] H (fr y) := ed_var rfl hv
  refine q_if (b := false) (et_or (b := false) (c := false) ((et_val (ed_less (n := m + m) eT (ed_ixT (ed_ixT (d := prD (0, g 0)) eB ed_int (atI_pr h0)) ed_int rfl) (szy.mono (by omega)) (hL.sz_v hM (List.mem_of_getElem? h0)) (by unfold LIM; omega))).to (decide_eq_false (by show ¬ y < g 0; grind))) fun _ =>
    (et_val (ed_less (n := m + m) (ed_ixT (ed_ixT (d := prD (1, g 1)) eB (ed_neg ed_int) (atI_pr_last hL)) ed_int rfl) eT (hL.sz_v hM (List.mem_of_getElem? h1)) (szy.mono (by omega)) (by unfold LIM; omega))).to (decide_eq_false (by show ¬ g 1 < y; grind))) (Same.refl _) (fun e => nomatch e) fun _ H1 s1 => ?_
  exact q_ret (ep_tup2 (ep_call (ea_cons (ed_var rfl (Dat.same s1 hu)) (ea_cons (ed_var rfl (Dat.same s1 hv)) ea_nil)) ⟨M, m, g, L, y, hN, rfl, rfl⟩ rfl) (ep_call (ea_cons (ed_var rfl (Dat.same s1 hu)) (ea_cons (ed_var rfl (Dat.same s1 hv)) ea_nil)) ⟨M, m, g, L, y, hN, rfl, rfl⟩ rfl)
    (post := fun d => ∃ e0 e1, d = .tup [fr e0, fr e1] ∧ IsFirst M g y e0 ∧ IsLast M g y e1) fun a b ⟨e0, h0, f0⟩ ⟨e1, h1, f1⟩ => ⟨e0, e1, by rw [h0, h1], f0, f1⟩) (Same.refl _) fun r H2 d s2 hpo h2 => q r H2 d (s1.trans s2) hpo h2
abbrev spNearest (K : PySem.W.Frag) : Sp := spP K 2 fun ds post => ∃ (M m : Nat) (F : Rat → Rat) (L : List Pt) (y : Rat), Ln M F L ∧ M < 2 ^ m ∧ m ≤ MX ∧ Sz (m + m) y ∧ ds = [lnD L, fr y] ∧ post = fun d => d = fr (rk [y, F 0, F 1] 1)
theorem ok_nearest (W : Wd P K mg base) (F : Df K mg "nearest" s_nearest) (G_middle : C8.Cal P w K mg base 37 "middle" (spMiddle K) []) : C8.Cal P w K mg base 38 "nearest" (spNearest K) [] := by
  refine cal_of F sc_nearest (fun _ _ _ _ _ _ us hl => match us, hl with | [_, _], _ => rfl) rfl fun f cdv A outer s H vs Q E ds post hr hp hd q => ?_
  obtain ⟨M, m, g, L, y, hL, hM, hm, sy, rfl, rfl⟩ := hp
  obtain ⟨u, v, rfl, hu, hv⟩ := dats2 hd
  refine ⟨_, (pss_one (ps_ret (C8.pe_c G_middle hr (by omega) (by rfl) (pa_cons (pv 1) (pa_cons (pe_ix ix_tup (pe_ix ix_tup (pv 0) pe_int (fun _ _ => rfl)) pe_int (fun _ _ => rfl)) (pa_cons (pe_ix ix_tup (pe_ix ix_tup (pv 0) (pe_un un_neg pe_int) (fun _ _ => rfl)) pe_int (fun _ _ => rfl)) pa_nil)))))), ?_⟩
  have hm : m ≤ 1000000 := hm
  have h0 := ln_head hL
  have h1 := ln_tail hL
  have eB : EvD K (tVar 0) [some u, some v] H (lnD L) := ed_var rfl hu
  exact q_retD (ed_call (ea_cons (ed_var rfl hv) (ea_cons (ed_ixT (ed_ixT (d := prD (0, g 0)) eB ed_int (atI_pr h0)) ed_int rfl) (ea_cons (ed_ixT (ed_ixT (d := prD (1, g 1)) eB (ed_neg ed_int) (atI_pr_last hL)) ed_int rfl) ea_nil))) ⟨y, g 0, g 1, m + m, sy, hL.sz_v hM (List.mem_of_getElem? h0), hL.sz_v hM (List.mem_of_getElem? h1), by unfold LIM; omega, rfl, rfl⟩ rfl) (Same.refl _) fun r H1 s1 h1 => q r H1 _ s1 rfl h1
/-- what is promised of the best places: the nearest number's first and last place -/
abbrev BestAt (M : Nat) (F : Rat → Rat) (y e0 e1 : Rat) : Prop := IsFirst M F (rk [y, F 0, F 1] 1) e0 ∧ IsLast M F (rk [y, F 0, F 1] 1) e1
abbrev spBestP (K : PySem.W.Frag) : Sp := spP K 2 fun ds post => ∃ (M m : Nat) (F : Rat → Rat) (L : List Pt) (y : Rat), Ln M F L ∧ M < 2 ^ m ∧ m ≤ MX ∧ L.length ≤ 900000 ∧ Nm M y ∧ ds = [lnD L, fr y] ∧ post = fun d => ∃ e0 e1, d = .tup [fr e0, fr e1] ∧ BestAt M F y e0 e1
theorem ok_best_places (W : Wd P K mg base) (F : Df K mg "best_places" s_best_places) (G_first_and_last : C8.Cal P w K mg base 38 "first_and_last" (spFL K) []) (G_nearest : C8.Cal P w K mg base 38 "nearest" (spNearest K) []) : C8.Cal P w K mg base 39 "best_places" (spBestP K) [] := by
  refine cal_of F sc_best_places (fun _ _ _ _ _ _ us hl => match us, hl with | [_, _], _ => rfl) rfl fun f cdv A outer s H vs Q E ds post hr hp hd q => ?_
  obtain ⟨M, m, g, L, y, hL, hM, hm, hz, ny, rfl, rfl⟩ := hp
  obtain ⟨u, v, rfl, hu, hv⟩ := dats2 hd
  refine ⟨_, (pss_one (ps_ret (C8.pe_c G_first_and_last hr (by omega) (by rfl) (pa_cons (pv 0) (pa_cons (C8.pe_c G_nearest hr (by omega) (by rfl) (pa_cons (pv 0) (pa_cons (pv 1) pa_nil))) pa_nil))))), ?_⟩
  have hm' : m ≤ 1000000 := hm
  have mono : g 0 ≤ g 1 := hL.mono (by decide) (by decide) (by decide)
  have mid := mid_in (w := y) mono
  have hz3 : ∃ z : Int, rk [y, g 0, g 1] 1 * (M : Rat) = (z : Rat) := by
    rw [rk3 mono]
    split
    · exact ln_end0 hL
    · split
      · exact ln_end1 hL
      · exact int_of_den ny.2.2
  refine q_ret (ep_call (ea_cons (ed_var rfl hu) (ea_cons (ed_call (d := fr (rk [y, g 0, g 1] 1)) (ea_cons (ed_var rfl hu) (ea_cons (ed_var rfl hv) ea_nil)) ⟨M, m, g, L, y, hL, hM, hm, (ny.sz hL.pos hM).mono (by omega), rfl, rfl⟩ rfl) ea_nil)) ⟨M, m, g, L, _, ⟨hL, hM, hm, hz, hz3, mid.1, mid.2⟩, rfl, rfl⟩ rfl) (Same.refl _) fun r H1 d s1 hpo h1 => q r H1 d s1 hpo h1
end
end Cb
set_option Elab.async false
set_option linter.all false
set_option maxRecDepth 100000
set_option maxHeartbeats 4000000
/-! walks: corners, outcomes -/
namespace Cb
open PySem PySem.Spec PyProof.Rows L2
abbrev tb (n : Nat) (f : Nat → Rat) : List Rat := (List.range n).map f
theorem bN_tb {n p : Nat} {f : Nat → Rat} (h : p < n) : bN (tb n f) p = f p := by
  unfold bN
  rw [List.getD_eq_getElem?_getD, List.getElem?_map, List.getElem?_range h]; rfl
theorem tb_len (n : Nat) (f : Nat → Rat) : (tb n f).length = n := by simp
theorem tb_get {n i : Nat} {f : Nat → Rat} (h : i < n) : (tb n f)[i]? = some (f i) := by
  rw [List.getElem?_map, List.getElem?_range h]; rfl
theorem tb_bN (xs : List Rat) : tb xs.length (bN xs) = xs := by
  refine List.ext_getElem? fun i => ?_
  by_cases h : i < xs.length
  · rw [tb_get h, bN_get h]
  · rw [List.getElem?_eq_none (by rw [tb_len]; omega), List.getElem?_eq_none (by omega)]
theorem enD_range (ds : List D) : enD ds = (List.range ds.length).map fun i => D.tup [.int (i : Nat), ds.getD i .non] := by
  refine List.ext_getElem? fun i => ?_
  by_cases h : i < ds.length
  · have h2 : i < (enD ds).length := by rw [enD_len]; exact h
    obtain ⟨e, he, hd⟩ := enD_get (List.getElem?_eq_getElem h2)
    rw [List.getElem?_eq_getElem h2, hd, List.getElem?_map, List.getElem?_range h]
    show _ = some (D.tup [.int (i : Nat), ds.getD i .non])
    rw [List.getD_eq_getElem?_getD, he]; rfl
  · rw [List.getElem?_eq_none (by rw [enD_len]; omega), List.getElem?_eq_none (by simp; omega)]
theorem frs_getD {xs : List Rat} {i : Nat} (h : i < xs.length) : (frs xs).getD i .non = fr (bN xs i) := by
  rw [List.getD_eq_getElem?_getD, frs_at (bN_get h)]; rfl
theorem natsD_ints (ws : List Nat) : natsD ws = intsD (ws.map fun (n : Nat) => (n : Int)) := by
  unfold natsD intsD
  rw [List.map_map]; rfl
theorem mem_cast {i : Nat} {lot : List Nat} : ((i : Int) ∈ lot.map fun (n : Nat) => (n : Int)) ↔ i ∈ lot := by
  rw [List.mem_map]
  exact ⟨fun ⟨a, h, e⟩ => by have : a = i := by omega
                             exact this ▸ h, fun h => ⟨i, h, rfl⟩⟩
section
variable {K : PySem.W.Frag} {σ : L2.St} {H : Hp} {te ta tb' : TE}
theorem ed_inN {i : Nat} {lot : List Nat} (ha : EvD K ta σ H (.int (i : Nat))) (hb : EvD K tb' σ H (.tup (natsD lot))) : EvD K (tOp (rIn K false) ta tb') σ H (.bl (decide (i ∈ lot))) := by
  rw [natsD_ints] at hb
  refine (ed_inT ha hb).to ?_
  congr 1
  exact decide_eq_decide.mpr mem_cast
end
section
variable {K : PySem.W.Frag} {σ : L2.St} {H : Hp}
/-- a new list, to be changed -/
theorem q_setLst {t : TA} {ds : List D} {D' : Ends} {H0 : Hp} {i : Nat} {u : TS} (h : EvA K t σ H ds) (s : Same H H0) (hz : ds.length ≤ 1000000) (k : ∀ p H1 vs, Same H0 H1 → H1 p = none → H0 p = none → Dats K H1 ds vs → u D' (σ.set i (some (.ref p))) (upd H1 p (.lst vs))) : tSeq (tAsg (tLst t) (gName i)) u D' σ H0 :=
  h H0 s _ fun vs H1 s1 hd => ⟨Nat.le_of_lt (small1M (by rw [← hd.length]; exact hz)), fun p hp => k p H1 vs s1 hp (s1.free hp) hd⟩
/-- found.append(x), x told by a relation -/
theorem q_append {te ta : TE} {post : D → Prop} {p : Addr} {D' : Ends} {H0 : Hp} (hv : EvV te σ H0 (.ref p)) (ha : EvP K ta σ H post) (s : Same H H0) (hp : ∃ xs, H0 p = some (.lst xs) ∧ xs.length ≤ 1000000) (k : ∀ H1 xs d v, Same H0 H1 → H1 p = some (.lst xs) → H0 p = some (.lst xs) → post d → Dat K H1 d v → D'.nx σ (upd H1 p (.lst (xs ++ [v])))) :
    tDrop (tBM K "list" rAppend te (tCons ta tNil)) D' σ H0 := by
  obtain ⟨xs, e, hz⟩ := hp
  exact hv H0 (Same.refl _) _ ⟨.inl ⟨rfl, _, SqL.of e⟩, ha H0 s _ fun v H1 d s1 pd hd => ⟨p, xs, v, rfl, rfl, s1 _ _ e, small1M hz, k H1 xs d v s1 (s1 _ _ e) e pd hd⟩⟩
end
section
variable {P : Program} {w : World} {K : PySem.W.Frag} {mg : Str → Option Value} {base : Heap}
abbrev spEnds (K : PySem.W.Frag) : Sp := spP K 3 fun ds post => ∃ (xs ys : List Rat) (lot : List Nat), ys.length = xs.length ∧ xs.length ≤ 900 ∧ ds = [.tup (frs xs), .tup (frs ys), .tup (natsD lot)] ∧ post = fun d => d = .tup (frs (tb xs.length fun i => if i ∈ lot then bN ys i else bN xs i))
theorem ok_ends_for (W : Wd P K mg base) (F : Df K mg "ends_for" s_ends_for) : C8.Cal P w K mg base 33 "ends_for" (spEnds K) [] := by
  refine cal_of F sc_ends_for (fun _ _ _ _ _ _ us hl => match us, hl with | [_, _, _], _ => rfl) rfl fun f cdv A outer s H vs Q E ds post hr hp hd q => ?_
  obtain ⟨xs, ys, lot, hl, hz, rfl, rfl⟩ := hp
  obtain ⟨u, v, x, rfl, hu, hv, hx⟩ := dats3 hd
  refine ⟨_, (pss_one (ps_ret (pe_callTy call_tuple_of (by rfl) W.tuple b_tuple (pa_cons (pe_lc (own := [("person", 3), ("low", 4)]) (g := gTup K 2 (gCons (gName 3) (gCons (gName 4) gNil))) (tt := tYes) rfl sc_ends_for.nd (pi_enumT (by rfl) W.enum (pa_cons (pv 0) pa_nil)) (blkOk_by (N := n_ends_for) (sc := defScope s_ends_for) (by decide +kernel)) (fun _ _ _ _ _ => (pg_tupK rfl rfl (pgs_cons (pg_name (i := 3) sc_ends_for.nd rfl (by first | exact Or.inl rfl | exact Or.inr rfl)) (pgs_cons (pg_name (i := 4) sc_ends_for.nd rfl (by first | exact Or.inl rfl | exact Or.inr rfl)) pgs_nil)))) (fun _ _ _ _ _ => pts_nil) (fun _ _ _ _ _ => (pe_ifExp (pt_cmpR (in_K rfl) (pv 3) (pv 2) (by rfl)) (pe_ix (ixT_K rfl) (pv 1) (pv 3) (fun _ _ => rfl)) (pv 4)))) pa_nil)))), ?_⟩
  refine q_retD (ed_tupOf (ed_lcA2 (l := List.range xs.length) (G := fun i => D.tup [.int (i : Nat), fr (bN xs i)]) (F := fun i => fr (if i ∈ lot then bN ys i else bN xs i)) (p := fun _ => true) (outs := frs (tb xs.length fun i => if i ∈ lot then bN ys i else bN xs i)) ?_ (fun _ _ => rfl) (fun _ _ => rfl) (by rw [List.length_range]; omega)
    (fun i H1 hi s1 => ⟨_, _, rfl, fun a b ha hb => ⟨et_yes, fun _ => ?_⟩⟩) ?_)) (Same.refl _) fun r H1 s1 h1 => q r H1 _ s1 rfl h1
  · have h := ei_enumT (te := tVar 0) (σ := [some u, some v, some x, none, none]) (vv_var rfl) hu
    rw [enD_range, frs_len] at h
    rw [show (List.range xs.length).map (fun i => D.tup [.int (i : Nat), fr (bN xs i)]) = (List.range xs.length).map fun i => D.tup [.int (i : Nat), (frs xs).getD i .non] from List.map_congr_left fun i hi => by rw [frs_getD (List.mem_range.mp hi)]]
    exact h
  · have hi : i < xs.length := List.mem_range.mp hi
    refine ed_ifE (et_test (ed_inN (i := i) (lot := lot) (ed_var rfl ha) (ed_var rfl (Dat.same s1 hx)))) (fun e => ?_) (fun e => ?_)
    · rw [if_pos (of_decide_eq_true e)]
      exact ed_ixT (ed_var rfl (Dat.same s1 hv)) (ed_var (d := .int (i : Nat)) rfl ha) (atI_frs (bN_get (by omega)))
    · rw [if_neg (of_decide_eq_false e)]
      exact ed_var rfl hb
  · rw [filt_true]
    unfold frs
    rw [List.map_map]; rfl
/-- who wishes at least y -/
def wishers (ws : List Rat) (y : Rat) : List Nat := (List.range ws.length).filter fun i => !decide (bN ws i < y)
theorem mem_wishers {ws : List Rat} {y : Rat} {i : Nat} : i ∈ wishers ws y ↔ i < ws.length ∧ y ≤ bN ws i := by
  unfold wishers
  rw [List.mem_filter, List.mem_range]
  simp [Rat.not_lt]
abbrev spWishing (K : PySem.W.Frag) : Sp := spP K 2 fun ds post => ∃ (ws : List Rat) (y : Rat) (n : Nat), ws.length ≤ 900 ∧ SzL n ws ∧ Sz n y ∧ n ≤ LIM ∧ ds = [.tup (frs ws), fr y] ∧ post = fun d => d = .tup (natsD (wishers ws y))
theorem ok_wishing (W : Wd P K mg base) (F : Df K mg "wishing" s_wishing) (G_is_less : C8.Cal P w K mg base 35 "is_less" (spLess K) []) : C8.Cal P w K mg base 36 "wishing" (spWishing K) [] := by
  refine cal_of F sc_wishing (fun _ _ _ _ _ _ us hl => match us, hl with | [_, _], _ => rfl) rfl fun f cdv A outer s H vs Q E ds post hr hp hd q => ?_
  obtain ⟨ws, y, n, hz, sw, sy, hn, rfl, rfl⟩ := hp
  obtain ⟨u, v, rfl, hu, hv⟩ := dats2 hd
  refine ⟨_, (pss_one (ps_ret (pe_callTy call_tuple_of (by rfl) W.tuple b_tuple (pa_cons (pe_lc (own := [("person", 2), ("wish", 3)]) (g := gTup K 2 (gCons (gName 2) (gCons (gName 3) gNil))) rfl sc_wishing.nd (pi_enumT (by rfl) W.enum (pa_cons (pv 0) pa_nil)) (blkOk_by (N := n_wishing) (sc := defScope s_wishing) (by decide +kernel)) (fun _ _ _ _ _ => (pg_tupK rfl rfl (pgs_cons (pg_name (i := 2) sc_wishing.nd rfl (by first | exact Or.inl rfl | exact Or.inr rfl)) (pgs_cons (pg_name (i := 3) sc_wishing.nd rfl (by first | exact Or.inl rfl | exact Or.inr rfl)) pgs_nil)))) (fun _ _ _ _ _ => (pts_one (pt_not (pt_val (C8.pe_c G_is_less hr (by omega) (by rfl) (pa_cons (pv 3) (pa_cons (pv 1) pa_nil))))))) (fun _ _ _ _ _ => (pv 2))) pa_nil)))), ?_⟩
  refine q_retD (ed_tupOf (ed_lcA2 (l := List.range ws.length) (G := fun i => D.tup [.int (i : Nat), fr (bN ws i)]) (F := fun i => D.int (i : Nat)) (p := fun i => !decide (bN ws i < y)) (outs := natsD (wishers ws y)) ?_ (fun _ _ => rfl) (fun _ _ => rfl) (by rw [List.length_range]; omega)
    (fun i H1 hi s1 => ⟨_, _, rfl, fun a b ha hb => ⟨et_not (et_val (ed_less (n := n) (ed_var rfl hb) (ed_var rfl (Dat.same s1 hv)) (sw _ (bN_mem (List.mem_range.mp hi))) sy hn)), fun _ => ed_var rfl ha⟩⟩) rfl)) (Same.refl _) fun r H1 s1 h1 => q r H1 _ s1 rfl h1
  have h := ei_enumT (te := tVar 0) (σ := [some u, some v, none, none]) (vv_var rfl) hu
  rw [enD_range, frs_len] at h
  rw [show (List.range ws.length).map (fun i => D.tup [.int (i : Nat), fr (bN ws i)]) = (List.range ws.length).map fun i => D.tup [.int (i : Nat), (frs ws).getD i .non] from List.map_congr_left fun i hi => by rw [frs_getD (List.mem_range.mp hi)]]
  exact h
/-- a term, its numbers and bids, and how large all may be -/
structure Tm (n Dn m dp : Nat) (t : Term) : Prop where
  wf : Wf n Dn dp t
  pos : 0 < Dn
  sz : Dn * wp t < 2 ^ m
  hm : m ≤ MX
  lz : lb t ≤ 288
theorem Tm.szN {n Dn m dp : Nat} {t : Term} (T : Tm n Dn m dp t) {x : Rat} (h : Nm Dn x) : Sz m x := h.sz T.pos (Nat.lt_of_le_of_lt (Nat.le_mul_of_pos_right _ (wp_pos T.wf)) T.sz)
theorem Tm.szV {n Dn m dp : Nat} {t : Term} (T : Tm n Dn m dp t) {b : Nat → Rat} (hb : ∀ p, p < n → Nm Dn (b p)) : Sz m (val b t) := (val_nm T.pos hb T.wf).sz (Nat.mul_pos T.pos (wp_pos T.wf)) T.sz
theorem nm0 {Dn : Nat} : Nm Dn 0 := ⟨by decide, by decide, ⟨Dn, by simp⟩⟩
theorem nm1 {Dn : Nat} : Nm Dn 1 := ⟨by decide, by decide, ⟨Dn, by simp⟩⟩
abbrev heldF (lows highs ws : List Rat) (y : Rat) : List Rat := tb lows.length fun i => if i ∈ wishers ws y then bN highs i else bN lows i
def outL (t : Term) (ws lows highs : List Rat) : List Rat := val (bN lows) t :: ws.map fun y => rk [val (bN (heldF lows highs ws y)) t, y] 0
abbrev spAmong (K : PySem.W.Frag) (C : Addr) : Sp := spP K 4 fun ds post => ∃ (n Dn m : Nat) (t : Term) (ws lows highs : List Rat), Tm n Dn m 3 t ∧ n ≤ 800 ∧ ws.length = n ∧ lows.length = n ∧ highs.length = n ∧ (∀ x ∈ ws, Nm Dn x) ∧ (∀ x ∈ lows, Nm Dn x) ∧ (∀ x ∈ highs, Nm Dn x) ∧
  ds = [.rule C n (tD t), .tup (frs ws), .tup (frs lows), .tup (frs highs)] ∧ post = fun d => d = fr (rk (outL t ws lows highs) ((outL t ws lows highs).length - 1))
abbrev spVal3 (K : PySem.W.Frag) : Sp := spP K 2 (preVal 3)
theorem held_nm {Dn n : Nat} {ws lows highs : List Rat} (h1 : lows.length = n) (h2 : highs.length = n) (hlo : ∀ x ∈ lows, Nm Dn x) (hhi : ∀ x ∈ highs, Nm Dn x) (y : Rat) : ∀ x ∈ heldF lows highs ws y, Nm Dn x := fun x hx => by
  obtain ⟨i, hi, rfl⟩ := List.mem_map.mp hx
  have hi := List.mem_range.mp hi
  split
  · exact hhi _ (bN_mem (by omega))
  · exact hlo _ (bN_mem hi)
theorem ok_outcome_among {C : Addr} (W : Wd P K mg base) (R : RCls K C) (F : Df K mg "outcome_among" s_outcome_among) (G_value_of : C8.Cal P w K mg base 41 "value_of" (spVal3 K) []) (G_ends_for : C8.Cal P w K mg base 33 "ends_for" (spEnds K) []) (G_wishing : C8.Cal P w K mg base 36 "wishing" (spWishing K) []) (G_least_of : C8.Cal P w K mg base 36 "least_of" (spLeast K) []) (G_greatest_of : C8.Cal P w K mg base 36 "greatest_of" (spGreatest K) []) :
    C8.Cal P w K mg base 42 "outcome_among" (spAmong K C) [] := by
  refine cal_of F sc_outcome_among (fun _ _ _ _ _ _ us hl => match us, hl with | [_, _, _, _], _ => rfl) rfl fun f cdv A outer s H vs Q E ds post hr hp hd q => ?_
  obtain ⟨n, Dn, m, t, ws, lows, highs, T, hn, l1, l2, l3, nw, nlo, nhi, rfl, rfl⟩ := hp
  obtain ⟨u1, u2, u3, u4, rfl, hu1, hu2, hu3, hu4⟩ := dats4 hd
  refine ⟨_, (pss_cons (ps_set (i := 4) sc_outcome_among.nd rfl (by first | exact Or.inl rfl | exact Or.inr rfl) (pe_lst (pa_cons (C8.pe_c G_value_of hr (by omega) (by rfl) (pa_cons (pe_fld (pv 0) rfl) (pa_cons (pv 2) pa_nil))) pa_nil)))
    (pss_cons (ps_for PassesOwn.never rfl (pi_tup (pv 1)) (pg_name (i := 5) sc_outcome_among.nd rfl (by first | exact Or.inl rfl | exact Or.inr rfl))
    (pss_cons (ps_set (i := 6) sc_outcome_among.nd rfl (by first | exact Or.inl rfl | exact Or.inr rfl) (C8.pe_c G_value_of hr (by omega) (by rfl) (pa_cons (pe_fld (pv 0) rfl) (pa_cons (C8.pe_c G_ends_for hr (by omega) (by rfl) (pa_cons (pv 2) (pa_cons (pv 3) (pa_cons (C8.pe_c G_wishing hr (by omega) (by rfl) (pa_cons (pv 1) (pa_cons (pv 5) pa_nil))) pa_nil)))) pa_nil))))
    (pss_one (ps_expr (pe_bm PySem.F.plainAttrs_list PySem.F.slot_list_append PySem.F.type_list_append mt_append (pv 4) (pa_cons (C8.pe_c G_least_of hr (by omega) (by rfl) (pa_cons (pe_lst (pa_cons (pv 6) (pa_cons (pv 5) pa_nil))) pa_nil)) pa_nil))))))
    (pss_one (ps_ret (C8.pe_c G_greatest_of hr (by omega) (by rfl) (pa_cons (pv 4) pa_nil)))))), ?_⟩
  have hm : m ≤ 1000000 := T.hm
  have bl : ∀ {bs : List Rat}, bs.length = n → (∀ x ∈ bs, Nm Dn x) → ∀ p, p < n → Nm Dn (bN bs p) := fun h1 h2 p hp => h2 _ (bN_mem (by omega))
  have vcall : ∀ {bs : List Rat} {σ : L2.St} {H' : Hp} {ta tb' : TE} {E' : XK}, bs.length = n → (∀ x ∈ bs, Nm Dn x) → EvD K ta σ H' (tD t) → EvD K tb' σ H' (.tup (frs bs)) → EvD K (tCall (spVal3 K) [] E' (tCons ta (tCons tb' tNil))) σ H' (fr (val (bN bs) t)) := fun h1 h2 ha hb =>
    ed_call (ea_cons ha (ea_cons hb ea_nil)) ⟨t, _, Dn, m, by rw [h1]; exact T.wf, h2, T.pos, T.sz, T.hm, rfl, rfl⟩ rfl
  refine q_setLst (ds := [fr (val (bN lows) t)]) (ea_cons (vcall l2 nlo (ed_term (ed_var rfl hu1) R.cl R.nt) (ed_var rfl hu3)) ea_nil) (Same.refl _) (by show 1 ≤ 1000000; decide) fun p H1 acc0 s1 hp hp0 hacc0 => ?_
  refine q_forB (ei_tup (vv_var rfl) hu2) (s1.trans (same_upd hp)) fun Hb H2 sb s2 hnp sb2 => ?_
  have hbp : Hb p = none := hnp p (by rw [upd_same]; exact fun z => nomatch z) hp0
  let g : Rat → Rat := fun y => rk [val (bN (heldF lows highs ws y)) t, y] 0
  refine ⟨fun i σ H' => ∃ y5 y6 acc, σ = [some u1, some u2, some u3, some u4, some (.ref p), y5, y6] ∧ Same Hb H' ∧ H' p = some (.lst acc) ∧ Dats K H' (frs (val (bN lows) t :: (ws.take i).map g)) acc, ⟨none, none, acc0, rfl, sb2, s2 _ _ upd_same, Dats.same ((same_upd hp).trans s2) hacc0⟩, fun i σ H' ⟨_, _, _, _, h, _⟩ => h, ?_, ?_⟩
  · rintro i d x σ H3 H4 hi ⟨y5, y6, acc, rfl, b1, ha, hacc⟩ s4 hx
    obtain ⟨y, hy, rfl⟩ := frs_get hi
    have my : y ∈ ws := List.mem_of_getElem? hy
    have s04 : Same H H4 := (sb.trans b1).trans s4
    have nh := held_nm (ws := ws) l2 l3 nlo nhi y
    have hlh : (heldF lows highs ws y).length = n := by rw [tb_len, l2]
    have hil : i < ws.length := (List.getElem?_eq_some_iff.mp hy).1
    refine q_setD (d := fr (val (bN (heldF lows highs ws y)) t)) (vcall hlh nh (ed_term (ed_var rfl (Dat.same s04 hu1)) R.cl R.nt) (ed_call (d := .tup (frs (heldF lows highs ws y))) (ea_cons (ed_var rfl (Dat.same s04 hu3)) (ea_cons (ed_var rfl (Dat.same s04 hu4)) (ea_cons (ed_call (d := .tup (natsD (wishers ws y))) (ea_cons (ed_var rfl (Dat.same s04 hu2)) (ea_cons (ed_var rfl hx) ea_nil)) ⟨ws, y, m, by omega, fun x hx => T.szN (nw x hx), T.szN (nw y my), by unfold LIM; omega, rfl, rfl⟩ rfl) ea_nil))) ⟨lows, highs, wishers ws y, by omega, by omega, rfl, rfl⟩ rfl)) (Same.refl _) fun z H5 s5 hz => ?_
    have ha5 : H5 p = some (.lst acc) := s5 _ _ (s4 _ _ ha)
    have lacc : acc.length = i + 1 := by
      rw [← hacc.length, frs_len, List.length_cons, List.length_map, List.length_take]; omega
    refine q_append (post := fun d => d = fr (g y)) (vv_var rfl) (ed_call (ea_cons (ed_lst (ea_cons (ed_var rfl hz) (ea_cons (ed_var rfl (Dat.same s5 hx)) ea_nil))) ea_nil) ⟨[val (bN (heldF lows highs ws y)) t, y], m, by simp, by show 2 ≤ 1000000; decide, ?_, by unfold LIM; omega, rfl, rfl⟩ rfl) (Same.refl _) ⟨acc, ha5, by omega⟩ fun H6 xs d v s6 h6 h5 pd hv => ?_
    · intro a ha
      simp only [List.mem_cons, List.not_mem_nil, or_false] at ha
      rcases ha with rfl | rfl
      · exact T.szV fun p hp => nh _ (bN_mem (by omega))
      · exact T.szN (nw _ my)
    · subst pd
      rw [ha5] at h5
      obtain rfl : acc = xs := by
        have := Option.some.inj h5
        cases this; rfl
      have tk := tk_upd (o := HO.lst (acc ++ [v])) h6
      refine ⟨some x, some z, acc ++ [v], rfl, fun b o e => ?_, upd_same, ?_⟩
      · rw [upd_ne (ne_of_none e hbp)]
        exact s6 _ _ (s5 _ _ (s4 _ _ (b1 _ _ e)))
      · rw [List.take_succ, hy, List.map_append]
        show Dats K _ (frs ((val (bN lows) t :: (ws.take i).map g) ++ [g y])) _
        unfold frs at hacc ⊢
        rw [List.map_append]
        exact (Dats.tk tk (nls_map fun _ => rfl) (Dats.same ((s4.trans s5).trans s6) hacc)).append (.cons (Dat.tk tk rfl hv) .nil)
  · rintro σ H3 ⟨y5, y6, acc, rfl, b1, ha, hacc⟩
    rw [frs_len, List.take_length] at hacc
    refine q_retD (ed_call (d := fr (rk (outL t ws lows highs) ((outL t ws lows highs).length - 1))) (ea_cons (ed_var (d := .lst (frs (outL t ws lows highs))) rfl ⟨p, acc, rfl, SqL.of ha, hacc⟩) ea_nil) ⟨outL t ws lows highs, m, by unfold outL; simp, by unfold outL; rw [List.length_cons, List.length_map]; omega, ?_, by unfold LIM; omega, rfl, rfl⟩ rfl) (Same.refl _) fun r H4 s4 h4 => q r H4 _ ((sb.trans b1).trans s4) rfl h4
    intro x hx
    rcases List.mem_cons.mp hx with rfl | hx
    · exact T.szV (bl l2 nlo)
    · obtain ⟨y, hy, rfl⟩ := List.mem_map.mp hx
      have nh := held_nm (ws := ws) l2 l3 nlo nhi y
      have hlh : (heldF lows highs ws y).length = n := by rw [tb_len, l2]
      have := rk_mem (xs := [val (bN (heldF lows highs ws y)) t, y]) (i := 0) (by simp)
      simp only [List.mem_cons, List.not_mem_nil, or_false] at this
      rcases this with h | h
      · rw [h]; exact T.szV fun p hp => nh _ (bN_mem (by omega))
      · rw [h]; exact T.szN (nw _ hy)
end
end Cb
set_option Elab.async false
set_option linter.all false
set_option maxRecDepth 100000
set_option maxHeartbeats 4000000
/-! walks: outcomes left, ways of one -/
namespace Cb
open PySem PySem.Spec PyProof.Rows L2
abbrev behF (bs : List Rat) (later : List Nat) (x : Rat) : List Rat := tb bs.length fun i => if i ∈ later then x else bN bs i
section
variable {K : PySem.W.Frag} {σ : L2.St} {H : Hp} {te : TE}
theorem ei_enumF {xs : List Rat} {v : V} (h : EvV te σ H v) (hd : Dat K H (.tup (frs xs)) v) : EvI K (iEnumT K (tCons te tNil)) σ H ((List.range xs.length).map fun i => D.tup [.int (i : Nat), fr (bN xs i)]) := by
  have h := ei_enumT h hd
  rw [enD_range, frs_len] at h
  rw [show (List.range xs.length).map (fun i => D.tup [.int (i : Nat), fr (bN xs i)]) = (List.range xs.length).map fun i => D.tup [.int (i : Nat), (frs xs).getD i .non] from List.map_congr_left fun i hi => by rw [frs_getD (List.mem_range.mp hi)]]
  exact h
/-- two at once -/
theorem q_asg2 {d e : D} {i j : Nat} {D' : Ends} {H0 : Hp} {u : TS} (h : EvD K te σ H (.tup [d, e])) (s : Same H H0) (k : ∀ x y H1, Same H0 H1 → Dat K H1 d x → Dat K H1 e y → u D' ((σ.set i (some x)).set j (some y)) H1) : tSeq (tAsg te (gTup K 2 (gCons (gName i) (gCons (gName j) gNil)))) u D' σ H0 :=
  h.use s fun v H1 s1 hv => g_tup2 hv fun x y hx hy => k x y H1 s1 hx hy
end
section
variable {P : Program} {w : World} {K : PySem.W.Frag} {mg : Str → Option Value} {base : Heap}
abbrev spBehind (K : PySem.W.Frag) (C : Addr) : Sp := spP K 3 fun ds post => ∃ (n : Nat) (t : D) (bs : List Rat) (later : List Nat), bs.length ≤ 900 ∧ ds = [.rule C n t, .tup (frs bs), .tup (natsD later)] ∧ post = fun d => d = .tup [.tup (frs (behF bs later 0)), .tup (frs (behF bs later 1))]
theorem ok_ends_behind {C : Addr} (W : Wd P K mg base) (F : Df K mg "ends_behind" s_ends_behind) : C8.Cal P w K mg base 33 "ends_behind" (spBehind K C) [] := by
  obtain ⟨z, mz, hz0⟩ := W.zero
  obtain ⟨o, mo, ho⟩ := W.one
  refine cal_of F sc_ends_behind (fun _ _ _ _ _ _ us hl => match us, hl with | [_, _, _], _ => rfl) rfl fun f cdv A outer s H vs Q E ds post hr hp hd q => ?_
  obtain ⟨n, t, bs, later, hz, rfl, rfl⟩ := hp
  obtain ⟨u, v, x, rfl, hu, hv, hx⟩ := dats3 hd
  refine ⟨_, (pss_cons (ps_set (i := 3) sc_ends_behind.nd rfl (by first | exact Or.inl rfl | exact Or.inr rfl) (pe_callTy call_tuple_of (by rfl) W.tuple b_tuple (pa_cons (pe_lc (own := [("person", 4), ("bid", 5)]) (g := gTup K 2 (gCons (gName 4) (gCons (gName 5) gNil))) (tt := tYes) rfl sc_ends_behind.nd (pi_enumT (by rfl) W.enum (pa_cons (pv 1) pa_nil)) (blkOk_by (N := n_ends_behind) (sc := defScope s_ends_behind) (by decide +kernel)) (fun _ _ _ _ _ => (pg_tupK rfl rfl (pgs_cons (pg_name (i := 4) sc_ends_behind.nd rfl (by first | exact Or.inl rfl | exact Or.inr rfl)) (pgs_cons (pg_name (i := 5) sc_ends_behind.nd rfl (by first | exact Or.inl rfl | exact Or.inr rfl)) pgs_nil)))) (fun _ _ _ _ _ => pts_nil) (fun _ _ _ _ _ => (pe_ifExp (pt_cmpR (in_K rfl) (pv 4) (pv 2) (by rfl)) (pe_glob (v := .ref z) (by rfl) mz rfl) (pv 5)))) pa_nil)))
    (pss_one (ps_ret (pe_tup (pa_cons (pv 3) (pa_cons (pe_callTy call_tuple_of (by rfl) W.tuple b_tuple (pa_cons (pe_lc (own := [("person", 4), ("bid", 5)]) (g := gTup K 2 (gCons (gName 4) (gCons (gName 5) gNil))) (tt := tYes) rfl sc_ends_behind.nd (pi_enumT (by rfl) W.enum (pa_cons (pv 1) pa_nil)) (blkOk_by (N := n_ends_behind) (sc := defScope s_ends_behind) (by decide +kernel)) (fun _ _ _ _ _ => (pg_tupK rfl rfl (pgs_cons (pg_name (i := 4) sc_ends_behind.nd rfl (by first | exact Or.inl rfl | exact Or.inr rfl)) (pgs_cons (pg_name (i := 5) sc_ends_behind.nd rfl (by first | exact Or.inl rfl | exact Or.inr rfl)) pgs_nil)))) (fun _ _ _ _ _ => pts_nil) (fun _ _ _ _ _ => (pe_ifExp (pt_cmpR (in_K rfl) (pv 4) (pv 2) (by rfl)) (pe_glob (v := .ref o) (by rfl) mo rfl) (pv 5)))) pa_nil)) pa_nil)))))), ?_⟩
  have one : ∀ (c : Rat) (a : Addr), (∀ H, SqT K H a [.int c.num, .int (c.den : Int)]) → ∀ {H' : Hp} {y : Option V}, Same H H' → EvD K (tCB (fun xs H Q => ∃ p ys, xs = [.ref p] ∧ ((SqL K H p ys ∧ ∀ l, H l = none → Q (.ref l) (upd H l (.tup ys))) ∨ (SqT K H p ys ∧ Q (.ref p) H))) (tCons (tLc (iEnumT K (tCons (tVar 1) tNil)) (gTup K 2 (gCons (gName 4) (gCons (gName 5) gNil))) tYes (tIf (tTest (tOp (rIn K false) (tVar 4) (tVar 2))) (tC (.ref a)) (tVar 5)) [4, 5]) tNil)) [some u, some v, some x, y, none, none] H' (.tup (frs (behF bs later c))) := fun c a ha {H' y} sh => by
    refine ed_tupOf (ed_lcA2 (l := List.range bs.length) (G := fun i => D.tup [.int (i : Nat), fr (bN bs i)]) (F := fun i => fr (if i ∈ later then c else bN bs i)) (p := fun _ => true) (outs := frs (behF bs later c)) (ei_enumF (vv_var rfl) (Dat.same sh hv)) (fun _ _ => rfl) (fun _ _ => rfl) (by rw [List.length_range]; omega)
      (fun i H1 hi s1 => ⟨_, _, rfl, fun e b he hb => ⟨et_yes, fun _ => ?_⟩⟩) ?_)
    · refine ed_ifE (et_test (ed_inN (i := i) (lot := later) (ed_var rfl he) (ed_var rfl (Dat.same (sh.trans s1) hx)))) (fun q => ?_) (fun q => ?_)
      · rw [if_pos (of_decide_eq_true q)]
        exact ed_c ⟨a, _, rfl, ha H1, .cons rfl (.cons rfl .nil)⟩
      · rw [if_neg (of_decide_eq_false q)]
        exact ed_var rfl hb
    · rw [filt_true]
      unfold frs
      rw [List.map_map]; rfl
  refine q_setD (one 0 z hz0 (Same.refl _)) (Same.refl _) fun y H1 s1 hy => ?_
  exact q_retD (ed_tup (ea_cons (ed_var rfl hy) (ea_cons (one 1 o ho s1) ea_nil))) (Same.refl _) fun r H2 s2 h2 => q r H2 _ (s1.trans s2) rfl h2
theorem beh_nm {Dn : Nat} {bs : List Rat} {later : List Nat} {x : Rat} (hx : Nm Dn x) (hb : ∀ y ∈ bs, Nm Dn y) : ∀ y ∈ behF bs later x, Nm Dn y := fun y hy => by
  obtain ⟨i, hi, rfl⟩ := List.mem_map.mp hy
  split
  · exact hx
  · exact hb _ (bN_mem (List.mem_range.mp hi))
/-- what lies still open: the wishes, the bids, who bids later -/
structure Op3 (n Dn m : Nat) (t : Term) (ws bs : List Rat) (later : List Nat) : Prop where
  T : Tm n Dn m 3 t
  hn : n ≤ 6
  lw : ws.length = n
  lb : bs.length = n
  nw : ∀ x ∈ ws, Nm Dn x
  nb : ∀ x ∈ bs, Nm Dn x
abbrev inL (later : List Nat) : Nat → Bool := fun p => decide (p ∈ later)
theorem ends_eq {n : Nat} {ws bs : List Rat} {later : List Nat} (lb : bs.length = n) {y : Rat} {p : Nat} (hp : p < n) (lw : ws.length = n) : bN (heldF (behF bs later 0) (behF bs later 1) ws y) p = endsS (bN bs) (inL later) (fun q => decide (y ≤ bN ws q)) p := by
  rw [bN_tb (by rw [tb_len]; omega), bN_tb (by omega), bN_tb (by omega)]
  have e : p ∈ wishers ws y ↔ y ≤ bN ws p := by rw [mem_wishers]; exact ⟨fun h => h.2, fun h => ⟨by omega, h⟩⟩
  unfold endsS inL
  by_cases h1 : p ∈ later
  · simp only [h1, if_true, decide_true, if_pos]
    by_cases h2 : y ≤ bN ws p
    · rw [if_pos (e.mpr h2), if_pos (decide_eq_true h2)]
    · rw [if_neg (fun z => h2 (e.mp z)), if_neg (by simpa using h2)]
  · simp only [h1, if_false, decide_false, ite_self]
    rfl
theorem beh0_eq {n : Nat} {bs : List Rat} {later : List Nat} (lb : bs.length = n) {p : Nat} (hp : p < n) : bN (behF bs later 0) p = endsS (bN bs) (inL later) (fun _ => false) p := by
  rw [bN_tb (by omega)]
  unfold endsS inL
  by_cases h1 : p ∈ later
  · simp [h1]
  · simp [h1]
/-- what the program reckons is what is left -/
theorem out_left {n Dn m : Nat} {t : Term} {ws bs : List Rat} {later : List Nat} (O : Op3 n Dn m t ws bs later) :
    IsLeft t (bN ws) (bN bs) (inL later) (rk (outL t ws (behF bs later 0) (behF bs later 1)) ((outL t ws (behF bs later 0) (behF bs later 1)).length - 1)) := by
  have hw := O.T.wf
  refine prog_left hw (by unfold outL; simp) fun y => ?_
  have e0 : val (bN (behF bs later 0)) t = val (endsS (bN bs) (inL later) fun _ => false) t := val_congr (fun p hp => beh0_eq O.lb hp) hw
  have eh : ∀ z, val (bN (heldF (behF bs later 0) (behF bs later 1) ws z)) t = val (endsS (bN bs) (inL later) fun q => decide (z ≤ bN ws q)) t := fun z => val_congr (fun p hp => ends_eq O.lb hp O.lw) hw
  unfold outL
  constructor
  · rintro ⟨x, hx, hy⟩
    rcases List.mem_cons.mp hx with rfl | hx
    · exact .inl (e0 ▸ hy)
    · obtain ⟨z, hz, rfl⟩ := List.mem_map.mp hx
      obtain ⟨i, hi, rfl⟩ := List.mem_iff_getElem.mp hz
      have ei : bN ws i = ws[i] := by
        have := bN_get hi
        rw [List.getElem?_eq_getElem hi] at this
        exact (Option.some.inj this).symm
      have h := (le_least (by simp)).mp hy
      refine .inr ⟨i, by rw [← O.lw]; exact hi, by rw [ei]; exact h _ (by simp), ?_⟩
      rw [ei, ← eh]
      exact h _ (by simp)
  · rintro (h | ⟨i, hi, h1, h2⟩)
    · exact ⟨_, List.mem_cons_self, e0 ▸ h⟩
    · refine ⟨_, List.mem_cons_of_mem _ (List.mem_map.mpr ⟨bN ws i, bN_mem (by rw [O.lw]; exact hi), rfl⟩), ?_⟩
      rw [le_least (by simp)]
      intro a ha
      simp only [List.mem_cons, List.not_mem_nil, or_false] at ha
      rcases ha with rfl | rfl
      · rw [eh]; exact h2
      · exact h1
abbrev spOutLeft (K : PySem.W.Frag) (C : Addr) : Sp := spP K 4 fun ds post => ∃ (n Dn m : Nat) (t : Term) (ws bs : List Rat) (later : List Nat), Op3 n Dn m t ws bs later ∧ ds = [.rule C n (tD t), .tup (frs ws), .tup (frs bs), .tup (natsD later)] ∧ post = fun d => ∃ A, d = fr A ∧ IsLeft t (bN ws) (bN bs) (inL later) A
theorem ok_outcome_left {C : Addr} (W : Wd P K mg base) (F : Df K mg "outcome_left" s_outcome_left) (G_ends_behind : C8.Cal P w K mg base 33 "ends_behind" (spBehind K C) []) (G_outcome_among : C8.Cal P w K mg base 42 "outcome_among" (spAmong K C) []) : C8.Cal P w K mg base 43 "outcome_left" (spOutLeft K C) [] := by
  refine cal_of F sc_outcome_left (fun _ _ _ _ _ _ us hl => match us, hl with | [_, _, _, _], _ => rfl) rfl fun f cdv A outer s H vs Q E ds post hr hp hd q => ?_
  obtain ⟨n, Dn, m, t, ws, bs, later, O, rfl, rfl⟩ := hp
  obtain ⟨u1, u2, u3, u4, rfl, hu1, hu2, hu3, hu4⟩ := dats4 hd
  refine ⟨_, (pss_cons (ps_asg (C8.pe_c G_ends_behind hr (by omega) (by rfl) (pa_cons (pv 0) (pa_cons (pv 2) (pa_cons (pv 3) pa_nil)))) (pg_tup rfl (pgs_cons (pg_name (i := 4) sc_outcome_left.nd rfl (by first | exact Or.inl rfl | exact Or.inr rfl)) (pgs_cons (pg_name (i := 5) sc_outcome_left.nd rfl (by first | exact Or.inl rfl | exact Or.inr rfl)) pgs_nil))))
    (pss_one (ps_ret (C8.pe_c G_outcome_among hr (by omega) (by rfl) (pa_cons (pv 0) (pa_cons (pv 1) (pa_cons (pv 4) (pa_cons (pv 5) pa_nil)))))))), ?_⟩
  have hn := O.hn
  have l1 := O.lb
  refine q_asg2 (ed_call (d := .tup [.tup (frs (behF bs later 0)), .tup (frs (behF bs later 1))]) (ea_cons (ed_var rfl hu1) (ea_cons (ed_var rfl hu3) (ea_cons (ed_var rfl hu4) ea_nil))) ⟨n, tD t, bs, later, by omega, rfl, rfl⟩ rfl) (Same.refl _) fun x y H1 s1 hx hy => ?_
  exact q_retD (ed_call (ea_cons (ed_var rfl (Dat.same s1 hu1)) (ea_cons (ed_var rfl (Dat.same s1 hu2)) (ea_cons (ed_var rfl hx) (ea_cons (ed_var rfl hy) ea_nil)))) ⟨n, Dn, m, t, ws, _, _, O.T, by omega, O.lw, by rw [tb_len, l1], by rw [tb_len, l1], O.nw, beh_nm nm0 O.nb, beh_nm nm1 O.nb, rfl, rfl⟩ rfl) (Same.refl _) fun r H2 s2 h2 => q r H2 _ (s1.trans s2) ⟨_, rfl, out_left O⟩ h2
end
end Cb
set_option Elab.async false
set_option linter.all false
set_option maxRecDepth 100000
set_option maxHeartbeats 4000000
/-! walks: the line of one who bids while others bid later -/
namespace Cb
open PySem PySem.Spec PyProof.Rows L2
theorem pe_cz {X : Cx} {k j : Nat} {x : Str} {sp : Sp} {dvs : List V} {p pos : Pos} (c : C8.Cal X.prog X.w X.K X.mg X.base k x sp dvs) (hr : Room j X.A) (hk : k ≤ j) (hg : Gl X x) (hdb : (x == ("__debug__" : Str)) = false := by decide) : PE X (.Call (.Name x p) [] [] pos) (tCall sp dvs C8.E0 tNil) := by
  obtain ⟨f, fd, ps, ds, F, hm, kp, b, d⟩ := c.ex
  exact pe_call0 F (hr.mono hk) hg hm kp b d C8.pass0 hdb
/-- the ways of all if p's bid is not told yet -/
def wayL (bs : List Rat) (p : Nat) : List LF := (List.range bs.length).map fun i => if i = p then (fun t => t, [(0, 0), (1, 1)]) else (fun _ => bN bs i, [(0, bN bs i), (1, bN bs i)])
theorem wayF_eq {bs : List Rat} {p i : Nat} (h : i < bs.length) (x : Rat) : wayF (wayL bs p) i x = putB (bN bs) p x i := by
  unfold wayF wayL putB
  rw [List.getElem?_map, List.getElem?_range h]
  show (match (some (if i = p then _ else _) : Option LF) with | some q => q.1 | none => fun _ => 0) x = _
  by_cases e : i = p
  · rw [if_pos e, if_pos e]
  · rw [if_neg e, if_neg e]
theorem way_lns {Dn : Nat} {bs : List Rat} {p : Nat} (hD : 0 < Dn) (hb : ∀ x ∈ bs, Nm Dn x) : Lns Dn (wayL bs p) := fun q hq => by
  obtain ⟨i, hi, rfl⟩ := List.mem_map.mp hq
  by_cases e : i = p
  · rw [if_pos e]; exact Ln.rising hD
  · rw [if_neg e]; exact Ln.flat hD (hb _ (bN_mem (List.mem_range.mp hi)))
section
variable {P : Program} {w : World} {K : PySem.W.Frag} {mg : Str → Option Value} {base : Heap}
abbrev spWay (K : PySem.W.Frag) : Sp := spP K 2 fun ds post => ∃ (bs : List Rat) (p : Nat), bs.length ≤ 900 ∧ ds = [.tup (frs bs), .int (p : Nat)] ∧ post = fun d => d = .lst (lnsD (wayL bs p))
theorem ok_one_way (W : Wd P K mg base) (F : Df K mg "one_way" s_one_way) (G_rising : C8.Cal P w K mg base 33 "rising" (spRising K) []) (G_flat : C8.Cal P w K mg base 33 "flat" (spFlat K) []) : C8.Cal P w K mg base 34 "one_way" (spWay K) [] := by
  refine cal_of F sc_one_way (fun _ _ _ _ _ _ us hl => match us, hl with | [_, _], _ => rfl) rfl fun f cdv A outer s H vs Q E ds post hr hp hd q => ?_
  obtain ⟨bs, p, hz, rfl, rfl⟩ := hp
  obtain ⟨u, v, rfl, hu, hv⟩ := dats2 hd
  refine ⟨_, (pss_one (ps_ret (pe_lc (own := [("other", 2), ("bid", 3)]) (g := gTup K 2 (gCons (gName 2) (gCons (gName 3) gNil))) (tt := tYes) rfl sc_one_way.nd (pi_enumT (by rfl) W.enum (pa_cons (pv 0) pa_nil)) (blkOk_by (N := n_one_way) (sc := defScope s_one_way) (by decide +kernel)) (fun _ _ _ _ _ => (pg_tupK rfl rfl (pgs_cons (pg_name (i := 2) sc_one_way.nd rfl (by first | exact Or.inl rfl | exact Or.inr rfl)) (pgs_cons (pg_name (i := 3) sc_one_way.nd rfl (by first | exact Or.inl rfl | exact Or.inr rfl)) pgs_nil)))) (fun _ _ _ _ _ => pts_nil) (fun _ _ _ _ _ => (pe_ifExp (pt_cmpR op_eq (pv 2) (pv 1) (nomark _)) (pe_cz G_rising hr (by omega) (by rfl)) (C8.pe_c G_flat hr (by omega) (by rfl) (pa_cons (pv 3) pa_nil))))))), ?_⟩
  refine q_retD (ed_lcA2 (l := List.range bs.length) (G := fun i => D.tup [.int (i : Nat), fr (bN bs i)]) (F := fun i => if i = p then lnD [(0, 0), (1, 1)] else lnD [(0, bN bs i), (1, bN bs i)]) (p := fun _ => true) (outs := lnsD (wayL bs p)) (ei_enumF (vv_var rfl) hu) (fun _ _ => rfl) (fun i _ => by split <;> exact nl_lnD _) (by rw [List.length_range]; omega)
      (fun i H1 hi s1 => ⟨_, _, rfl, fun e b he hb => ⟨et_yes, fun _ => ?_⟩⟩) ?_) (Same.refl _) fun r H1 s1 h1 => q r H1 _ s1 rfl h1
  · refine ed_ifE (b := decide (i = p)) ((et_test (K := K) (ed_eqI (ed_var (d := .int (i : Nat)) rfl he) (ed_var (d := .int (p : Nat)) rfl (Dat.same s1 hv)))).to (decide_eq_decide.mpr (by omega))) (fun z => ?_) (fun z => ?_)
    · rw [if_pos (of_decide_eq_true z)]
      exact ed_call ea_nil ⟨rfl, rfl⟩ rfl
    · rw [if_neg (of_decide_eq_false z)]
      exact ed_call (ea_cons (ed_var rfl hb) ea_nil) ⟨bN bs i, rfl, rfl⟩ rfl
  · rw [filt_true]
    unfold lnsD wayL
    rw [List.map_map]
    refine List.map_congr_left fun i _ => ?_
    show lnD (if i = p then _ else _ : LF).2 = _
    split <;> rfl
abbrev spLine3 (K : PySem.W.Frag) : Sp := spP K 2 (preLine 3)
abbrev spOwn (K : PySem.W.Frag) (C : Addr) : Sp := spP K 3 fun ds post => ∃ (n Dn m p : Nat) (t : Term) (bs : List Rat), Tm n Dn m 3 t ∧ n ≤ 6 ∧ bs.length = n ∧ (∀ x ∈ bs, Nm Dn x) ∧ ds = [.rule C n (tD t), .tup (frs bs), .int (p : Nat)] ∧
  post = fun d => ∃ L, d = lnD L ∧ Ln (Dn * wp t) (fun x => val (putB (bN bs) p x) t) L ∧ L.length ≤ 288
theorem ok_own_line {C : Addr} (W : Wd P K mg base) (R : RCls K C) (F : Df K mg "own_line" s_own_line) (G_one_way : C8.Cal P w K mg base 34 "one_way" (spWay K) []) (G_line_of : C8.Cal P w K mg base 45 "line_of" (spLine3 K) []) : C8.Cal P w K mg base 46 "own_line" (spOwn K C) [] := by
  refine cal_of F sc_own_line (fun _ _ _ _ _ _ us hl => match us, hl with | [_, _, _], _ => rfl) rfl fun f cdv A outer s H vs Q E ds post hr hp hd q => ?_
  obtain ⟨n, Dn, m, p, t, bs, T, hn, hl, nb, rfl, rfl⟩ := hp
  obtain ⟨u, v, x, rfl, hu, hv, hx⟩ := dats3 hd
  refine ⟨_, (pss_one (ps_ret (C8.pe_c G_line_of hr (by omega) (by rfl) (pa_cons (pe_fld (pv 0) rfl) (pa_cons (C8.pe_c G_one_way hr (by omega) (by rfl) (pa_cons (pv 1) (pa_cons (pv 2) pa_nil))) pa_nil))))), ?_⟩
  have lw : (wayL bs p).length = n := by unfold wayL; rw [List.length_map, List.length_range, hl]
  have lz := T.lz
  refine q_ret (ep_call (ea_cons (ed_term (ed_var rfl hu) R.cl R.nt) (ea_cons (ed_call (d := .lst (lnsD (wayL bs p))) (ea_cons (ed_var rfl hv) (ea_cons (ed_var rfl hx) ea_nil)) ⟨bs, p, by omega, rfl, rfl⟩ rfl) ea_nil)) ⟨t, wayL bs p, Dn, m, by rw [lw]; exact T.wf, way_lns T.pos nb, fun q hq => ?_, T.pos, T.sz, T.hm, by omega, rfl, rfl⟩ rfl) (Same.refl _) fun r H1 d s1 ⟨L, e1, e2, e3⟩ h1 => q r H1 d s1 ⟨L, e1, e2.congr fun y => ?_, by omega⟩ h1
  · obtain ⟨i, _, rfl⟩ := List.mem_map.mp hq
    split <;> exact Nat.le_refl _
  · exact val_congr (fun i hi => wayF_eq (by omega) y) T.wf
abbrev lotD (ws : List Rat) : Rat → D := fun y => .tup (natsD (wishers ws y))
theorem nl_nats (l : List Nat) : nls (natsD l) = true := nls_map fun _ => rfl
/-- its answer is a dict -/
def spLots (P : Program) (w : World) (K : PySem.W.Frag) : Sp := fun vs H Q _ => vs.length = 1 ∧ ∃ (ws : List Rat) (n : Nat) (u : V), vs = [u] ∧ Dat K H (.tup (frs ws)) u ∧ ws.length ≤ 900 ∧ SzL n ws ∧ n ≤ LIM ∧ ∀ a H', Same H H' → H a = none → FM P w K H' a (dd ws) (lotD ws) → Q (.ref a) H'
theorem ok_lots_wishing (W : Wd P K mg base) (F : Df K mg "lots_wishing" s_lots_wishing) (G_wishing : C8.Cal P w K mg base 36 "wishing" (spWishing K) []) : C8.Cal P w K mg base 37 "lots_wishing" (spLots P w K) [] := by
  refine cal_sp F sc_lots_wishing (fun _ _ _ _ _ _ us hl => match us, hl with | [_], _ => rfl) (fun vs H Q E h => h.1) fun f cdv A outer s H vs Q E hr ⟨_, ws, n, u, e, hu, hz, sw, hn, q⟩ => ?_
  subst e
  refine ⟨_, (pss_one (ps_ret (pe_dct (own := [("wish", 1)]) (g := gName 1) (hu0 hr) rfl sc_lots_wishing.nd (pi_tup (pv 0)) (blkOk_by (N := n_lots_wishing) (sc := defScope s_lots_wishing) (by decide +kernel)) (fun _ _ _ _ _ => (pg_name (i := 1) sc_lots_wishing.nd rfl (by first | exact Or.inl rfl | exact Or.inr rfl))) (fun _ _ _ _ _ => (pv 1)) (fun _ _ _ _ _ => (C8.pe_c G_wishing hr (by omega) (by rfl) (pa_cons (pv 0) (pa_cons (pv 1) pa_nil))))))), ?_⟩
  show tDct P w K _ (gName 1) _ _ [1] [some u, none] H Q
  refine dct_ev (vf := lotD ws) (ei_tup (vv_var rfl) hu) (Same.refl _) (fun _ => rfl) (by omega) (fun _ => nl_nats _) (fun y x H1 hy s1 hx => ⟨ed_var rfl hx, ed_call (ea_cons (ed_var rfl (Dat.same s1 hu)) (ea_cons (ed_var rfl hx) ea_nil)) ⟨ws, y, n, hz, sw, sw y hy, hn, rfl, rfl⟩ rfl⟩) fun a H' s1 ha fm => q a H' s1 ha fm
end
end Cb
set_option Elab.async false
set_option linter.all false
set_option maxRecDepth 100000
set_option maxHeartbeats 4000000
/-! walks: the line of one who bids while others bid later, part 2 -/
namespace Cb
open PySem PySem.Spec PyProof.Rows L2
theorem tk_hideL {H : Hp} {a : Addr} {xs : List V} (h : H a = some (.lst xs)) : Tk H (hide H a) := fun c u r => by
  have ne : c ≠ a := fun e => by
    subst e
    rcases r with r | ⟨ob, r⟩
    · rw [h] at r; cases r
    · rw [h] at r; cases r
  have e : hide H a c = H c := if_neg ne
  rcases r with r | ⟨ob, r⟩
  · exact .inl (by rw [e]; exact r)
  · exact .inr ⟨ob, by rw [e]; exact r⟩
section
variable {P : Program} {w : World} {K : PySem.W.Frag}
theorem key_at {xs : List (KK × Addr × V)} {S : List Rat} {i : Nat} {q : Rat} (e : xs.map (·.1) = S.map keyQ) (h : S[i]? = some q) : ∃ b v, xs[i]? = some (keyQ q, b, v) := by
  have h2 : (xs.map (·.1))[i]? = some (keyQ q) := by rw [e, List.getElem?_map, h]; rfl
  rw [List.getElem?_map, Option.map_eq_some_iff] at h2
  obtain ⟨⟨k, b, v⟩, h3, h4⟩ := h2
  obtain rfl : k = keyQ q := h4
  exact ⟨b, v, h3⟩
theorem walks_items {H1 : Hp} {a p : Addr} {S : List Rat} {vf : Rat → D} {xs : List (KK × Addr × V)} {acc : List V} {o : Obj} (d : Td P w K H1 a xs) (e : xs.map (·.1) = S.map keyQ) (vals : ∀ x ∈ xs, ∀ q, x.1 = keyQ q → Dat K H1 (vf q) x.2.2) (hn : ∀ q, nl (vf q) = true) (hp : H1 p = some (.lst acc)) (ho : H1 a = some (obO a o)) :
    Walks K (Itx a o xs) (hide H1 p) (S.map fun q => D.tup [fr q, vf q]) := fun H2 s2 => by
  have hap : a ≠ p := fun z => by rw [z, hp] at ho; cases ho
  have len : xs.length = S.length := by rw [← List.length_map (f := fun x : KK × Addr × V => x.1), e, List.length_map]
  have ha2 : H2 a = some (obO a o) := s2 _ _ (by unfold hide; rw [if_neg hap]; exact ho)
  have tk : Tk H1 H2 := fun c u r => Same.tk s2 c u (tk_hideL hp c u r)
  refine ⟨fun i dd hi => ?_, ha2, by rw [List.length_map, len]⟩
  rw [List.getElem?_map, Option.map_eq_some_iff] at hi
  obtain ⟨q, hq, rfl⟩ := hi
  obtain ⟨b, v, hx⟩ := key_at e hq
  have hmem := List.mem_of_getElem? hx
  refine ⟨⟨ha2, (List.getElem?_eq_some_iff.mp hx).1⟩, fun x H' hy => ?_⟩
  obtain ⟨T, k, b', v', hx', rfl, hT, rfl⟩ := hy
  rw [hx] at hx'
  cases hx'
  have sT := same_upd (o := HO.tup [.ref b, v]) hT
  refine ⟨sT, T, _, rfl, .inl (.inl upd_same), .cons (Dat.same sT (sq_fr (sqT_tk tk (d.ks _ hmem)))) (.cons (Dat.same sT (Dat.tk tk (hn q) (vals _ hmem q rfl))) .nil)⟩
/-- for key, value in d.items(), while a list of ours at p grows -/
theorem q_forItems {g : TG} {tb u : TS} {td : TE} {D' : Ends} {σ : L2.St} {H0 : Hp} {p : Addr} {acc : List V} {S : List Rat} {vf : Rat → D} (hp : H0 p = some (.lst acc)) (hn : ∀ q, nl (vf q) = true) (htd : ∀ Q : VK, (∀ a H', Same H0 H' → H0 a = none → FM P w K H' a S vf → Q (.ref a) H') → td σ H0 Q)
    (k : ∀ H1, Same H0 H1 → ∃ Pv : Nat → L2.St → Hp → Prop, Pv 0 σ H1 ∧ (∀ i σ H, Pv i σ H → Same (hide H1 p) H) ∧
      (∀ i d x σ H H', (S.map fun q => D.tup [fr q, vf q])[i]? = some d → Pv i σ H → Same H H' → Dat K H' d x → g x σ H' fun σ2 H2 => tb { D' with nx := Pv (i + 1), ct := Pv (i + 1), bk := u D' } σ2 H2) ∧ ∀ σ H, Pv S.length σ H → u D' σ H) :
    tSeq (tFor (iItemsT P w K td) g tb) u D' σ H0 := htd _ fun a H1 s1 ha ⟨xs, d, e, nd, vals⟩ => ⟨a, xs, rfl, d, fun o es ho t => by
  obtain ⟨Pv, k1, k2, k3, k4⟩ := k H1 s1
  exact for_data (D' := { D' with nx := u D' }) (walks_items d e vals hn (s1 _ _ hp) ho) Pv k1 k2 k3 (by rw [List.length_map]; exact k4)⟩
end
theorem q_setLst1 {K : PySem.W.Frag} {σ : L2.St} {H : Hp} {te : TE} {post : D → Prop} {D' : Ends} {H0 : Hp} {i : Nat} {u : TS} (h : EvP K te σ H post) (s : Same H H0) (k : ∀ p H1 v d, Same H0 H1 → H1 p = none → H0 p = none → post d → Dat K H1 d v → u D' (σ.set i (some (.ref p))) (upd H1 p (.lst [v]))) : tSeq (tAsg (tLst (tCons te tNil)) (gName i)) u D' σ H0 :=
  h H0 s _ fun v H1 d s1 pd hd => ⟨by show 1 ≤ sizeLine; decide, fun p hp => k p H1 v d s1 hp (s1.free hp) pd hd⟩
/-- what is promised: at every bid of p's, what is foreseen then -/
abbrev laterF (t : Term) (ws bs : List Rat) (p : Nat) (later : List Nat) (S : List Rat) : Rat → List Rat := fun x =>
  val (putB (bN (behF bs later 0)) p x) t :: S.map fun y => rk [val (putB (bN (heldF (behF bs later 0) (behF bs later 1) ws y)) p x) t, y] 0
theorem later_left {n Dn m p : Nat} {t : Term} {ws bs : List Rat} {later : List Nat} (O : Op3 n Dn m t ws bs later) (hp : p ∉ later) {S : List Rat} (hS : ∀ y, y ∈ S ↔ y ∈ ws) (x : Rat) :
    IsLeft t (bN ws) (putB (bN bs) p x) (inL later) (rk (laterF t ws bs p later S x) ((laterF t ws bs p later S x).length - 1)) := by
  have hw := O.T.wf
  refine prog_left hw (by unfold laterF; simp) fun y => ?_
  have e0 : val (putB (bN (behF bs later 0)) p x) t = val (endsS (putB (bN bs) p x) (inL later) fun _ => false) t := val_congr (fun q hq => by
    have := beh0_eq (bs := bs) (later := later) O.lb hq
    unfold putB
    by_cases e : q = p
    · subst e
      unfold endsS inL
      simp [hp]
    · rw [if_neg e, this]
      unfold endsS
      simp only [if_neg e]) hw
  have eh : ∀ z, val (putB (bN (heldF (behF bs later 0) (behF bs later 1) ws z)) p x) t = val (endsS (putB (bN bs) p x) (inL later) fun q => decide (z ≤ bN ws q)) t := fun z => val_congr (fun q hq => by
    have := ends_eq (ws := ws) (bs := bs) (later := later) O.lb (y := z) hq O.lw
    unfold putB
    by_cases e : q = p
    · subst e
      unfold endsS inL
      simp [hp]
    · rw [if_neg e, this]
      unfold endsS
      simp only [if_neg e]) hw
  unfold laterF
  constructor
  · rintro ⟨a, ha, hy⟩
    rcases List.mem_cons.mp ha with rfl | ha
    · exact .inl (e0 ▸ hy)
    · obtain ⟨z, hz, rfl⟩ := List.mem_map.mp ha
      obtain ⟨i, hi, rfl⟩ := List.mem_iff_getElem.mp ((hS z).mp hz)
      have ei : bN ws i = ws[i] := by
        have := bN_get hi
        rw [List.getElem?_eq_getElem hi] at this
        exact (Option.some.inj this).symm
      have h := (le_least (by simp)).mp hy
      refine .inr ⟨i, by rw [← O.lw]; exact hi, by rw [ei]; exact h _ (by simp), ?_⟩
      rw [ei, ← eh]
      exact h _ (by simp)
  · rintro (h | ⟨i, hi, h1, h2⟩)
    · exact ⟨_, List.mem_cons_self, e0 ▸ h⟩
    · refine ⟨_, List.mem_cons_of_mem _ (List.mem_map.mpr ⟨bN ws i, (hS _).mpr (bN_mem (by rw [O.lw]; exact hi)), rfl⟩), ?_⟩
      rw [le_least (by simp)]
      intro a ha
      simp only [List.mem_cons, List.not_mem_nil, or_false] at ha
      rcases ha with rfl | rfl
      · rw [eh]; exact h2
      · exact h1
section
variable {P : Program} {w : World} {K : PySem.W.Frag} {mg : Str → Option Value} {base : Heap}
abbrev spLaterL (K : PySem.W.Frag) (C : Addr) : Sp := spP K 5 fun ds post => ∃ (n Dn m p : Nat) (t : Term) (ws bs : List Rat) (later : List Nat), Op3 n Dn m t ws bs later ∧ p ∉ later ∧ ds = [.rule C n (tD t), .tup (frs ws), .tup (frs bs), .int (p : Nat), .tup (natsD later)] ∧
  post = fun d => ∃ L F, d = lnD L ∧ Ln (Dn * wp t) F L ∧ L.length ≤ 900000 ∧ ∀ x, IsLeft t (bN ws) (putB (bN bs) p x) (inL later) (F x)
theorem ok_later_line {C : Addr} (W : Wd P K mg base) (F : Df K mg "later_line" s_later_line) (G_ends_behind : C8.Cal P w K mg base 33 "ends_behind" (spBehind K C) []) (G_own_line : C8.Cal P w K mg base 46 "own_line" (spOwn K C) []) (G_lots_wishing : C8.Cal P w K mg base 37 "lots_wishing" (spLots P w K) []) (G_ends_for : C8.Cal P w K mg base 33 "ends_for" (spEnds K) [])
    (G_flat : C8.Cal P w K mg base 33 "flat" (spFlat K) []) (G_lowest : C8.Cal P w K mg base 41 "lowest" (spP K 1 (preLow fun _ => 0)) []) (G_highest : C8.Cal P w K mg base 41 "highest" (spP K 1 (preLow fun n => n - 1)) []) : C8.Cal P w K mg base 47 "later_line" (spLaterL K C) [] := by
  refine cal_of F sc_later_line (fun _ _ _ _ _ _ us hl => match us, hl with | [_, _, _, _, _], _ => rfl) rfl fun f cdv A outer s H vs Q E ds post hr hp hd q => ?_
  obtain ⟨n, Dn, m, p, t, ws, bs, later, O, hpl, rfl, rfl⟩ := hp
  obtain ⟨u1, u2, u3, u4, u5, rfl, hu1, hu2, hu3, hu4, hu5⟩ := dats5 hd
  refine ⟨_, (pss_cons (ps_asg (C8.pe_c G_ends_behind hr (by omega) (by rfl) (pa_cons (pv 0) (pa_cons (pv 2) (pa_cons (pv 4) pa_nil)))) (pg_tup rfl (pgs_cons (pg_name (i := 5) sc_later_line.nd rfl (by first | exact Or.inl rfl | exact Or.inr rfl)) (pgs_cons (pg_name (i := 6) sc_later_line.nd rfl (by first | exact Or.inl rfl | exact Or.inr rfl)) pgs_nil))))
    (pss_cons (ps_set (i := 7) sc_later_line.nd rfl (by first | exact Or.inl rfl | exact Or.inr rfl) (pe_lst (pa_cons (C8.pe_c G_own_line hr (by omega) (by rfl) (pa_cons (pv 0) (pa_cons (pv 5) (pa_cons (pv 3) pa_nil)))) pa_nil)))
    (pss_cons (ps_for PassesOwn.never rfl (pi_itemsT (C8.pe_c G_lots_wishing hr (by omega) (by rfl) (pa_cons (pv 1) pa_nil))) (pg_tup rfl (pgs_cons (pg_name (i := 8) sc_later_line.nd rfl (by first | exact Or.inl rfl | exact Or.inr rfl)) (pgs_cons (pg_name (i := 9) sc_later_line.nd rfl (by first | exact Or.inl rfl | exact Or.inr rfl)) pgs_nil)))
    (pss_cons (ps_set (i := 10) sc_later_line.nd rfl (by first | exact Or.inl rfl | exact Or.inr rfl) (C8.pe_c G_own_line hr (by omega) (by rfl) (pa_cons (pv 0) (pa_cons (C8.pe_c G_ends_for hr (by omega) (by rfl) (pa_cons (pv 5) (pa_cons (pv 6) (pa_cons (pv 9) pa_nil)))) (pa_cons (pv 3) pa_nil)))))
    (pss_one (ps_expr (pe_bm PySem.F.plainAttrs_list PySem.F.slot_list_append PySem.F.type_list_append mt_append (pv 7) (pa_cons (C8.pe_c G_lowest hr (by omega) (by rfl) (pa_cons (pe_lst (pa_cons (pv 10) (pa_cons (C8.pe_c G_flat hr (by omega) (by rfl) (pa_cons (pv 8) pa_nil)) pa_nil))) pa_nil)) pa_nil))))))
    (pss_one (ps_ret (C8.pe_c G_highest hr (by omega) (by rfl) (pa_cons (pv 7) pa_nil))))))), ?_⟩
  have T := O.T
  have hn := O.hn
  have l1 := O.lw
  have l2 := O.lb
  have hm : m ≤ 1000000 := T.hm
  have nlo := beh_nm (later := later) nm0 O.nb
  have nhi := beh_nm (later := later) nm1 O.nb
  have hM : 0 < Dn * wp t := Nat.mul_pos T.pos (wp_pos T.wf)
  have dv : Dn ∣ Dn * wp t := Nat.dvd_mul_right _ _
  refine q_asg2 (ed_call (d := .tup [.tup (frs (behF bs later 0)), .tup (frs (behF bs later 1))]) (ea_cons (ed_var rfl hu1) (ea_cons (ed_var rfl hu3) (ea_cons (ed_var rfl hu5) ea_nil))) ⟨n, tD t, bs, later, by omega, rfl, rfl⟩ rfl) (Same.refl _) fun lo hi H1 s1 hlo hhi => ?_
  refine q_setLst1 (ep_call (ea_cons (ed_var rfl (Dat.same s1 hu1)) (ea_cons (ed_var rfl hlo) (ea_cons (ed_var rfl (Dat.same s1 hu4)) ea_nil))) ⟨n, Dn, m, p, t, behF bs later 0, T, hn, by rw [tb_len, l2], nlo, rfl, rfl⟩ rfl) (Same.refl _) fun r H2 v0 d0 s2 hr2 hr1 ⟨L0, e0, ln0, len0⟩ hv0 => ?_
  subst e0
  have s12 := s1.trans s2
  have hrH : H r = none := s12.free hr2
  have sH2 : Same H (upd H2 r (.lst [v0])) := s12.trans (same_upd hr2)
  have nS : (dd ws).length ≤ 6 := by have := dd_len ws; omega
  refine q_forItems (acc := [v0]) (S := dd ws) (vf := lotD ws) upd_same (fun _ => nl_nats _) (fun Q' hq' => ⟨u2, rfl, rfl, ws, m, u2, rfl, Dat.same sH2 hu2, by omega, fun x hx => T.szN (O.nw x hx), by unfold LIM; omega, hq'⟩) fun H3 s3 => ?_
  have h3r : H3 r = some (.lst [v0]) := s3 _ _ upd_same
  have bH : Same H (hide H3 r) := same_hide (sH2.trans s3) hrH
  have b1 : Same H1 (hide H3 r) := same_hide ((s2.trans (same_upd hr2)).trans s3) hr1
  refine ⟨fun i σ H' => ∃ y8 y9 y10 acc l, σ = [some u1, some u2, some u3, some u4, some u5, some lo, some hi, some (.ref r), y8, y9, y10] ∧ Same (hide H3 r) H' ∧ H' r = some (.lst acc) ∧ Dats K H' (lnsD l) acc ∧ Lns (Dn * wp t) l ∧ l.length = i + 1 ∧ tot l ≤ 288 + 580 * i ∧ ∀ x, fAt l x = laterF t ws bs p later ((dd ws).take i) x,
    ⟨none, none, none, [v0], [(fun x => val (putB (bN (behF bs later 0)) p x) t, L0)], rfl, hide_same, h3r, .cons (Dat.same ((same_upd hr2).trans s3) hv0) .nil, fun q hq => by rw [List.mem_singleton.mp hq]; exact ln0, rfl, by show L0.length + 0 ≤ _; omega, fun x => rfl⟩, fun i σ H' ⟨_, _, _, _, _, _, h, _⟩ => h, ?_, ?_⟩
  · rintro i d x σ H4 H5 hi ⟨y8, y9, y10, acc, l, rfl, b4, ha, hacc, hl, hlen, htot, hF⟩ s5 hx
    rw [List.getElem?_map, Option.map_eq_some_iff] at hi
    obtain ⟨y, hy, rfl⟩ := hi
    have my : y ∈ ws := mem_dd.mp (List.mem_of_getElem? hy)
    have hi6 : i < (dd ws).length := (List.getElem?_eq_some_iff.mp hy).1
    have b5 : Same (hide H3 r) H5 := b4.trans s5
    refine g_tup2 hx fun v1 v2 hv1 hv2 => ?_
    have nh := held_nm (ws := ws) (n := n) (by rw [tb_len, l2]) (by rw [tb_len, l2]) nlo nhi y
    have lh : (heldF (behF bs later 0) (behF bs later 1) ws y).length = n := by rw [tb_len, tb_len, l2]
    refine q_set (ep_call (ea_cons (ed_var rfl (Dat.same (bH.trans b5) hu1)) (ea_cons (ed_call (d := .tup (frs (heldF (behF bs later 0) (behF bs later 1) ws y))) (ea_cons (ed_var rfl (Dat.same (b1.trans b5) hlo)) (ea_cons (ed_var rfl (Dat.same (b1.trans b5) hhi)) (ea_cons (ed_var rfl hv2) ea_nil))) ⟨_, _, wishers ws y, by rw [tb_len, tb_len], by rw [tb_len]; omega, rfl, rfl⟩ rfl) (ea_cons (ed_var rfl (Dat.same (bH.trans b5) hu4)) ea_nil))) ⟨n, Dn, m, p, t, _, T, hn, lh, nh, rfl, rfl⟩ rfl) (Same.refl _) fun z H6 dz s6 ⟨Lh, ez, lnh, lenh⟩ hz => ?_
    subst ez
    have ha6 : H6 r = some (.lst acc) := s6 _ _ (s5 _ _ ha)
    have lacc : acc.length = i + 1 := by rw [← hacc.length, List.length_map, hlen]
    let l2' : List LF := [(fun x => val (putB (bN (heldF (behF bs later 0) (behF bs later 1) ws y)) p x) t, Lh), (fun _ => y, [(0, y), (1, y)])]
    have lns2 : Lns (Dn * wp t) l2' := fun q hq => by
      simp only [l2', List.mem_cons, List.not_mem_nil, or_false] at hq
      rcases hq with rfl | rfl
      · exact lnh
      · exact Ln.flat hM ((O.nw y my).to dv)
    have t2 : lowB l2' = Lh.length + 2 + (Lh.length + 2) := by
      show (Lh.length + (2 + 0)) + (Lh.length + (2 + 0)) * 1 = _
      omega
    refine q_append (vv_var rfl) (ep_call (ea_cons (ed_lst (ea_cons (ed_var rfl hz) (ea_cons (ed_call (ea_cons (ed_var rfl (Dat.same s6 hv1)) ea_nil) ⟨y, rfl, rfl⟩ rfl) ea_nil))) ea_nil) ⟨Dn * wp t, m, l2', lns2, by simp [l2'], T.sz, T.hm, by rw [t2]; omega, by show 2 ≤ 900000; decide, rfl, rfl⟩ rfl) (Same.refl _) ⟨acc, ha6, by omega⟩ fun H7 xs d v s7 h7 h6' ⟨L, ed, lnL, lenL⟩ hv => ?_
    subst ed
    rw [ha6] at h6'
    obtain rfl : acc = xs := by
      have := Option.some.inj h6'
      cases this; rfl
    have tk := tk_upd (o := HO.lst (acc ++ [v])) h7
    refine ⟨some v1, some v2, some z, acc ++ [v], l ++ [(fun x => rk (fAt l2' x) 0, L)], rfl, fun b o e => ?_, upd_same, ?_, fun q hq => ?_, by simp [hlen], ?_, fun x => ?_⟩
    · have nb : b ≠ r := fun z => by rw [z, hide_none] at e; cases e
      rw [upd_ne nb]
      exact s7 _ _ (s6 _ _ (b5 _ _ e))
    · unfold lnsD at hacc ⊢
      rw [List.map_append]
      exact (Dats.tk tk (nls_map fun _ => nl_lnD _) (Dats.same ((s5.trans s6).trans s7) hacc)).append (.cons (Dat.tk tk (nl_lnD _) hv) .nil)
    · rcases List.mem_append.mp hq with hq | hq
      · exact hl q hq
      · rw [List.mem_singleton.mp hq]; exact lnL
    · have : tot (l ++ [(fun x => rk (fAt l2' x) 0, L)]) = tot l + L.length := by
        unfold tot
        rw [List.map_append, List.sum_append]
        simp
      rw [this]; omega
    · have : fAt (l ++ [(fun x => rk (fAt l2' x) 0, L)]) x = fAt l x ++ [rk (fAt l2' x) 0] := by
        unfold fAt
        rw [show fns (l ++ [(fun x => rk (fAt l2' x) 0, L)]) = fns l ++ [fun x => rk (fAt l2' x) 0] by simp, List.map_append]
        rfl
      rw [this, hF x, List.take_succ, hy]
      unfold laterF
      rw [List.map_append]
      rfl
  · rintro σ H4 ⟨y8, y9, y10, acc, l, rfl, b4, ha, hacc, hl, hlen, htot, hF⟩
    rw [List.take_length] at hF
    have tm := tri_mono (show l.length ≤ 7 by omega)
    have t7 : tri 7 = 21 := rfl
    have lowb : lowB l ≤ 900000 := by
      have := Nat.mul_le_mul (show tot l ≤ 3768 by omega) (show tri l.length ≤ 21 by omega)
      show tot l + tot l * tri l.length ≤ _
      omega
    refine q_ret (ep_call (ea_cons (ed_var (d := .lst (lnsD l)) rfl ⟨r, acc, rfl, SqL.of ha, hacc⟩) ea_nil) ⟨Dn * wp t, m, l, hl, fun z => by rw [z] at hlen; simp at hlen, T.sz, T.hm, lowb, by omega, rfl, rfl⟩ rfl) (Same.refl _) fun z H5 d s5 ⟨L, ed, ln, lenL⟩ h5 => q z H5 d ((bH.trans b4).trans s5) ⟨L, _, ed, ln, Nat.le_trans lenL lowb, fun x => ?_⟩ h5
    have := later_left O hpl (S := dd ws) (fun y => mem_dd) x
    rw [← hF x] at this
    rw [show (fAt l x).length = l.length by simp] at this
    exact this
end
end Cb
set_option Elab.async false
set_option linter.all false
set_option maxRecDepth 100000
set_option maxHeartbeats 4000000
/-! walks: plays -/
namespace Cb
open PySem PySem.Spec PyProof.Rows L2
theorem Dats.set {K : PySem.W.Frag} {H : Hp} {d : D} {v : V} : ∀ {ds : List D} {xs : List V} (j : Nat), Dats K H ds xs → Dat K H d v → Dats K H (ds.set j d) (xs.set j v)
  | [], _, _, e, _ => by
    have e : _ = [] := e
    rw [e]; exact Dats.nil
  | c :: r, _, 0, ⟨x, xr, e, _, h2⟩, h => by
    rw [e]; exact .cons h h2
  | c :: r, _, j + 1, ⟨x, xr, e, h1, h2⟩, h => by
    rw [e]; exact .cons h1 (Dats.set j h2 h)
theorem ixN_nat {n j : Nat} (h : j < n) : ixN n (j : Int) = some j := by
  unfold ixN
  rw [if_pos (by omega), if_pos (by omega)]
  simp
def bidsOf (n : Nat) (sch : List Nat) (pl : List Rat) : List Rat := (sch.zip pl).foldl (fun f p => f.set p.1 p.2) (List.replicate n 0)
theorem foldl_set_len {l : List (Nat × Rat)} : ∀ {f : List Rat}, (l.foldl (fun f p => f.set p.1 p.2) f).length = f.length := by
  induction l with
  | nil => intro f; rfl
  | cons a r ih => intro f; rw [List.foldl_cons, ih, List.length_set]
theorem bidsOf_len (n : Nat) (sch : List Nat) (pl : List Rat) : (bidsOf n sch pl).length = n := by
  unfold bidsOf
  rw [foldl_set_len, List.length_replicate]
theorem bidsOf_mem {Dn n : Nat} {sch : List Nat} {pl : List Rat} (h : ∀ x ∈ pl, Nm Dn x) : ∀ x ∈ bidsOf n sch pl, Nm Dn x := by
  unfold bidsOf
  have : ∀ (l : List (Nat × Rat)) (f : List Rat), (∀ p ∈ l, Nm Dn p.2) → (∀ x ∈ f, Nm Dn x) → ∀ x ∈ l.foldl (fun f p => f.set p.1 p.2) f, Nm Dn x := by
    intro l
    induction l with
    | nil => intro f _ h2; exact h2
    | cons a r ih =>
      intro f h1 h2
      refine ih _ (fun p hp => h1 p (List.mem_cons_of_mem _ hp)) fun x hx => ?_
      rcases List.mem_or_eq_of_mem_set hx with hx | hx
      · exact h2 x hx
      · rw [hx]; exact h1 a List.mem_cons_self
  exact this _ _ (fun p hp => h _ (List.of_mem_zip hp).2) fun x hx => by
    rw [List.eq_of_mem_replicate hx]; exact nm0
section
variable {K : PySem.W.Frag} {σ : L2.St} {H : Hp} {te ta tb' : TE} {v u : V}
theorem walks_zipT {a b : Addr} {xs ys : List V} {ds es : List D} (h1 : SqT K H a xs) (h2 : SqT K H b ys) (d1 : Dats K H ds xs) (d2 : Dats K H es ys) : Walks K (RZ.ItzT K a b) H (List.zipWith (fun d e => D.tup [d, e]) ds es) := fun H2 s => by
  have g1 := sqT_same s h1
  have g2 := sqT_same s h2
  have q1 := Dats.same s d1
  have q2 := Dats.same s d2
  refine ⟨fun i d hi => ?_, xs, ys, g1, g2, ?_⟩
  · rw [List.getElem?_zipWith_eq_some] at hi
    obtain ⟨c, e, hc, he, rfl⟩ := hi
    obtain ⟨x, hx, hxd⟩ := q1.get hc
    obtain ⟨y, hy, hyd⟩ := q2.get he
    refine ⟨⟨xs, ys, x, y, g1, g2, hx, hy⟩, fun z H' hz => ?_⟩
    obtain ⟨T, x', y', rfl, hT, rfl, f1, f2⟩ := hz
    have e1 := f1 xs g1
    have e2 := f2 ys g2
    rw [hx] at e1; rw [hy] at e2
    cases e1; cases e2
    exact ⟨same_upd hT, T, _, rfl, .inl (.inl upd_same), .cons (Dat.same (same_upd hT) hxd) (.cons (Dat.same (same_upd hT) hyd) .nil)⟩
  · rw [List.length_zipWith, ← q1.length, ← q2.length]
    omega
theorem ei_zipT {ds es : List D} (h : EvV ta σ H u) (h2 : EvV tb' σ H v) (hd : Dat K H (.tup ds) u) (he : Dat K H (.tup es) v) : EvI K (RZ.iZipA K (tCons ta (tCons tb' tNil))) σ H (List.zipWith (fun d e => D.tup [d, e]) ds es) := fun H0 s R r => by
  obtain ⟨a, xs, rfl, sq, hx⟩ := hd
  obtain ⟨b, ys, rfl, sq2, hy⟩ := he
  exact h H0 s _ (h2 H0 s _ ⟨a, b, xs, ys, rfl, .inr ⟨sqT_same s sq, sqT_same s sq2, r _ H0 H (Same.refl _) (Same.refl _) s (fun p _ h => h) (walks_zipT sq sq2 hx hy)⟩⟩)
/-- a tuple from k on -/
theorem ei_fromT {ds : List D} {k : Nat} (h : EvV te σ H v) (hd : Dat K H (.tup ds) v) (hk : EvV ta σ H (.int (k : Nat))) : EvI K (iTup K (tSl (rSlA K) te (tPart ta) tNoPart)) σ H (ds.drop k) := fun H0 s R r => by
  obtain ⟨a, xs, rfl, sq, hx⟩ := hd
  refine h H0 s _ (hk H0 s _ ⟨k, rfl, a, xs, rfl, sqT_same s sq, fun hw => ?_, fun _ p hp => ?_⟩)
  · have e : k = 0 ∨ xs = [] := by
      have h0 := hw.1
      rw [show HT.sIx xs.length 0 (some (k : Int)) = min k xs.length from HT.sIx_nat xs.length 0 k] at h0
      rcases Nat.eq_zero_or_pos k with z | z
      · exact .inl z
      · exact .inr (List.length_eq_zero_iff.mp (by omega))
    have e2 : ds.drop k = ds := by
      rcases e with e | e
      · rw [e]; exact List.drop_zero
      · have : ds = [] := List.length_eq_zero_iff.mp (by rw [hx.length, e]; rfl)
        rw [this]; simp
    rw [e2] at r
    exact ⟨a, rfl, ⟨xs, sqT_same s sq⟩, r _ H0 H (Same.refl _) (Same.refl _) s (fun p _ h => h) (walks_tup sq hx)⟩
  · have hp0 : H p = none := s.free hp
    rw [cutV_from]
    refine ⟨p, rfl, ⟨_, .inl (.inl upd_same)⟩, r _ _ (upd H p (.tup (xs.drop k))) (same_upd hp) (same_upd hp0) (same_upd2 s) (fun p' h1 h2 => ?_) (walks_tup (.inl (.inl upd_same)) (Dats.same (same_upd hp0) (hx.drop k)))⟩
    rw [upd_ne (fun e => h1 (by rw [e]; exact hp))]
    exact h2
end
theorem rep_flat (v : V) : ∀ n : Nat, (List.replicate n [v]).flatten = List.replicate n v
  | 0 => rfl
  | n + 1 => by rw [List.replicate_succ, List.flatten_cons, rep_flat v n, List.replicate_succ]; rfl
theorem dats_rep {K : PySem.W.Frag} {H : Hp} {z : Addr} (h : SqT K H z [.int 0, .int 1]) : ∀ n : Nat, Dats K H (frs (List.replicate n 0)) (List.replicate n (V.ref z))
  | 0 => Dats.nil
  | n + 1 => by
    rw [List.replicate_succ, List.replicate_succ]
    exact .cons ⟨z, _, rfl, h, .cons rfl (.cons rfl .nil)⟩ (dats_rep h n)
section
variable {P : Program} {w : World} {K : PySem.W.Frag} {mg : Str → Option Value} {base : Heap}
abbrev spBidsOf (K : PySem.W.Frag) (C : Addr) : Sp := spP K 3 fun ds post => ∃ (n : Nat) (t : D) (sch : List Nat) (pl : List Rat), n ≤ 900 ∧ (∀ p ∈ sch, p < n) ∧ ds = [.rule C n t, .tup (natsD sch), .tup (frs pl)] ∧ post = fun d => d = .tup (frs (bidsOf n sch pl))
theorem ok_bids_of {C : Addr} (W : Wd P K mg base) (R : RCls K C) (F : Df K mg "bids_of" s_bids_of) : C8.Cal P w K mg base 33 "bids_of" (spBidsOf K C) [] := by
  obtain ⟨z, mz, hz0⟩ := W.zero
  refine cal_of F sc_bids_of (fun _ _ _ _ _ _ us hl => match us, hl with | [_, _, _], _ => rfl) rfl fun f cdv A outer s H vs Q E ds post hr hp hd q => ?_
  obtain ⟨n, t, sch, pl, hn, hs, rfl, rfl⟩ := hp
  obtain ⟨u, v, x, rfl, hu, hv, hx⟩ := dats3 hd
  refine ⟨_, (pss_cons (ps_set (i := 3) sc_bids_of.nd rfl (by first | exact Or.inl rfl | exact Or.inr rfl) (pe_op op_rep (pe_lst (pa_cons (pe_glob (v := .ref z) (by rfl) mz rfl) pa_nil)) (pe_fld (pv 0) rfl)))
    (pss_cons (ps_for PassesOwn.never rfl (RZ.pi_zipA (by rfl) W.zip (pa_cons (pv 1) (pa_cons (pv 2) pa_nil))) (pg_tup rfl (pgs_cons (pg_name (i := 4) sc_bids_of.nd rfl (by first | exact Or.inl rfl | exact Or.inr rfl)) (pgs_cons (pg_name (i := 5) sc_bids_of.nd rfl (by first | exact Or.inl rfl | exact Or.inr rfl)) pgs_nil)))
    (pss_one (ps_asg (pv 5) (pg_sub (pv 3) (pv 4) set_list))))
    (pss_one (ps_ret (pe_callTy call_tuple_of (by rfl) W.tuple b_tuple (pa_cons (pv 3) pa_nil)))))), ?_⟩
  obtain ⟨ra, dx, tv, eu, hra, _⟩ := id hu
  refine ⟨by show 1 ≤ sizeLine; decide, fun l hl => ?_⟩
  have s0 : Same H (upd H l (.lst [.ref z])) := same_upd hl
  refine ⟨u, rfl, ra, C, dx, _, .int n, eu, s0 _ _ hra, R.cl, R.np, rfl, l, n, [.ref z], rfl, rfl, upd_same, by omega, by omega, Nat.le_of_lt (small1M (by show 1 * (n : Int).toNat ≤ _; omega)), fun p hp => ?_⟩
  have hpH : H p = none := s0.free hp
  rw [show (n : Int).toNat = n by omega, rep_flat]
  have d0 : ∀ {H' : Hp}, Dats K H' (frs (List.replicate n 0)) (List.replicate n (V.ref z)) := fun {H'} => dats_rep (hz0 H') n
  refine q_forB (ei_zipT (vv_var (i := 1) rfl) (vv_var (i := 2) rfl) hv hx) (s0.trans (same_upd hp)) fun Hb H2 sb s2 hnp sb2 => ?_
  have hbp : Hb p = none := hnp p (by rw [upd_same]; exact fun z => nomatch z) hpH
  have ezip : List.zipWith (fun d e => D.tup [d, e]) (natsD sch) (frs pl) = (sch.zip pl).map fun q => D.tup [.int (q.1 : Nat), fr q.2] := by
    unfold natsD frs
    rw [List.zipWith_map, List.map_zip_eq_zipWith]
    rfl
  rw [ezip]
  refine ⟨fun i σ H' => ∃ y4 y5 acc, σ = [some u, some v, some x, some (.ref p), y4, y5] ∧ Same Hb H' ∧ H' p = some (.lst acc) ∧ Dats K H' (frs (((sch.zip pl).take i).foldl (fun f p => f.set p.1 p.2) (List.replicate n 0))) acc, ⟨none, none, _, rfl, sb2, s2 _ _ upd_same, d0⟩, fun i σ H' ⟨_, _, _, _, h, _⟩ => h, ?_, ?_⟩
  · rintro i d y σ H3 H4 hi ⟨y4, y5, acc, rfl, b1, ha, hacc⟩ s4 hy
    rw [List.getElem?_map, Option.map_eq_some_iff] at hi
    obtain ⟨⟨k, t'⟩, hk, rfl⟩ := hi
    refine g_tup2 hy fun v1 v2 hv1 hv2 => ?_
    obtain rfl : v1 = .int (k : Nat) := hv1
    have hkn : k < n := hs k (List.of_mem_zip (List.mem_of_getElem? hk)).1
    have ha4 : H4 p = some (.lst acc) := s4 _ _ ha
    have lacc : acc.length = n := by rw [← hacc.length, frs_len, foldl_set_len, List.length_replicate]
    refine ⟨v2, rfl, _, rfl, _, rfl, p, acc, k, k, rfl, rfl, ha4, ixN_nat (by omega), some (.int (k : Nat)), some v2, acc.set k v2, rfl, fun b o e => ?_, upd_same, ?_⟩
    · rw [upd_ne (ne_of_none e hbp)]
      exact s4 _ _ (b1 _ _ e)
    · have tk := tk_upd (o := HO.lst (acc.set k v2)) ha4
      rw [List.take_succ, hk, List.foldl_append]
      show Dats K _ (frs (List.set _ k t')) _
      unfold frs at hacc ⊢
      rw [List.map_set]
      exact Dats.set k (Dats.tk tk (nls_map fun _ => rfl) (Dats.same s4 hacc)) (Dat.tk tk rfl hv2)
  · rintro σ H3 ⟨y4, y5, acc, rfl, b1, ha, hacc⟩
    rw [List.length_map, List.take_length] at hacc
    exact q_retD (ed_tupOf (ed_var (d := .lst (frs (bidsOf n sch pl))) rfl ⟨p, acc, rfl, SqL.of ha, hacc⟩)) (Same.refl _) fun r H4 s4 h4 => q r H4 _ ((sb.trans b1).trans s4) rfl h4
end
end Cb
set_option Elab.async false
set_option linter.all false
set_option maxRecDepth 100000
set_option maxHeartbeats 4000000
/-! walks: plays, part 2 -/
namespace Cb
open PySem PySem.Spec PyProof.Rows L2
/-- the keys of a dict are the numbers ks -/
def KeysN (kvs : List (Key × V)) (l : List Nat) : Prop := ∃ ks : List Nat, kvs.map (·.1) = ks.map (fun (k : Nat) => (Sum.inl (k : Int) : Key)) ∧ ks.length ≤ l.length ∧ ∀ k, k ∈ ks ↔ k ∈ l
theorem keysN_put {kvs : List (Key × V)} {l : List Nat} {k : Nat} {v : V} (h : KeysN kvs l) : KeysN (putK kvs (.inl (k : Int)) v) (l ++ [k]) := by
  obtain ⟨ks, e, hl, hm⟩ := h
  unfold putK
  by_cases c : (kvs.any fun kv => decide (kv.1 = (Sum.inl (k : Int) : Key))) = true
  · rw [if_pos c]
    refine ⟨ks, ?_, by simp; omega, fun j => ?_⟩
    · rw [List.map_map, ← e]
      refine List.map_congr_left fun p _ => ?_
      show (if p.1 = _ then (p.1, v) else p).1 = p.1
      split <;> rfl
    · have hk : k ∈ ks := by
        obtain ⟨p, hp, hpk⟩ := List.any_eq_true.mp c
        have h1 : (Sum.inl (k : Int) : Key) ∈ kvs.map (·.1) := List.mem_map.mpr ⟨p, hp, of_decide_eq_true hpk⟩
        rw [e, List.mem_map] at h1
        obtain ⟨j, hj, ej⟩ := h1
        have : (j : Int) = k := Sum.inl.inj ej
        have : j = k := by omega
        exact this ▸ hj
      rw [List.mem_append, List.mem_singleton, hm]
      exact ⟨.inl, fun z => z.elim id fun z => z ▸ (hm k).mp hk⟩
  · rw [if_neg c]
    refine ⟨ks ++ [k], by rw [List.map_append, List.map_append, e]; rfl, by simp; omega, fun j => by rw [List.mem_append, List.mem_append, hm]⟩
section
variable {K : PySem.W.Frag} {σ : L2.St} {H : Hp} {te : TE}
theorem dcI_ev {wi : TI} {vs : List Nat} {j : Nat} {l : List Nat} {H0 : Hp} {Q : VK} (h : EvI K wi σ H (natsD l)) (s : Same H H0) (hj : ∀ x, wipe ((wipe σ vs).set j (some x)) vs = wipe σ vs) (hj2 : ∀ x, ((wipe σ vs).set j (some x))[j]? = some (some x)) (hz : l.length ≤ 1000000)
    (hQ : ∀ a H' kvs, Same H0 H' → H' a = some (.dK kvs) → KeysN kvs l → Q (.ref a) H') : tDc wi (gName j) tYes (tVar j) (tC (.bl true)) vs σ H0 Q := h H0 s _ fun J H1 Hb s1 sb sb1 hp hW => fun D hD => by
  refine ⟨fun i m H2 => m = l.length - i ∧ i ≤ l.length ∧ Same H1 H2 ∧ ∃ kvs, H2 D = some (.dK kvs) ∧ KeysN kvs (l.take i), ⟨l.length, by simp, Nat.zero_le _, same_upd hD, [], upd_same, [], rfl, by simp, by simp⟩, ?_⟩
  rintro i m H2 ⟨rfl, hi, s2, kvs, hk, ks⟩
  obtain ⟨hgo, hst⟩ := hW H2 (sb1.trans s2)
  rw [List.length_map] at hst
  by_cases hlt : i < l.length
  · have hq := List.getElem?_eq_getElem hlt
    obtain ⟨g1, g2⟩ := hgo i _ (show (natsD l)[i]? = some (.int (l[i] : Nat)) by unfold natsD; rw [List.getElem?_map, hq]; rfl)
    refine .inr ⟨g1, _, fun H' z => ⟨l.length - (i + 1), by omega, rfl, hlt, z⟩, fun x H3 y => ?_⟩
    obtain ⟨y1, y2⟩ := g2 x H3 y
    obtain rfl : x = .int (l[i] : Nat) := y2
    refine ⟨hj _, et_yes H3 (Same.refl _) _ fun H4 s4 => iteT ⟨_, hj2 _, kvs, .inl (l[i] : Nat), rfl, s4 _ _ (y1 _ _ hk), ?_, fun c o ec => ?_, _, upd_same, ?_⟩⟩
    · obtain ⟨ks', e, hl, _⟩ := ks
      have : kvs.length = ks'.length := by rw [← List.length_map (f := fun x : Key × V => x.1), e, List.length_map]
      rw [List.length_take] at hl
      exact small1M (by omega)
    · rw [upd_ne (ne_of_none ec hD)]
      exact s4 _ _ (y1 _ _ (s2 _ _ ec))
    · rw [List.take_succ, hq]
      exact keysN_put ks
  · have e : i = l.length := by omega
    subst e
    rw [List.take_length] at ks
    exact .inl ⟨hst, hQ D H2 kvs (s1.trans s2) hk ks⟩
end
section
variable {K : PySem.W.Frag} {σ : L2.St} {H : Hp} {te : TE}
theorem ep_tupOfP {R : List D → Prop} (h : EvP K te σ H (fun d => ∃ ds, d = .lst ds ∧ R ds)) : EvP K (tCB (fun xs H Q => ∃ p ys, xs = [.ref p] ∧ ((SqL K H p ys ∧ ∀ l, H l = none → Q (.ref l) (upd H l (.tup ys))) ∨ (SqT K H p ys ∧ Q (.ref p) H))) (tCons te tNil)) σ H (fun d => ∃ ds, d = .tup ds ∧ R ds) := fun H0 s Q q =>
  h H0 s _ fun x H1 d s1 ⟨ds, e, r⟩ hx => by
    subst e
    obtain ⟨a, xs, e, sq, hx⟩ := hx
    exact ⟨a, xs, by rw [e], .inl ⟨sq, fun l hl => q _ _ _ (s1.trans (same_upd hl)) ⟨ds, rfl, r⟩ ⟨l, xs, rfl, .inl (.inl upd_same), Dats.same (same_upd hl) hx⟩⟩⟩
theorem ep_sortedD {l : List Nat} (hz : l.length < 64) (h : ∀ H0, Same H H0 → ∀ Q : VK, (∀ a H' kvs, Same H0 H' → H' a = some (.dK kvs) → KeysN kvs l → Q (.ref a) H') → te σ H0 Q) :
    EvP K (tCB (fun xs H Q => ∃ (a : Addr) (kvs : List (Key × V)) (ks : List Int), xs = [.ref a] ∧ Rd H a (.dK kvs) ∧ kvs.map (·.1) = ks.map Sum.inl ∧ ks.length < 64 ∧ ∀ (ys : List Int) (p : Addr), ys.Perm ks → ys.Pairwise (· ≤ ·) → H p = none → Q (.ref p) (upd H p (.lst (ys.map V.int)))) (tCons te tNil)) σ H
      (fun d => ∃ ds, d = .lst ds ∧ ∃ lt : List Nat, ds = natsD lt ∧ ∀ i, i ∈ lt ↔ i ∈ l) := fun H0 s Q q => h H0 s _ fun a H' kvs s1 hk ks => by
  obtain ⟨ks', e, hl, hm⟩ := ks
  refine ⟨a, kvs, ks'.map fun (n : Nat) => (n : Int), rfl, .inl hk, by rw [e, List.map_map]; rfl, by rw [List.length_map]; omega, fun ys p pm so hp => ?_⟩
  have nat : ∀ y ∈ ys, ∃ n : Nat, y = (n : Int) := fun y hy => by
    obtain ⟨n, _, e⟩ := List.mem_map.mp (pm.mem_iff.mp hy)
    exact ⟨n, e.symm⟩
  have ey : ys = (ys.map Int.toNat).map fun (n : Nat) => (n : Int) := by
    rw [List.map_map]
    conv => lhs; rw [← List.map_id ys]
    refine List.map_congr_left fun y hy => ?_
    obtain ⟨n, rfl⟩ := nat y hy
    simp
  refine q _ _ (.lst (natsD (ys.map Int.toNat))) (s1.trans (same_upd hp)) ⟨_, rfl, _, rfl, fun i => ?_⟩ ⟨p, _, rfl, SqL.of upd_same, ?_⟩
  · rw [← hm, List.mem_map]
    constructor
    · rintro ⟨y, hy, rfl⟩
      obtain ⟨n, hn, e⟩ := List.mem_map.mp (pm.mem_iff.mp hy)
      rw [← e]; simpa using hn
    · intro hi
      exact ⟨i, pm.mem_iff.mpr (List.mem_map.mpr ⟨i, hi, rfl⟩), by simp⟩
  · rw [natsD_ints, ← ey]
    exact Dats.ints ys
end
theorem ep_call4P {K : PySem.W.Frag} {σ : L2.St} {H : Hp} {ta tb' tc td : TE} {d0 d1 : D} {post post2 post3 : D → Prop} {pre : List D → (D → Prop) → Prop} {E : XK} (ha : EvD K ta σ H d0) (hb : EvD K tb' σ H d1) (hc : EvP K tc σ H post2) (hd : EvP K td σ H post3) (hp : ∀ e f, post2 e → post3 f → ∃ post', pre [d0, d1, e, f] post' ∧ ∀ d, post' d → post d) : EvP K (tCall (spP K 4 pre) [] E (tCons ta (tCons tb' (tCons tc (tCons td tNil))))) σ H post := fun H0 s Q q =>
  ha.use s fun u H1 s1 hu => hb.use (s.trans s1) fun v H2 s2 hv => hc H2 ((s.trans s1).trans s2) _ fun w H3 e s3 pe he => hd H3 (((s.trans s1).trans s2).trans s3) _ fun x H4 f s4 pf hf => by
    obtain ⟨post', p1, p2⟩ := hp e f pe pf
    exact ⟨rfl, [d0, d1, e, f], post', p1, .cons (Dat.same ((s2.trans s3).trans s4) hu) (.cons (Dat.same (s3.trans s4) hv) (.cons (Dat.same s4 he) (.cons hf .nil))), fun r H5 d s5 pd hd => q r H5 d ((((s1.trans s2).trans s3).trans s4).trans s5) (p2 d pd) hd⟩
section
variable {P : Program} {w : World} {K : PySem.W.Frag} {mg : Str → Option Value} {base : Heap}
abbrev spLeftOf (K : PySem.W.Frag) : Sp := spP K 2 fun ds post => ∃ (sch : List Nat) (k : Nat), sch.length < 64 ∧ ds = [.tup (natsD sch), .int (k : Nat)] ∧ post = fun d => ∃ lt : List Nat, d = .tup (natsD lt) ∧ ∀ i, i ∈ lt ↔ i ∈ sch.drop k
theorem ok_left_of (W : Wd P K mg base) (F : Df K mg "left_of" s_left_of) : C8.Cal P w K mg base 33 "left_of" (spLeftOf K) [] := by
  refine cal_of F sc_left_of (fun _ _ _ _ _ _ us hl => match us, hl with | [_, _], _ => rfl) rfl fun f cdv A outer s H vs Q E ds post hr hp hd q => ?_
  obtain ⟨sch, k, hz, rfl, rfl⟩ := hp
  obtain ⟨u, v, rfl, hu, hv⟩ := dats2 hd
  obtain rfl : v = .int (k : Nat) := hv
  refine ⟨_, (pss_one (ps_ret (pe_callTy call_tuple_of (by rfl) W.tuple b_tuple (pa_cons (pe_callB (call_sortedDI rfl) (by rfl) W.sorted b_sorted (pa_cons (pe_dc (own := [("person", 2)]) (g := gName 2) (tt := tYes) rfl sc_left_of.nd (pi_tup (pe_slice sl_tupA (pv 0) (po_some (pv 1)) po_none)) (blkOk_by (N := n_left_of) (sc := defScope s_left_of) (by decide +kernel)) (fun _ _ _ _ _ => (pg_name (i := 2) sc_left_of.nd rfl (by first | exact Or.inl rfl | exact Or.inr rfl))) (fun _ _ _ _ _ => pts_nil) (fun _ _ _ _ _ => (pv 2)) (fun _ _ _ _ _ => pe_bl)) pa_nil)) pa_nil)))), ?_⟩
  have hI := ei_fromT (te := tVar 0) (ta := tVar 1) (σ := [some u, some (.int (k : Nat)), none]) (vv_var rfl) hu (vv_var rfl)
  rw [show (natsD sch).drop k = natsD (sch.drop k) by unfold natsD; rw [List.map_drop]] at hI
  refine q_ret (ep_tupOfP (R := fun ds => ∃ lt : List Nat, ds = natsD lt ∧ ∀ i, i ∈ lt ↔ i ∈ sch.drop k) (ep_sortedD (l := sch.drop k) (by rw [List.length_drop]; omega) fun H0 s1 Q' hq' => dcI_ev (vs := [2]) (j := 2) hI s1 (fun _ => rfl) (fun _ => rfl) (by rw [List.length_drop]; omega) hq')) (Same.refl _) fun r H1 d s1 ⟨ds, e, lt, e2, hlt⟩ h1 => q r H1 d s1 ⟨lt, by rw [e, e2], hlt⟩ h1
/-- a sitting's state, as the program holds it -/
structure Pl3 (n Dn m : Nat) (t : Term) (ws : List Rat) (sch : List Nat) (pl : List Rat) : Prop where
  T : Tm n Dn m 3 t
  hn : n ≤ 6
  lw : ws.length = n
  nw : ∀ x ∈ ws, Nm Dn x
  np : ∀ x ∈ pl, Nm Dn x
  sl : ∀ p ∈ sch, p < n
  s64 : sch.length < 64
  lp : pl.length ≤ sch.length
abbrev openL (sch : List Nat) (k : Nat) : Nat → Bool := fun p => decide (p ∈ sch.drop k)
theorem Pl3.op {n Dn m : Nat} {t : Term} {ws : List Rat} {sch : List Nat} {pl : List Rat} (S : Pl3 n Dn m t ws sch pl) (later : List Nat) : Op3 n Dn m t ws (bidsOf n sch pl) later := ⟨S.T, S.hn, S.lw, bidsOf_len _ _ _, S.nw, bidsOf_mem S.np⟩
abbrev spFore (K : PySem.W.Frag) (C : Addr) : Sp := spP K 4 fun ds post => ∃ (n Dn m : Nat) (t : Term) (ws : List Rat) (sch : List Nat) (pl : List Rat), Pl3 n Dn m t ws sch pl ∧ ds = [.rule C n (tD t), .tup (frs ws), .tup (natsD sch), .tup (frs pl)] ∧
  post = fun d => ∃ A, d = fr A ∧ IsLeft t (bN ws) (bN (bidsOf n sch pl)) (openL sch pl.length) A
theorem ok_foreseen_behind {C : Addr} (W : Wd P K mg base) (F : Df K mg "foreseen_behind" s_foreseen_behind) (G_outcome_left : C8.Cal P w K mg base 43 "outcome_left" (spOutLeft K C) []) (G_bids_of : C8.Cal P w K mg base 33 "bids_of" (spBidsOf K C) []) (G_left_of : C8.Cal P w K mg base 33 "left_of" (spLeftOf K) []) :
    C8.Cal P w K mg base 44 "foreseen_behind" (spFore K C) [] := by
  refine cal_of F sc_foreseen_behind (fun _ _ _ _ _ _ us hl => match us, hl with | [_, _, _, _], _ => rfl) rfl fun f cdv A outer s H vs Q E ds post hr hp hd q => ?_
  obtain ⟨n, Dn, m, t, ws, sch, pl, S, rfl, rfl⟩ := hp
  obtain ⟨u1, u2, u3, u4, rfl, hu1, hu2, hu3, hu4⟩ := dats4 hd
  refine ⟨_, (pss_one (ps_ret (C8.pe_c G_outcome_left hr (by omega) (by rfl) (pa_cons (pv 0) (pa_cons (pv 1) (pa_cons (C8.pe_c G_bids_of hr (by omega) (by rfl) (pa_cons (pv 0) (pa_cons (pv 2) (pa_cons (pv 3) pa_nil)))) (pa_cons (C8.pe_c G_left_of hr (by omega) (by rfl) (pa_cons (pv 2) (pa_cons (pe_callB call_len_seq (by rfl) W.len b_len (pa_cons (pv 3) pa_nil)) pa_nil))) pa_nil))))))), ?_⟩
  have hn := S.hn
  have e1 := S.sl
  refine q_ret (ep_call4P (post2 := fun d => d = .tup (frs (bidsOf n sch pl))) (post3 := fun d => ∃ lt : List Nat, d = .tup (natsD lt) ∧ ∀ i, i ∈ lt ↔ i ∈ sch.drop pl.length) (post := fun d => ∃ A, d = fr A ∧ IsLeft t (bN ws) (bN (bidsOf n sch pl)) (openL sch pl.length) A) (ed_var rfl hu1) (ed_var rfl hu2)
    (ep_call (ea_cons (ed_var rfl hu1) (ea_cons (ed_var rfl hu3) (ea_cons (ed_var rfl hu4) ea_nil))) ⟨n, tD t, sch, pl, by omega, e1, rfl, rfl⟩ rfl)
    (ep_call (ea_cons (ed_var rfl hu3) (ea_cons ((ed_lenT (ed_var rfl hu4)).to (by rw [frs_len])) ea_nil)) ⟨sch, pl.length, S.s64, rfl, rfl⟩ rfl)
    fun d2 d3 h2 ⟨lt, h3, hlt⟩ => ⟨_, ⟨n, Dn, m, t, ws, bidsOf n sch pl, lt, S.op lt, by rw [h2, h3], rfl⟩, fun d ⟨A, ed, hA⟩ => ⟨A, ed, hA.congr S.T.wf (fun p _ => decide_eq_decide.mpr (hlt p)) fun _ _ _ => rfl⟩⟩) (Same.refl _) fun r H1 d s1 hpo h1 => q r H1 d s1 hpo h1
abbrev spBestE (K : PySem.W.Frag) (C : Addr) : Sp := spP K 4 fun ds post => ∃ (n Dn m : Nat) (t : Term) (ws : List Rat) (sch : List Nat) (pl : List Rat) (p : Nat), Pl3 n Dn m t ws sch pl ∧ sch[pl.length]? = some p ∧ ds = [.rule C n (tD t), .tup (frs ws), .tup (natsD sch), .tup (frs pl)] ∧
  post = fun d => ∃ e0 e1, d = .tup [fr e0, fr e1] ∧ if p ∈ sch.drop (pl.length + 1) then e0 = 0 ∧ e1 = 1 else ∃ L F, Ln (Dn * wp t) F L ∧ (∀ x, IsLeft t (bN ws) (putB (bN (bidsOf n sch pl)) p x) (openL sch (pl.length + 1)) (F x)) ∧ BestAt (Dn * wp t) F (bN ws p) e0 e1
theorem ok_best_ends {C : Addr} (W : Wd P K mg base) (F : Df K mg "best_ends" s_best_ends) (G_left_of : C8.Cal P w K mg base 33 "left_of" (spLeftOf K) []) (G_bids_of : C8.Cal P w K mg base 33 "bids_of" (spBidsOf K C) []) (G_later_line : C8.Cal P w K mg base 47 "later_line" (spLaterL K C) []) (G_best_places : C8.Cal P w K mg base 39 "best_places" (spBestP K) []) :
    C8.Cal P w K mg base 48 "best_ends" (spBestE K C) [] := by
  obtain ⟨z, mz, hz0⟩ := W.zero
  obtain ⟨o, mo, ho⟩ := W.one
  refine cal_of F sc_best_ends (fun _ _ _ _ _ _ us hl => match us, hl with | [_, _, _, _], _ => rfl) rfl fun f cdv A outer s H vs Q E ds post hr hp hd q => ?_
  obtain ⟨n, Dn, m, t, ws, sch, pl, p, S, hp, rfl, rfl⟩ := hp
  obtain ⟨u1, u2, u3, u4, rfl, hu1, hu2, hu3, hu4⟩ := dats4 hd
  refine ⟨_, (pss_cons (ps_set (i := 4) sc_best_ends.nd rfl (by first | exact Or.inl rfl | exact Or.inr rfl) (pe_ix ix_tup (pv 2) (pe_callB call_len_seq (by rfl) W.len b_len (pa_cons (pv 3) pa_nil)) (fun _ _ => rfl)))
    (pss_cons (ps_set (i := 5) sc_best_ends.nd rfl (by first | exact Or.inl rfl | exact Or.inr rfl) (C8.pe_c G_left_of hr (by omega) (by rfl) (pa_cons (pv 2) (pa_cons (pe_op op_add (pe_callB call_len_seq (by rfl) W.len b_len (pa_cons (pv 3) pa_nil)) pe_int) pa_nil))))
    (pss_cons (ps_if (pt_cmpR op_in_seq (pv 4) (pv 5) (by rfl)) (pss_one (ps_ret (pe_tup (pa_cons (pe_glob (v := .ref z) (by rfl) mz rfl) (pa_cons (pe_glob (v := .ref o) (by rfl) mo rfl) pa_nil))))) pss_nil)
    (pss_cons (ps_set (i := 6) sc_best_ends.nd rfl (by first | exact Or.inl rfl | exact Or.inr rfl) (C8.pe_c G_later_line hr (by omega) (by rfl) (pa_cons (pv 0) (pa_cons (pv 1) (pa_cons (C8.pe_c G_bids_of hr (by omega) (by rfl) (pa_cons (pv 0) (pa_cons (pv 2) (pa_cons (pv 3) pa_nil)))) (pa_cons (pv 4) (pa_cons (pv 5) pa_nil)))))))
    (pss_one (ps_ret (C8.pe_c G_best_places hr (by omega) (by rfl) (pa_cons (pv 6) (pa_cons (pe_ix ix_tup (pv 1) (pv 4) (fun _ _ => rfl)) pa_nil))))))))), ?_⟩
  have hn := S.hn
  have T := S.T
  have hpn : p < n := S.sl p (List.mem_of_getElem? hp)
  refine q_setD (d := .int (p : Nat)) (ed_ixT (ed_var rfl hu3) ((ed_lenT (ed_var rfl hu4)).to (by rw [frs_len])) (atI_nat (by unfold natsD; rw [List.getElem?_map, hp]; rfl))) (Same.refl _) fun x H1 s1 hx => ?_
  obtain rfl : x = .int (p : Nat) := hx
  refine q_set (ep_call (ea_cons (ed_var rfl (Dat.same s1 hu3)) (ea_cons ((ed_add (ed_lenT (ed_var rfl (Dat.same s1 hu4))) ed_int).to (d := _) (e' := .int ((pl.length + 1 : Nat) : Int)) (by rw [frs_len]; rfl)) ea_nil)) ⟨sch, pl.length + 1, S.s64, rfl, rfl⟩ rfl) (Same.refl _) fun y H2 d2 s2 ⟨lt, e2, hlt⟩ hy => ?_
  subst e2
  have s12 := s1.trans s2
  refine q_if (et_test (ed_inN (i := p) (lot := lt) (ed_var rfl rfl) (ed_var rfl hy))) (Same.refl _) (fun e H3 s3 => ?_) (fun e H3 s3 => ?_)
  · have e := (hlt p).mp (of_decide_eq_true e)
    refine q_retD (ed_tup (ea_cons (ed_c (d := fr 0) ⟨z, _, rfl, hz0 H3, .cons rfl (.cons rfl .nil)⟩) (ea_cons (ed_c (d := fr 1) ⟨o, _, rfl, ho H3, .cons rfl (.cons rfl .nil)⟩) ea_nil))) (Same.refl _) fun r H4 s4 h4 => q r H4 _ ((s12.trans s3).trans s4) ⟨0, 1, rfl, ?_⟩ h4
    rw [if_pos e]; exact ⟨rfl, rfl⟩
  · have e0 := of_decide_eq_false e
    have e : p ∉ sch.drop (pl.length + 1) := fun z => e0 ((hlt p).mpr z)
    have s13 := s12.trans s3
    refine q_set (ep_call (ea_cons (ed_var rfl (Dat.same s13 hu1)) (ea_cons (ed_var rfl (Dat.same s13 hu2)) (ea_cons (ed_call (d := .tup (frs (bidsOf n sch pl))) (ea_cons (ed_var rfl (Dat.same s13 hu1)) (ea_cons (ed_var rfl (Dat.same s13 hu3)) (ea_cons (ed_var rfl (Dat.same s13 hu4)) ea_nil))) ⟨n, tD t, sch, pl, by omega, S.sl, rfl, rfl⟩ rfl) (ea_cons (ed_var (d := .int (p : Nat)) rfl rfl) (ea_cons (ed_var rfl (Dat.same s3 hy)) ea_nil))))) ⟨n, Dn, m, p, t, ws, _, lt, S.op lt, e0, rfl, rfl⟩ rfl) (Same.refl _) fun b H4 d4 s4 ⟨L, G, e4, ln, hlen, hG⟩ hb => ?_
    subst e4
    have wnm : Nm (Dn * wp t) (bN ws p) := (S.nw _ (bN_mem (by rw [S.lw]; exact hpn))).to (Nat.dvd_mul_right _ _)
    refine q_ret (ep_call (ea_cons (ed_var rfl hb) (ea_cons (ed_ixT (d := fr (bN ws p)) (ed_var rfl (Dat.same (s13.trans s4) hu2)) (ed_var (d := .int (p : Nat)) rfl rfl) (atI_frs (bN_get (by rw [S.lw]; exact hpn)))) ea_nil)) ⟨Dn * wp t, m, G, L, bN ws p, ln, T.sz, T.hm, hlen, wnm, rfl, rfl⟩ rfl) (Same.refl _) fun r H5 d s5 ⟨a, b', ed, hB⟩ h5 => q r H5 d ((s13.trans s4).trans s5) ⟨a, b', ed, ?_⟩ h5
    rw [if_neg e]
    exact ⟨L, G, ln, fun x => (hG x).congr T.wf (fun i _ => decide_eq_decide.mpr (hlt i)) fun _ _ _ => rfl, hB⟩
end
end Cb
set_option Elab.async false
set_option linter.all false
set_option maxRecDepth 100000
set_option maxHeartbeats 4000000
/-! walks of the law: numbers -/
namespace Cb
open PySem PySem.Spec PyProof.Rows L2
section
variable {K : PySem.W.Frag} {σ : L2.St} {H : Hp} {ta tb' : TE}
theorem ed_int1 {i : Int} (h : EvD K ta σ H (.int i)) : EvD K (tCB (fun xs H Q => (∃ i, xs = [.int i] ∧ Q (.int i) H) ∨ ∃ k, xs = [.bl k] ∧ Q (.int (if k then 1 else 0)) H) (tCons ta tNil)) σ H (.int i) := EvD.mk fun H0 s Q q =>
  h.use s fun x H1 s1 hx => .inl ⟨i, by rw [show x = .int i from hx], q _ H1 s1 rfl⟩
end
section
variable {P : Program} {w : World} {K : PySem.W.Frag} {mg : Str → Option Value} {base : Heap}
abbrev spLowestL (K : PySem.W.Frag) : Sp := spP K 2 fun ds post => ∃ a b : Int, 0 < b ∧ ds = [.int a, .int b] ∧ post = fun d => d = fr (Rat.divInt a b)
theorem ok_L_lowest (W : Wd P K mg base) (F : Df K mg "_law_lowest" s_L_lowest) : C8.Cal P w K mg base 33 "_law_lowest" (spLowestL K) [] := by
  refine cal_of F sc_L_lowest (fun _ _ _ _ _ _ us hl => match us, hl with | [_, _], _ => rfl) rfl fun f cdv A outer s H vs Q E ds post hr hp hd q => ?_
  obtain ⟨a, b, hb, rfl, rfl⟩ := hp
  obtain ⟨x, y, rfl, hx, hy⟩ := dats2 hd
  obtain rfl : x = .int a := hx
  obtain rfl : y = .int b := hy
  refine ⟨_, (pss_cons (ps_par (i := 2) (j := 3) rfl sc_L_lowest.nd rfl rfl (by decide) rfl rfl (pa_cons (pe_callB call_abs (by rfl) W.abs b_abs (pa_cons (pv 0) pa_nil)) (pa_cons (pv 1) pa_nil)) (by rfl))
    (pss_cons (ps_while PassesOwn.never (pt_cmpR op_gt (pv 3) pe_int (nomark _)) (pss_one (ps_par (i := 2) (j := 3) rfl sc_L_lowest.nd rfl rfl (by decide) rfl rfl (pa_cons (pv 3) (pa_cons (pe_op op_modN (pe_callTy call_int1 (by rfl) W.int b_int (pa_cons (pv 2) pa_nil)) (pv 3)) pa_nil)) (by rfl))))
    (pss_one (ps_ret (pe_tup (pa_cons (pe_op (op_fdivX W.seer W.tree (depth_of hr (by omega)) rfl rfl rfl) (pv 0) (pv 2)) (pa_cons (pe_op (op_fdivX W.seer W.tree (depth_of hr (by omega)) rfl rfl rfl) (pv 1) (pv 2)) pa_nil))))))), ?_⟩
  refine ⟨_, rfl, a, rfl, _, rfl, _, _, rfl, ?_⟩
  refine while_by (fun σ H' => H' = H ∧ ∃ c d : Int, σ = [some (.int a), some (.int b), some (.int c), some (.int d)] ∧ 0 ≤ c ∧ 0 ≤ d ∧ Int.gcd c d = Int.gcd a b) (fun σ _ => match σ with | [_, _, _, some (.int d)] => d.toNat | _ => 0) ?_ ?_ ?_
  · refine ⟨rfl, _, _, rfl, by split <;> omega, by omega, ?_⟩
    show Nat.gcd _ _ = Nat.gcd _ _
    congr 1
    split <;> omega
  · rintro σ H' ⟨rfl, c, d, rfl, h0, h1, hg⟩
    refine ⟨_, rfl, _, _, rfl, rfl, _, rfl, ?_⟩
    by_cases hd : 0 < d
    · rw [decide_eq_true hd]
      refine iteT ⟨_, rfl, _, rfl, .inl ⟨c, rfl, _, rfl, c, d, rfl, rfl, by omega, _, _, rfl, ⟨rfl, d, c.fmod d, rfl, h1, ?_, ?_⟩, ?_⟩⟩
      · rw [Int.fmod_eq_emod_of_nonneg c h1]; exact Int.emod_nonneg c (by omega)
      · rw [← hg]; exact (gcd_turn c h0 hd).symm
      · show (c.fmod d).toNat < d.toNat
        rw [Int.fmod_eq_emod_of_nonneg c h1]
        have := Int.emod_lt_of_pos c hd
        omega
    · rw [decide_eq_false hd]
      have e : d = 0 := by omega
      subst e
      rw [Int.gcd_zero_right] at hg
      have ec : c = ((Int.gcd a b : Nat) : Int) := by rw [← hg]; omega
      obtain ⟨m1, m2, m3⟩ := made_num (a := a) (b := b) (by omega)
      rw [if_neg (by omega), ← ec] at m1 m2 m3
      refine iteF ?_
      refine q_retD (K := K) (ed_tup (ea_cons (ed_fdiv (ed_var (d := .int a) rfl rfl) (ed_var (d := .int c) rfl rfl) m3) (ea_cons (ed_fdiv (ed_var (d := .int b) rfl rfl) (ed_var (d := .int c) rfl rfl) m3) ea_nil))) (Same.refl _) fun r H1 s1 h1 => q r H1 _ s1 rfl ?_
      rw [m1, m2] at h1
      exact h1
  · rintro σ H' Q1 Q2 hq ⟨v, e, i, j, h1, h2, k, e2, h3⟩
    exact ⟨v, e, i, j, h1, h2, k, e2, hq _ _ h3⟩
abbrev sgn (s : Int) (x y : Rat) : Rat := if s = 1 then x + y else x - y
abbrev spSumL (K : PySem.W.Frag) : Sp := spP K 3 fun ds post => ∃ (x y : Rat) (n : Nat) (s : Int), Sz n x ∧ Sz n y ∧ n + 1 ≤ LIM ∧ (s = 1 ∨ s = -1) ∧ ds = [fr x, fr y, .int s] ∧ post = fun d => d = fr (sgn s x y)
theorem ok_L_sum (W : Wd P K mg base) (F : Df K mg "_law_sum" s_L_sum) (G_L_lowest : C8.Cal P w K mg base 33 "_law_lowest" (spLowestL K) []) : C8.Cal P w K mg base 34 "_law_sum" (spSumL K) [] := by
  refine cal_of F sc_L_sum (fun _ _ _ _ _ _ us hl => match us, hl with | [_, _, _], _ => rfl) rfl fun f cdv A outer s H vs Q E ds post hr hp hd q => ?_
  obtain ⟨x, y, n, sg, sx, sy, hn, hs, rfl, rfl⟩ := hp
  obtain ⟨u, v, z, rfl, hx, hy, hz⟩ := dats3 hd
  refine ⟨_, (pss_one (ps_ret (C8.pe_c G_L_lowest hr (by omega) (by rfl) (pa_cons (pe_op op_add (pe_op op_mulX (pe_ix ix_tup (pv 0) pe_int (fun _ _ => rfl)) (pe_ix ix_tup (pv 1) pe_int (fun _ _ => rfl))) (pe_op op_mulX (pe_op op_mulX (pv 2) (pe_ix ix_tup (pv 1) pe_int (fun _ _ => rfl))) (pe_ix ix_tup (pv 0) pe_int (fun _ _ => rfl)))) (pa_cons (pe_op op_mulX (pe_ix ix_tup (pv 0) pe_int (fun _ _ => rfl)) (pe_ix ix_tup (pv 1) pe_int (fun _ _ => rfl))) pa_nil))))), ?_⟩
  have e0 := ed_var (i := 0) (σ := [some u, some v, some z]) rfl hx
  have e1 := ed_var (i := 1) (σ := [some u, some v, some z]) rfl hy
  have e2 := ed_var (i := 2) (σ := [some u, some v, some z]) (d := .int sg) rfl hz
  have hn' : n ≤ LIM := by omega
  have s1 : sg.natAbs < 2 ^ 1 := by rcases hs with h | h <;> (rw [h]; decide)
  have two : 2 ^ n ≤ 2 ^ (n + 1) := two_mono (by omega)
  have sp : (sg * y.num).natAbs = y.num.natAbs := by rcases hs with h | h <;> (rw [h]; omega)
  refine q_retD (ed_call (ea_cons (ed_add (ed_mul (ed_top e0) (ed_bot e1) (mul_ok sx.1 sy.den' hn')) (ed_mul (ed_mul e2 (ed_top e1) (mulOk_of s1 sy.1 (by unfold LIM at hn; omega))) (ed_bot e0) (mul_ok (n := n) (by rw [sp]; exact sy.1) sx.den' hn'))) (ea_cons (ed_mul (ed_bot e0) (ed_bot e1) (mul_ok sx.den' sy.den' hn')) ea_nil)) ⟨_, _, Int.mul_pos (by have := x.den_pos; omega) (by have := y.den_pos; omega), rfl, rfl⟩ rfl) (Same.refl _) fun r H1 s1 hr1 => ?_
  refine q r H1 _ s1 rfl ?_
  rcases hs with h | h
  · subst h
    rw [Int.one_mul, ← add_eq_divInt] at hr1
    exact hr1
  · subst h
    rw [show x.num * (y.den : Int) + -1 * y.num * (x.den : Int) = x.num * y.den - y.num * x.den by rw [Int.mul_assoc, Int.neg_one_mul]; omega, ← sub_eq_divInt] at hr1
    exact hr1
abbrev spProdL (K : PySem.W.Frag) : Sp := spP K 2 (preBin (fun x y => x * y) fun _ => True)
theorem ok_L_product (W : Wd P K mg base) (F : Df K mg "_law_product" s_L_product) (G_L_lowest : C8.Cal P w K mg base 33 "_law_lowest" (spLowestL K) []) : C8.Cal P w K mg base 34 "_law_product" (spProdL K) [] := by
  refine cal_of F sc_L_product (fun _ _ _ _ _ _ us hl => match us, hl with | [_, _], _ => rfl) rfl fun f cdv A outer s H vs Q E ds post hr hp hd q => ?_
  obtain ⟨x, y, n, sx, sy, hn, _, rfl, rfl⟩ := hp
  obtain ⟨u, v, rfl, hx, hy⟩ := dats2 hd
  refine ⟨_, (pss_one (ps_ret (C8.pe_c G_L_lowest hr (by omega) (by rfl) (pa_cons (pe_op op_mulX (pe_ix ix_tup (pv 0) pe_int (fun _ _ => rfl)) (pe_ix ix_tup (pv 1) pe_int (fun _ _ => rfl))) (pa_cons (pe_op op_mulX (pe_ix ix_tup (pv 0) pe_int (fun _ _ => rfl)) (pe_ix ix_tup (pv 1) pe_int (fun _ _ => rfl))) pa_nil))))), ?_⟩
  have e0 := ed_var (i := 0) (σ := [some u, some v]) rfl hx
  have e1 := ed_var (i := 1) (σ := [some u, some v]) rfl hy
  refine q_retD (ed_call (ea_cons (ed_mul (ed_top e0) (ed_top e1) (mul_ok sx.1 sy.1 hn)) (ea_cons (ed_mul (ed_bot e0) (ed_bot e1) (mul_ok sx.den' sy.den' hn)) ea_nil)) ⟨_, _, Int.mul_pos (by have := x.den_pos; omega) (by have := y.den_pos; omega), rfl, rfl⟩ rfl) (Same.refl _) fun r H1 s1 hr1 => ?_
  rw [← mul_eq_divInt] at hr1
  exact q r H1 _ s1 rfl hr1
theorem ok_L_less (W : Wd P K mg base) (F : Df K mg "_law_less" s_L_less) : C8.Cal P w K mg base 33 "_law_less" (spLess K) [] := by
  refine cal_of F sc_L_less (fun _ _ _ _ _ _ us hl => match us, hl with | [_, _], _ => rfl) rfl fun f cdv A outer s H vs Q E ds post hr hp hd q => ?_
  obtain ⟨x, y, n, sx, sy, hn, rfl, rfl⟩ := hp
  obtain ⟨u, v, rfl, hx, hy⟩ := dats2 hd
  refine ⟨_, (pss_one (ps_ret (pe_cmpR op_lt (pe_op op_mulX (pe_ix ix_tup (pv 0) pe_int (fun _ _ => rfl)) (pe_ix ix_tup (pv 1) pe_int (fun _ _ => rfl))) (pe_op op_mulX (pe_ix ix_tup (pv 1) pe_int (fun _ _ => rfl)) (pe_ix ix_tup (pv 0) pe_int (fun _ _ => rfl))) (nomark _)))), ?_⟩
  have e0 := ed_var (i := 0) (σ := [some u, some v]) rfl hx
  have e1 := ed_var (i := 1) (σ := [some u, some v]) rfl hy
  refine q_retD (ed_lt (ed_mul (ed_top e0) (ed_bot e1) (mul_ok sx.1 sy.den' hn)) (ed_mul (ed_top e1) (ed_bot e0) (mul_ok sy.1 sx.den' hn))) (Same.refl _) fun r H1 s1 hr1 => ?_
  refine q r H1 _ s1 rfl ?_
  rw [show decide (x < y) = decide (x.num * (y.den : Int) < y.num * (x.den : Int)) from decide_eq_decide.mpr (Rat.lt_iff x y)]
  exact hr1
abbrev spFarL (K : PySem.W.Frag) : Sp := spP K 2 fun ds post => ∃ (x y : Rat) (n : Nat), Sz n x ∧ Sz n y ∧ n + 1 ≤ LIM ∧ ds = [fr x, fr y] ∧ post = fun d => d = fr (dist x y)
theorem dist_fr (x y : Rat) : fr (dist x y) = .tup [.int ((x - y).num.natAbs : Nat), .int (x - y).den] := by
  unfold dist
  by_cases h : x < y
  · rw [if_pos h]
    have e : y - x = -(x - y) := by grind
    have hn : (x - y).num ≤ 0 := by
      have : x - y ≤ 0 := by grind
      have h2 : 0 ≤ y - x := by grind
      rw [e] at h2
      have h3 := Rat.num_nonneg.mpr h2
      rw [Rat.neg_num] at h3
      omega
    rw [e]
    unfold fr
    rw [Rat.neg_num, Rat.neg_den]
    congr 3
    omega
  · rw [if_neg h]
    have h2 : 0 ≤ x - y := by grind
    have h3 := Rat.num_nonneg.mpr h2
    unfold fr
    congr 3
    omega
theorem ok_L_far (W : Wd P K mg base) (F : Df K mg "_law_far" s_L_far) (G_L_sum : C8.Cal P w K mg base 34 "_law_sum" (spSumL K) []) : C8.Cal P w K mg base 35 "_law_far" (spFarL K) [] := by
  refine cal_of F sc_L_far (fun _ _ _ _ _ _ us hl => match us, hl with | [_, _], _ => rfl) rfl fun f cdv A outer s H vs Q E ds post hr hp hd q => ?_
  obtain ⟨x, y, n, sx, sy, hn, rfl, rfl⟩ := hp
  obtain ⟨u, v, rfl, hx, hy⟩ := dats2 hd
  refine ⟨_, (pss_cons (ps_set (i := 2) sc_L_far.nd rfl (by first | exact Or.inl rfl | exact Or.inr rfl) (C8.pe_c G_L_sum hr (by omega) (by rfl) (pa_cons (pv 0) (pa_cons (pv 1) (pa_cons (pe_un un_neg pe_int) pa_nil)))))
    (pss_one (ps_ret (pe_tup (pa_cons (pe_callB call_abs (by rfl) W.abs b_abs (pa_cons (pe_ix ix_tup (pv 2) pe_int (fun _ _ => rfl)) pa_nil)) (pa_cons (pe_ix ix_tup (pv 2) pe_int (fun _ _ => rfl)) pa_nil)))))), ?_⟩
  refine q_setD (d := fr (x - y)) (ed_call (ea_cons (ed_var rfl hx) (ea_cons (ed_var rfl hy) (ea_cons (ed_neg (i := 1) ed_int) ea_nil))) ⟨x, y, n, -1, sx, sy, hn, .inr rfl, rfl, rfl⟩ rfl) (Same.refl _) fun z H1 s1 hz => ?_
  exact q_retD (ed_tup (ea_cons (ed_abs (ed_top (ed_var rfl hz))) (ea_cons (ed_bot (ed_var rfl hz)) ea_nil))) (Same.refl _) fun r H2 s2 h2 => q r H2 _ (s1.trans s2) rfl (by rw [dist_fr]; exact h2)
end
end Cb
set_option Elab.async false
set_option linter.all false
set_option maxRecDepth 100000
set_option maxHeartbeats 4000000
/-! walks of the law: sorted numbers, what a term tells -/
namespace Cb
open PySem PySem.Spec PyProof.Rows L2
theorem cut_sorted {x : Rat} : ∀ {ys : List Rat}, ys.Pairwise (· ≤ ·) → (∀ y ∈ ys.take (ys.filter fun y => !decide (x < y)).length, y ≤ x) ∧ ∀ y ∈ ys.drop (ys.filter fun y => !decide (x < y)).length, x ≤ y
  | [], _ => ⟨fun y hy => by simp at hy, fun y hy => by simp at hy⟩
  | y :: r, h => by
    obtain ⟨h1, h2⟩ := List.pairwise_cons.mp h
    obtain ⟨i1, i2⟩ := cut_sorted (x := x) h2
    by_cases c : x < y
    · have e : (y :: r).filter (fun y => !decide (x < y)) = [] := List.filter_eq_nil_iff.mpr fun z hz => by
        have : x < z := by
          rcases List.mem_cons.mp hz with rfl | hz
          · exact c
          · have := h1 z hz
            grind
        simp [this]
      rw [e]
      refine ⟨fun z hz => by simp at hz, fun z hz => ?_⟩
      have hz : z ∈ y :: r := by simpa using hz
      rcases List.mem_cons.mp hz with rfl | hz
      · grind
      · have := h1 z hz
        grind
    · have e : (y :: r).filter (fun y => !decide (x < y)) = y :: r.filter (fun y => !decide (x < y)) := by
        rw [List.filter_cons, if_pos (by simp [c])]
      rw [e, List.length_cons, List.take_succ_cons, List.drop_succ_cons]
      refine ⟨fun z hz => ?_, i2⟩
      rcases List.mem_cons.mp hz with rfl | hz
      · grind
      · exact i1 z hz
theorem atI_lastF {xs : List Rat} {x : Rat} (h : 0 < xs.length) (e : xs[xs.length - 1]? = some x) : atI (frs xs) (-1) = some (fr x) := by
  obtain ⟨G, y, rfl⟩ := snoc1 (F := xs) (fun z => by rw [z] at h; simp at h)
  have : y = x := by
    rw [List.length_append] at e
    simpa using e
  subst this
  unfold frs
  rw [List.map_append]
  exact atI_last _ _
abbrev seqD (b : Bool) (ds : List D) : D := if b = true then .lst ds else .tup ds
section
variable {K : PySem.W.Frag} {σ : L2.St} {H : Hp} {ta tb' : TE} {d : D}
theorem ed_ixS {b : Bool} {ds : List D} {i : Int} (ha : EvD K ta σ H (seqD b ds)) (hb : EvD K tb' σ H (.int i)) (hi : atI ds i = some d) : EvD K (tOp (rIx K) ta tb') σ H d :=
  ed_op ha hb fun x y H1 s hx hy Q q => by
    cases b with
    | true =>
      obtain ⟨a, xs, ex, sq, hd⟩ := hx
      obtain ⟨z, hz, hzd⟩ := hd.atI hi
      exact .inl ⟨a, xs, i, z, ex, hy, sq, hz, q _ _ (Same.refl _) hzd⟩
    | false =>
      obtain ⟨a, xs, ex, sq, hd⟩ := hx
      obtain ⟨z, hz, hzd⟩ := hd.atI hi
      exact .inr (.inl ⟨a, xs, i, z, ex, hy, sq, hz, q _ _ (Same.refl _) hzd⟩)
end
section
variable {P : Program} {w : World} {K : PySem.W.Frag} {mg : Str → Option Value} {base : Heap}
theorem ok_L_sorted (W : Wd P K mg base) (F : Df K mg "_law_sorted" s_L_sorted) (G_L_less : C8.Cal P w K mg base 33 "_law_less" (spLess K) []) : C8.Cal P w K mg base 34 "_law_sorted" (spAsc K) [] := by
  refine cal_of F sc_L_sorted (fun _ _ _ _ _ _ us hl => match us, hl with | [_], _ => rfl) rfl fun f cdv A outer s H vs Q E ds post hr hp hd q => ?_
  obtain ⟨xs, n, hz, sx, hn, rfl, rfl⟩ := hp
  obtain ⟨u, rfl, hu⟩ := dats1 hd
  refine ⟨_, (pss_cons (ps_set (i := 1) sc_L_sorted.nd rfl (by first | exact Or.inl rfl | exact Or.inr rfl) (pe_lst pa_nil))
    (pss_cons (ps_for PassesOwn.never rfl (pi_list (pv 0)) (pg_name (i := 2) sc_L_sorted.nd rfl (by first | exact Or.inl rfl | exact Or.inr rfl))
    (pss_cons (ps_set (i := 3) sc_L_sorted.nd rfl (by first | exact Or.inl rfl | exact Or.inr rfl) (pe_callB call_len_seq (by rfl) W.len b_len (pa_cons (pe_lc (own := [("_law_other", 4)]) (g := gName 4) rfl sc_L_sorted.nd (pi_list (pv 1)) (blkOk_by (N := n_L_sorted) (sc := defScope s_L_sorted) (by decide +kernel)) (fun _ _ _ _ _ => (pg_name (i := 4) sc_L_sorted.nd rfl (by first | exact Or.inl rfl | exact Or.inr rfl))) (fun _ _ _ _ _ => (pts_one (pt_not (pt_val (C8.pe_c G_L_less hr (by omega) (by rfl) (pa_cons (pv 2) (pa_cons (pv 4) pa_nil))))))) (fun _ _ _ _ _ => (pv 4))) pa_nil)))
    (pss_one (ps_expr (pe_bm PySem.F.plainAttrs_list PySem.F.slot_list_insert PySem.F.type_list_insert mt_insert (pv 1) (pa_cons (pv 3) (pa_cons (pv 2) pa_nil)))))))
    (pss_one (ps_ret (pv 1))))), ?_⟩
  refine ⟨Nat.zero_le _, fun p hp => ?_⟩
  refine q_forB (ei_list (vv_var rfl) hu) (same_upd hp) fun Hb H2 sb s2 hnp sb2 => ?_
  have hbp : Hb p = none := hnp p (by rw [upd_same]; exact fun z => nomatch z) hp
  refine ⟨fun i σ H' => ∃ y2 y3 ys acc, σ = [some u, some (.ref p), y2, y3, none] ∧ Same Hb H' ∧ H' p = some (.lst acc) ∧ Dats K H' (frs ys) acc ∧ ys.Perm (xs.take i) ∧ ys.Pairwise (· ≤ ·), ⟨none, none, [], [], rfl, sb2, s2 _ _ upd_same, Dats.nil, by simp, List.Pairwise.nil⟩, fun i σ H' ⟨_, _, _, _, _, h, _⟩ => h, ?_, ?_⟩
  · rintro i d x σ H3 H4 hi ⟨y2, y3, ys, acc, rfl, b1, ha, hacc, pm, so⟩ s4 hx
    obtain ⟨z, hz1, rfl⟩ := frs_get hi
    have zm : z ∈ xs := List.mem_of_getElem? hz1
    have ysm : ∀ y ∈ ys, y ∈ xs := fun y hy => List.mem_of_mem_take (pm.mem_iff.mp hy)
    have hil : i < xs.length := (List.getElem?_eq_some_iff.mp hz1).1
    have yl : ys.length = i := by rw [pm.length_eq, List.length_take]; omega
    have hp4 : H4 p = some (.lst acc) := s4 _ _ ha
    have dl : Dat K H4 (.lst (frs ys)) (.ref p) := ⟨p, acc, rfl, SqL.of hp4, Dats.same s4 hacc⟩
    obtain ⟨c1, c2⟩ := cut_sorted (x := z) so
    have kle : (ys.filter fun y => !decide (z < y)).length ≤ ys.length := List.length_filter_le _ _
    refine q_setD (d := .int ((ys.filter fun y => !decide (z < y)).length : Nat)) ((ed_lenL (ed_lcA (l := ys) (G := fr) (F := fr) (p := fun y => !decide (z < y)) (ei_list (vv_var rfl) dl) (fun _ => rfl) (fun _ _ => rfl) (by omega) (fun y v H5 hy s5 hv => ⟨et_not (et_val (ed_less (n := n) (ed_var rfl (Dat.same s5 hx)) (ed_var rfl hv) (sx _ zm) (sx _ (ysm y hy)) hn)), fun _ => ed_var rfl hv⟩) rfl)).to (by rw [List.length_map])) (Same.refl _) fun t H5 s5 ht => ?_
    obtain rfl : t = .int ((ys.filter fun y => !decide (z < y)).length : Nat) := ht
    generalize (ys.filter fun y => !decide (z < y)).length = k at c1 c2 kle
    have hp7 : H5 p = some (.lst acc) := s5 _ _ hp4
    have hx7 : Dat K H5 (fr z) x := Dat.same s5 hx
    have a7 := Dats.same (s4.trans s5) hacc
    refine ⟨.ref p, rfl, .inl ⟨rfl, _, SqL.of hp7⟩, _, rfl, _, rfl, p, acc, k, x, rfl, rfl, hp7, ?_, by omega, ?_, ?_⟩
    · rw [← a7.length, frs_len]
      exact small1M (by omega)
    · omega
    · have tk := tk_upd (o := HO.lst (acc.take k ++ [x] ++ acc.drop k)) hp7
      refine ⟨some x, some (.int k), ys.take k ++ [z] ++ ys.drop k, acc.take k ++ [x] ++ acc.drop k, rfl, fun b o e => ?_, ?_, ?_, ?_, ?_⟩
      · rw [upd_ne (ne_of_none e hbp)]
        exact s5 _ _ (s4 _ _ (b1 _ _ e))
      · rw [show ((k : Int)).toNat = k by omega]; exact upd_same
      · rw [frs_app, frs_app, ← frs_take, ← frs_drop]
        have nt : nls ((frs ys).take k) = true := nls_all fun d hd => nls_mem (nls_frs ys) (List.mem_of_mem_take hd)
        have nd : nls ((frs ys).drop k) = true := nls_all fun d hd => nls_mem (nls_frs ys) (List.mem_of_mem_drop hd)
        rw [show ((k : Int)).toNat = k by omega]
        exact ((Dats.tk tk nt (a7.take k)).append (.cons (Dat.tk tk rfl hx7) .nil)).append (Dats.tk tk nd (a7.drop k))
      · rw [mem_take_succ hz1]
        refine List.Perm.trans ?_ (pm.append_right [z])
        rw [List.append_assoc]
        refine List.Perm.trans (List.Perm.append_left _ List.perm_append_comm) ?_
        rw [← List.append_assoc, List.take_append_drop]
      · rw [List.append_assoc, List.pairwise_append]
        refine ⟨List.Pairwise.sublist (List.take_sublist k ys) so, List.pairwise_cons.mpr ⟨c2, List.Pairwise.sublist (List.drop_sublist k ys) so⟩, fun a ha b hb => ?_⟩
        have h1 := c1 a ha
        rcases List.mem_cons.mp hb with e | hb
        · rw [e]; exact h1
        · exact Rat.le_trans h1 (c2 b hb)
  · rintro σ H3 ⟨y2, y3, ys, acc, rfl, b1, ha, hacc, pm, so⟩
    rw [frs_len, List.take_length] at pm
    have e := srt_uniq pm so
    subst e
    exact ⟨.ref p, rfl, q _ H3 _ (sb.trans b1) rfl ⟨p, acc, rfl, SqL.of ha, hacc⟩⟩
abbrev preValL (d : Nat) : List D → (D → Prop) → Prop := fun ds post => ∃ (t : Term) (bs : List Rat) (Dn m : Nat) (b : Bool), Wf bs.length Dn d t ∧ (∀ x ∈ bs, Nm Dn x) ∧ 0 < Dn ∧ Dn * wp t < 2 ^ m ∧ m ≤ MX ∧ ds = [tD t, seqD b (frs bs)] ∧ post = fun e => e = fr (val (bN bs) t)
theorem ok_L_value (W : Wd P K mg base) (F : Df K mg "_law_value" s_L_value) (G_L_sum : C8.Cal P w K mg base 34 "_law_sum" (spSumL K) []) (G_L_product : C8.Cal P w K mg base 34 "_law_product" (spProdL K) []) (G_L_sorted : C8.Cal P w K mg base 34 "_law_sorted" (spAsc K) []) : ∀ d, C8.Cal P w K mg base (35 + d) "_law_value" (spP K 2 (preValL d)) []
  | 0 => by
    refine cal_of F sc_L_value (fun _ _ _ _ _ _ us hl => match us, hl with | [_, _], _ => rfl) rfl fun f cdv A outer s H vs Q E ds post hr hp hd q => ?_
    obtain ⟨t, bs, Dn, m, b, h, _⟩ := hp
    exact h.elim
  | d + 1 => by
    have G_L_value := ok_L_value W F G_L_sum G_L_product G_L_sorted d
    refine cal_of F sc_L_value (fun _ _ _ _ _ _ us hl => match us, hl with | [_, _], _ => rfl) rfl fun f cdv A outer s H vs Q E ds post hr hp hd q => ?_
    obtain ⟨t, bs, Dn, m, b, hw, hb, hD, hm, hmx, rfl, rfl⟩ := hp
    obtain ⟨u, v, rfl, hu, hv⟩ := dats2 hd
    have hr : Room (35 + d) (A.deeper (envOfC "_law_value" (defScope s_L_value) s.heap.objs.size f cdv)) := hr
    refine ⟨_, (pss_cons (ps_set (i := 2) sc_L_value.nd rfl (by first | exact Or.inl rfl | exact Or.inr rfl) (pe_ix ix_tup (pv 0) pe_int (fun _ _ => rfl)))
    (pss_cons (ps_if (pt_cmpR op_eq (pv 2) pe_str (nomark _)) (pss_one (ps_ret (pe_ix ix_seq (pv 1) (pe_ix ix_tup (pv 0) pe_int (fun _ _ => rfl)) (fun _ _ => rfl)))) pss_nil)
    (pss_cons (ps_if (pt_cmpR op_eq (pv 2) pe_str (nomark _)) (pss_one (ps_ret (pe_ix ix_tup (pv 0) pe_int (fun _ _ => rfl)))) pss_nil)
    (pss_cons (ps_if (pt_cmpR op_eq (pv 2) pe_str (nomark _)) (pss_cons (ps_set (i := 3) sc_L_value.nd rfl (by first | exact Or.inl rfl | exact Or.inr rfl) (pe_tup (pa_cons pe_int (pa_cons pe_int pa_nil))))
    (pss_cons (ps_for PassesOwn.never rfl (pi_tup (pe_ix ix_tup (pv 0) pe_int (fun _ _ => rfl))) (pg_tup rfl (pgs_cons (pg_name (i := 4) sc_L_value.nd rfl (by first | exact Or.inl rfl | exact Or.inr rfl)) (pgs_cons (pg_name (i := 5) sc_L_value.nd rfl (by first | exact Or.inl rfl | exact Or.inr rfl)) pgs_nil)))
    (pss_one (ps_set (i := 3) sc_L_value.nd rfl (by first | exact Or.inl rfl | exact Or.inr rfl) (C8.pe_c G_L_sum hr (by omega) (by rfl) (pa_cons (pv 3) (pa_cons (C8.pe_c G_L_product hr (by omega) (by rfl) (pa_cons (pe_tup (pa_cons (pv 4) (pa_cons pe_int pa_nil))) (pa_cons (C8.pe_c G_L_value hr (by omega) (by rfl) (pa_cons (pv 5) (pa_cons (pv 1) pa_nil))) pa_nil))) (pa_cons pe_int pa_nil)))))))
    (pss_one (ps_ret (C8.pe_c G_L_product hr (by omega) (by rfl) (pa_cons (pv 3) (pa_cons (pe_tup (pa_cons pe_int (pa_cons (pe_callB (cr_sum rfl) (by rfl) W.sum b_sum (pa_cons (pe_lc (own := [("_law_weight", 4), ("_law_part", 5)]) (g := gTup K 2 (gCons (gName 4) (gCons (gName 5) gNil))) (tt := tYes) rfl sc_L_value.nd (pi_tup (pe_ix ix_tup (pv 0) pe_int (fun _ _ => rfl))) (blkOk_by (N := n_L_value) (sc := defScope s_L_value) (by decide +kernel)) (fun _ _ _ _ _ => (pg_tupK rfl rfl (pgs_cons (pg_name (i := 4) sc_L_value.nd rfl (by first | exact Or.inl rfl | exact Or.inr rfl)) (pgs_cons (pg_name (i := 5) sc_L_value.nd rfl (by first | exact Or.inl rfl | exact Or.inr rfl)) pgs_nil)))) (fun _ _ _ _ _ => pts_nil) (fun _ _ _ _ _ => (pv 4))) pa_nil)) pa_nil))) pa_nil))))))) pss_nil)
    (pss_cons (ps_if (pt_cmpR op_eq (pv 2) pe_str (nomark _)) (pss_one (ps_ret (pe_ix ix_list (C8.pe_c G_L_sorted hr (by omega) (by rfl) (pa_cons (pe_lst (pa_cons (pe_ix ix_tup (pv 0) pe_int (fun _ _ => rfl)) (pa_cons (pe_ix ix_tup (pv 0) pe_int (fun _ _ => rfl)) (pa_cons (C8.pe_c G_L_value hr (by omega) (by rfl) (pa_cons (pe_ix ix_tup (pv 0) pe_int (fun _ _ => rfl)) (pa_cons (pv 1) pa_nil))) pa_nil)))) pa_nil)) pe_int (fun _ _ => rfl)))) pss_nil)
    (pss_cons (ps_set (i := 6) sc_L_value.nd rfl (by first | exact Or.inl rfl | exact Or.inr rfl) (C8.pe_c G_L_sorted hr (by omega) (by rfl) (pa_cons (pe_lc (own := [("_law_part", 5)]) (g := gName 5) (tt := tYes) rfl sc_L_value.nd (pi_tup (pe_ix ix_tup (pv 0) (pe_un un_neg pe_int) (fun _ _ => rfl))) (blkOk_by (N := n_L_value) (sc := defScope s_L_value) (by decide +kernel)) (fun _ _ _ _ _ => (pg_name (i := 5) sc_L_value.nd rfl (by first | exact Or.inl rfl | exact Or.inr rfl))) (fun _ _ _ _ _ => pts_nil) (fun _ _ _ _ _ => (C8.pe_c G_L_value hr (by omega) (by rfl) (pa_cons (pv 5) (pa_cons (pv 1) pa_nil))))) pa_nil)))
    (pss_cons (ps_if (pt_cmpR op_eq (pv 2) pe_str (nomark _)) (pss_one (ps_ret (pe_ix ix_list (pv 6) pe_int (fun _ _ => rfl)))) pss_nil)
    (pss_cons (ps_if (pt_cmpR op_eq (pv 2) pe_str (nomark _)) (pss_one (ps_ret (pe_ix ix_list (pv 6) (pe_un un_neg pe_int) (fun _ _ => rfl)))) pss_nil)
    (pss_one (ps_ret (pe_ix ix_list (pv 6) (pe_op op_sub (pe_callB call_len_seq (by rfl) W.len b_len (pa_cons (pv 6) pa_nil)) (pe_ix ix_tup (pv 0) pe_int (fun _ _ => rfl))) (fun _ _ => rfl)))))))))))), ?_⟩
    have hmx' : m ≤ 1000000 := hmx
    cases t with
    | bid p =>
      have hp : p < bs.length := hw
      refine q_setD (d := .str "bid") (ed_ixT (ed_var rfl hu) ed_int rfl) (Same.refl _) fun x H1 s1 hx => ?_
      obtain rfl : x = .str "bid" := hx
      refine q_if (b := true) (et_word (K := K) rfl (by decide +kernel)) (Same.refl _) (fun _ H2 s2 => ?_) (fun e => nomatch e)
      exact q_retD (ed_ixS (b := b) (ed_var rfl (Dat.same (s1.trans s2) hv)) (ed_ixT (d := .int (p : Nat)) (ed_var rfl (Dat.same (s1.trans s2) hu)) ed_int rfl) (atI_frs (bN_get hp))) (Same.refl _) fun r H3 s3 h3 => q r H3 _ ((s1.trans s2).trans s3) rfl h3
    | fix z =>
      refine q_setD (d := .str "fixed") (ed_ixT (ed_var rfl hu) ed_int rfl) (Same.refl _) fun x H1 s1 hx => ?_
      obtain rfl : x = .str "fixed" := hx
      refine q_if (b := false) (et_word (K := K) rfl (by decide +kernel)) (Same.refl _) (fun e => nomatch e) fun _ H2 s2 => ?_
      refine q_if (b := true) (et_word (K := K) rfl (by decide +kernel)) (Same.refl _) (fun _ H3 s3 => ?_) (fun e => nomatch e)
      exact q_retD (ed_ixT (d := fr z) (ed_var rfl (Dat.same ((s1.trans s2).trans s3) hu)) ed_int rfl) (Same.refl _) fun r H4 s4 h4 => q r H4 _ (((s1.trans s2).trans s3).trans s4) rfl h4
    | node o ts =>
      have hts := hw.2.2.2
      have hl8 := hw.2.1
      have hne := hw.1
      have part : ∀ (t' : Term), t' ∈ ts → ∀ {σ' : L2.St} {H' : Hp} {ta tb : TE}, EvD K ta σ' H' (tD t') → EvD K tb σ' H' (seqD b (frs bs)) → ∀ E', EvD K (tCall (spP K 2 (preValL d)) [] E' (tCons ta (tCons tb tNil))) σ' H' (fr (val (bN bs) t')) := fun t' ht' σ' H' ta tb ha hb' E' =>
        ed_call (ea_cons ha (ea_cons hb' ea_nil)) ⟨t', bs, Dn, m, b, hts t' ht', hb, hD, Nat.lt_of_le_of_lt (Nat.mul_le_mul_left _ (wp_le hw ht')) hm, hmx, rfl, rfl⟩ rfl
      have szv : SzL m (ts.map (val (bN bs))) := fun x hx => by
        obtain ⟨t', ht', rfl⟩ := List.mem_map.mp hx
        exact (val_nm hD (fun p hp => hb _ (bN_mem hp)) (hts t' ht')).sz (Nat.mul_pos hD (wp_pos (hts t' ht'))) (Nat.lt_of_le_of_lt (Nat.mul_le_mul_left _ (wp_le hw ht')) hm)
      have nums : ∀ {σ' : L2.St} {H' : Hp} {wi : TI} {E' : XK}, σ' = [some u, some v, σ'.getD 2 none, none, none, none, none] → Same H H' → EvI K wi σ' H' (ts.map tD) → EvD K (tLc wi (gName 5) tYes (tCall (spP K 2 (preValL d)) [] E' (tCons (tVar 5) (tCons (tVar 1) tNil))) [5]) σ' H' (.lst (frs (ts.map (val (bN bs))))) := fun {σ' H' wi E'} e sh hI => by
        rw [e] at hI ⊢
        refine ed_lcA (l := ts) (G := tD) (F := fun t' => fr (val (bN bs) t')) (p := fun _ => true) hI (fun x => rfl) (fun t' _ => rfl) (by omega) (fun t' x H1 ht' s1 hx => ⟨et_yes, fun _ => part t' ht' (ed_var rfl hx) (ed_var rfl (Dat.same (sh.trans s1) hv)) _⟩) ?_
        rw [filt_true]
        unfold frs
        rw [List.map_map]; rfl
      have lv : (ts.map (val (bN bs))).length = ts.length := List.length_map _
      have vne : ts.map (val (bN bs)) ≠ [] := fun e => hne (List.map_eq_nil_iff.mp e)
      have tpos : 0 < ts.length := List.length_pos_iff.mpr hne
      have hw3 := hw.2.2.1
      rw [val_node] at q
      have rkl : ∀ {i : Nat}, i < ts.length → (srt (ts.map (val (bN bs))))[i]? = some (rk (ts.map (val (bN bs))) i) := fun h => rk_get (by rw [lv]; exact h)
      cases o with
      | mean ws =>
        refine q_setD (d := .str "mean") (ed_ixT (ed_var rfl hu) ed_int rfl) (Same.refl _) fun x H1 s1 hx => ?_
        obtain rfl : x = .str "mean" := hx
        refine q_if (b := false) (et_word (K := K) rfl (by decide +kernel)) (Same.refl _) (fun e => nomatch e) fun _ H2 s2 => ?_
        refine q_if (b := false) (et_word (K := K) rfl (by decide +kernel)) (Same.refl _) (fun e => nomatch e) fun _ H3 s3 => ?_
        refine q_if (b := true) (et_word (K := K) rfl (by decide +kernel)) (Same.refl _) (fun _ H4 s4 => ?_) (fun e => nomatch e)
        have s04 := ((s1.trans s2).trans s3).trans s4
        have hz : (ws.zip ts).length ≤ 1000000 := by rw [List.length_zip]; omega
        have hu4 : Dat K H4 (.tup [.str "mean", .tup ((ws.zip ts).map fun p => D.tup [.int (p.1 : Nat), tD p.2])]) u := by
          rw [← mpD_zip, ← tDs_map]
          exact Dat.same s04 hu
        have hl := hw3.1
        refine q_setD (K := K) (d := fr 0) (ed_tup (ea_cons (ed_int (i := 0)) (ea_cons (ed_int (i := 1)) ea_nil))) (Same.refl _) fun wh H5 s5 hwh => ?_
        obtain ⟨y, hy, vy⟩ := vv_ixT (K := K) (ta := tVar 0) (tb := tC (.int 1)) (σ := [some u, some v, some (.str "mean"), some wh, none, none, none]) (i := 1) (vv_var rfl) (Dat.same s5 hu4) vv_c rfl
        refine q_forB (ei_tup vy hy) (Same.refl _) fun Hb H6 sb s6 _ sb6 => ?_
        have s05 := s04.trans s5
        refine ⟨fun i σ H' => ∃ y3 y4 y5, σ = [some u, some v, some (.str "mean"), some y3, y4, y5, none] ∧ Same Hb H' ∧ Dat K H' (fr (wpart ws (ts.map (val (bN bs))) i)) y3, ⟨wh, none, none, rfl, sb6, Dat.same s6 hwh⟩, fun i σ H' ⟨_, _, _, _, h, _⟩ => h, ?_, ?_⟩
        · rintro i dd z σ H7 H8 hi ⟨y3, y4, y5, rfl, b7, hy3⟩ s8 hzz
          rw [List.getElem?_map, Option.map_eq_some_iff] at hi
          obtain ⟨⟨wi, ti⟩, hwt, rfl⟩ := hi
          have hwt2 := hwt
          rw [List.getElem?_zip_eq_some] at hwt2
          obtain ⟨hwi, hti⟩ := hwt2
          refine g_tup2 hzz fun a1 a2 ha1 ha2 => ?_
          have s08 : Same H H8 := ((s05.trans sb).trans b7).trans s8
          have mt : ti ∈ ts := List.mem_of_getElem? hti
          have hxi : (ts.map (val (bN bs)))[i]? = some (val (bN bs) ti) := by rw [List.getElem?_map, hti]; rfl
          have szw := sz_nat (hw3.2 wi (List.mem_of_getElem? hwi)).2
          have szx := szv _ (List.mem_of_getElem? hxi)
          have szp := szw.mul szx
          have szt := wpart_sz (n := m) hw3.2 szv i
          have hil : i < ts.length := (List.getElem?_eq_some_iff.mp hti).1
          have hin : i * (m + 8) ≤ 7 * (m + 8) := Nat.mul_le_mul_right _ (by omega)
          refine q_set1 (ed_call (d := fr (wpart ws (ts.map (val (bN bs))) (i + 1))) (ea_cons (ed_var rfl (Dat.same s8 hy3)) (ea_cons (ed_bin (n := m + 7) (x := (wi : Rat)) (ed_tup (ea_cons (ed_var (d := .int (wi : Nat)) rfl ha1) (ea_cons ed_int ea_nil))) (part ti mt (ed_var rfl ha2) (ed_var rfl (Dat.same s08 hv)) _) (szw.mono (by omega)) (szx.mono (by omega)) (by unfold LIM; omega) trivial) (ea_cons ed_int ea_nil))) ⟨wpart ws (ts.map (val (bN bs))) i, (wi : Rat) * val (bN bs) ti, 8 * m + 100, 1, szt.mono (by omega), szp.mono (by omega), by unfold LIM; omega, .inl rfl, rfl, ?_⟩ rfl) (Same.refl _) fun t' H9 s9 ht' => ?_
          · rw [wpart_succ hwi hxi]; rfl
          · exact ⟨t', some a1, some a2, rfl, (b7.trans s8).trans s9, ht'⟩
        · rintro σ H7 ⟨y3, y4, y5, rfl, b7, hy3⟩
          rw [List.length_map, List.length_zip, hl, Nat.min_self, wpart_all (by rw [lv]; exact Nat.le_refl _)] at hy3
          have hS : 0 < ws.sum := sum_pos (fun e => hne (by rw [e] at hl; exact List.length_eq_zero_iff.mp hl.symm)) hw3.2
          have hS2 := wsum_bound hw3.2
          have szt : Sz (8 * m + 100) (wsum ws (ts.map (val (bN bs)))) := (wpart_all (ws := ws) (xs := ts.map (val (bN bs))) (Nat.le_refl _)) ▸ (wpart_sz hw3.2 szv _).mono (by
            have : (ts.map (val (bN bs))).length * (m + 8) ≤ 8 * (m + 8) := Nat.mul_le_mul_right _ (by rw [lv]; exact hl8)
            omega)
          have szd : Sz 10 (Rat.divInt 1 (ws.sum : Nat)) := Sz.of_divInt (by omega) (by decide) (by show ws.sum < 2 ^ 10; omega)
          have efr : fr (Rat.divInt 1 (ws.sum : Nat)) = .tup [.int 1, .int ((ws.sum : Nat) : Int)] := by
            have hne0 : ((ws.sum : Nat) : Int) ≠ 0 := by omega
            unfold fr
            rw [Rat.num_divInt, Rat.den_divInt, if_neg hne0, Int.gcd_one_right, Int.sign_eq_one_of_pos (by omega)]
            simp
          have s07 : Same H H7 := (s05.trans sb).trans b7
          obtain ⟨z, hz2, vz⟩ := vv_ixT (K := K) (ta := tVar 0) (tb := tC (.int 1)) (σ := [some u, some v, some (.str "mean"), some y3, y4, y5, none]) (i := 1) (vv_var rfl) (Dat.same ((s5.trans sb).trans b7) hu4) vv_c rfl
          have esum : EvD K (tCB (rSum K) (tCons (tLc (iTup K (tOp (rIxT K) (tVar 0) (tC (.int 1)))) (gTup K 2 (gCons (gName 4) (gCons (gName 5) gNil))) tYes (tVar 4) [4, 5]) tNil)) [some u, some v, some (.str "mean"), some y3, y4, y5, none] H7 (.int ((ws.sum : Nat) : Int)) := (ed_sum (ns := ws.map fun (w : Nat) => (w : Int)) (ed_lcA2 (l := ws.zip ts) (G := fun p => .tup [.int (p.1 : Nat), tD p.2]) (F := fun p => .int (p.1 : Nat)) (p := fun _ => true) (ei_tup vz hz2) (fun _ _ => rfl) (fun _ _ => rfl) hz (fun p H5 hp s5 => ⟨_, _, rfl, fun x y hx hy => ⟨et_yes, fun _ => ed_var rfl hx⟩⟩) (by
            rw [filt_true, List.map_map]
            have := List.map_fst_zip (l₁ := ws) (l₂ := ts) (by rw [hl]; exact Nat.le_refl _)
            conv => lhs; rw [← this]
            rw [List.map_map]; rfl))).to (by rw [sum_nats])
          refine q_retD (ed_bin (n := 8 * m + 100) (y := Rat.divInt 1 (ws.sum : Nat)) (ed_var rfl hy3) (by rw [efr]; exact ed_tup (ea_cons ed_int (ea_cons esum ea_nil))) szt (szd.mono (by omega)) (by unfold LIM; omega) trivial) (Same.refl _) fun r H8 s8 h8 => q r H8 _ (s07.trans s8) rfl h8
      | between lo hi =>
        obtain ⟨t0, rfl⟩ : ∃ t0, ts = [t0] := List.length_eq_one_iff.mp hw3.1
        refine q_setD (d := .str "between") (ed_ixT (ed_var rfl hu) ed_int rfl) (Same.refl _) fun x H1 s1 hx => ?_
        obtain rfl : x = .str "between" := hx
        refine q_if (b := false) (et_word (K := K) rfl (by decide +kernel)) (Same.refl _) (fun e => nomatch e) fun _ H2 s2 => ?_
        refine q_if (b := false) (et_word (K := K) rfl (by decide +kernel)) (Same.refl _) (fun e => nomatch e) fun _ H3 s3 => ?_
        refine q_if (b := false) (et_word (K := K) rfl (by decide +kernel)) (Same.refl _) (fun e => nomatch e) fun _ H4 s4 => ?_
        refine q_if (b := true) (et_word (K := K) rfl (by decide +kernel)) (Same.refl _) (fun _ H5 s5 => ?_) (fun e => nomatch e)
        have s05 := (((s1.trans s2).trans s3).trans s4).trans s5
        have hu5 : Dat K H5 (.tup [.str "between", fr lo, fr hi, tD t0]) u := Dat.same s05 hu
        have szb : ∀ {z : Rat}, Nm Dn z → Sz m z := fun hz => hz.sz hD (Nat.lt_of_le_of_lt (Nat.le_mul_of_pos_right _ (wp_pos hw)) hm)
        refine q_retD (ed_ixL (d := fr (rk [lo, hi, val (bN bs) t0] 1)) (ed_call (d := .lst (frs (srt [lo, hi, val (bN bs) t0]))) (ea_cons (ed_lst (ea_cons (ed_ixT (ed_var rfl hu5) ed_int rfl) (ea_cons (ed_ixT (ed_var rfl hu5) ed_int rfl) (ea_cons (part t0 (by simp) (ed_ixT (ed_var rfl hu5) ed_int rfl) (ed_var rfl (Dat.same s05 hv)) _) ea_nil)))) ea_nil)
          ⟨[lo, hi, val (bN bs) t0], m, by show 3 ≤ 900000; decide, ?_, by unfold LIM; omega, rfl, rfl⟩ rfl) ed_int (atI_frs (rk_get (i := 1) (by simp)))) (Same.refl _) fun r H6 s6 h6 => q r H6 _ (s05.trans s6) rfl h6
        intro a ha
        simp only [List.mem_cons, List.not_mem_nil, or_false] at ha
        rcases ha with rfl | rfl | rfl
        · exact szb hw3.2.1
        · exact szb hw3.2.2.1
        · exact szv _ (by simp)
      | least =>
        refine q_setD (d := .str "least") (ed_ixT (ed_var rfl hu) ed_int rfl) (Same.refl _) fun x H1 s1 hx => ?_
        obtain rfl : x = .str "least" := hx
        refine q_if (b := false) (et_word (K := K) rfl (by decide +kernel)) (Same.refl _) (fun e => nomatch e) fun _ H2 s2 => ?_
        refine q_if (b := false) (et_word (K := K) rfl (by decide +kernel)) (Same.refl _) (fun e => nomatch e) fun _ H3 s3 => ?_
        refine q_if (b := false) (et_word (K := K) rfl (by decide +kernel)) (Same.refl _) (fun e => nomatch e) fun _ H4 s4 => ?_
        refine q_if (b := false) (et_word (K := K) rfl (by decide +kernel)) (Same.refl _) (fun e => nomatch e) fun _ H5 s5 => ?_
        have s05 := (((s1.trans s2).trans s3).trans s4).trans s5
        have hu5 : Dat K H5 (.tup [.str "least", .tup (ts.map tD)]) u := by rw [← tDs_map]; exact Dat.same s05 hu
        obtain ⟨y, hy, vy⟩ := vv_ixT (K := K) (ta := tVar 0) (tb := tUn (rU fun i => .int (-i)) (tC (.int 1))) (σ := [some u, some v, some (.str "least"), none, none, none, none]) (i := -1) (vv_var rfl) hu5 vv_neg1 rfl
        refine q_setD (ed_call (d := .lst (frs (srt (ts.map (val (bN bs)))))) (ea_cons (nums rfl s05 (ei_tup vy hy)) ea_nil) ⟨ts.map (val (bN bs)), m, by rw [lv]; omega, szv, by unfold LIM; omega, rfl, rfl⟩ rfl) (Same.refl _) fun y2 H6 s6 hy2 => ?_
        refine q_if (b := true) (et_word (K := K) rfl (by decide +kernel)) (Same.refl _) (fun _ H7 s7 => ?_) (fun e => nomatch e)
        exact q_retD (ed_ixL (d := fr (rk (ts.map (val (bN bs))) 0)) (ed_var rfl (Dat.same s7 hy2)) ed_int (atI_frs (i := 0) (rkl tpos))) (Same.refl _) fun r H8 s8 h8 => q r H8 _ (((s05.trans s6).trans s7).trans s8) rfl h8
      | greatest =>
        refine q_setD (d := .str "greatest") (ed_ixT (ed_var rfl hu) ed_int rfl) (Same.refl _) fun x H1 s1 hx => ?_
        obtain rfl : x = .str "greatest" := hx
        refine q_if (b := false) (et_word (K := K) rfl (by decide +kernel)) (Same.refl _) (fun e => nomatch e) fun _ H2 s2 => ?_
        refine q_if (b := false) (et_word (K := K) rfl (by decide +kernel)) (Same.refl _) (fun e => nomatch e) fun _ H3 s3 => ?_
        refine q_if (b := false) (et_word (K := K) rfl (by decide +kernel)) (Same.refl _) (fun e => nomatch e) fun _ H4 s4 => ?_
        refine q_if (b := false) (et_word (K := K) rfl (by decide +kernel)) (Same.refl _) (fun e => nomatch e) fun _ H5 s5 => ?_
        have s05 := (((s1.trans s2).trans s3).trans s4).trans s5
        have hu5 : Dat K H5 (.tup [.str "greatest", .tup (ts.map tD)]) u := by rw [← tDs_map]; exact Dat.same s05 hu
        obtain ⟨y, hy, vy⟩ := vv_ixT (K := K) (ta := tVar 0) (tb := tUn (rU fun i => .int (-i)) (tC (.int 1))) (σ := [some u, some v, some (.str "greatest"), none, none, none, none]) (i := -1) (vv_var rfl) hu5 vv_neg1 rfl
        refine q_setD (ed_call (d := .lst (frs (srt (ts.map (val (bN bs)))))) (ea_cons (nums rfl s05 (ei_tup vy hy)) ea_nil) ⟨ts.map (val (bN bs)), m, by rw [lv]; omega, szv, by unfold LIM; omega, rfl, rfl⟩ rfl) (Same.refl _) fun y2 H6 s6 hy2 => ?_
        refine q_if (b := false) (et_word (K := K) rfl (by decide +kernel)) (Same.refl _) (fun e => nomatch e) fun _ H7 s7 => ?_
        refine q_if (b := true) (et_word (K := K) rfl (by decide +kernel)) (Same.refl _) (fun _ H8 s8 => ?_) (fun e => nomatch e)
        refine q_retD (ed_ixL (d := fr (rk (ts.map (val (bN bs))) (ts.length - 1))) (ed_var rfl (Dat.same (s7.trans s8) hy2)) (ed_neg ed_int) (atI_lastF (by rw [srt_len, lv]; exact tpos) (by rw [srt_len, lv]; exact rkl (by omega)))) (Same.refl _) fun r H9 s9 h9 => q r H9 _ ((((s05.trans s6).trans s7).trans s8).trans s9) ?_ h9
        show fr _ = fr (rk _ ((ts.map (val (bN bs))).length - 1))
        rw [lv]
      | ranked k =>
        refine q_setD (d := .str "ranked") (ed_ixT (ed_var rfl hu) ed_int rfl) (Same.refl _) fun x H1 s1 hx => ?_
        obtain rfl : x = .str "ranked" := hx
        refine q_if (b := false) (et_word (K := K) rfl (by decide +kernel)) (Same.refl _) (fun e => nomatch e) fun _ H2 s2 => ?_
        refine q_if (b := false) (et_word (K := K) rfl (by decide +kernel)) (Same.refl _) (fun e => nomatch e) fun _ H3 s3 => ?_
        refine q_if (b := false) (et_word (K := K) rfl (by decide +kernel)) (Same.refl _) (fun e => nomatch e) fun _ H4 s4 => ?_
        refine q_if (b := false) (et_word (K := K) rfl (by decide +kernel)) (Same.refl _) (fun e => nomatch e) fun _ H5 s5 => ?_
        have s05 := (((s1.trans s2).trans s3).trans s4).trans s5
        have hu5 : Dat K H5 (.tup [.str "ranked", .int (k : Nat), .tup (ts.map tD)]) u := by rw [← tDs_map]; exact Dat.same s05 hu
        obtain ⟨y, hy, vy⟩ := vv_ixT (K := K) (ta := tVar 0) (tb := tUn (rU fun i => .int (-i)) (tC (.int 1))) (σ := [some u, some v, some (.str "ranked"), none, none, none, none]) (i := -1) (vv_var rfl) hu5 vv_neg1 rfl
        refine q_setD (ed_call (d := .lst (frs (srt (ts.map (val (bN bs)))))) (ea_cons (nums rfl s05 (ei_tup vy hy)) ea_nil) ⟨ts.map (val (bN bs)), m, by rw [lv]; omega, szv, by unfold LIM; omega, rfl, rfl⟩ rfl) (Same.refl _) fun y2 H6 s6 hy2 => ?_
        refine q_if (b := false) (et_word (K := K) rfl (by decide +kernel)) (Same.refl _) (fun e => nomatch e) fun _ H7 s7 => ?_
        refine q_if (b := false) (et_word (K := K) rfl (by decide +kernel)) (Same.refl _) (fun e => nomatch e) fun _ H8 s8 => ?_
        have k1 := hw3.1
        have k2 := hw3.2
        refine q_retD (ed_ixL (d := fr (rk (ts.map (val (bN bs))) (ts.length - k))) (ed_var rfl (Dat.same (s7.trans s8) hy2)) (ed_sub (ed_lenL (ed_var rfl (Dat.same (s7.trans s8) hy2))) (ed_ixT (d := .int (k : Nat)) (ed_var rfl (Dat.same ((s6.trans s7).trans s8) hu5)) ed_int rfl)) (by
          rw [frs_len, srt_len, lv, show ((ts.length : Nat) : Int) - (k : Nat) = ((ts.length - k : Nat) : Int) by omega]
          exact atI_frs (rkl (by omega)))) (Same.refl _) fun r H9 s9 h9 => q r H9 _ ((((s05.trans s6).trans s7).trans s8).trans s9) ?_ h9
        show fr _ = fr (rk _ ((ts.map (val (bN bs))).length - k))
        rw [lv]
end
end Cb
set_option Elab.async false
set_option linter.all false
set_option maxRecDepth 100000
set_option maxHeartbeats 400000
/-! walks of the law: own rules for sets, sorted lists of tuples, list + list -/
namespace Cb
open PySem PySem.Spec PyProof.Rows L2
section
variable {X : Cx}
theorem catA_K {K : PySem.W.Frag} (h : X.K = K) : OpR X (binaryOp .Add) (rCatA K) := h ▸ op_catA
/-- set(a tuple of ints) -/
def rSetTI (K : PySem.W.Frag) (w : World) : List V → Hp → VK → Prop := fun vs H Q => ∃ (p : Addr) (ns : List Int), vs = [.ref p] ∧ SqT K H p (ns.map V.int) ∧ ns.length ≤ 1000 ∧ ∀ a c, H a = none → c ≤ ns.length → Q (.ref a) (upd H a (SetO w a (fun j => decide (j ∈ ns)) c))
theorem call_setTI (hc : X.calm = true) : CallR X (.type "set") (rSetTI X.K X.w) := by
  intro pins s σ H vs us Q I r h
  obtain ⟨p, ns, rfl, hp, hz, q⟩ := h
  rw [Vals.ref1 r]
  obtain ⟨its, rv, pt, _⟩ := I.tuple hp
  refine call_set_tupI ns (I.ok.hd hc) (show s.heap.IsTuple p its.toArray from pt) (ints_of_vals rv) (by unfold scanBound; omega) fun h' tk c R hcn k => ?_
  have ok : ObjOk X.prog X.w (upd H s.heap.objs.size (SetO X.w s.heap.objs.size (fun j => decide (j ∈ ns)) c)) h' s.heap.objs.size (SetO X.w s.heap.objs.size (fun j => decide (j ∈ ns)) c) :=
    ⟨R, let ⟨o, _, _, _, ho, _⟩ := R; ⟨o, ho⟩, fun _ _ r k => r.at k⟩
  exact ⟨.ref s.heap.objs.size, _, I.laid (t' := tk) k (Nat.le_refl _) ok, rfl, q _ c (I.hok.fresh (Nat.le_refl _)) hcn⟩
end
/-! ### lists of one's own -/
def EvL (K : PySem.W.Frag) (te : TE) (σ : L2.St) (H : Hp) (post : List D → Prop) : Prop :=
  ∀ H0, Same H H0 → ∀ Q : VK, (∀ p xs H' ds, Same H0 H' → H' p = some (.lst xs) → Dats K H' ds xs → post ds → Q (.ref p) H') → te σ H0 Q
section
variable {K : PySem.W.Frag} {σ : L2.St} {H : Hp} {te ta tb' : TE} {p1 p2 : List D → Prop}
theorem EvL.dd (h : EvL K te σ H p1) : EvP K te σ H (fun d => ∃ ds, d = .lst ds ∧ p1 ds) := fun H0 s Q q => h H0 s _ fun p xs H' ds s1 hp hd pd => q _ H' _ s1 ⟨ds, rfl, pd⟩ ⟨p, xs, rfl, SqL.of hp, hd⟩
theorem el_lst {t : TA} {ds : List D} (h : EvA K t σ H ds) (hz : ds.length ≤ 1000000) : EvL K (tLst t) σ H (fun e => e = ds) := fun H0 s Q q =>
  h H0 s _ fun vs H1 s1 hd => ⟨Nat.le_of_lt (small1M (by rw [← hd.length]; exact hz)), fun p hp => q p vs _ ds (s1.trans (same_upd hp)) upd_same (Dats.same (same_upd hp) hd) rfl⟩
theorem el_cat (ha : EvL K ta σ H p1) (hb : EvL K tb' σ H p2) (hz : ∀ ds es, p1 ds → p2 es → ds.length + es.length ≤ 1000000) : EvL K (tOp rCat ta tb') σ H (fun d => ∃ ds es, d = ds ++ es ∧ p1 ds ∧ p2 es) := fun H0 s Q q =>
  ha H0 s _ fun p xs H1 ds s1 hp hd pd => hb H1 (s.trans s1) _ fun r ys H2 es s2 hr he pe => ⟨p, r, xs, ys, rfl, rfl, s2 _ _ hp, hr, by
    have := small1M (hz ds es pd pe)
    rw [hd.length, he.length] at this
    omega, fun l hl => q l _ _ _ ((s1.trans s2).trans (same_upd hl)) upd_same (Dats.same (same_upd hl) ((Dats.same s2 hd).append he)) ⟨ds, es, rfl, pd, pe⟩⟩
variable {tt : TT}
/-- a list comprehension makes a list of one's own -/
theorem el_lcA {wi : TI} {tt : TT} {vs : List Nat} {j : Nat} {α : Type} {l : List α} {G F : α → D} {outs : List D} {p : α → Bool} (h : EvI K wi σ H (l.map G)) (hj : ∀ x, wipe ((wipe σ vs).set j (some x)) vs = wipe σ vs) (hn : ∀ d ∈ l, nl (F d) = true) (hz : l.length ≤ 1000000)
    (he : ∀ d x H1, d ∈ l → Same H H1 → Dat K H1 (G d) x → EvT tt ((wipe σ vs).set j (some x)) H1 (p d) ∧ (p d = true → EvD K te ((wipe σ vs).set j (some x)) H1 (F d))) (ho : outs = (l.filter p).map F) :
    EvL K (tLc wi (gName j) tt te vs) σ H (fun ds => ds = outs) := fun H0 s Q q =>
  h H0 s _ fun J H1 Hb s1 sb sb1 hp hW => fun D hD => by
    have hD0 : H D = none := (s.trans s1).free hD
    have hDb : Hb D = none := sb1.free hD
    subst ho
    -- the invariant: what is made so far
    refine ⟨fun i m H2 => m = l.length - i ∧ i ≤ l.length ∧ Same H1 H2 ∧ ∃ acc, H2 D = some (.lst acc) ∧ Dats K H2 (((l.take i).filter p).map F) acc, ⟨l.length, by simp, Nat.zero_le _, same_upd hD, [], upd_same, by simpa using Dats.nil⟩, ?_⟩
    rintro i m H2 ⟨rfl, hi, s2, acc, ha, hacc⟩
    obtain ⟨hgo, hst⟩ := hW H2 (sb1.trans s2)
    rw [List.length_map] at hst
    by_cases hlt : i < l.length
    · have hd := List.getElem?_eq_getElem hlt
      have hdG : (l.map G)[i]? = some (G l[i]) := by rw [List.getElem?_map, hd]; rfl
      obtain ⟨g1, g2⟩ := hgo i _ hdG
      refine .inr ⟨g1, _, fun H' w => ⟨l.length - (i + 1), by omega, rfl, hlt, w⟩, fun x H' y => ?_⟩
      obtain ⟨y1, y2⟩ := g2 x H' y
      have sH : Same H H' := ((s.trans s1).trans s2).trans y1
      obtain ⟨t1, t2⟩ := he _ x H' (List.getElem_mem hlt) sH y2
      refine ⟨hj x, t1 H' (Same.refl _) _ fun H3 s3 => ?_⟩
      have etk : l.take (i + 1) = l.take i ++ [l[i]] := by rw [List.take_succ, hd]; rfl
      have ha3 : H3 D = some (.lst acc) := s3 _ _ (y1 _ _ ha)
      have hacc3 := Dats.same (y1.trans s3) hacc
      cases hb : p l[i] with
      | true =>
        refine iteT (EvD.use (EvP.mono s3 (t2 hb)) (Same.refl _) fun u H4 s4 hu => ⟨acc, s4 _ _ ha3, ?_, ?_, acc ++ [u], upd_same, ?_⟩)
        · rw [← hacc.length, List.length_map]
          refine small1M ?_
          have := List.length_filter_le p (l.take i)
          rw [List.length_take] at this
          omega
        · intro b o e
          rw [upd_ne (ne_of_none e hD)]
          exact s4 _ _ (s3 _ _ (y1 _ _ (s2 _ _ e)))
        · have tk := tk_upd (o := HO.lst (acc ++ [u])) (s4 _ _ ha3)
          rw [etk, List.filter_append, List.map_append]
          have e1 : [l[i]].filter p = [l[i]] := by simp [hb]
          rw [e1]
          refine Dats.snoc (Dats.tk tk (nls_all fun z hz => ?_) (Dats.same s4 hacc3)) (Dat.tk tk (hn _ (List.getElem_mem hlt)) hu)
          obtain ⟨c, hc, rfl⟩ := List.mem_map.mp hz
          exact hn c (List.mem_of_mem_take (List.mem_filter.mp hc).1)
      | false =>
        refine iteF ⟨(s2.trans y1).trans s3, acc, ha3, ?_⟩
        rw [etk, List.filter_append, List.map_append]
        have e1 : [l[i]].filter p = [] := by simp [hb]
        rw [e1]
        simpa using hacc3
    · have e : i = l.length := by omega
      subst e
      refine .inl ⟨hst, q D acc H2 _ (s1.trans s2) ha ?_ rfl⟩
      rw [List.take_length] at hacc
      exact hacc
end
end Cb
set_option Elab.async false
set_option linter.all false
set_option maxRecDepth 100000
set_option maxHeartbeats 400000
/-! walks of the law: own rules for sorted lists of tuples -/
namespace Cb
open PySem PySem.Spec PyProof.Rows L2
section
variable {X : Cx}
/-- sorted(a list of at most one thing) -/
def rSort1 (K : PySem.W.Frag) : List V → Hp → VK → Prop := fun vs H Q => ∃ (a : Addr) (xs : List V), vs = [V.ref a] ∧ SqL K H a xs ∧ xs.length ≤ 1 ∧ ∀ p, H p = none → Q (.ref p) (upd H p (.lst xs))
theorem perm_le1 {α : Type} {a b : List α} (h : b.Perm a) (hl : a.length ≤ 1) : b = a := by
  cases a with
  | nil => exact h.eq_nil
  | cons x r =>
    have : r = [] := List.length_eq_zero_iff.mp (by simp at hl; simpa using hl)
    subst this
    exact List.perm_singleton.mp h
theorem cr_sort1 : CallR X (.builtin "sorted") (rSort1 X.K) := by
  intro pins s σ H vs us Q I r h
  obtain ⟨a, xs, rfl, hs, h1, q⟩ := h
  obtain ⟨its, rv, hl, hz⟩ := I.list hs
  rw [Vals.ref1 r]
  have hle : its.length ≤ 1 := by rw [← rv.length]; exact h1
  refine Srt.sorted_any hl.isList (by rw [← rv.length]; exact hz) (fun h2 => absurd h2 (by omega)) fun out ho => ?_
  have eo : out = its := perm_le1 ho hle
  subst eo
  obtain ⟨ep, he⟩ := PyProof.Rows.sortedAll_at s.heap out out.toArray
  exact ⟨.ref _, upd H (s.heap.objs.size + 1) (.lst xs), I.laid (t' := s.toks) (fun _ _ => PyProof.Rows.sortedAll_old) (Nat.le_succ _) ⟨hz, out, ep, rv, he⟩, rfl, q _ (I.hok.fresh (Nat.le_succ _))⟩
/-- .. of tuples of one length -/
def rSortA (K : PySem.W.Frag) : List V → Hp → VK → Prop := fun vs H Q => rSort1 K vs H Q ∨ ∃ d B, 1 ≤ d ∧ rSortU K d B vs H Q
theorem cr_sortA : CallR X (.builtin "sorted") (rSortA X.K) := by
  intro pins s σ H vs us Q I r h
  rcases h with h | ⟨d, B, hd, h⟩
  · exact cr_sort1 pins s σ H vs us Q I r h
  · exact cr_sortT hd pins s σ H vs us Q I r h
end
end Cb
set_option Elab.async false
set_option linter.all false
set_option maxRecDepth 100000
set_option maxHeartbeats 1000000
/-! walks of the law: corners, bids, who is left -/
namespace Cb
open PySem PySem.Spec PyProof.Rows L2
section
variable {K : PySem.W.Frag} {σ : L2.St} {H : Hp} {te ta tb' : TE}
theorem ed_catT {ds es : List D} (ha : EvD K ta σ H (.tup ds)) (hb : EvD K tb' σ H (.tup es)) (hz : ds.length + es.length ≤ 1000000) : EvD K (tOp (rCatA K) ta tb') σ H (.tup (ds ++ es)) :=
  ed_op ha hb fun x y H1 s ⟨a, xs, ex, sx, hx⟩ ⟨b, ys, ey, sy, hy⟩ Q q => by
    have l1 := hx.length
    have l2 := hy.length
    have := small1M hz
    refine ⟨a, b, xs, ys, ex, ey, sx, sy, by omega, fun e => ?_, fun _ e => ?_, fun _ _ p hp => q _ _ (same_upd hp) ⟨p, _, rfl, .inl (.inl upd_same), Dats.same (same_upd hp) (hx.append hy)⟩⟩
    · have : ds = [] := List.length_eq_zero_iff.mp (by rw [l1, e]; rfl)
      subst this
      exact q _ _ (Same.refl _) ⟨b, ys, rfl, sy, hy⟩
    · have : es = [] := List.length_eq_zero_iff.mp (by rw [l2, e]; rfl)
      subst this
      rw [List.append_nil] at q
      exact q _ _ (Same.refl _) ⟨a, xs, rfl, sx, hx⟩
end
theorem fr0 : fr 0 = .tup [.int 0, .int 1] := rfl
theorem fr1 : fr 1 = .tup [.int 1, .int 1] := rfl
section
variable {P : Program} {w : World} {K : PySem.W.Frag} {mg : Str → Option Value} {base : Heap}
abbrev cornL (n : Nat) (lot : List Nat) : List Rat := tb n fun i => if i ∈ lot then 1 else 0
abbrev spAtEnds (K : PySem.W.Frag) : Sp := spP K 2 fun ds post => ∃ (n : Nat) (lot : List Nat), n ≤ 900 ∧ ds = [.int (n : Nat), .tup (natsD lot)] ∧ post = fun d => d = .tup (frs (cornL n lot))
theorem ok_L_at_ends (W : Wd P K mg base) (F : Df K mg "_law_at_ends" s_L_at_ends) : C8.Cal P w K mg base 33 "_law_at_ends" (spAtEnds K) [] := by
  refine cal_of F sc_L_at_ends (fun _ _ _ _ _ _ us hl => match us, hl with | [_, _], _ => rfl) rfl fun f cdv A outer s H vs Q E ds post hr hp hd q => ?_
  obtain ⟨n, lot, hn, rfl, rfl⟩ := hp
  obtain ⟨u, v, rfl, hu, hv⟩ := dats2 hd
  obtain rfl : u = .int (n : Nat) := hu
  refine ⟨_, (pss_one (ps_ret (pe_callTy call_tuple_of (by rfl) W.tuple b_tuple (pa_cons (pe_lc (own := [("_law_person", 2)]) (g := gName 2) (tt := tYes) rfl sc_L_at_ends.nd (pi_range1 (by rfl) W.range (pa_cons (pv 0) pa_nil)) (blkOk_by (N := n_L_at_ends) (sc := defScope s_L_at_ends) (by decide +kernel)) (fun _ _ _ _ _ => (pg_name (i := 2) sc_L_at_ends.nd rfl (by first | exact Or.inl rfl | exact Or.inr rfl))) (fun _ _ _ _ _ => pts_nil) (fun _ _ _ _ _ => (pe_ifExp (pt_cmpR (in_K rfl) (pv 2) (pv 1) (by rfl)) (pe_tup (pa_cons pe_int (pa_cons pe_int pa_nil))) (pe_tup (pa_cons pe_int (pa_cons pe_int pa_nil)))))) pa_nil)))), ?_⟩
  refine q_retD (ed_tupOf (ed_lcA (l := List.range n) (G := fun (i : Nat) => D.int (0 + (i : Int))) (F := fun i => fr (if i ∈ lot then 1 else 0)) (p := fun _ => true) (outs := frs (cornL n lot)) (ei_range1 (n := n) (vv_var rfl) (by omega)) (fun _ => rfl) (fun _ _ => rfl) (by rw [List.length_range]; omega) (fun i x H1 hi s1 hx => ⟨et_yes, fun _ => ?_⟩) ?_)) (Same.refl _) fun r H1 s1 h1 => q r H1 _ s1 rfl h1
  · obtain rfl : x = .int (0 + (i : Int)) := hx
    refine ed_ifE (et_test (ed_inN (i := i) (lot := lot) (ed_var rfl (by show V.int _ = V.int _; congr 1; omega)) (ed_var rfl (Dat.same s1 hv)))) (fun e => ?_) (fun e => ?_)
    · rw [if_pos (of_decide_eq_true e)]
      exact ed_tup (ea_cons ed_int (ea_cons ed_int ea_nil))
    · rw [if_neg (of_decide_eq_false e)]
      exact ed_tup (ea_cons ed_int (ea_cons ed_int ea_nil))
  · rw [filt_true]
    unfold frs
    rw [List.map_map]; rfl
theorem corn_nm {Dn n : Nat} {lot : List Nat} : ∀ x ∈ cornL n lot, Nm Dn x := fun x hx => by
  obtain ⟨i, _, rfl⟩ := List.mem_map.mp hx
  split
  · exact nm1
  · exact nm0
abbrev spValL3 (K : PySem.W.Frag) : Sp := spP K 2 (preValL 3)
abbrev spCorner (K : PySem.W.Frag) : Sp := spP K 3 fun ds post => ∃ (n Dn m : Nat) (t : Term) (lot : List Nat), Tm n Dn m 3 t ∧ n ≤ 6 ∧ ds = [.int (n : Nat), tD t, .tup (natsD lot)] ∧ post = fun d => d = fr (val (bN (cornL n lot)) t)
theorem ok_L_corner (W : Wd P K mg base) (F : Df K mg "_law_corner" s_L_corner) (G_L_value : C8.Cal P w K mg base 38 "_law_value" (spValL3 K) []) (G_L_at_ends : C8.Cal P w K mg base 33 "_law_at_ends" (spAtEnds K) []) : C8.Cal P w K mg base 39 "_law_corner" (spCorner K) [] := by
  refine cal_of F sc_L_corner (fun _ _ _ _ _ _ us hl => match us, hl with | [_, _, _], _ => rfl) rfl fun f cdv A outer s H vs Q E ds post hr hp hd q => ?_
  obtain ⟨n, Dn, m, t, lot, T, hn, rfl, rfl⟩ := hp
  obtain ⟨u, v, x, rfl, hu, hv, hx⟩ := dats3 hd
  refine ⟨_, (pss_one (ps_ret (C8.pe_c G_L_value hr (by omega) (by rfl) (pa_cons (pv 1) (pa_cons (C8.pe_c G_L_at_ends hr (by omega) (by rfl) (pa_cons (pv 0) (pa_cons (pv 2) pa_nil))) pa_nil))))), ?_⟩
  exact q_retD (ed_call (ea_cons (ed_var rfl hv) (ea_cons (ed_call (d := .tup (frs (cornL n lot))) (ea_cons (ed_var rfl hu) (ea_cons (ed_var rfl hx) ea_nil)) ⟨n, lot, by omega, rfl, rfl⟩ rfl) ea_nil)) ⟨t, cornL n lot, Dn, m, false, by rw [tb_len]; exact T.wf, corn_nm, T.pos, T.sz, T.hm, rfl, rfl⟩ rfl) (Same.refl _) fun r H1 s1 h1 => q r H1 _ s1 rfl h1
end
end Cb
set_option Elab.async false
set_option linter.all false
set_option maxRecDepth 100000
set_option maxHeartbeats 1000000
/-! walks of the law: who is left, bids -/
namespace Cb
open PySem PySem.Spec PyProof.Rows L2
theorem slA_K {X : Cx} {K : PySem.W.Frag} (h : X.K = K) : SlR X (rSlA K) := h ▸ sl_tupA
def asc (n : Nat) (sch : List Nat) : List Nat := (List.range n).filter fun i => decide (i ∈ sch)
theorem mem_asc {n : Nat} {sch : List Nat} (h : ∀ p ∈ sch, p < n) {i : Nat} : i ∈ asc n sch ↔ i ∈ sch := by
  unfold asc
  rw [List.mem_filter, List.mem_range, decide_eq_true_eq]
  exact ⟨fun z => z.2, fun z => ⟨h i z, z⟩⟩
theorem asc_uniq {n : Nat} {sch : List Nat} (h : ∀ p ∈ sch, p < n) {ns : List Int} (so : ns.Pairwise (· < ·)) (hm : ∀ k : Int, k ∈ ns ↔ k ∈ sch.map fun (p : Nat) => (p : Int)) : ns = (asc n sch).map fun (p : Nat) => (p : Int) := by
  have so2 : ((asc n sch).map fun (p : Nat) => (p : Int)).Pairwise (· < ·) := by
    rw [List.pairwise_map]
    refine (List.Pairwise.filter _ List.pairwise_lt_range).imp fun h => by omega
  have pm : ns.Perm ((asc n sch).map fun (p : Nat) => (p : Int)) := by
    rw [List.perm_ext_iff_of_nodup (so.imp fun h => by omega) (so2.imp fun h => by omega)]
    intro k
    rw [hm, List.mem_map, List.mem_map]
    constructor
    · rintro ⟨p, hp, rfl⟩; exact ⟨p, (mem_asc h).mpr hp, rfl⟩
    · rintro ⟨p, hp, rfl⟩; exact ⟨p, (mem_asc h).mp hp, rfl⟩
  exact pm.eq_of_pairwise (le := fun a b : Int => a < b) (fun a b _ _ h1 h2 => absurd h1 (by omega)) so so2
theorem ei_sortedSet {w : World} {K : PySem.W.Frag} {σ : L2.St} {H : Hp} {te : TE} {v : V} {n : Nat} {sch : List Nat} (h : EvV te σ H v) (hd : Dat K H (.tup (natsD sch)) v) (hs : ∀ p ∈ sch, p < n) (hz : sch.length < 64) :
    EvI K (iList K (tCB (rSortedSet w) (tCons (tCB (rSetTI K w) (tCons te tNil)) tNil))) σ H (natsD (asc n sch)) := fun H0 s R r => by
  obtain ⟨a, xs, rfl, sq, hx⟩ := hd
  rw [natsD_ints] at hx
  have ex := Dats.ints_inv hx
  subst ex
  refine h H0 s _ ⟨a, _, rfl, sqT_same s sq, by simp; omega, fun b c hb hc => ⟨b, _, c, rfl, upd_same, by rw [List.length_map] at hc; omega, fun ns p so hm _ hp => ?_⟩⟩
  have hpb : p ≠ b := fun e => by rw [e, upd_same] at hp; cases hp
  have hp0 : H0 p = none := by rw [upd_ne hpb] at hp; exact hp
  have hpH : H p = none := s.free hp0
  have en := asc_uniq hs so fun k => by rw [hm, decide_eq_true_eq]
  subst en
  refine ⟨p, rfl, ⟨_, SqL.of upd_same⟩, r _ _ (upd H p (.lst (((asc n sch).map fun (p : Nat) => (p : Int)).map V.int))) ((same_upd hb).trans (same_upd hp)) (same_upd hpH) (same_upd2 (s.trans (same_upd hb))) (fun p' h1 h2 => ?_) (walks_list (SqL.of upd_same) (by rw [natsD_ints]; exact Dats.ints _))⟩
  rw [upd_ne (fun e => h1 (by rw [e]; exact hp0))]
  exact h2
section
variable {P : Program} {w : World} {K : PySem.W.Frag} {mg : Str → Option Value} {base : Heap}
theorem ed_cutFrom {σ : L2.St} {H : Hp} {te ta : TE} {ds : List D} {k : Nat} (h : EvD K te σ H (.tup ds)) (hk : EvV ta σ H (.int (k : Nat))) : EvD K (tSl (rSlA K) te (tPart ta) tNoPart) σ H (.tup (ds.drop k)) := EvD.mk fun H0 s Q q =>
  h.use s fun x H1 s1 ⟨a, xs, e, sq, hx⟩ => hk H1 (s.trans s1) _ ⟨k, rfl, a, xs, e, sq, fun hw => by
    have e : k = 0 ∨ xs = [] := by
      have h0 := hw.1
      rw [show HT.sIx xs.length 0 (some (k : Int)) = min k xs.length from HT.sIx_nat xs.length 0 k] at h0
      rcases Nat.eq_zero_or_pos k with z | z
      · exact .inl z
      · exact .inr (List.length_eq_zero_iff.mp (by omega))
    have e2 : ds.drop k = ds := by
      rcases e with e | e
      · rw [e]; exact List.drop_zero
      · have : ds = [] := List.length_eq_zero_iff.mp (by rw [hx.length, e]; rfl)
        rw [this]; simp
    rw [e2] at q
    exact q _ H1 s1 ⟨a, xs, rfl, sq, hx⟩, fun _ p hp => by
    rw [cutV_from]
    exact q _ _ (s1.trans (same_upd hp)) ⟨p, _, rfl, .inl (.inl upd_same), Dats.same (same_upd hp) (hx.drop k)⟩⟩
abbrev spLaterLw (K : PySem.W.Frag) : Sp := spP K 2 fun ds post => ∃ (n : Nat) (sch : List Nat) (k : Nat), (∀ p ∈ sch, p < n) ∧ n ≤ 900 ∧ sch.length < 64 ∧ ds = [.tup (natsD sch), .int (k : Nat)] ∧ post = fun d => d = .lst (natsD ((asc n sch).filter fun i => decide (i ∈ sch.drop k)))
theorem ok_L_later (W : Wd P K mg base) (F : Df K mg "_law_later" s_L_later) : C8.Cal P w K mg base 33 "_law_later" (spLaterLw K) [] := by
  refine cal_of F sc_L_later (fun _ _ _ _ _ _ us hl => match us, hl with | [_, _], _ => rfl) rfl fun f cdv A outer s H vs Q E ds post hr hp hd q => ?_
  obtain ⟨n, sch, k, hs, hn, hz, rfl, rfl⟩ := hp
  obtain ⟨u, v, rfl, hu, hv⟩ := dats2 hd
  obtain rfl : v = .int (k : Nat) := hv
  refine ⟨_, (pss_one (ps_ret (pe_lc (own := [("_law_person", 2)]) (g := gName 2) rfl sc_L_later.nd (pi_list (pe_callB (cr_sortedSet rfl) (by rfl) W.sorted b_sorted (pa_cons (pe_callTy (call_setTI rfl) (by rfl) W.set b_set (pa_cons (pv 0) pa_nil)) pa_nil))) (blkOk_by (N := n_L_later) (sc := defScope s_L_later) (by decide +kernel)) (fun _ _ _ _ _ => (pg_name (i := 2) sc_L_later.nd rfl (by first | exact Or.inl rfl | exact Or.inr rfl))) (fun _ _ _ _ _ => (pts_one (pt_cmpR (in_K rfl) (pv 2) (pe_slice (slA_K rfl) (pv 0) (po_some (pv 1)) po_none) (by rfl)))) (fun _ _ _ _ _ => (pv 2))))), ?_⟩
  have hl : (asc n sch).length ≤ n := by
    have := List.length_filter_le (fun i => decide (i ∈ sch)) (List.range n)
    rw [List.length_range] at this
    exact this
  refine q_retD (ed_lcA (l := asc n sch) (G := fun (i : Nat) => D.int (i : Int)) (F := fun (i : Nat) => D.int (i : Int)) (p := fun i => decide (i ∈ sch.drop k)) (ei_sortedSet (vv_var rfl) hu hs hz) (fun _ => rfl) (fun _ _ => rfl) (by omega) (fun i x H1 hi s1 hx => ⟨?_, fun _ => ed_var rfl hx⟩) rfl) (Same.refl _) fun r H1 s1 h1 => q r H1 _ s1 rfl h1
  refine et_test (ed_inN (i := i) (lot := sch.drop k) (ed_var rfl hx) ?_)
  rw [show natsD (sch.drop k) = (natsD sch).drop k by unfold natsD; rw [List.map_drop]]
  exact ed_cutFrom (ed_var rfl (Dat.same s1 hu)) (vv_var rfl)
end
end Cb
set_option Elab.async false
set_option linter.all false
set_option maxRecDepth 100000
set_option maxHeartbeats 1000000
/-! walks of the law: bids -/
namespace Cb
open PySem PySem.Spec PyProof.Rows L2
theorem dats_repD {K : PySem.W.Frag} {H : Hp} {d : D} {v : V} (h : Dat K H d v) : ∀ n : Nat, Dats K H (List.replicate n d) (List.replicate n v)
  | 0 => Dats.nil
  | n + 1 => by
    rw [List.replicate_succ, List.replicate_succ]
    exact .cons h (dats_repD h n)
section
variable {P : Program} {w : World} {K : PySem.W.Frag} {mg : Str → Option Value} {base : Heap}
abbrev spBidsL (K : PySem.W.Frag) : Sp := spP K 3 fun ds post => ∃ (n : Nat) (sch : List Nat) (pl : List Rat), n ≤ 900 ∧ (∀ p ∈ sch, p < n) ∧ pl.length ≤ sch.length ∧ pl.length ≤ 900 ∧ ds = [.int (n : Nat), .tup (natsD sch), .tup (frs pl)] ∧ post = fun d => d = .tup (frs (bidsOf n sch pl))
theorem ok_L_bids (W : Wd P K mg base) (F : Df K mg "_law_bids" s_L_bids) : C8.Cal P w K mg base 33 "_law_bids" (spBidsL K) [] := by
  refine cal_of F sc_L_bids (fun _ _ _ _ _ _ us hl => match us, hl with | [_, _, _], _ => rfl) rfl fun f cdv A outer s H vs Q E ds post hr hp hd q => ?_
  obtain ⟨n, sch, pl, hn, hs, hl, hpl, rfl, rfl⟩ := hp
  obtain ⟨u, v, x, rfl, hu, hv, hx⟩ := dats3 hd
  obtain rfl : u = .int (n : Nat) := hu
  refine ⟨_, (pss_cons (ps_set (i := 3) sc_L_bids.nd rfl (by first | exact Or.inl rfl | exact Or.inr rfl) (pe_op op_rep (pe_lst (pa_cons (pe_tup (pa_cons pe_int (pa_cons pe_int pa_nil))) pa_nil)) (pv 0)))
    (pss_cons (ps_for PassesOwn.never rfl (pi_range1 (by rfl) W.range (pa_cons (pe_callB call_len_seq (by rfl) W.len b_len (pa_cons (pv 2) pa_nil)) pa_nil)) (pg_name (i := 4) sc_L_bids.nd rfl (by first | exact Or.inl rfl | exact Or.inr rfl))
    (pss_one (ps_asg (pe_ix ix_tup (pv 2) (pv 4) (fun _ _ => rfl)) (pg_sub (pv 3) (pe_ix ix_tup (pv 1) (pv 4) (fun _ _ => rfl)) set_list))))
    (pss_one (ps_ret (pe_callTy call_tuple_of (by rfl) W.tuple b_tuple (pa_cons (pv 3) pa_nil)))))), ?_⟩
  -- [(0, 1)] * n
  refine ⟨by show 2 ≤ sizeLine; decide, fun z hz => ?_⟩
  refine ⟨by show 1 ≤ sizeLine; decide, fun l hl' => ?_⟩
  have s0 : Same H (upd (upd H z (.tup [.int 0, .int 1])) l (.lst [.ref z])) := (same_upd hz).trans (same_upd hl')
  refine ⟨.int (n : Nat), rfl, l, n, [.ref z], rfl, rfl, upd_same, by omega, by omega, Nat.le_of_lt (small1M (by show 1 * (n : Int).toNat ≤ _; omega)), fun p hp => ?_⟩
  have hpH : H p = none := s0.free hp
  rw [show (n : Int).toNat = n by omega, rep_flat]
  have dz : ∀ {H' : Hp}, Same (upd H z (.tup [.int 0, .int 1])) H' → Dat K H' (fr 0) (.ref z) := fun s => ⟨z, [.int 0, .int 1], rfl, .inl (.inl (s _ _ upd_same)), .cons rfl (.cons rfl .nil)⟩
  have hEv : EvV (tCB (fun xs H Q => ∃ p ys, xs = [.ref p] ∧ (SqL K H p ys ∨ SqT K H p ys) ∧ Q (.int ys.length) H) (tCons (tVar 2) tNil)) [some (.int (n : Nat)), some v, some x, some (.ref p), none] H (.int (pl.length : Nat)) := (vv_lenT (vv_var rfl) hx).to (by rw [frs_len])
  refine q_forB (K := K) (ei_range1 (n := pl.length) hEv (by omega)) (s0.trans (same_upd hp)) fun Hb H2 sb s2 hnp sb2 => ?_
  have hbp : Hb p = none := hnp p (by rw [upd_same]; exact fun z => nomatch z) hpH
  have d0 : Dats K H2 (frs (List.replicate n 0)) (List.replicate n (V.ref z)) := by
    unfold frs
    rw [List.map_replicate]
    exact dats_repD (dz (((same_upd hl').trans (same_upd hp)).trans s2)) n
  refine ⟨fun i σ H' => ∃ y4 acc, σ = [some (.int (n : Nat)), some v, some x, some (.ref p), y4] ∧ Same Hb H' ∧ H' p = some (.lst acc) ∧ Dats K H' (frs (((sch.zip pl).take i).foldl (fun f p => f.set p.1 p.2) (List.replicate n 0))) acc, ⟨none, _, rfl, sb2, s2 _ _ upd_same, d0⟩, fun i σ H' ⟨_, _, _, h, _⟩ => h, ?_, ?_⟩
  · rintro i d y σ H3 H4 hi ⟨y4, acc, rfl, b1, ha, hacc⟩ s4 hy
    obtain ⟨hil, rfl⟩ := rangeD_get hi
    obtain rfl : y = .int (0 + (i : Int)) := hy
    have hp1 := List.getElem?_eq_getElem hil
    have hs1 := List.getElem?_eq_getElem (l := sch) (i := i) (by omega)
    generalize pl[i] = t' at hp1
    generalize sch[i] = k at hs1
    have hkn : k < n := hs k (List.mem_of_getElem? hs1)
    have s04 : Same H H4 := (sb.trans b1).trans s4
    have e0 : (0 : Int) + (i : Nat) = ((i : Nat) : Int) := by omega
    refine EvD.use (ed_ixT (d := fr t') (σ := [some (.int (n : Nat)), some v, some x, some (.ref p), some (.int (0 + (i : Int)))]) (ed_var rfl (Dat.same s04 hx)) (ed_var (d := .int (0 + (i : Int))) rfl rfl) (by rw [e0]; exact atI_frs hp1)) (Same.refl _) fun bv H5 s5 hbv => ?_
    refine ⟨_, rfl, EvD.use (ed_ixT (d := .int (k : Nat)) (ed_var rfl (Dat.same (s04.trans s5) hv)) (ed_var (d := .int (0 + (i : Int))) rfl rfl) (by rw [e0]; exact atI_nat (by unfold natsD; rw [List.getElem?_map, hs1]; rfl))) (Same.refl _) fun iv H6 s6 hiv => ?_⟩
    have ha6 : H6 p = some (.lst acc) := s6 _ _ (s5 _ _ (s4 _ _ ha))
    have lacc : acc.length = n := by rw [← hacc.length, frs_len, foldl_set_len, List.length_replicate]
    refine ⟨p, acc, k, k, rfl, hiv, ha6, ixN_nat (by omega), some (.int (0 + (i : Int))), acc.set k bv, rfl, fun b o e => ?_, upd_same, ?_⟩
    · rw [upd_ne (ne_of_none e hbp)]
      exact s6 _ _ (s5 _ _ (s4 _ _ (b1 _ _ e)))
    · have tk := tk_upd (o := HO.lst (acc.set k bv)) ha6
      have hz2 : (sch.zip pl)[i]? = some (k, t') := by rw [List.getElem?_zip_eq_some]; exact ⟨hs1, hp1⟩
      rw [List.take_succ, hz2, List.foldl_append]
      show Dats K _ (frs (List.set _ k t')) _
      unfold frs at hacc ⊢
      rw [List.map_set]
      exact Dats.set k (Dats.tk tk (nls_map fun _ => rfl) (Dats.same ((s4.trans s5).trans s6) hacc)) (Dat.tk tk rfl (Dat.same s6 hbv))
  · rintro σ H3 ⟨y4, acc, rfl, b1, ha, hacc⟩
    rw [rangeD_len, show (sch.zip pl).take pl.length = sch.zip pl from List.take_of_length_le (by rw [List.length_zip]; omega)] at hacc
    exact q_retD (ed_tupOf (ed_var (d := .lst (frs (bidsOf n sch pl))) rfl ⟨p, acc, rfl, SqL.of ha, hacc⟩)) (Same.refl _) fun r H4 s4 h4 => q r H4 _ ((sb.trans b1).trans s4) rfl h4
end
end Cb
set_option Elab.async false
set_option linter.all false
set_option maxRecDepth 100000
set_option maxHeartbeats 1000000
/-! walks of the law: lots -/
namespace Cb
open PySem PySem.Spec PyProof.Rows L2
abbrev lotT (T : List Nat) : D := .tup (natsD T)
theorem dats_perm {K : PySem.W.Frag} {H : Hp} {ys xs : List V} (p : ys.Perm xs) : ∀ {ds : List D}, Dats K H ds xs → ∃ es, es.Perm ds ∧ Dats K H es ys := by
  induction p with
  | nil => intro ds h; exact ⟨ds, List.Perm.refl _, h⟩
  | cons x _ ih =>
    intro ds h
    cases ds with
    | nil => cases h
    | cons d r =>
      obtain ⟨y, yr, e, h1, h2⟩ := h
      cases e
      obtain ⟨es, p, h3⟩ := ih h2
      exact ⟨d :: es, p.cons d, .cons h1 h3⟩
  | swap x y l =>
    intro ds h
    cases ds with
    | nil => cases h
    | cons d r =>
      obtain ⟨a, ar, e, h1, h2⟩ := h
      cases e
      cases r with
      | nil => cases h2
      | cons c r =>
        obtain ⟨b, br, e, h3, h4⟩ := h2
        cases e
        exact ⟨c :: d :: r, List.Perm.swap _ _ _, .cons h3 (.cons h1 h4)⟩
  | trans _ _ i1 i2 =>
    intro ds h
    obtain ⟨es, p, h2⟩ := i2 h
    obtain ⟨fs, p2, h3⟩ := i1 h2
    exact ⟨fs, p2.trans p, h3⟩
theorem perm_map_inv {α β : Type} {f : α → β} : ∀ {es : List β} {l : List α}, es.Perm (l.map f) → ∃ l' : List α, l'.Perm l ∧ es = l'.map f := by
  intro es l h
  generalize hm : l.map f = m at h
  induction h generalizing l with
  | nil =>
    have := List.map_eq_nil_iff.mp hm
    subst this
    exact ⟨[], List.Perm.refl _, rfl⟩
  | @cons x l₁ l₂ h ih =>
    cases l with
    | nil => cases hm
    | cons a r =>
      rw [List.map_cons, List.cons.injEq] at hm
      obtain ⟨l', p, e⟩ := ih hm.2
      exact ⟨a :: l', p.cons a, by rw [List.map_cons, hm.1, e]⟩
  | @swap x y l₁ =>
    match l, hm with
    | a :: b :: r, hm =>
      simp only [List.map_cons, List.cons.injEq] at hm
      exact ⟨b :: a :: r, List.Perm.swap _ _ _, by rw [List.map_cons, List.map_cons, hm.1, hm.2.1, hm.2.2]⟩
  | trans _ _ i1 i2 =>
    obtain ⟨l2, p2, e2⟩ := i2 hm
    obtain ⟨l1, p1, e1⟩ := i1 e2.symm
    exact ⟨l1, p1.trans p2, e1⟩
section
variable {K : PySem.W.Frag} {σ : L2.St} {H : Hp} {te : TE}
theorem el_sorted {L : List (List Nat)} {d : Nat} (h : EvL K te σ H (fun ds => ds = L.map lotT)) (hz : L.length < 64) (hd : ∀ T ∈ L, T.length = d ∧ ∀ p ∈ T, p < 64) (h0 : d = 0 → L.length ≤ 1) : EvL K (tCB (rSortA K) (tCons te tNil)) σ H (fun ds => ∃ L' : List (List Nat), L'.Perm L ∧ ds = L'.map lotT) := fun H0 s Q q =>
  h H0 s _ fun p xs H1 ds s1 hp hx hds => by
    subst hds
    have lx : xs.length = L.length := by rw [← hx.length, List.length_map]
    by_cases hd0 : d = 0
    · exact .inl ⟨p, xs, rfl, SqL.of hp, by rw [lx]; exact h0 hd0, fun r hr => q r xs _ _ (s1.trans (same_upd hr)) upd_same (Dats.same (same_upd hr) hx) ⟨L, List.Perm.refl _, rfl⟩⟩
    · refine .inr ⟨d, 64, by omega, p, xs, rfl, SqL.of hp, by rw [lx]; exact hz, fun x hxm => ?_, fun ys r pm _ hr => ?_⟩
      · obtain ⟨i, hi, rfl⟩ := List.mem_iff_getElem.mp hxm
        obtain ⟨e, he, hde⟩ := hx.getV (List.getElem?_eq_getElem hi)
        rw [List.getElem?_map, Option.map_eq_some_iff] at he
        obtain ⟨T, hT, rfl⟩ := he
        obtain ⟨t, zs, ev, sq, hzs⟩ := hde
        rw [natsD_ints] at hzs
        have := Dats.ints_inv hzs
        subst this
        obtain ⟨h1, h2⟩ := hd T (List.mem_of_getElem? hT)
        refine ⟨T.map fun (n : Nat) => (n : Int), ⟨t, ev, sq⟩, by rw [List.length_map, h1], fun n hn => ?_⟩
        obtain ⟨k, hk, rfl⟩ := List.mem_map.mp hn
        have := h2 k hk
        omega
      · obtain ⟨es, p1, he⟩ := dats_perm pm hx
        obtain ⟨L', p2, e2⟩ := perm_map_inv p1
        subst e2
        exact q r ys _ _ (s1.trans (same_upd hr)) upd_same (Dats.same (same_upd hr) he) ⟨L', p2, rfl⟩
/-- a name told a list of one's own -/
theorem q_setL {te : TE} {p : List D → Prop} {D' : Ends} {H0 : Hp} {i : Nat} {u : TS} (h : EvL K te σ H p) (s : Same H H0) (k : ∀ r xs H1 ds, Same H0 H1 → H1 r = some (.lst xs) → Dats K H1 ds xs → p ds → u D' (σ.set i (some (.ref r))) H1) : tSeq (tAsg te (gName i)) u D' σ H0 := h H0 s _ k
theorem q_setL1 {te : TE} {p : List D → Prop} {D' : Ends} {H0 : Hp} {i : Nat} (h : EvL K te σ H p) (s : Same H H0) (k : ∀ r xs H1 ds, Same H0 H1 → H1 r = some (.lst xs) → Dats K H1 ds xs → p ds → D'.nx (σ.set i (some (.ref r))) H1) : tAsg te (gName i) D' σ H0 := h H0 s _ k
theorem el_var {r : Addr} {xs : List V} {ds : List D} {i : Nat} (e : σ[i]? = some (some (.ref r))) (hr : H r = some (.lst xs)) (hd : Dats K H ds xs) : EvL K (tVar i) σ H (fun es => es = ds) := fun H0 s Q q => ⟨_, e, q r xs H0 ds (Same.refl _) (s _ _ hr) (Dats.same s hd) rfl⟩
end
section
variable {P : Program} {w : World} {K : PySem.W.Frag} {mg : Str → Option Value} {base : Heap}
abbrev spBySize (K : PySem.W.Frag) : Sp := spP K 1 fun ds post => ∃ lots : List (List Nat), lots.length ≤ 64 ∧ lots.Nodup ∧ (∀ T ∈ lots, ∀ p ∈ T, p < 64) ∧ (∀ d, (lots.filter fun T => decide (T.length = d)).length < 64) ∧ ds = [.lst (lots.map lotT)] ∧
  post = fun d => ∃ ls : List (List Nat), d = .lst (ls.map lotT) ∧ ls.length ≤ 4096 ∧ ∀ T, T ∈ ls ↔ T ∈ lots ∧ T.length < lots.length
theorem ok_L_by_size (W : Wd P K mg base) (F : Df K mg "_law_by_size" s_L_by_size) : C8.Cal P w K mg base 33 "_law_by_size" (spBySize K) [] := by
  refine cal_of F sc_L_by_size (fun _ _ _ _ _ _ us hl => match us, hl with | [_], _ => rfl) rfl fun f cdv A outer s H vs Q E ds post hr hp hd q => ?_
  obtain ⟨lots, hz, nd, h64, hf, rfl, rfl⟩ := hp
  obtain ⟨u, rfl, hu⟩ := dats1 hd
  refine ⟨_, (pss_cons (ps_set (i := 1) sc_L_by_size.nd rfl (by first | exact Or.inl rfl | exact Or.inr rfl) (pe_lst pa_nil))
    (pss_cons (ps_for PassesOwn.never rfl (pi_range1 (by rfl) W.range (pa_cons (pe_callB call_len_seq (by rfl) W.len b_len (pa_cons (pv 0) pa_nil)) pa_nil)) (pg_name (i := 2) sc_L_by_size.nd rfl (by first | exact Or.inl rfl | exact Or.inr rfl))
    (pss_one (ps_set (i := 1) sc_L_by_size.nd rfl (by first | exact Or.inl rfl | exact Or.inr rfl) (pe_op op_cat (pv 1) (pe_callB cr_sortA (by rfl) W.sorted b_sorted (pa_cons (pe_lc (own := [("_law_lot", 3)]) (g := gName 3) rfl sc_L_by_size.nd (pi_list (pv 0)) (blkOk_by (N := n_L_by_size) (sc := defScope s_L_by_size) (by decide +kernel)) (fun _ _ _ _ _ => (pg_name (i := 3) sc_L_by_size.nd rfl (by first | exact Or.inl rfl | exact Or.inr rfl))) (fun _ _ _ _ _ => (pts_one (pt_cmpR op_eq (pe_callB (len_K rfl) (by rfl) W.len b_len (pa_cons (pv 3) pa_nil)) (pv 2) (nomark _)))) (fun _ _ _ _ _ => (pv 3))) pa_nil))))))
    (pss_one (ps_ret (pv 1))))), ?_⟩
  refine q_setL (el_lst (K := K) ea_nil (by show 0 ≤ 1000000; decide)) (Same.refl _) fun r0 xs0 H1 ds0 s1 hr0 hx0 e0 => ?_
  subst e0
  have hEv : EvV (tCB (fun xs H Q => ∃ p ys, xs = [.ref p] ∧ (SqL K H p ys ∨ SqT K H p ys) ∧ Q (.int ys.length) H) (tCons (tVar 0) tNil)) [some u, some (.ref r0), none, none] H (.int (lots.length : Nat)) := (vv_lenL (vv_var rfl) hu).to (by rw [List.length_map])
  refine q_forB (K := K) (ei_range1 (n := lots.length) hEv (by omega)) s1 fun Hb H2 sb s2 _ sb2 => ?_
  refine ⟨fun i σ H' => ∃ r y2 xs ls, σ = [some u, some (.ref r), y2, none] ∧ Same Hb H' ∧ H' r = some (.lst xs) ∧ Dats K H' (ls.map lotT) xs ∧ ls.length ≤ 64 * i ∧ ∀ T, T ∈ ls ↔ T ∈ lots ∧ T.length < i, ⟨r0, none, xs0, [], rfl, sb2, s2 _ _ hr0, Dats.same s2 hx0, Nat.zero_le _, fun T => by simp⟩, fun i σ H' ⟨_, _, _, _, _, h, _⟩ => h, ?_, ?_⟩
  · rintro i d x σ H3 H4 hi ⟨r, y2, xs, ls, rfl, b1, hr1, hx1, hlen, hm⟩ s4 hx
    obtain ⟨hil, rfl⟩ := rangeD_get hi
    obtain rfl : x = .int (0 + (i : Int)) := hx
    have s04 : Same H H4 := (sb.trans b1).trans s4
    have hfl := hf i
    refine q_setL1 (el_cat (el_var rfl (s4 _ _ hr1) (Dats.same s4 hx1)) (el_sorted (L := lots.filter fun T => decide (T.length = i)) (d := i) (el_lcA (l := lots) (G := lotT) (F := lotT) (p := fun T => decide (T.length = i)) (ei_list (vv_var rfl) (Dat.same s04 hu)) (fun _ => rfl) (fun T _ => nl_nats T) (by omega) (fun T v H5 hT s5 hv => ⟨?_, fun _ => ed_var rfl hv⟩) rfl) hfl (fun T hT => ?_) (fun z => ?_)) (fun ds es h1 ⟨L', h2, h3⟩ => ?_)) (Same.refl _) fun r2 xs2 H5 ds2 s5 hr2 hx2 ⟨ds', es', e2, e3, L', e4, e5⟩ => ?_
    · exact (et_test (K := K) (ed_eqI (ed_lenT (ed_var rfl hv)) (ed_var (d := .int (0 + (i : Int))) rfl rfl))).to (decide_eq_decide.mpr (by rw [List.length_map]; omega))
    · obtain ⟨h1, h2⟩ := List.mem_filter.mp hT
      exact ⟨of_decide_eq_true h2, h64 T h1⟩
    · subst z
      have : ∀ L : List (List Nat), L.Nodup → (∀ T ∈ L, T = []) → L.length ≤ 1 := fun L hL hE => by
        match L, hL, hE with
        | [], _, _ => exact Nat.zero_le _
        | [_], _, _ => exact Nat.le_refl _
        | a :: b :: r, hL, hE =>
          have e1 := hE a (by simp)
          have e2 := hE b (by simp)
          rw [e1, e2] at hL
          simp at hL
      exact this _ (nd.filter _) fun T hT => List.length_eq_zero_iff.mp (of_decide_eq_true (List.mem_filter.mp hT).2)
    · have := h2.length_eq
      rw [h1, h3, List.length_map, List.length_map]
      have : 64 * i ≤ 64 * 64 := Nat.mul_le_mul_left _ (by omega)
      omega
    · subst e2 e3 e5
      refine ⟨r2, some (.int (0 + (i : Int))), xs2, ls ++ L', rfl, (b1.trans s4).trans s5, hr2, by rw [List.map_append]; exact hx2, ?_, fun T => ?_⟩
      · rw [List.length_append, e4.length_eq]; omega
      · rw [List.mem_append, hm, e4.mem_iff, List.mem_filter, decide_eq_true_eq]
        constructor
        · rintro (⟨h1, h2⟩ | ⟨h1, h2⟩)
          · exact ⟨h1, by omega⟩
          · exact ⟨h1, by omega⟩
        · rintro ⟨h1, h2⟩
          rcases Nat.lt_or_ge T.length i with z | z
          · exact .inl ⟨h1, z⟩
          · exact .inr ⟨h1, by omega⟩
  · rintro σ H3 ⟨r, y2, xs, ls, rfl, b1, hr1, hx1, hlen, hm⟩
    rw [rangeD_len] at hlen hm
    exact ⟨.ref r, rfl, q _ H3 _ (sb.trans b1) ⟨ls, rfl, by omega, hm⟩ ⟨r, xs, rfl, SqL.of hr1, hx1⟩⟩
end
end Cb
set_option Elab.async false
set_option linter.all false
set_option maxRecDepth 100000
set_option maxHeartbeats 1000000
/-! walks of the law: all lots, the outcome -/
namespace Cb
open PySem PySem.Spec PyProof.Rows L2
def lotStep (ls : List (List Nat)) (p : Nat) : List (List Nat) := ls ++ ls.map fun T => T ++ [p]
def lotsL (L : List Nat) : List (List Nat) := L.foldl lotStep [[]]
theorem lotsL_snoc (L : List Nat) (p : Nat) : lotsL (L ++ [p]) = lotStep (lotsL L) p := by
  unfold lotsL
  rw [List.foldl_append]; rfl
theorem lotsL_facts : ∀ n, n < 7 → (lotsL (List.range n)).Nodup ∧ (lotsL (List.range n)).length ≤ 64 ∧ (lotsL (List.range n)).all (fun T => decide (T.length < (lotsL (List.range n)).length) && T.all fun p => decide (p < n)) = true ∧ ∀ d, d < 7 → ((lotsL (List.range n)).filter fun T => decide (T.length = d)).length < 64 := by
  decide +kernel
theorem lotsL_short : ∀ n, n < 7 → (lotsL (List.range n)).all (fun T => decide (T.length < 7)) = true := by decide +kernel
theorem lotsL_len {n : Nat} (hn : n < 7) : ∀ T ∈ lotsL (List.range n), T.length < (lotsL (List.range n)).length ∧ ∀ p ∈ T, p < n := fun T hT => by
  have := List.all_eq_true.mp (lotsL_facts n hn).2.2.1 T hT
  rw [Bool.and_eq_true, decide_eq_true_eq, List.all_eq_true] at this
  exact ⟨this.1, fun p hp => of_decide_eq_true (this.2 p hp)⟩
theorem lots_sub {L : List Nat} : ∀ {ls : List (List Nat)}, (∀ T ∈ ls, ∀ p ∈ T, p ∈ L) → ∀ {q : Nat}, q ∈ L → ∀ T ∈ lotStep ls q, ∀ p ∈ T, p ∈ L := fun {ls} h {q} hq T hT p hp => by
  unfold lotStep at hT
  rcases List.mem_append.mp hT with hT | hT
  · exact h T hT p hp
  · obtain ⟨U, hU, rfl⟩ := List.mem_map.mp hT
    rcases List.mem_append.mp hp with hp | hp
    · exact h U hU p hp
    · rw [List.mem_singleton.mp hp]; exact hq
theorem lotsL_sub {L : List Nat} : ∀ T ∈ lotsL L, ∀ p ∈ T, p ∈ L := by
  have : ∀ (R : List Nat) (ls : List (List Nat)), (∀ q ∈ R, q ∈ L) → (∀ T ∈ ls, ∀ p ∈ T, p ∈ L) → ∀ T ∈ R.foldl lotStep ls, ∀ p ∈ T, p ∈ L := by
    intro R
    induction R with
    | nil => intro ls _ h; exact h
    | cons a r ih => intro ls h1 h2; exact ih _ (fun q hq => h1 q (List.mem_cons_of_mem _ hq)) (lots_sub h2 (h1 a List.mem_cons_self))
  exact this L [[]] (fun q hq => hq) fun T hT p hp => by
    rw [List.mem_singleton.mp hT] at hp; cases hp
/-- all who meet f are a lot -/
theorem lotsL_filter (f : Nat → Bool) (L : List Nat) : L.filter f ∈ lotsL L := by
  have : ∀ (R : List Nat) (ls : List (List Nat)) (T : List Nat), T ∈ ls → T ++ R.filter f ∈ R.foldl lotStep ls := by
    intro R
    induction R with
    | nil => intro ls T h; simpa using h
    | cons a r ih =>
      intro ls T h
      rw [List.foldl_cons, List.filter_cons]
      split
      · have := ih (lotStep ls a) (T ++ [a]) (List.mem_append_right _ (List.mem_map.mpr ⟨T, h, rfl⟩))
        rw [List.append_assoc] at this
        exact this
      · exact ih (lotStep ls a) T (List.mem_append_left _ h)
  exact this L [[]] [] (by simp)
section
variable {P : Program} {w : World} {K : PySem.W.Frag} {mg : Str → Option Value} {base : Heap}
theorem lots_take_len {n i : Nat} (hn : n < 7) (hi : i ≤ n) : (lotsL (List.range i)).length ≤ 64 := (lotsL_facts i (by omega)).2.1
theorem nats_app (T : List Nat) (p : Nat) : natsD (T ++ [p]) = natsD T ++ [.int (p : Nat)] := by unfold natsD; rw [List.map_append]; rfl
abbrev spLotsL (K : PySem.W.Frag) : Sp := spP K 1 fun ds post => ∃ n : Nat, n < 7 ∧ ds = [.int (n : Nat)] ∧ post = fun d => ∃ ls : List (List Nat), d = .lst (ls.map lotT) ∧ ls.length ≤ 4096 ∧ ∀ T, T ∈ ls ↔ T ∈ lotsL (List.range n)
theorem ok_L_lots (W : Wd P K mg base) (F : Df K mg "_law_lots" s_L_lots) (G_L_by_size : C8.Cal P w K mg base 33 "_law_by_size" (spBySize K) []) : C8.Cal P w K mg base 34 "_law_lots" (spLotsL K) [] := by
  refine cal_of F sc_L_lots (fun _ _ _ _ _ _ us hl => match us, hl with | [_], _ => rfl) rfl fun f cdv A outer s H vs Q E ds post hr hp hd q => ?_
  obtain ⟨n, hn, rfl, rfl⟩ := hp
  obtain ⟨u, rfl, hu⟩ := dats1 hd
  obtain rfl : u = .int (n : Nat) := hu
  refine ⟨_, (pss_cons (ps_set (i := 1) sc_L_lots.nd rfl (by first | exact Or.inl rfl | exact Or.inr rfl) (pe_lst (pa_cons (pe_tup pa_nil) pa_nil)))
    (pss_cons (ps_for PassesOwn.never rfl (pi_range1 (by rfl) W.range (pa_cons (pv 0) pa_nil)) (pg_name (i := 2) sc_L_lots.nd rfl (by first | exact Or.inl rfl | exact Or.inr rfl))
    (pss_one (ps_set (i := 1) sc_L_lots.nd rfl (by first | exact Or.inl rfl | exact Or.inr rfl) (pe_op op_cat (pv 1) (pe_lc (own := [("_law_lot", 3)]) (g := gName 3) (tt := tYes) rfl sc_L_lots.nd (pi_list (pv 1)) (blkOk_by (N := n_L_lots) (sc := defScope s_L_lots) (by decide +kernel)) (fun _ _ _ _ _ => (pg_name (i := 3) sc_L_lots.nd rfl (by first | exact Or.inl rfl | exact Or.inr rfl))) (fun _ _ _ _ _ => pts_nil) (fun _ _ _ _ _ => (pe_op (catA_K rfl) (pv 3) (pe_tup (pa_cons (pv 2) pa_nil)))))))))
    (pss_one (ps_ret (C8.pe_c G_L_by_size hr (by omega) (by rfl) (pa_cons (pv 1) pa_nil)))))), ?_⟩
  refine q_setL (el_lst (K := K) (ds := [lotT []]) (ea_cons (ed_tup ea_nil) ea_nil) (by show 1 ≤ 1000000; decide)) (Same.refl _) fun r0 xs0 H1 ds0 s1 hr0 hx0 e0 => ?_
  subst e0
  refine q_forB (K := K) (ei_range1 (n := n) (vv_var (i := 0) rfl) (by omega)) s1 fun Hb H2 sb s2 _ sb2 => ?_
  refine ⟨fun i σ H' => ∃ r y2 xs, σ = [some (.int (n : Nat)), some (.ref r), y2, none] ∧ Same Hb H' ∧ H' r = some (.lst xs) ∧ Dats K H' ((lotsL (List.range i)).map lotT) xs, ⟨r0, none, xs0, rfl, sb2, s2 _ _ hr0, Dats.same s2 hx0⟩, fun i σ H' ⟨_, _, _, _, h, _⟩ => h, ?_, ?_⟩
  · rintro i d x σ H3 H4 hi ⟨r, y2, xs, rfl, b1, hr1, hx1⟩ s4 hx
    obtain ⟨hil, rfl⟩ := rangeD_get hi
    obtain rfl : x = .int (0 + (i : Int)) := hx
    have l64 := lots_take_len hn (Nat.le_of_lt hil)
    have dl : Dat K H4 (.lst ((lotsL (List.range i)).map lotT)) (.ref r) := ⟨r, xs, rfl, SqL.of (s4 _ _ hr1), Dats.same s4 hx1⟩
    have hlen : ∀ T ∈ lotsL (List.range i), T.length < 64 := fun T hT => by
      have := (lotsL_len (n := i) (by omega) T hT).1
      omega
    refine q_setL1 (el_cat (el_var rfl (s4 _ _ hr1) (Dats.same s4 hx1)) (el_lcA (l := lotsL (List.range i)) (G := lotT) (F := fun T => lotT (T ++ [i])) (p := fun _ => true) (outs := ((lotsL (List.range i)).map fun T => T ++ [i]).map lotT) (ei_list (vv_var rfl) dl) (fun _ => rfl) (fun T _ => nl_nats _) (by omega) (fun T v H5 hT s5 hv => ⟨et_yes, fun _ => ?_⟩) (by rw [filt_true, List.map_map]; rfl)) (fun ds es h1 h2 => ?_)) (Same.refl _) fun r2 xs2 H5 ds2 s5 hr2 hx2 ⟨ds', es', e2, e3, e4⟩ => ?_
    · have hT' := hlen T hT
      have e : lotT (T ++ [i]) = .tup (natsD T ++ [.int (i : Nat)]) := by show D.tup _ = D.tup _; rw [nats_app]
      rw [e]
      exact ed_catT (ed_var rfl hv) (ed_tup (ea_cons (ed_var rfl (by show V.int _ = V.int _; congr 1; omega)) ea_nil)) (by rw [List.length_map]; show T.length + 1 ≤ _; omega)
    · rw [h1, h2]
      simp only [List.length_map]
      omega
    · subst e2 e3 e4
      refine ⟨r2, some (.int (0 + (i : Int))), xs2, rfl, (b1.trans s4).trans s5, hr2, ?_⟩
      rw [List.range_succ, lotsL_snoc]
      unfold lotStep
      rw [List.map_append]
      exact hx2
  · rintro σ H3 ⟨r, y2, xs, rfl, b1, hr1, hx1⟩
    rw [rangeD_len] at hx1
    obtain ⟨f1, f2, f3, f4⟩ := lotsL_facts n hn
    have ll := lotsL_len hn
    refine q_ret (ep_call (ea_cons (ed_var (d := .lst ((lotsL (List.range n)).map lotT)) rfl ⟨r, xs, rfl, SqL.of hr1, hx1⟩) ea_nil) ⟨lotsL (List.range n), f2, f1, fun T hT p hp => by have := (ll T hT).2 p hp; omega, fun d => ?_, rfl, rfl⟩ rfl) (Same.refl _) fun v H4 d s4 ⟨ls, e1, e2, e3⟩ h4 => q v H4 d ((sb.trans b1).trans s4) ⟨ls, e1, e2, fun T => by rw [e3]; exact ⟨fun z => z.1, fun z => ⟨z, (ll T z).1⟩⟩⟩ h4
    by_cases hd7 : d < 7
    · exact f4 d hd7
    · have e : (lotsL (List.range n)).filter (fun T => decide (T.length = d)) = [] := List.filter_eq_nil_iff.mpr fun T hT z => by
        have h1 := of_decide_eq_true (List.all_eq_true.mp (lotsL_short n hn) T hT)
        have h2 := of_decide_eq_true z
        omega
      rw [e]
      decide
end
end Cb
set_option Elab.async false
set_option linter.all false
set_option maxRecDepth 100000
set_option maxHeartbeats 1000000
/-! walks of the law: the outcome -/
namespace Cb
open PySem PySem.Spec PyProof.Rows L2
section
variable {K : PySem.W.Frag} {σ : L2.St} {H : Hp} {te : TE}
/-- for over a list that a call makes, while an empty list of ours at p begins to grow -/
theorem q_forP {g : TG} {tb u : TS} {D' : Ends} {H0 : Hp} {p : Addr} {R : List D → Prop} (h : EvP K te σ H (fun d => ∃ ds, d = .lst ds ∧ R ds)) (s : Same H H0) (hp : H0 p = some (.lst [])) (hne : ∀ ds, R ds → ds ≠ [] ∧ nls ds = true)
    (k : ∀ ds H1, R ds → Same H0 H1 → H1 p = some (.lst []) → ∃ Pv : Nat → L2.St → Hp → Prop, Pv 0 σ H1 ∧ (∀ i σ H, Pv i σ H → Same (hide H1 p) H) ∧
      (∀ i d x σ H H', ds[i]? = some d → Pv i σ H → Same H H' → Dat K H' d x → g x σ H' fun σ2 H2 => tb { D' with nx := Pv (i + 1), ct := Pv (i + 1), bk := u D' } σ2 H2) ∧ ∀ σ H, Pv ds.length σ H → u D' σ H) :
    tSeq (tFor (iList K te) g tb) u D' σ H0 := h H0 s _ fun v H1 d s1 ⟨ds, ed, hR⟩ hv => by
  subst ed
  obtain ⟨r, xs, rfl, sq, hx⟩ := hv
  have hp1 : H1 p = some (.lst []) := s1 _ _ hp
  obtain ⟨n0, nl0⟩ := hne ds hR
  have sq2 : SqL K (hide H1 p) r xs := by
    rcases sq with sq | sq
    · have rp : r ≠ p := fun e => by
        subst e
        rcases sq with sq | ⟨o, sq⟩
        · rw [hp1] at sq
          cases sq
          exact n0 (List.length_eq_zero_iff.mp hx.length)
        · rw [hp1] at sq; cases sq
      have e : hide H1 p r = H1 r := if_neg rp
      rcases sq with sq | ⟨o, sq⟩
      · exact .inl (.inl (by rw [e]; exact sq))
      · exact .inl (.inr ⟨o, by rw [e]; exact sq⟩)
    · exact .inr sq
  obtain ⟨Pv, k1, k2, k3, k4⟩ := k ds H1 hR s1 hp1
  exact ⟨r, rfl, ⟨xs, sq⟩, for_data (D' := { D' with nx := u D' }) (walks_list sq2 (Dats.tk (tk_hideL hp1) nl0 hx)) Pv k1 k2 k3 k4⟩
theorem EvP.imp {post post2 : D → Prop} (h : EvP K te σ H post) (hi : ∀ d, post d → post2 d) : EvP K te σ H post2 := fun H0 s Q q => h H0 s Q fun v H' d s1 pd hd => q v H' d s1 (hi d pd) hd
theorem EvL.ed {l : List D} (h : EvL K te σ H (fun ds => ds = l)) : EvD K te σ H (.lst l) := EvD.mk fun H0 s Q q => h H0 s _ fun p xs H' ds s1 hp hd e => by
  subst e
  exact q _ H' s1 ⟨p, xs, rfl, SqL.of hp, hd⟩
theorem el_cat2 {ta tb' : TE} {l1 l2 : List D} (ha : EvL K ta σ H (fun ds => ds = l1)) (hb : EvL K tb' σ H (fun ds => ds = l2)) (hz : l1.length + l2.length ≤ 1000000) : EvL K (tOp rCat ta tb') σ H (fun d => d = l1 ++ l2) := fun H0 s Q q =>
  el_cat ha hb (fun ds es h1 h2 => by rw [h1, h2]; exact hz) H0 s Q fun p xs H' ds s1 hp hd ⟨d1, d2, e, e1, e2⟩ => q p xs H' ds s1 hp hd (by rw [e, e1, e2])
end
abbrev lotV (t : Term) (n : Nat) (ws : List Rat) (T : List Nat) : List Rat := val (bN (cornL n T)) t :: T.map (bN ws)
section
variable {P : Program} {w : World} {K : PySem.W.Frag} {mg : Str → Option Value} {base : Heap}
abbrev spOutL (K : PySem.W.Frag) : Sp := spP K 3 fun ds post => ∃ (n Dn m : Nat) (t : Term) (ws : List Rat), Tm n Dn m 3 t ∧ n ≤ 6 ∧ ws.length = n ∧ (∀ x ∈ ws, Nm Dn x) ∧ ds = [.int (n : Nat), tD t, .tup (frs ws)] ∧ post = fun d => ∃ A, d = fr A ∧ ∀ b, IsLeft t (bN ws) b (fun _ => true) A
theorem ok_L_outcome (W : Wd P K mg base) (F : Df K mg "_law_outcome" s_L_outcome) (G_L_lots : C8.Cal P w K mg base 34 "_law_lots" (spLotsL K) []) (G_L_sorted : C8.Cal P w K mg base 34 "_law_sorted" (spAsc K) []) (G_L_corner : C8.Cal P w K mg base 39 "_law_corner" (spCorner K) []) : C8.Cal P w K mg base 40 "_law_outcome" (spOutL K) [] := by
  refine cal_of F sc_L_outcome (fun _ _ _ _ _ _ us hl => match us, hl with | [_, _, _], _ => rfl) rfl fun f cdv A outer s H vs Q E ds post hr hp hd q => ?_
  obtain ⟨n, Dn, m, t, ws, T, hn, lw, nw, rfl, rfl⟩ := hp
  obtain ⟨u, v, x, rfl, hu, hv, hx⟩ := dats3 hd
  refine ⟨_, (pss_cons (ps_set (i := 3) sc_L_outcome.nd rfl (by first | exact Or.inl rfl | exact Or.inr rfl) (pe_lst pa_nil))
    (pss_cons (ps_for PassesOwn.never rfl (pi_list (C8.pe_c G_L_lots hr (by omega) (by rfl) (pa_cons (pv 0) pa_nil))) (pg_name (i := 4) sc_L_outcome.nd rfl (by first | exact Or.inl rfl | exact Or.inr rfl))
    (pss_one (ps_expr (pe_bm PySem.F.plainAttrs_list PySem.F.slot_list_append PySem.F.type_list_append mt_append (pv 3) (pa_cons (pe_ix ix_list (C8.pe_c G_L_sorted hr (by omega) (by rfl) (pa_cons (pe_op op_cat (pe_lst (pa_cons (C8.pe_c G_L_corner hr (by omega) (by rfl) (pa_cons (pv 0) (pa_cons (pv 1) (pa_cons (pv 4) pa_nil)))) pa_nil)) (pe_lc (own := [("_law_person", 5)]) (g := gName 5) (tt := tYes) rfl sc_L_outcome.nd (pi_tup (pv 4)) (blkOk_by (N := n_L_outcome) (sc := defScope s_L_outcome) (by decide +kernel)) (fun _ _ _ _ _ => (pg_name (i := 5) sc_L_outcome.nd rfl (by first | exact Or.inl rfl | exact Or.inr rfl))) (fun _ _ _ _ _ => pts_nil) (fun _ _ _ _ _ => (pe_ix (ixT_K rfl) (pv 2) (pv 5) (fun _ _ => rfl))))) pa_nil)) pe_int (fun _ _ => rfl)) pa_nil)))))
    (pss_one (ps_ret (pe_ix ix_list (C8.pe_c G_L_sorted hr (by omega) (by rfl) (pa_cons (pv 3) pa_nil)) (pe_un un_neg pe_int) (fun _ _ => rfl)))))), ?_⟩
  have hm : m ≤ 1000000 := T.hm
  refine ⟨Nat.zero_le _, fun p hp => ?_⟩
  have sp : Same H (upd H p (.lst [])) := same_upd hp
  refine q_forP (p := p) (R := fun ds => ∃ ls : List (List Nat), ds = ls.map lotT ∧ ls.length ≤ 4096 ∧ ∀ T, T ∈ ls ↔ T ∈ lotsL (List.range n)) (EvP.imp (ep_call (ea_cons (ed_var rfl (Dat.same sp hu)) ea_nil) ⟨n, by omega, rfl, rfl⟩ rfl) fun d ⟨ls, e1, e2, e3⟩ => ⟨_, e1, ls, rfl, e2, e3⟩) (Same.refl _) upd_same (fun ds ⟨ls, e1, e2, e3⟩ => ?_) fun ds H1 ⟨ls, e1, e2, e3⟩ s1 h1p => ?_
  · subst e1
    refine ⟨fun z => ?_, nls_map fun T => nl_nats T⟩
    have := (e3 _).mpr (lotsL_filter (fun _ => false) (List.range n))
    have z2 := List.map_eq_nil_iff.mp z
    rw [z2] at this
    cases this
  · subst e1
    have hb1 : Same H (hide H1 p) := same_hide (sp.trans s1) hp
    let g : List Nat → Rat := fun T => rk (lotV t n ws T) 0
    have lt : ∀ T ∈ ls, T.length < 64 ∧ ∀ q ∈ T, q < n := fun T' hT => by
      have h1 := (e3 T').mp hT
      have h2 := lotsL_len (n := n) (by omega) T' h1
      have h3 := (lotsL_facts n (by omega)).2.1
      exact ⟨by omega, h2.2⟩
    have szl : ∀ T' ∈ ls, SzL m (lotV t n ws T') := fun T' hT y hy => by
      rcases List.mem_cons.mp hy with rfl | hy
      · exact T.szV fun p hp => corn_nm _ (bN_mem (by rw [tb_len]; exact hp))
      · obtain ⟨q, hq, rfl⟩ := List.mem_map.mp hy
        exact T.szN (nw _ (bN_mem (by rw [lw]; exact (lt T' hT).2 q hq)))
    refine ⟨fun i σ H' => ∃ y4 acc, σ = [some u, some v, some x, some (.ref p), y4, none] ∧ Same (hide H1 p) H' ∧ H' p = some (.lst acc) ∧ Dats K H' (frs ((ls.take i).map g)) acc, ⟨none, [], rfl, hide_same, h1p, Dats.nil⟩, fun i σ H' ⟨_, _, _, h, _⟩ => h, ?_, ?_⟩
    · rintro i d y σ H3 H4 hi ⟨y4, acc, rfl, b1, ha, hacc⟩ s4 hy
      rw [List.getElem?_map, Option.map_eq_some_iff] at hi
      obtain ⟨T', hT, rfl⟩ := hi
      have mT := List.mem_of_getElem? hT
      have hil : i < ls.length := (List.getElem?_eq_some_iff.mp hT).1
      obtain ⟨t1, t2⟩ := lt T' mT
      have s04 : Same H H4 := (hb1.trans b1).trans s4
      have ha4 : H4 p = some (.lst acc) := s4 _ _ ha
      have lacc : acc.length = i := by rw [← hacc.length, frs_len, List.length_map, List.length_take]; omega
      refine q_append (post := fun d => d = fr (g T')) (vv_var rfl) (ed_ixL (ed_call (d := .lst (frs (srt (lotV t n ws T')))) (ea_cons (EvL.ed (l := frs (lotV t n ws T')) (el_cat2 (l1 := [fr (val (bN (cornL n T')) t)]) (l2 := frs (T'.map (bN ws))) (el_lst (ea_cons (ed_call (ea_cons (ed_var rfl (Dat.same s04 hu)) (ea_cons (ed_var rfl (Dat.same s04 hv)) (ea_cons (ed_var rfl hy) ea_nil))) ⟨n, Dn, m, t, T', T, hn, rfl, rfl⟩ rfl) ea_nil) (by show 1 ≤ 1000000; decide)) (el_lcA (l := T') (G := fun (q : Nat) => D.int (q : Int)) (F := fun q => fr (bN ws q)) (p := fun _ => true) (ei_tup (vv_var rfl) hy) (fun _ => rfl) (fun _ _ => rfl) (by omega) (fun q z H5 hq s5 hz => ⟨et_yes, fun _ => ed_ixT (ed_var rfl (Dat.same (s04.trans s5) hx)) (ed_var (d := .int (q : Nat)) rfl hz) (atI_frs (bN_get (by rw [lw]; exact t2 q hq)))⟩) (by rw [filt_true]; unfold frs; rw [List.map_map]; rfl)) (by show 1 + (frs (T'.map (bN ws))).length ≤ _; rw [frs_len, List.length_map]; omega))) ea_nil) ⟨lotV t n ws T', m, by simp; omega, szl T' mT, by unfold LIM; omega, rfl, rfl⟩ rfl) ed_int (atI_frs (i := 0) (rk_get (by simp)))) (Same.refl _) ⟨acc, ha4, by omega⟩ fun H6 xs d z s6 h6 h5 pd hz => ?_
      subst pd
      rw [ha4] at h5
      obtain rfl : acc = xs := by
        have := Option.some.inj h5
        cases this; rfl
      have tk := tk_upd (o := HO.lst (acc ++ [z])) h6
      refine ⟨some y, acc ++ [z], rfl, fun b o e => ?_, upd_same, ?_⟩
      · have nb : b ≠ p := fun z => by rw [z, hide_none] at e; cases e
        rw [upd_ne nb]
        exact s6 _ _ (s4 _ _ (b1 _ _ e))
      · rw [List.take_succ, hT, List.map_append]
        unfold frs at hacc ⊢
        rw [List.map_append]
        exact (Dats.tk tk (nls_map fun _ => rfl) (Dats.same (s4.trans s6) hacc)).append (.cons (Dat.tk tk rfl hz) .nil)
    · rintro σ H3 ⟨y4, acc, rfl, b1, ha, hacc⟩
      rw [List.length_map, List.take_length] at hacc
      have hne : ls ≠ [] := fun z => by
        have := (e3 _).mpr (lotsL_filter (fun _ => false) (List.range n))
        rw [z] at this
        cases this
      have lpos : 0 < ls.length := List.length_pos_iff.mpr hne
      have lg : (ls.map g).length = ls.length := List.length_map _
      have szg : SzL m (ls.map g) := fun y hy => by
        obtain ⟨T', hT, rfl⟩ := List.mem_map.mp hy
        exact szl T' hT _ (rk_mem (by simp))
      refine q_retD (d := fr (rk (ls.map g) ((ls.map g).length - 1))) (ed_ixL (ed_call (d := .lst (frs (srt (ls.map g)))) (ea_cons (ed_var (d := .lst (frs (ls.map g))) rfl ⟨p, acc, rfl, SqL.of ha, hacc⟩) ea_nil) ⟨ls.map g, m, by omega, szg, by unfold LIM; omega, rfl, rfl⟩ rfl) (ed_neg ed_int) (atI_lastF (by rw [srt_len, lg]; exact lpos) (by rw [srt_len]; exact rk_get (by omega)))) (Same.refl _) fun r H4 s4 h4 => q r H4 _ ((hb1.trans b1).trans s4) ⟨_, rfl, fun b => ?_⟩ h4
      have hw := T.wf
      have ev : ∀ T', val (bN (cornL n T')) t = val (endsS b (fun _ => true) fun q => decide (q ∈ T')) t := fun T' => val_congr (fun q hq => by
        rw [bN_tb hq]
        unfold endsS
        by_cases h : q ∈ T'
        · simp [h]
        · simp [h]) hw
      refine law_left hw (lots := ls) (by simpa using hne) (fun y => ?_) fun y => ⟨(List.range n).filter fun q => decide (y ≤ bN ws q), (e3 _).mpr (lotsL_filter _ _), fun q hq => of_decide_eq_true (List.mem_filter.mp hq).2, fun q hq _ hy => List.mem_filter.mpr ⟨List.mem_range.mpr hq, decide_eq_true hy⟩⟩
      constructor
      · rintro ⟨a, ha', hy⟩
        obtain ⟨T', hT, rfl⟩ := List.mem_map.mp ha'
        have h := (le_least (by simp)).mp hy
        exact ⟨T', hT, fun q hq => h _ (List.mem_cons_of_mem _ (List.mem_map.mpr ⟨q, hq, rfl⟩)), by rw [← ev]; exact h _ List.mem_cons_self⟩
      · rintro ⟨T', hT, h1, h2⟩
        refine ⟨_, List.mem_map.mpr ⟨T', hT, rfl⟩, (le_least (by simp)).mpr fun a ha' => ?_⟩
        rcases List.mem_cons.mp ha' with rfl | ha'
        · rw [ev]; exact h2
        · obtain ⟨q, hq, rfl⟩ := List.mem_map.mp ha'
          exact h1 q hq
end
end Cb
set_option Elab.async false
set_option linter.all false
set_option maxRecDepth 100000
set_option maxHeartbeats 1000000
/-! walks of the law: what is left -/
namespace Cb
open PySem PySem.Spec PyProof.Rows L2
/-- .. and it is a new one -/
def EvLF (K : PySem.W.Frag) (te : TE) (σ : L2.St) (H : Hp) (post : List D → Prop) : Prop :=
  ∀ H0, Same H H0 → ∀ Q : VK, (∀ p xs H' ds, Same H0 H' → H0 p = none → H' p = some (.lst xs) → Dats K H' ds xs → post ds → Q (.ref p) H') → te σ H0 Q
section
variable {K : PySem.W.Frag} {σ : L2.St} {H : Hp} {te ta tb' : TE} {tt : TT}
theorem q_setLF {p : List D → Prop} {D' : Ends} {H0 : Hp} {i : Nat} {u : TS} (h : EvLF K te σ H p) (s : Same H H0) (k : ∀ r xs H1 ds, Same H0 H1 → H0 r = none → H1 r = some (.lst xs) → Dats K H1 ds xs → p ds → u D' (σ.set i (some (.ref r))) H1) : tSeq (tAsg te (gName i)) u D' σ H0 := h H0 s _ k
/-- a list of one's own, the target a pair -/
theorem el_lcA2 {wi : TI} {tt : TT} {vs : List Nat} {j k : Nat} {α : Type} {l : List α} {G F : α → D} {outs : List D} {p : α → Bool} (h : EvI K wi σ H (l.map G)) (hj : ∀ x y, wipe (((wipe σ vs).set j (some x)).set k (some y)) vs = wipe σ vs) (hn : ∀ d ∈ l, nl (F d) = true) (hz : l.length ≤ 1000000)
    (he : ∀ d H1, d ∈ l → Same H H1 → ∃ a b, G d = .tup [a, b] ∧ ∀ x y, Dat K H1 a x → Dat K H1 b y → EvT tt (((wipe σ vs).set j (some x)).set k (some y)) H1 (p d) ∧ (p d = true → EvD K te (((wipe σ vs).set j (some x)).set k (some y)) H1 (F d))) (ho : outs = (l.filter p).map F) :
    EvLF K (tLc wi (gTup K 2 (gCons (gName j) (gCons (gName k) gNil))) tt te vs) σ H (fun ds => ds = outs) := fun H0 s Q q =>
  h H0 s _ fun J H1 Hb s1 sb sb1 hp hW => fun D hD => by
    subst ho
    refine ⟨fun i m H2 => m = l.length - i ∧ i ≤ l.length ∧ Same H1 H2 ∧ ∃ acc, H2 D = some (.lst acc) ∧ Dats K H2 (((l.take i).filter p).map F) acc, ⟨l.length, by simp, Nat.zero_le _, same_upd hD, [], upd_same, by simpa using Dats.nil⟩, ?_⟩
    rintro i m H2 ⟨rfl, hi, s2, acc, ha, hacc⟩
    obtain ⟨hgo, hst⟩ := hW H2 (sb1.trans s2)
    rw [List.length_map] at hst
    by_cases hlt : i < l.length
    · have hd := List.getElem?_eq_getElem hlt
      have hdG : (l.map G)[i]? = some (G l[i]) := by rw [List.getElem?_map, hd]; rfl
      obtain ⟨g1, g2⟩ := hgo i _ hdG
      refine .inr ⟨g1, _, fun H' w => ⟨l.length - (i + 1), by omega, rfl, hlt, w⟩, fun x H' y => ?_⟩
      obtain ⟨y1, y2⟩ := g2 x H' y
      have sH : Same H H' := ((s.trans s1).trans s2).trans y1
      obtain ⟨a, b, ed, t12⟩ := he _ H' (List.getElem_mem hlt) sH
      rw [ed] at y2
      refine g_tup2 y2 fun u v hu hv => ?_
      obtain ⟨t1, t2⟩ := t12 u v hu hv
      refine ⟨hj u v, t1 H' (Same.refl _) _ fun H3 s3 => ?_⟩
      have etk : l.take (i + 1) = l.take i ++ [l[i]] := by rw [List.take_succ, hd]; rfl
      have ha3 : H3 D = some (.lst acc) := s3 _ _ (y1 _ _ ha)
      have hacc3 := Dats.same (y1.trans s3) hacc
      cases hb : p l[i] with
      | true =>
        refine iteT (EvD.use (EvP.mono s3 (t2 hb)) (Same.refl _) fun u H4 s4 hu => ⟨acc, s4 _ _ ha3, ?_, ?_, acc ++ [u], upd_same, ?_⟩)
        · rw [← hacc.length, List.length_map]
          refine small1M ?_
          have := List.length_filter_le p (l.take i)
          rw [List.length_take] at this
          omega
        · intro b o e
          rw [upd_ne (ne_of_none e hD)]
          exact s4 _ _ (s3 _ _ (y1 _ _ (s2 _ _ e)))
        · have tk := tk_upd (o := HO.lst (acc ++ [u])) (s4 _ _ ha3)
          rw [etk, List.filter_append, List.map_append]
          have e1 : [l[i]].filter p = [l[i]] := by simp [hb]
          rw [e1]
          refine Dats.snoc (Dats.tk tk (nls_all fun z hz => ?_) (Dats.same s4 hacc3)) (Dat.tk tk (hn _ (List.getElem_mem hlt)) hu)
          obtain ⟨c, hc, rfl⟩ := List.mem_map.mp hz
          exact hn c (List.mem_of_mem_take (List.mem_filter.mp hc).1)
      | false =>
        refine iteF ⟨(s2.trans y1).trans s3, acc, ha3, ?_⟩
        rw [etk, List.filter_append, List.map_append]
        have e1 : [l[i]].filter p = [] := by simp [hb]
        rw [e1]
        simpa using hacc3
    · have e : i = l.length := by omega
      subst e
      refine .inl ⟨hst, q D acc H2 _ (s1.trans s2) (s1.free hD) ha ?_ rfl⟩
      rw [List.take_length] at hacc
      exact hacc
theorem ed_inNL {i : Nat} {lot : List Nat} (ha : EvD K ta σ H (.int (i : Nat))) (hb : EvD K tb' σ H (.lst (natsD lot))) : EvD K (tOp (rIn K false) ta tb') σ H (.bl (decide (i ∈ lot))) := by
  rw [natsD_ints] at hb
  refine (ed_inL ha hb).to ?_
  congr 1
  exact decide_eq_decide.mpr mem_cast
end
theorem lotStep_len (ls : List (List Nat)) (p : Nat) : (lotStep ls p).length = ls.length + ls.length := by unfold lotStep; simp
theorem lotsL_pow : ∀ (L : List Nat), (lotsL L).length = 2 ^ L.length := by
  have : ∀ (R : List Nat) (ls : List (List Nat)), (R.foldl lotStep ls).length = ls.length * 2 ^ R.length := by
    intro R
    induction R with
    | nil => intro ls; simp
    | cons a r ih => intro ls; rw [List.foldl_cons, ih, lotStep_len, List.length_cons, Nat.pow_succ, ← Nat.two_mul, Nat.mul_comm 2 ls.length, Nat.mul_assoc, Nat.mul_comm 2]
  intro L
  have := this L [[]]
  rw [show ([[]] : List (List Nat)).length = 1 from rfl, Nat.one_mul] at this
  exact this
theorem lotsL_le {L : List Nat} : ∀ T ∈ lotsL L, T.length ≤ L.length := by
  have : ∀ (R : List Nat) (ls : List (List Nat)) (k : Nat), (∀ T ∈ ls, T.length ≤ k) → ∀ T ∈ R.foldl lotStep ls, T.length ≤ k + R.length := by
    intro R
    induction R with
    | nil => intro ls k h T hT; exact h T hT
    | cons a r ih =>
      intro ls k h T hT
      have := ih (lotStep ls a) (k + 1) (fun U hU => by
        unfold lotStep at hU
        rcases List.mem_append.mp hU with hU | hU
        · have := h U hU; omega
        · obtain ⟨U', hU', rfl⟩ := List.mem_map.mp hU
          have := h U' hU'
          rw [List.length_append]; simp; omega) T hT
      rw [List.length_cons]; omega
  intro T hT
  have := this L [[]] 0 (fun U hU => by rw [List.mem_singleton.mp hU]; exact Nat.zero_le _) T hT
  omega
theorem foldSet_len : ∀ (R : List Nat) (f : List Rat), (R.foldl (fun f q => f.set q 1) f).length = f.length := by
  intro R
  induction R with
  | nil => intro f; rfl
  | cons a r ih => intro f; rw [List.foldl_cons, ih, List.length_set]
theorem bN_set {f : List Rat} {a q : Nat} {x : Rat} (hq : q < f.length) : bN (f.set a x) q = if q = a then x else bN f q := by
  unfold bN
  rw [List.getD_eq_getElem?_getD, List.getD_eq_getElem?_getD, List.getElem?_set]
  by_cases h : a = q
  · subst h
    rw [if_pos rfl, if_pos hq, if_pos rfl]
    rfl
  · rw [if_neg h, if_neg (fun z => h z.symm)]
theorem foldSet_get : ∀ (R : List Nat) (f : List Rat) (q : Nat), q < f.length → bN (R.foldl (fun f q => f.set q 1) f) q = if q ∈ R then 1 else bN f q := by
  intro R
  induction R with
  | nil => intro f q _; rw [if_neg (List.not_mem_nil)]; rfl
  | cons a r ih =>
    intro f q hq
    rw [List.foldl_cons, ih _ _ (by rw [List.length_set]; exact hq), bN_set hq]
    by_cases h1 : q ∈ r
    · rw [if_pos h1, if_pos (List.mem_cons_of_mem _ h1)]
    · rw [if_neg h1]
      by_cases h2 : q = a
      · rw [if_pos h2, if_pos (by rw [h2]; exact List.mem_cons_self)]
      · rw [if_neg h2, if_neg (fun z => (List.mem_cons.mp z).elim h2 h1)]
theorem foldSet_mem : ∀ (R : List Nat) (f : List Rat), ∀ x ∈ R.foldl (fun f q => f.set q 1) f, x = 1 ∨ x ∈ f := by
  intro R
  induction R with
  | nil => intro f x hx; exact .inr hx
  | cons a r ih =>
    intro f x hx
    rcases ih _ x hx with h | h
    · exact .inl h
    · rcases List.mem_or_eq_of_mem_set h with h | h
      · exact .inr h
      · exact .inl h
abbrev leftV (t : Term) (ws es : List Rat) (T : List Nat) : List Rat := val (bN es) t :: T.map (bN ws)
section
variable {P : Program} {w : World} {K : PySem.W.Frag} {mg : Str → Option Value} {base : Heap}
abbrev spLeftL (K : PySem.W.Frag) : Sp := spP K 4 fun ds post => ∃ (n Dn m : Nat) (t : Term) (ws bs : List Rat) (later : List Nat), Op3 n Dn m t ws bs later ∧ later.length ≤ 6 ∧ (∀ p ∈ later, p < n) ∧ ds = [tD t, .tup (frs ws), .tup (frs bs), .lst (natsD later)] ∧ post = fun d => ∃ A, d = fr A ∧ IsLeft t (bN ws) (bN bs) (inL later) A ∧ Sz m A
theorem ok_L_left (W : Wd P K mg base) (F : Df K mg "_law_left" s_L_left) (G_L_sorted : C8.Cal P w K mg base 34 "_law_sorted" (spAsc K) []) (G_L_value : C8.Cal P w K mg base 38 "_law_value" (spValL3 K) []) : C8.Cal P w K mg base 39 "_law_left" (spLeftL K) [] := by
  refine cal_of F sc_L_left (fun _ _ _ _ _ _ us hl => match us, hl with | [_, _, _, _], _ => rfl) rfl fun f cdv A outer s H vs Q E ds post hr hp hd q => ?_
  obtain ⟨n, Dn, m, t, ws, bs, later, O, l6, hlt, rfl, rfl⟩ := hp
  obtain ⟨u1, u2, u3, u4, rfl, hu1, hu2, hu3, hu4⟩ := dats4 hd
  refine ⟨_, (pss_cons (ps_set (i := 4) sc_L_left.nd rfl (by first | exact Or.inl rfl | exact Or.inr rfl) (pe_lst (pa_cons (pe_tup pa_nil) pa_nil)))
    (pss_cons (ps_for PassesOwn.never rfl (pi_list (pv 3)) (pg_name (i := 5) sc_L_left.nd rfl (by first | exact Or.inl rfl | exact Or.inr rfl))
    (pss_one (ps_set (i := 4) sc_L_left.nd rfl (by first | exact Or.inl rfl | exact Or.inr rfl) (pe_op op_cat (pv 4) (pe_lc (own := [("_law_lot", 6)]) (g := gName 6) (tt := tYes) rfl sc_L_left.nd (pi_list (pv 4)) (blkOk_by (N := n_L_left) (sc := defScope s_L_left) (by decide +kernel)) (fun _ _ _ _ _ => (pg_name (i := 6) sc_L_left.nd rfl (by first | exact Or.inl rfl | exact Or.inr rfl))) (fun _ _ _ _ _ => pts_nil) (fun _ _ _ _ _ => (pe_op (catA_K rfl) (pv 6) (pe_tup (pa_cons (pv 5) pa_nil)))))))))
    (pss_cons (ps_set (i := 7) sc_L_left.nd rfl (by first | exact Or.inl rfl | exact Or.inr rfl) (pe_lst pa_nil))
    (pss_cons (ps_for PassesOwn.never rfl (pi_list (pv 4)) (pg_name (i := 6) sc_L_left.nd rfl (by first | exact Or.inl rfl | exact Or.inr rfl))
    (pss_cons (ps_setLc (i := 8) (own := [("_law_person", 5), ("_law_bid", 9)]) (g := gTup K 2 (gCons (gName 5) (gCons (gName 9) gNil))) (tt := tYes) (by rfl) sc_L_left.nd rfl rfl (sw_true rfl rfl rfl (by decide +kernel)) (pi_enumT (by rfl) W.enum (pa_cons (pv 2) pa_nil)) (blkOk_by (N := n_L_left) (sc := defScope s_L_left) (by decide +kernel)) (fun _ _ _ _ _ => (pg_tupK rfl rfl (pgs_cons (pg_name (i := 5) sc_L_left.nd rfl (by first | exact Or.inl rfl | exact Or.inr rfl)) (pgs_cons (pg_name (i := 9) sc_L_left.nd rfl (by first | exact Or.inl rfl | exact Or.inr rfl)) pgs_nil)))) (fun _ _ _ _ _ => pts_nil) (fun _ _ _ _ _ => (pe_ifExp (pt_cmpR (in_K rfl) (pv 5) (pv 3) (by rfl)) (pe_tup (pa_cons pe_int (pa_cons pe_int pa_nil))) (pv 9))))
    (pss_cons (ps_for PassesOwn.never rfl (pi_tup (pv 6)) (pg_name (i := 5) sc_L_left.nd rfl (by first | exact Or.inl rfl | exact Or.inr rfl))
    (pss_one (ps_asg (pe_tup (pa_cons pe_int (pa_cons pe_int pa_nil))) (pg_sub (pv 8) (pv 5) set_list))))
    (pss_one (ps_expr (pe_bm PySem.F.plainAttrs_list PySem.F.slot_list_append PySem.F.type_list_append mt_append (pv 7) (pa_cons (pe_ix ix_list (C8.pe_c G_L_sorted hr (by omega) (by rfl) (pa_cons (pe_op op_cat (pe_lst (pa_cons (C8.pe_c G_L_value hr (by omega) (by rfl) (pa_cons (pv 0) (pa_cons (pv 8) pa_nil))) pa_nil)) (pe_lc (own := [("_law_person", 5)]) (g := gName 5) (tt := tYes) rfl sc_L_left.nd (pi_tup (pv 6)) (blkOk_by (N := n_L_left) (sc := defScope s_L_left) (by decide +kernel)) (fun _ _ _ _ _ => (pg_name (i := 5) sc_L_left.nd rfl (by first | exact Or.inl rfl | exact Or.inr rfl))) (fun _ _ _ _ _ => pts_nil) (fun _ _ _ _ _ => (pe_ix (ixT_K rfl) (pv 1) (pv 5) (fun _ _ => rfl))))) pa_nil)) pe_int (fun _ _ => rfl)) pa_nil)))))))
    (pss_one (ps_ret (pe_ix ix_list (C8.pe_c G_L_sorted hr (by omega) (by rfl) (pa_cons (pv 7) pa_nil)) (pe_un un_neg pe_int) (fun _ _ => rfl)))))))), ?_⟩
  have T := O.T
  have hn := O.hn
  have lw := O.lw
  have lb := O.lb
  have hm : m ≤ 1000000 := T.hm
  -- the lots
  refine q_setL (el_lst (K := K) (ds := [lotT []]) (ea_cons (ed_tup ea_nil) ea_nil) (by show 1 ≤ 1000000; decide)) (Same.refl _) fun r0 xs0 H1 ds0 s1 hr0 hx0 e0 => ?_
  subst e0
  refine q_forB (ei_list (vv_var (i := 3) rfl) hu4) s1 fun Hb H2 sb s2 _ sb2 => ?_
  refine ⟨fun i σ H' => ∃ r y5 xs, σ = [some u1, some u2, some u3, some u4, some (.ref r), y5, none, none, none, none] ∧ Same Hb H' ∧ H' r = some (.lst xs) ∧ Dats K H' ((lotsL (later.take i)).map lotT) xs, ⟨r0, none, xs0, rfl, sb2, s2 _ _ hr0, Dats.same s2 hx0⟩, fun i σ H' ⟨_, _, _, _, h, _⟩ => h, ?_, ?_⟩
  · rintro i d x σ H3 H4 hi ⟨r, y5, xs, rfl, b1, hr1, hx1⟩ s4 hx
    rw [List.getElem?_map, Option.map_eq_some_iff] at hi
    obtain ⟨p, hp, rfl⟩ := hi
    obtain rfl : x = .int (p : Nat) := hx
    have hil : i < later.length := (List.getElem?_eq_some_iff.mp hp).1
    have l64 : (lotsL (later.take i)).length ≤ 64 := by
      rw [lotsL_pow, List.length_take, Nat.min_eq_left (by omega)]
      exact Nat.le_trans (Nat.pow_le_pow_right (by decide) (show i ≤ 6 by omega)) (by decide)
    have dl : Dat K H4 (.lst ((lotsL (later.take i)).map lotT)) (.ref r) := ⟨r, xs, rfl, SqL.of (s4 _ _ hr1), Dats.same s4 hx1⟩
    have hlen : ∀ T ∈ lotsL (later.take i), T.length ≤ 900000 := fun T hT => by
      have := lotsL_le T hT
      rw [List.length_take] at this
      omega
    refine q_setL1 (el_cat2 (l1 := (lotsL (later.take i)).map lotT) (l2 := ((lotsL (later.take i)).map fun T => T ++ [p]).map lotT) (el_var rfl (s4 _ _ hr1) (Dats.same s4 hx1)) (el_lcA (l := lotsL (later.take i)) (G := lotT) (F := fun T => lotT (T ++ [p])) (p := fun _ => true) (ei_list (vv_var rfl) dl) (fun _ => rfl) (fun T _ => nl_nats _) (by omega) (fun T v H5 hT s5 hv => ⟨et_yes, fun _ => ?_⟩) (by rw [filt_true, List.map_map]; rfl)) (by simp only [List.length_map]; omega)) (Same.refl _) fun r2 xs2 H5 ds2 s5 hr2 hx2 e2 => ?_
    · have hT' := hlen T hT
      have e : lotT (T ++ [p]) = .tup (natsD T ++ [.int (p : Nat)]) := by show D.tup _ = D.tup _; rw [nats_app]
      rw [e]
      exact ed_catT (ed_var rfl hv) (ed_tup (ea_cons (ed_var rfl rfl) ea_nil)) (by rw [List.length_map]; show T.length + 1 ≤ _; omega)
    · subst e2
      refine ⟨r2, some (.int (p : Nat)), xs2, rfl, (b1.trans s4).trans s5, hr2, ?_⟩
      rw [List.take_succ, hp]
      show Dats K H5 ((lotsL (later.take i ++ [p])).map lotT) xs2
      rw [lotsL_snoc]
      unfold lotStep
      rw [List.map_append]
      exact hx2
  · rintro σ H3 ⟨r, y5, xs, rfl, b1, hr1, hx1⟩
    rw [List.length_map, List.take_length] at hx1
    have s03 : Same H H3 := sb.trans b1
    have dl3 : Dat K H3 (.lst ((lotsL later).map lotT)) (.ref r) := ⟨r, xs, rfl, SqL.of hr1, hx1⟩
    let endT : List Nat → List Rat := fun T => T.foldl (fun f q => f.set q 1) (behF bs later 0)
    let g : List Nat → Rat := fun T => rk (leftV t ws (endT T) T) 0
    have elen : ∀ T, (endT T).length = n := fun T => by
      show (T.foldl (fun f q => f.set q 1) (behF bs later 0)).length = n
      rw [foldSet_len, tb_len, lb]
    have emem : ∀ T, ∀ x ∈ endT T, Nm Dn x := fun T' x hx => by
      rcases foldSet_mem T' (behF bs later 0) x hx with h | h
      · rw [h]; exact nm1
      · obtain ⟨i, hi, rfl⟩ := List.mem_map.mp h
        by_cases hl : i ∈ later
        · simp only [if_pos hl]; exact nm0
        · simp only [if_neg hl]; exact O.nb _ (bN_mem (List.mem_range.mp hi))
    have szl : ∀ T' ∈ lotsL later, SzL m (leftV t ws (endT T') T') := fun T' hT y hy => by
      rcases List.mem_cons.mp hy with rfl | hy
      · exact T.szV fun q hq => emem T' _ (bN_mem (by rw [elen]; exact hq))
      · obtain ⟨q, hq, rfl⟩ := List.mem_map.mp hy
        exact T.szN (O.nw _ (bN_mem (by rw [lw]; exact hlt q (lotsL_sub T' hT q hq))))
    have l64' : (lotsL later).length ≤ 64 := by
      rw [lotsL_pow]
      exact Nat.le_trans (Nat.pow_le_pow_right (by decide) l6) (by decide)
    refine ⟨Nat.zero_le _, fun p hp => ?_⟩
    refine q_forB (ei_list (vv_var (i := 4) rfl) dl3) (same_upd hp) fun Hc H4 sc s4 hnc sc4 => ?_
    have hcp : Hc p = none := hnc p (by rw [upd_same]; exact fun z => nomatch z) hp
    refine ⟨fun i σ H' => ∃ y5 y6 y8 acc, σ = [some u1, some u2, some u3, some u4, some (.ref r), y5, y6, some (.ref p), y8, none] ∧ Same Hc H' ∧ H' p = some (.lst acc) ∧ Dats K H' (frs (((lotsL later).take i).map g)) acc, ⟨y5, none, none, [], rfl, sc4, s4 _ _ upd_same, Dats.nil⟩, fun i σ H' ⟨_, _, _, _, _, h, _⟩ => h, ?_, ?_⟩
    · rintro i d x σ H5 H6 hi ⟨z5, z6, z8, acc, rfl, b5, ha, hacc⟩ s6 hx
      rw [List.getElem?_map, Option.map_eq_some_iff] at hi
      obtain ⟨T', hT, rfl⟩ := hi
      have mT := List.mem_of_getElem? hT
      have tl : T'.length ≤ 6 := Nat.le_trans (lotsL_le T' mT) l6
      have tin : ∀ q ∈ T', q < n := fun q hq => hlt q (lotsL_sub T' mT q hq)
      have s06 : Same H H6 := ((s03.trans sc).trans b5).trans s6
      have ha6 : H6 p = some (.lst acc) := s6 _ _ ha
      refine q_setLF (el_lcA2 (l := List.range bs.length) (G := fun i => D.tup [.int (i : Nat), fr (bN bs i)]) (F := fun i => fr (if i ∈ later then 0 else bN bs i)) (p := fun _ => true) (outs := frs (behF bs later 0)) (ei_enumF (vv_var (i := 2) rfl) (Dat.same s06 hu3)) (fun _ _ => rfl) (fun _ _ => rfl) (by rw [List.length_range]; omega) (fun i H7 hi s7 => ⟨_, _, rfl, fun a b ha hb => ⟨et_yes, fun _ => ?_⟩⟩) (by rw [filt_true]; unfold frs; rw [List.map_map]; rfl)) (Same.refl _) fun re xse H7 dse s7 hre0 hre hxe ee => ?_
      · refine ed_ifE (et_test (ed_inNL (i := i) (lot := later) (ed_var rfl ha) (ed_var rfl (Dat.same (s06.trans s7) hu4)))) (fun q => ?_) (fun q => ?_)
        · rw [if_pos (of_decide_eq_true q)]
          exact ed_tup (ea_cons ed_int (ea_cons ed_int ea_nil))
        · rw [if_neg (of_decide_eq_false q)]
          exact ed_var rfl hb
      · subst ee
        have ha7 : H7 p = some (.lst acc) := s7 _ _ ha6
        have nep : re ≠ p := fun z => by rw [z, ha6] at hre0; cases hre0
        have hc6 : Same Hc H6 := b5.trans s6
        have hcre : Hc re = none := hc6.free hre0
        have e1 : hide H7 p re = some (.lst xse) := by show (if re = p then none else H7 re) = _; rw [if_neg nep]; exact hre
        have bcd : Same Hc (hide (hide H7 p) re) := same_hide (same_hide (hc6.trans s7) hcp) hcre
        have hxd : Dat K (hide (hide H7 p) re) (lotT T') x := Dat.tk (tk_hideL e1) (nl_nats _) (Dat.tk (tk_hideL ha7) (nl_nats _) (Dat.same s7 hx))
        refine q_forB (ei_tup (vv_var (i := 6) rfl) hxd) (fun b o e => hide_same _ _ (hide_same _ _ e)) fun He H8 se s8 hne se8 => ?_
        have hep : He p = none := hne p (by rw [ha7]; exact fun z => nomatch z) (by show (if p = re then none else hide H7 p p) = none; rw [if_neg (Ne.symm nep)]; exact hide_none)
        have here : He re = none := hne re (by rw [hre]; exact fun z => nomatch z) hide_none
        have bce : Same Hc He := bcd.trans se
        refine ⟨fun j σ H' => ∃ y5 xse, σ = [some u1, some u2, some u3, some u4, some (.ref r), y5, some x, some (.ref p), some (.ref re), none] ∧ Same He H' ∧ H' p = some (.lst acc) ∧ Dats K H' (frs (((lotsL later).take i).map g)) acc ∧ H' re = some (.lst xse) ∧ Dats K H' (frs ((T'.take j).foldl (fun f q => f.set q 1) (behF bs later 0))) xse,
          ⟨z5, xse, rfl, se8, s8 _ _ ha7, Dats.same ((s6.trans s7).trans s8) hacc, s8 _ _ hre, Dats.same s8 hxe⟩, fun j σ H' ⟨_, _, _, h, _⟩ => h, ?_, ?_⟩
        · rintro j d y σ H9 H10 hj ⟨y5', xse', rfl, b9, hp9, hacc9, hre9, hxe9⟩ s10 hy
          rw [List.getElem?_map, Option.map_eq_some_iff] at hj
          obtain ⟨k, hk, rfl⟩ := hj
          obtain rfl : y = .int (k : Nat) := hy
          have hkn : k < n := tin k (List.mem_of_getElem? hk)
          unfold gName tAsg
          refine EvD.use (te := tTup (tCons (tC (.int 1)) (tCons (tC (.int 1)) tNil))) (σ := [some u1, some u2, some u3, some u4, some (.ref r), some (.int (k : Nat)), some x, some (.ref p), some (.ref re), none]) (ed_tup (K := K) (ds := [.int 1, .int 1]) (ea_cons ed_int (ea_cons ed_int ea_nil))) (Same.refl _) fun bv H11 s11 hbv => ?_
          have lxe : xse'.length = n := by
            rw [← hxe9.length, frs_len]
            rw [foldSet_len, tb_len, lb]
          have hre11 : H11 re = some (.lst xse') := s11 _ _ (s10 _ _ hre9)
          refine ⟨_, rfl, _, rfl, re, xse', k, k, rfl, rfl, hre11, ixN_nat (by omega), some (.int (k : Nat)), xse'.set k bv, rfl, fun b o e => ?_, ?_, ?_, upd_same, ?_⟩
          · rw [upd_ne (ne_of_none e here)]
            exact s11 _ _ (s10 _ _ (b9 _ _ e))
          · rw [upd_ne (Ne.symm nep)]
            exact s11 _ _ (s10 _ _ hp9)
          · exact Dats.tk (tk_upd hre11) (nls_map fun _ => rfl) (Dats.same (s10.trans s11) hacc9)
          · have tk := tk_upd (o := HO.lst (xse'.set k bv)) hre11
            rw [List.take_succ, hk, List.foldl_append]
            show Dats K _ (frs (List.set _ k 1)) _
            unfold frs at hxe9 ⊢
            rw [List.map_set]
            exact Dats.set k (Dats.tk tk (nls_map fun _ => rfl) (Dats.same (s10.trans s11) hxe9)) (Dat.tk tk rfl hbv)
        · rintro σ H9 ⟨y5', xse', rfl, b9, hp9, hacc9, hre9, hxe9⟩
          rw [List.length_map, List.take_length] at hxe9
          have s09 : Same H H9 := ((s03.trans sc).trans bce).trans b9
          have hx9 : Dat K H9 (lotT T') x := Dat.same (se.trans b9) hxd
          have dend : Dat K H9 (.lst (frs (endT T'))) (.ref re) := ⟨re, xse', rfl, SqL.of hre9, hxe9⟩
          have lacc : acc.length = i := by rw [← hacc9.length, frs_len, List.length_map, List.length_take]; have := (List.getElem?_eq_some_iff.mp hT).1; omega
          have lend := elen T'
          have hil : i < (lotsL later).length := (List.getElem?_eq_some_iff.mp hT).1
          refine q_append (post := fun d => d = fr (g T')) (vv_var rfl) (ed_ixL (ed_call (d := .lst (frs (srt (leftV t ws (endT T') T')))) (ea_cons (EvL.ed (l := frs (leftV t ws (endT T') T')) (el_cat2 (l1 := [fr (val (bN (endT T')) t)]) (l2 := frs (T'.map (bN ws))) (el_lst (ea_cons (ed_call (ea_cons (ed_var rfl (Dat.same s09 hu1)) (ea_cons (ed_var rfl dend) ea_nil)) ⟨t, endT T', Dn, m, true, by rw [lend]; exact T.wf, emem T', T.pos, T.sz, T.hm, rfl, rfl⟩ rfl) ea_nil) (by show 1 ≤ 1000000; decide)) (el_lcA (l := T') (G := fun (q : Nat) => D.int (q : Int)) (F := fun q => fr (bN ws q)) (p := fun _ => true) (ei_tup (vv_var rfl) hx9) (fun _ => rfl) (fun _ _ => rfl) (by omega) (fun q z H5 hq s5 hz => ⟨et_yes, fun _ => ed_ixT (ed_var rfl (Dat.same (s09.trans s5) hu2)) (ed_var (d := .int (q : Nat)) rfl hz) (atI_frs (bN_get (by rw [lw]; exact tin q hq)))⟩) (by rw [filt_true]; unfold frs; rw [List.map_map]; rfl)) (by show 1 + (frs (T'.map (bN ws))).length ≤ _; rw [frs_len, List.length_map]; omega))) ea_nil) ⟨leftV t ws (endT T') T', m, by simp; omega, szl T' mT, by unfold LIM; omega, rfl, rfl⟩ rfl) ed_int (atI_frs (i := 0) (rk_get (by simp)))) (Same.refl _) ⟨acc, hp9, by omega⟩ fun H10 xs' d z s10 h10 h5 pd hz => ?_
          subst pd
          rw [hp9] at h5
          obtain rfl : acc = xs' := by
            have := Option.some.inj h5
            cases this; rfl
          have tk := tk_upd (o := HO.lst (acc ++ [z])) h10
          refine ⟨y5', some x, some (.ref re), acc ++ [z], rfl, fun b o e => ?_, upd_same, ?_⟩
          · rw [upd_ne (ne_of_none e hcp)]
            exact s10 _ _ (b9 _ _ (bce _ _ e))
          · rw [List.take_succ, hT, List.map_append]
            unfold frs at hacc9 ⊢
            rw [List.map_append]
            exact (Dats.tk tk (nls_map fun _ => rfl) (Dats.same s10 hacc9)).append (.cons (Dat.tk tk rfl hz) .nil)
    · rintro σ H9 ⟨y5', y6', y8', acc, rfl, b9, ha9, hacc9⟩
      rw [List.length_map, List.take_length] at hacc9
      have hne : lotsL later ≠ [] := fun z => by
        have := lotsL_filter (fun _ => false) later
        rw [z] at this
        cases this
      have lpos : 0 < (lotsL later).length := List.length_pos_iff.mpr hne
      have lg : ((lotsL later).map g).length = (lotsL later).length := List.length_map _
      have szg : SzL m ((lotsL later).map g) := fun y hy => by
        obtain ⟨T', hT, rfl⟩ := List.mem_map.mp hy
        exact szl T' hT _ (rk_mem (by simp))
      refine q_retD (K := K) (d := fr (rk ((lotsL later).map g) (((lotsL later).map g).length - 1))) (ed_ixL (ed_call (d := .lst (frs (srt ((lotsL later).map g)))) (ea_cons (ed_var (d := .lst (frs ((lotsL later).map g))) rfl ⟨p, acc, rfl, SqL.of ha9, hacc9⟩) ea_nil) ⟨(lotsL later).map g, m, by omega, szg, by unfold LIM; omega, rfl, rfl⟩ rfl) (ed_neg ed_int) (atI_lastF (by rw [srt_len, lg]; exact lpos) (by rw [srt_len]; exact rk_get (by omega)))) (Same.refl _) fun r' H4' s4' h4' => q r' H4' _ (((s03.trans sc).trans b9).trans s4') ⟨_, rfl, ?_, szg _ (rk_mem (by omega))⟩ h4'
      have hw := T.wf
      have ev : ∀ T' ∈ lotsL later, val (bN (endT T')) t = val (endsS (bN bs) (inL later) fun q => decide (q ∈ T')) t := fun T' hT => val_congr (fun q hq => by
        show bN (T'.foldl (fun f q => f.set q 1) (behF bs later 0)) q = _
        rw [foldSet_get _ _ _ (by rw [tb_len]; omega), bN_tb (by omega)]
        unfold endsS inL
        by_cases h : q ∈ T'
        · simp [h, lotsL_sub T' hT q h]
        · simp [h]) hw
      refine law_left hw (lots := lotsL later) (by simpa using hne) (fun y => ?_) fun y => ⟨later.filter fun q => decide (y ≤ bN ws q), lotsL_filter _ _, fun q hq => of_decide_eq_true (List.mem_filter.mp hq).2, fun q hq hS hy => List.mem_filter.mpr ⟨of_decide_eq_true hS, decide_eq_true hy⟩⟩
      constructor
      · rintro ⟨a, ha', hy⟩
        obtain ⟨T', hT, rfl⟩ := List.mem_map.mp ha'
        have h := (le_least (by simp)).mp hy
        exact ⟨T', hT, fun q hq => h _ (List.mem_cons_of_mem _ (List.mem_map.mpr ⟨q, hq, rfl⟩)), by rw [← ev T' hT]; exact h _ List.mem_cons_self⟩
      · rintro ⟨T', hT, h1, h2⟩
        refine ⟨_, List.mem_map.mpr ⟨T', hT, rfl⟩, (le_least (by simp)).mpr fun a ha' => ?_⟩
        rcases List.mem_cons.mp ha' with rfl | ha'
        · rw [ev T' hT]; exact h2
        · obtain ⟨q, hq, rfl⟩ := List.mem_map.mp ha'
          exact h1 q hq
end
end Cb
set_option Elab.async false
set_option linter.all false
set_option maxRecDepth 100000
set_option maxHeartbeats 1000000
/-! walks of the law: how near -/
namespace Cb
open PySem PySem.Spec PyProof.Rows L2
/-- arguments of which only so much is known -/
def EvAP (K : PySem.W.Frag) (ta : TA) (σ : L2.St) (H : Hp) (R : List D → Prop) : Prop :=
  ∀ H0, Same H H0 → ∀ Q : List V → Hp → Prop, (∀ vs H' ds, Same H0 H' → R ds → Dats K H' ds vs → Q vs H') → ta σ H0 Q
section
variable {K : PySem.W.Frag} {σ : L2.St} {H : Hp} {te : TE} {ta tr : TA} {post : D → Prop} {R : List D → Prop}
theorem eap_nil : EvAP K tNil σ H (fun ds => ds = []) := fun H0 s Q q => q [] H0 [] (Same.refl _) rfl rfl
theorem eap_cons (ha : EvP K te σ H post) (hr : EvAP K tr σ H R) : EvAP K (tCons te tr) σ H (fun ds => ∃ d r, ds = d :: r ∧ post d ∧ R r) := fun H0 s Q q =>
  ha H0 s _ fun v H1 d s1 pd hv => hr H1 (s.trans s1) _ fun vs H2 ds s2 pr hvs => q (v :: vs) H2 (d :: ds) (s1.trans s2) ⟨d, ds, rfl, pd, pr⟩ ⟨v, vs, rfl, Dat.same s2 hv, hvs⟩
theorem ep_callP {n : Nat} {pre : List D → (D → Prop) → Prop} {E : XK} (h : EvAP K ta σ H R) (hp : ∀ ds, R ds → ds.length = n ∧ ∃ post', pre ds post' ∧ ∀ d, post' d → post d) : EvP K (tCall (spP K n pre) [] E ta) σ H post := fun H0 s Q q =>
  h H0 s _ fun vs H1 ds s1 hR hd => by
    rw [List.append_nil]
    obtain ⟨hn, post', hp, hi⟩ := hp ds hR
    exact ⟨by rw [← hd.length]; exact hn, ds, post', hp, hd, fun v H' d s2 hpo hv => q v H' d (s1.trans s2) (hi d hpo) hv⟩
end
section
variable {P : Program} {w : World} {K : PySem.W.Frag} {mg : Str → Option Value} {base : Heap}
abbrev spNearL (K : PySem.W.Frag) : Sp := spP K 5 fun ds post => ∃ (n Dn m : Nat) (t : Term) (ws : List Rat) (sch : List Nat) (pl : List Rat) (x : Rat) (p : Nat), Pl3 n Dn m t ws sch (pl ++ [x]) ∧ sch[pl.length]? = some p ∧ ds = [tD t, .tup (frs ws), .tup (natsD sch), .tup (frs pl), fr x] ∧ post = fun d => ∃ A, d = fr (dist A (bN ws p)) ∧ IsLeft t (bN ws) (bN (bidsOf n sch (pl ++ [x]))) (openL sch (pl.length + 1)) A ∧ Sz m A
theorem laterL_facts {n k : Nat} {sch : List Nat} (sl : ∀ p ∈ sch, p < n) : ((asc n sch).filter fun i => decide (i ∈ sch.drop k)).length ≤ n ∧ (∀ p, p ∈ ((asc n sch).filter fun i => decide (i ∈ sch.drop k)) ↔ p ∈ sch.drop k) := by
  constructor
  · have h1 := List.length_filter_le (fun i => decide (i ∈ sch.drop k)) (asc n sch)
    have h2 := List.length_filter_le (fun i => decide (i ∈ sch)) (List.range n)
    rw [List.length_range] at h2
    exact Nat.le_trans h1 h2
  · intro p
    rw [List.mem_filter]
    constructor
    · intro h
      exact of_decide_eq_true h.2
    · intro h
      have hm : p ∈ sch := List.mem_of_mem_drop h
      exact ⟨List.mem_filter.mpr ⟨List.mem_range.mpr (sl p hm), decide_eq_true hm⟩, decide_eq_true h⟩
theorem ok_L_near (W : Wd P K mg base) (F : Df K mg "_law_near" s_L_near) (G_L_left : C8.Cal P w K mg base 39 "_law_left" (spLeftL K) []) (G_L_bids : C8.Cal P w K mg base 33 "_law_bids" (spBidsL K) []) (G_L_later : C8.Cal P w K mg base 33 "_law_later" (spLaterLw K) []) (G_L_far : C8.Cal P w K mg base 35 "_law_far" (spFarL K) []) : C8.Cal P w K mg base 40 "_law_near" (spNearL K) [] := by
  refine cal_of F sc_L_near (fun _ _ _ _ _ _ us hl => match us, hl with | [_, _, _, _, _], _ => rfl) rfl fun f cdv A outer s H vs Q E ds post hr hp hd q => ?_
  obtain ⟨n, Dn, m, t, ws, sch, pl, x, p, S, hp, rfl, rfl⟩ := hp
  obtain ⟨u1, u2, u3, u4, u5, rfl, hu1, hu2, hu3, hu4, hu5⟩ := dats5 hd
  refine ⟨_, (pss_cons (ps_set (i := 5) sc_L_near.nd rfl (by first | exact Or.inl rfl | exact Or.inr rfl) (pe_op op_catA (pv 3) (pe_tup (pa_cons (pv 4) pa_nil))))
    (pss_cons (ps_set (i := 6) sc_L_near.nd rfl (by first | exact Or.inl rfl | exact Or.inr rfl) (C8.pe_c G_L_bids hr (by omega) (by rfl) (pa_cons (pe_callB call_len_seq (by rfl) W.len b_len (pa_cons (pv 1) pa_nil)) (pa_cons (pv 2) (pa_cons (pv 5) pa_nil)))))
    (pss_one (ps_ret (C8.pe_c G_L_far hr (by omega) (by rfl) (pa_cons (C8.pe_c G_L_left hr (by omega) (by rfl) (pa_cons (pv 0) (pa_cons (pv 1) (pa_cons (pv 6) (pa_cons (C8.pe_c G_L_later hr (by omega) (by rfl) (pa_cons (pv 2) (pa_cons (pe_callB call_len_seq (by rfl) W.len b_len (pa_cons (pv 5) pa_nil)) pa_nil))) pa_nil))))) (pa_cons (pe_ix ix_tup (pv 1) (pe_ix ix_tup (pv 2) (pe_callB call_len_seq (by rfl) W.len b_len (pa_cons (pv 3) pa_nil)) (fun _ _ => rfl)) (fun _ _ => rfl)) pa_nil))))))), ?_⟩
  have hn := S.hn
  have T := S.T
  have lw := S.lw
  have hm := T.hm
  have lpl : pl.length + 1 ≤ sch.length := by have := S.lp; rw [List.length_append] at this; exact this
  have s64 := S.s64
  have hpn : p < n := S.sl p (List.mem_of_getElem? hp)
  obtain ⟨lf1, lf2⟩ := laterL_facts (k := pl.length + 1) S.sl
  refine q_setD (K := K) (d := .tup (frs (pl ++ [x]))) ((ed_catT (ed_var rfl hu4) (ed_tup (ea_cons (ed_var rfl hu5) ea_nil)) (by rw [frs_len]; show _ + 1 ≤ _; omega)).to (by unfold frs; rw [List.map_append]; rfl)) (Same.refl _) fun y H1 s1 hy => ?_
  refine q_setD (K := K) (d := .tup (frs (bidsOf n sch (pl ++ [x])))) (ed_call (ea_cons ((ed_lenT (ed_var rfl (Dat.same s1 hu2))).to (d := _) (e' := .int ((n : Nat) : Int)) (by rw [frs_len, lw])) (ea_cons (ed_var rfl (Dat.same s1 hu3)) (ea_cons (ed_var rfl hy) ea_nil))) ⟨n, sch, pl ++ [x], by omega, S.sl, by rw [List.length_append]; exact lpl, by rw [List.length_append]; show _ + 1 ≤ _; omega, rfl, rfl⟩ rfl) (Same.refl _) fun b H2 s2 hb => ?_
  have s12 := s1.trans s2
  refine q_ret (K := K) (post := fun d => ∃ A, d = fr (dist A (bN ws p)) ∧ IsLeft t (bN ws) (bN (bidsOf n sch (pl ++ [x]))) (openL sch (pl.length + 1)) A ∧ Sz m A)
    (ep_callP (eap_cons (post := fun d => ∃ A, d = fr A ∧ IsLeft t (bN ws) (bN (bidsOf n sch (pl ++ [x]))) (inL ((asc n sch).filter fun i => decide (i ∈ sch.drop (pl.length + 1)))) A ∧ Sz m A)
        (ep_call (ea_cons (ed_var rfl (Dat.same s12 hu1)) (ea_cons (ed_var rfl (Dat.same s12 hu2)) (ea_cons (ed_var rfl hb) (ea_cons (ed_call (d := .lst (natsD ((asc n sch).filter fun i => decide (i ∈ sch.drop (pl.length + 1))))) (ea_cons (ed_var rfl (Dat.same s12 hu3)) (ea_cons ((ed_lenT (ed_var rfl (Dat.same s2 hy))).to (d := _) (e' := .int ((pl.length + 1 : Nat) : Int)) (by rw [frs_len, List.length_append]; rfl)) ea_nil)) ⟨n, sch, pl.length + 1, S.sl, by omega, s64, rfl, rfl⟩ rfl) ea_nil))))
          ⟨n, Dn, m, t, ws, bidsOf n sch (pl ++ [x]), _, S.op _, by omega, fun q hq => S.sl q (List.mem_of_mem_drop ((lf2 q).mp hq)), rfl, rfl⟩ rfl)
      (eap_cons (post := fun d => d = fr (bN ws p)) (ed_ixT (d := fr (bN ws p)) (ed_var rfl (Dat.same s12 hu2)) (ed_ixT (d := .int (p : Nat)) (ed_var rfl (Dat.same s12 hu3)) ((ed_lenT (ed_var rfl (Dat.same s12 hu4))).to (by rw [frs_len])) (atI_nat (by unfold natsD; rw [List.getElem?_map, hp]; rfl))) (atI_frs (bN_get (by omega)))) eap_nil))
      fun ds ⟨d1, r1, e1, ⟨A, eA, hA, zA⟩, d2, r2, e2, e3, e4⟩ => by
        subst e1 e2 e3 e4 eA
        exact ⟨rfl, _, ⟨A, bN ws p, m, zA, T.szN (S.nw _ (bN_mem (by omega))), by unfold MX at hm; unfold LIM; omega, rfl, rfl⟩, fun d hd => ⟨A, hd, hA.congr T.wf (fun r _ => decide_eq_decide.mpr (lf2 r)) (fun _ _ _ => rfl), zA⟩⟩) (Same.refl _) fun r H3 d s3 pd hd => q r H3 d (s12.trans s3) pd hd
end
end Cb
set_option Elab.async false
set_option linter.all false
set_option maxRecDepth 100000
set_option maxHeartbeats 1000000
/-! walks of the law: the frame of what draws -/
namespace Cb
open PySem PySem.Spec PyProof.Rows L2
abbrev CM : Nat := 100000
/-- the law's dice stand at p, at most c were drawn of themselves -/
def Dice (K : PySem.W.Frag) (H : Hp) (p : Addr) (c : Nat) (L : Addr × List Int) : Prop := ∃ (i dig seed cnt : Int),
  H p = some (.lst [.ref L.1, .int i, .int dig, .int seed, .int cnt]) ∧ SqL K (hide H p) L.1 (L.2.map V.int) ∧ (∀ x ∈ L.2, 0 ≤ x) ∧ 0 ≤ i ∧ 0 ≤ dig ∧ 0 ≤ seed ∧ seed < 2147483647 ∧ 0 ≤ cnt ∧ cnt ≤ (c : Int)
section
variable {K : PySem.W.Frag} {H H' B : Hp} {p : Addr} {c : Nat} {L : Addr × List Int}
theorem hide_mono (s : Same H H') : Same (hide H p) (hide H' p) := same_hide (hide_same.trans s) hide_none
theorem Dice.same (s : Same H H') (h : Dice K H p c L) : Dice K H' p c L := by
  obtain ⟨i, dig, seed, cnt, e, sq, r⟩ := h
  exact ⟨i, dig, seed, cnt, s _ _ e, (hide_mono s).seq sq, r⟩
theorem Dice.le {c' : Nat} (h : Dice K H p c L) (hc : c ≤ c') : Dice K H p c' L := by
  obtain ⟨i, dig, seed, cnt, e, sq, h1, h2, h3, h4, h5, h6, h7⟩ := h
  exact ⟨i, dig, seed, cnt, e, sq, h1, h2, h3, h4, h5, h6, by omega⟩
theorem Dice.at (h : Dice K H p c L) : ∃ xs, H p = some (.lst xs) := by
  obtain ⟨i, dig, seed, cnt, e, _⟩ := h
  exact ⟨_, e⟩
theorem Dice.tk (h : Dice K H p c L) : Tk H (hide H p) := by
  obtain ⟨xs, e⟩ := h.at
  exact tk_hideL e
theorem Dice.ne {q : Addr} (h : Dice K H p c L) (hq : H q = none) : q ≠ p := fun z => by
  subst z
  obtain ⟨xs, e⟩ := h.at
  rw [hq] at e; cases e
theorem Dat.hideN {d : D} {v : V} (h : Dice K H p c L) (hn : nl d = true) (hd : Dat K H d v) : Dat K (hide H p) d v := Dat.tk h.tk hn hd
/-- a step of ours between two of the dice: all but p -/
theorem off_trans {H0 H1 H2 : Hp} (a : Same (hide H0 p) H1) (b : Same (hide H1 p) H2) : Same (hide H0 p) H2 := (same_hide a hide_none).trans b
theorem off_base {H0 H1 : Hp} (hB : B p = none) (s : Same B H0) (a : Same (hide H0 p) H1) : Same B H1 := (same_hide s hB).trans a
end
/-- te draws at most k times -/
def EvX (K : PySem.W.Frag) (te : TE) (σ : L2.St) (p : Addr) (B : Hp) (k : Nat) (post : D → Prop) : Prop :=
  ∀ H0 c L, Same B H0 → Dice K H0 p c L → c + k ≤ CM → ∀ Q : VK, (∀ v H' d, Same (hide H0 p) H' → Dice K H' p (c + k) L → post d → Dat K (hide H' p) d v → Q v H') → te σ H0 Q
def EvXA (K : PySem.W.Frag) (ta : TA) (σ : L2.St) (p : Addr) (B : Hp) (k : Nat) (R : List D → Prop) : Prop :=
  ∀ H0 c L, Same B H0 → Dice K H0 p c L → c + k ≤ CM → ∀ Q : List V → Hp → Prop, (∀ vs H' ds, Same (hide H0 p) H' → Dice K H' p (c + k) L → R ds → Dats K (hide H' p) ds vs → Q vs H') → ta σ H0 Q
def EvXT (K : PySem.W.Frag) (tt : TT) (σ : L2.St) (p : Addr) (B : Hp) (k : Nat) (post : Bool → Prop) : Prop :=
  ∀ H0 c L, Same B H0 → Dice K H0 p c L → c + k ≤ CM → ∀ Q : Bool → Hp → Prop, (∀ b H', Same (hide H0 p) H' → Dice K H' p (c + k) L → post b → Q b H') → tt σ H0 Q
/-- a def that is given the dice first and n things that are data -/
def spDi (K : PySem.W.Frag) (n k : Nat) (pre : List D → (D → Prop) → Prop) : Sp := fun vs H Q _ => ∃ (p : Addr) (xs : List V) (ds : List D) (post : D → Prop) (c : Nat) (L : Addr × List Int),
  vs = .ref p :: xs ∧ xs.length = n ∧ pre ds post ∧ Dice K H p c L ∧ c + k ≤ CM ∧ Dats K (hide H p) ds xs ∧ ∀ v H' d, Same (hide H p) H' → Dice K H' p (c + k) L → post d → Dat K (hide H' p) d v → Q v H'
section
variable {K : PySem.W.Frag} {σ : L2.St} {B : Hp} {p : Addr} {te ta tb' tc : TE} {k k1 k2 : Nat} {post post1 post2 : D → Prop} {d e : D} {v : V}
theorem EvX.imp (h : EvX K te σ p B k post) (hi : ∀ d, post d → post2 d) : EvX K te σ p B k post2 := fun H0 c L s D hc Q q => h H0 c L s D hc Q fun v H' d s1 D1 pd hd => q v H' d s1 D1 (hi d pd) hd
theorem EvX.le (h : EvX K te σ p B k post) (hk : k ≤ k2) : EvX K te σ p B k2 post := fun H0 c L s D hc Q q => h H0 c L s D (by omega) Q fun v H' d s1 D1 pd hd => q v H' d s1 (D1.le (by omega)) pd hd
theorem EvX.mono {B' : Hp} (s : Same B B') (h : EvX K te σ p B k post) : EvX K te σ p B' k post := fun H0 c L s1 => h H0 c L (s.trans s1)
theorem ex_of (h : EvP K te σ B post) (hn : ∀ d, post d → nl d = true) : EvX K te σ p B 0 post := fun H0 c L s D hc Q q =>
  h H0 s Q fun v H' d s1 pd hd => q v H' d (hide_same.trans s1) (D.same s1) pd (Dat.hideN (D.same s1) (hn d pd) hd)
theorem ex_ofD (h : EvD K te σ B d) (hn : nl d = true := by rfl) : EvX K te σ p B 0 (fun e => e = d) := ex_of h fun e he => by subst he; exact hn
theorem ex_ofL {l : List D} (h : EvLF K te σ B (fun ds => ds = l)) (hn : nls l = true) : EvX K te σ p B 0 (fun e => e = .lst l) := fun H0 c L s D hc Q q =>
  h H0 s Q fun r xs H' ds s1 h0 hr hx e => by
    subst e
    have ne := D.ne h0
    have hr2 : hide H' p r = some (.lst xs) := by show (if r = p then none else H' r) = _; rw [if_neg ne]; exact hr
    exact q _ H' _ (hide_same.trans s1) (D.same s1) rfl ⟨r, xs, rfl, SqL.of hr2, Dats.tk (D.same s1).tk hn hx⟩
theorem ex_var {i : Nat} (hB : B p = none) (e : σ[i]? = some (some v)) (h : Dat K B d v) : EvX K (tVar i) σ p B 0 (fun e => e = d) := fun H0 c L s D hc Q q =>
  ⟨v, e, q v H0 d hide_same D rfl (Dat.same (same_hide s hB) h)⟩
theorem xa_nil : EvXA K tNil σ p B 0 (fun ds => ds = []) := fun H0 c L s D hc Q q => q [] H0 [] hide_same D rfl rfl
theorem xa_cons {tr : TA} {R : List D → Prop} (hB : B p = none) (ha : EvX K te σ p B k1 post) (hr : EvXA K tr σ p B k2 R) : EvXA K (tCons te tr) σ p B (k1 + k2) (fun ds => ∃ d r, ds = d :: r ∧ post d ∧ R r) := fun H0 c L s D hc Q q =>
  ha H0 c L s D (by omega) _ fun x H1 d s1 D1 pd hx => hr H1 (c + k1) L (off_base hB s s1) D1 (by omega) _ fun xs H2 ds s2 D2 pr hxs =>
    q (x :: xs) H2 (d :: ds) (off_trans s1 s2) (by rw [← Nat.add_assoc]; exact D2) ⟨d, ds, rfl, pd, pr⟩ ⟨x, xs, rfl, Dat.same (same_hide s2 hide_none) hx, hxs⟩
theorem EvXA.imp {t : TA} {R R2 : List D → Prop} (h : EvXA K t σ p B k R) (hi : ∀ d, R d → R2 d) : EvXA K t σ p B k R2 := fun H0 c L s D hc Q q => h H0 c L s D hc Q fun v H' d s1 D1 pd hd => q v H' d s1 D1 (hi d pd) hd
theorem hide_upd_new {H : Hp} {q : Addr} {o : HO} (ne : q ≠ p) : hide (upd H q o) p = upd (hide H p) q o := by
  funext b
  show (if b = p then none else upd H q o b) = upd (hide H p) q o b
  by_cases h1 : b = q
  · subst h1
    rw [if_neg ne, upd_same, upd_same]
  · rw [upd_ne h1, upd_ne h1]; rfl
theorem ex_tup {t : TA} {R : List D → Prop} (h : EvXA K t σ p B k R) (hz : ∀ ds, R ds → ds.length ≤ 1000) : EvX K (tTup t) σ p B k (fun d => ∃ ds, d = .tup ds ∧ R ds) := fun H0 c L s D hc Q q =>
  h H0 c L s D hc _ fun vs H1 ds s1 D1 hR hd => ⟨Nat.le_of_lt (small1000 (by rw [← hd.length]; exact hz ds hR)), fun r hr => by
    have ne := D1.ne hr
    have hf : hide H1 p r = none := by show (if r = p then none else H1 r) = _; rw [if_neg ne]; exact hr
    refine q _ _ (.tup ds) (s1.trans (same_upd hr)) (D1.same (same_upd hr)) ⟨ds, rfl, hR⟩ ?_
    rw [hide_upd_new ne]
    exact ⟨r, vs, rfl, .inl (.inl upd_same), Dats.same (same_upd hf) hd⟩⟩
theorem ex_lst {t : TA} {R : List D → Prop} (h : EvXA K t σ p B k R) (hz : ∀ ds, R ds → ds.length ≤ 1000) : EvX K (tLst t) σ p B k (fun d => ∃ ds, d = .lst ds ∧ R ds) := fun H0 c L s D hc Q q =>
  h H0 c L s D hc _ fun vs H1 ds s1 D1 hR hd => ⟨Nat.le_of_lt (small1000 (by rw [← hd.length]; exact hz ds hR)), fun r hr => by
    have ne := D1.ne hr
    have hf : hide H1 p r = none := by show (if r = p then none else H1 r) = _; rw [if_neg ne]; exact hr
    refine q _ _ (.lst ds) (s1.trans (same_upd hr)) (D1.same (same_upd hr)) ⟨ds, rfl, hR⟩ ?_
    rw [hide_upd_new ne]
    exact ⟨r, vs, rfl, .inl (.inl upd_same), Dats.same (same_upd hf) hd⟩⟩
/-- two operands -/
theorem ex_op {r : R2} (hB : B p = none) (ha : EvX K ta σ p B k1 post1) (hb : EvX K tb' σ p B k2 post2) (hr : ∀ x y H1 d e, post1 d → post2 e → Dat K H1 d x → Dat K H1 e y → ∀ Q : VK, (∀ v H' f, Same H1 H' → nl f = true → post f → Dat K H' f v → Q v H') → r x y H1 Q) : EvX K (tOp r ta tb') σ p B (k1 + k2) post := fun H0 c L s D hc Q q =>
  ha H0 c L s D (by omega) _ fun x H1 d s1 D1 pd hx => hb H1 (c + k1) L (off_base hB s s1) D1 (by omega) _ fun y H2 e s2 D2 pe hy =>
    hr x y H2 d e pd pe (Dat.same s2 hx) (Dat.same hide_same hy) Q fun v H' f s3 nf pf hf => by
      have D3 : Dice K H' p (c + (k1 + k2)) L := by rw [← Nat.add_assoc]; exact D2.same s3
      exact q v H' f ((off_trans s1 s2).trans s3) D3 pf (Dat.hideN D3 nf hf)
theorem ex_add (hB : B p = none) (ha : EvX K ta σ p B k1 post1) (hb : EvX K tb' σ p B k2 post2) (h1 : ∀ d, post1 d → ∃ i, d = .int i) (h2 : ∀ d, post2 d → ∃ i, d = .int i) : EvX K (tOp (rI0 fun i j => .int (i + j)) ta tb') σ p B (k1 + k2) (fun d => ∃ i j, post1 (.int i) ∧ post2 (.int j) ∧ d = .int (i + j)) :=
  ex_op hB ha hb fun x y H1 d e pd pe hx hy Q q => by
    obtain ⟨i, rfl⟩ := h1 d pd
    obtain ⟨j, rfl⟩ := h2 e pe
    exact ⟨i, j, hx, hy, q _ _ (.int (i + j)) (Same.refl _) rfl ⟨i, j, pd, pe, rfl⟩ rfl⟩
theorem ex_eqI (hB : B p = none) (ha : EvX K ta σ p B k1 post1) (hb : EvX K tb' σ p B k2 post2) (h1 : ∀ d, post1 d → ∃ i, d = .int i) (h2 : ∀ d, post2 d → ∃ i, d = .int i) : EvX K (tOp rEq ta tb') σ p B (k1 + k2) (fun d => ∃ i j : Int, post1 (.int i) ∧ post2 (.int j) ∧ d = .bl (decide (i = j))) :=
  ex_op hB ha hb fun x y H1 d e pd pe hx hy Q q => by
    obtain ⟨i, rfl⟩ := h1 d pd
    obtain ⟨j, rfl⟩ := h2 e pe
    refine EvD.use (ed_eqI (K := K) (σ := []) (H := H1) (ed_c (v := x) hx) (ed_c (v := y) hy)) (Same.refl _) fun v H' s' hv => q v H' (.bl (decide (i = j))) s' rfl ⟨i, j, pd, pe, rfl⟩ hv
theorem ex_ixL (hB : B p = none) (ha : EvX K ta σ p B k1 post1) (hb : EvX K tb' σ p B k2 post2) (h : ∀ d e, post1 d → post2 e → ∃ ds i f, d = .lst ds ∧ e = .int i ∧ atI ds i = some f ∧ nl f = true ∧ post f) : EvX K (tOp (rIxL K) ta tb') σ p B (k1 + k2) post :=
  ex_op hB ha hb fun x y H1 d e pd pe hx hy Q q => by
    obtain ⟨ds, i, f, rfl, rfl, hi, nf, pf⟩ := h d e pd pe
    obtain ⟨a, xs, ex, sq, hd⟩ := hx
    obtain ⟨z, hz, hzd⟩ := hd.atI hi
    exact ⟨a, xs, i, z, ex, hy, sq, hz, q _ _ f (Same.refl _) nf pf hzd⟩
/-- a pure def of drawn things -/
theorem ex_call {n : Nat} {pre : List D → (D → Prop) → Prop} {t : TA} {R : List D → Prop} {E : XK} (h : EvXA K t σ p B k R) (hp : ∀ ds, R ds → ds.length = n ∧ ∃ post', pre ds post' ∧ ∀ d, post' d → post d ∧ nl d = true) : EvX K (tCall (spP K n pre) [] E t) σ p B k post := fun H0 c L s D hc Q q =>
  h H0 c L s D hc _ fun vs H1 ds s1 D1 hR hd => by
    rw [List.append_nil]
    obtain ⟨hn, post', hp, hi⟩ := hp ds hR
    refine ⟨by rw [← hd.length]; exact hn, ds, post', hp, Dats.same hide_same hd, fun v H' d s2 hpo hv => ?_⟩
    obtain ⟨i1, i2⟩ := hi d hpo
    exact q v H' d (s1.trans s2) (D1.same s2) i1 (Dat.hideN (D1.same s2) i2 hv)
/-- a def that is given the dice -/
theorem ex_dice {n j : Nat} {pre : List D → (D → Prop) → Prop} {i : Nat} {t : TA} {R : List D → Prop} {E : XK} (hv : σ[i]? = some (some (.ref p))) (h : EvXA K t σ p B k R) (hp : ∀ ds, R ds → ds.length = n ∧ ∃ post', pre ds post' ∧ ∀ d, post' d → post d) : EvX K (tCall (spDi K n j pre) [] E (tCons (tVar i) t)) σ p B (k + j) post := fun H0 c L s D hc Q q =>
  ⟨_, hv, h H0 c L s D (by omega) _ fun vs H1 ds s1 D1 hR hd => by
    obtain ⟨hn, post', hp, hi⟩ := hp ds hR
    refine ⟨p, vs, ds, post', c + k, L, by rw [List.append_nil], by rw [← hd.length]; exact hn, hp, D1, by omega, hd, fun v H' d s2 D2 hpo hv => ?_⟩
    exact q v H' d (off_trans s1 s2) (by rw [← Nat.add_assoc]; exact D2) (hi d hpo) hv⟩
theorem xt_test {P : Bool → Prop} (h : EvX K te σ p B k (fun d => ∃ b, d = .bl b ∧ P b)) : EvXT K (tTest te) σ p B k P := fun H0 c L s D hc Q q =>
  h H0 c L s D hc _ fun v H' d s1 D1 ⟨b, e, hb⟩ hd => by subst e; exact ⟨b, hd, q b H' s1 D1 hb⟩
theorem xt_of {tt : TT} {b : Bool} (h : EvT tt σ B b) : EvXT K tt σ p B 0 (fun c => c = b) := fun H0 c L s D hc Q q => h H0 s Q fun H' s1 => q b H' (hide_same.trans s1) (D.same s1) rfl
theorem xt_or {t u : TT} {P1 P2 : Bool → Prop} (hB : B p = none) (h : EvXT K t σ p B k1 P1) (h2 : P1 false → EvXT K u σ p B k2 P2) : EvXT K (tOr t u) σ p B (k1 + k2) (fun b => ∃ c, P1 c ∧ (c = true ∧ b = true ∨ c = false ∧ P2 b)) := fun H0 c L s D hc Q q =>
  h H0 c L s D (by omega) _ fun b H1 s1 D1 hb => by
    cases b with
    | true => exact iteT (q true H1 s1 (D1.le (by omega)) ⟨true, hb, .inl ⟨rfl, rfl⟩⟩)
    | false => exact iteF (h2 hb H1 (c + k1) L (off_base hB s s1) D1 (by omega) _ fun e H2 s2 D2 he => q e H2 (off_trans s1 s2) (by rw [← Nat.add_assoc]; exact D2) ⟨false, hb, .inr ⟨rfl, he⟩⟩)
/-! statements -/
theorem q_setX {D' : Ends} {H0 : Hp} {L : Addr × List Int} {i c : Nat} {u : TS} (h : EvX K te σ p B k post) (s : Same B H0) (hD : Dice K H0 p c L) (hc : c + k ≤ CM) (q : ∀ v H1 d, Same (hide H0 p) H1 → Dice K H1 p (c + k) L → post d → Dat K (hide H1 p) d v → u D' (σ.set i (some v)) H1) : tSeq (tAsg te (gName i)) u D' σ H0 := h H0 c L s hD hc _ q
theorem q_retX {D' : Ends} {H0 : Hp} {L : Addr × List Int} {c : Nat} (h : EvX K te σ p B k post) (s : Same B H0) (hD : Dice K H0 p c L) (hc : c + k ≤ CM) (q : ∀ v H1 d, Same (hide H0 p) H1 → Dice K H1 p (c + k) L → post d → Dat K (hide H1 p) d v → D'.rt v H1) : tRet te D' σ H0 := h H0 c L s hD hc _ q
theorem q_ifX {D' : Ends} {H0 : Hp} {L : Addr × List Int} {c : Nat} {t : TT} {P : Bool → Prop} {u1 u2 w : TS} (h : EvXT K t σ p B k P) (s : Same B H0) (hD : Dice K H0 p c L) (hc : c + k ≤ CM) (q1 : P true → ∀ H1, Same (hide H0 p) H1 → Dice K H1 p (c + k) L → u1 { D' with nx := w D' } σ H1) (q2 : P false → ∀ H1, Same (hide H0 p) H1 → Dice K H1 p (c + k) L → u2 { D' with nx := w D' } σ H1) : tSeq (tIfS t u1 u2) w D' σ H0 :=
  h H0 c L s hD hc _ fun b H1 s1 D1 hb => by
    cases b with
    | true => exact iteT (q1 hb H1 s1 D1)
    | false => exact iteF (q2 hb H1 s1 D1)
/-! comprehensions whose things are drawn -/
def EvIX (K : PySem.W.Frag) (wi : TI) (σ : L2.St) (p : Addr) (B : Hp) (k : Nat) (R : List D → Prop) : Prop := ∀ H0 c L, Same B H0 → Dice K H0 p c L → c + k ≤ CM → ∀ Q : It → Hp → Prop,
  (∀ J H1 Hb ds, Same (hide H0 p) H1 → Dice K H1 p (c + k) L → Same B Hb → Same Hb H1 → Hb p = none → R ds → Walks K J Hb ds → Q J H1) → wi σ H0 Q
theorem eix_range (hB : B p = none) (h : EvX K te σ p B k post) (hp : ∀ d, post d → ∃ n : Nat, d = .int n ∧ n ≤ 1000000) : EvIX K (iRng1 (tCons te tNil)) σ p B k (fun ds => ∃ n : Nat, post (.int n) ∧ ds = rangeD 0 n) := fun H0 c L s D hc Q q =>
  h H0 c L s D hc _ fun v H' d s1 D1 pd hd => by
    obtain ⟨n, rfl, hn⟩ := hp d pd
    obtain rfl : v = .int (n : Nat) := hd
    exact ⟨n, rfl, by omega, by omega, q _ H' B (rangeD 0 n) s1 D1 (Same.refl _) (off_base hB s s1) hB ⟨n, pd, rfl⟩ walks_range⟩
theorem eix_list {ds : List D} {i : Nat} (hB : B p = none) (e : σ[i]? = some (some v)) (hd : Dat K B (.lst ds) v) : EvIX K (iList K (tVar i)) σ p B 0 (fun es => es = ds) := fun H0 c L s D hc Q q => by
  obtain ⟨a, xs, rfl, sq, hx⟩ := hd
  exact ⟨_, e, a, rfl, ⟨xs, s.seq sq⟩, q _ H0 B ds hide_same D (Same.refl _) s hB rfl (walks_list sq hx)⟩
inductive All2 (F : D → D → Prop) : List D → List D → Prop
  | nil : All2 F [] []
  | snoc {ds es : List D} {d e : D} : All2 F ds es → F d e → All2 F (ds ++ [d]) (es ++ [e])
theorem All2.len {F : D → D → Prop} {ds es : List D} (h : All2 F ds es) : ds.length = es.length := by
  induction h with
  | nil => rfl
  | snoc _ _ ih => rw [List.length_append, List.length_append, ih]; rfl
theorem All2.nls {F : D → D → Prop} {ds es : List D} (h : All2 F ds es) (hn : ∀ d e, F d e → nl e = true) : nls es = true := by
  induction h with
  | nil => rfl
  | snoc _ h ih =>
    refine nls_all fun x hx => ?_
    rcases List.mem_append.mp hx with hx | hx
    · exact nls_mem ih hx
    · rw [List.mem_singleton.mp hx]; exact hn _ _ h
theorem ex_lc {wi : TI} {vs : List Nat} {j N kk : Nat} {R : List D → Prop} {F : D → D → Prop} (h : EvIX K wi σ p B k R) (hj : ∀ x, wipe ((wipe σ vs).set j (some x)) vs = wipe σ vs) (hz : ∀ ds, R ds → ds.length ≤ N) (hN : N ≤ 1000) (hnd : ∀ ds, R ds → nls ds = true) (hn : ∀ d e, F d e → nl e = true)
    (he : ∀ ds d x Hb, R ds → d ∈ ds → Same B Hb → Hb p = none → Dat K Hb d x → EvX K te ((wipe σ vs).set j (some x)) p Hb kk (F d)) :
    EvX K (tLc wi (gName j) tYes te vs) σ p B (k + N * kk) (fun d => ∃ ds es, d = .lst es ∧ R ds ∧ All2 F ds es) := fun H0 c L s D hc Q q =>
  h H0 c L s D (by omega) _ fun J H1 Hb ds s1 D1 sb sb1 hbp hR hW => fun a hD => by
    have ne := D1.ne hD
    have hDb : Hb a = none := sb1.free hD
    have hl := hz ds hR
    refine ⟨fun i m H2 => m = ds.length - i ∧ i ≤ ds.length ∧ Same (hide H1 p) H2 ∧ Same Hb H2 ∧ Dice K H2 p (c + k + i * kk) L ∧ ∃ acc es, H2 a = some (.lst acc) ∧ Dats K (hide H2 p) es acc ∧ All2 F (ds.take i) es, ⟨ds.length, by simp, Nat.zero_le _, hide_same.trans (same_upd hD), sb1.trans (same_upd hD), by rw [Nat.zero_mul]; exact D1.same (same_upd hD), [], [], upd_same, Dats.nil, .nil⟩, ?_⟩
    rintro i m H2 ⟨rfl, hi, s2, sb2, D2, acc, es, ha, hacc, h2⟩
    obtain ⟨hgo, hst⟩ := hW H2 sb2
    by_cases hlt : i < ds.length
    · have hd := List.getElem?_eq_getElem hlt
      obtain ⟨g1, g2⟩ := hgo i _ hd
      refine .inr ⟨g1, _, fun H' w => ⟨ds.length - (i + 1), by omega, rfl, hlt, w⟩, fun x H' y => ?_⟩
      obtain ⟨y1, y2⟩ := g2 x H' y
      have hm : (i + 1) * kk ≤ N * kk := Nat.mul_le_mul_right kk (by omega)
      have em : (i + 1) * kk = i * kk + kk := by rw [Nat.succ_mul]
      have sb3 : Same (hide H1 p) H' := s2.trans y1
      have h1a : hide H1 p a = none := by show (if a = p then none else H1 a) = _; rw [if_neg ne]; exact hD
      have D3 := D2.same y1
      have bb : Same Hb (hide H' p) := same_hide (sb2.trans y1) hbp
      refine ⟨hj x, et_yes H' (Same.refl _) _ fun H3 s3 => iteT ?_⟩
      have D4 := D3.same s3
      have x1 : Same B (hide H3 p) := sb.trans (same_hide ((sb2.trans y1).trans s3) hbp)
      have x4 : Dat K (hide H3 p) ds[i] x := Dat.hideN D4 (nls_mem (hnd ds hR) (List.getElem_mem hlt)) (Dat.same s3 y2)
      refine he ds _ x (hide H3 p) hR (List.getElem_mem hlt) x1 hide_none x4 H3 (c + k + i * kk) L hide_same D4 (by omega) _ fun u H4 d4 s4 D5 pF hu => ?_
      have ha3 : H3 a = some (.lst acc) := s3 _ _ (y1 _ _ ha)
      have ha4 : H4 a = some (.lst acc) := s4 _ _ (by show (if a = p then none else H3 a) = _; rw [if_neg ne]; exact ha3)
      refine ⟨acc, ha4, ?_, ?_, ?_, ?_, acc ++ [u], es ++ [d4], upd_same, ?_, ?_⟩
      · rw [← hacc.length, ← h2.len]
        refine small1M ?_
        rw [List.length_take]
        omega
      · intro b o eb
        have h5 := off_trans (sb3.trans s3) s4 b o eb
        rw [upd_ne (ne_of_none eb h1a)]
        exact h5
      · intro b o eb
        rw [upd_ne (ne_of_none eb hDb)]
        exact s4 _ _ (by
          show (if b = p then none else H3 b) = _
          rw [if_neg (ne_of_none eb hbp)]
          exact s3 _ _ (y1 _ _ (sb2 _ _ eb)))
      · obtain ⟨i5, dig, seed, cnt, e, sq, r1, r2, r3, r4, r5, r6, r7⟩ := D5
        obtain ⟨_, _, _, _, _, sq1, _⟩ := D1
        refine ⟨i5, dig, seed, cnt, by rw [upd_ne (Ne.symm ne)]; exact e, ?_, r1, r2, r3, r4, r5, r6, by rw [em]; omega⟩
        rw [hide_upd_new ne]
        have s14 : Same (hide H1 p) (upd (hide H4 p) a (.lst (acc ++ [u]))) := fun b o eb => by
          rw [upd_ne (ne_of_none eb h1a)]
          exact same_hide (off_trans (sb3.trans s3) s4) hide_none b o eb
        exact s14.seq sq1
      · rw [hide_upd_new ne]
        have ha5 : hide H4 p a = some (.lst acc) := by show (if a = p then none else H4 a) = _; rw [if_neg ne]; exact ha4
        have tk := tk_upd (o := HO.lst (acc ++ [u])) ha5
        have n1 : nls es = true := h2.nls hn
        refine Dats.snoc (Dats.tk tk n1 (Dats.same ((same_hide (hide_same.trans (y1.trans s3)) hide_none).trans (same_hide s4 hide_none)) hacc)) (Dat.tk tk (hn _ _ pF) hu)
      · rw [List.take_succ, hd]
        exact .snoc h2 pF
    · have e : i = ds.length := by omega
      subst e
      refine .inl ⟨hst, q _ H2 (.lst es) (off_trans s1 s2) (D2.le (by have := Nat.mul_le_mul_right kk hl; omega)) ⟨ds, es, rfl, hR, ?_⟩ ?_⟩
      · rw [List.take_length] at h2; exact h2
      · have ha5 : hide H2 p a = some (.lst acc) := by show (if a = p then none else H2 a) = _; rw [if_neg ne]; exact ha
        exact ⟨a, acc, rfl, SqL.of ha5, hacc⟩
end
end Cb
set_option Elab.async false
set_option linter.all false
set_option maxRecDepth 100000
set_option maxHeartbeats 1000000
/-! walks of the law: drawing -/
namespace Cb
open PySem PySem.Spec PyProof.Rows L2
theorem seq_mid {t w : TS} {D : Ends} {σ : L2.St} {H : Hp} (Mid : L2.St → Hp → Prop) (k : ∀ σ H, Mid σ H → w D σ H) (h : (∀ σ H, Mid σ H → w D σ H) → tSeq t w D σ H) : tSeq t w D σ H := h k
section
variable {K : PySem.W.Frag} {σ : L2.St} {H H0 : Hp} {p : Addr} {te ta tb' : TE}
theorem dice_dat {l : Addr} {cs : List Int} {i dig seed cnt : Int} (hp : H p = some (.lst [.ref l, .int i, .int dig, .int seed, .int cnt])) (sq : SqL K (hide H p) l (cs.map V.int)) : Dat K H (.lst [.lst (cs.map D.int), .int i, .int dig, .int seed, .int cnt]) (.ref p) :=
  ⟨p, _, rfl, SqL.of hp, .cons ⟨l, _, rfl, hide_same.seq sq, Dats.ints cs⟩ (.cons rfl (.cons rfl (.cons rfl (.cons rfl .nil))))⟩
theorem q_dput {D' : Ends} {u : TS} {i k : Nat} {xs : List V} {v : Int} (h : EvD K te σ H (.int v)) (s : Same H H0) (hv : σ[i]? = some (some (.ref p))) (hp : H0 p = some (.lst xs)) (hk : k < xs.length) (q : ∀ H1, Same H0 H1 → H1 p = some (.lst xs) → u D' σ (upd H1 p (.lst (xs.set k (.int v))))) :
    tSeq (tAsg te (gSub (tVar i) (tC (.int k)) rSetL)) u D' σ H0 := h.use s fun v' H1 s1 hv1 => by
  obtain rfl : v' = .int v := hv1
  exact ⟨_, hv, p, xs, k, k, rfl, rfl, s1 _ _ hp, ixN_nat hk, q H1 s1 (s1 _ _ hp)⟩
theorem q_dput1 {D' : Ends} {i k : Nat} {xs : List V} {v : Int} (h : EvD K te σ H (.int v)) (s : Same H H0) (hv : σ[i]? = some (some (.ref p))) (hp : H0 p = some (.lst xs)) (hk : k < xs.length) (q : ∀ H1, Same H0 H1 → H1 p = some (.lst xs) → D'.nx σ (upd H1 p (.lst (xs.set k (.int v))))) :
    tAsg te (gSub (tVar i) (tC (.int k)) rSetL) D' σ H0 := h.use s fun v' H1 s1 hv1 => by
  obtain rfl : v' = .int v := hv1
  exact ⟨_, hv, p, xs, k, k, rfl, rfl, s1 _ _ hp, ixN_nat hk, q H1 s1 (s1 _ _ hp)⟩
theorem off_upd {H1 H2 : Hp} {o : HO} (s : Same (hide H p) H1) (s2 : Same H1 H2) : Same (hide H p) (upd H2 p o) := fun b x e => by
  rw [upd_ne (ne_of_none e hide_none)]
  exact s2 _ _ (s b x e)
theorem ed_mod {i j : Int} (ha : EvD K ta σ H (.int i)) (hb : EvD K tb' σ H (.int j)) (h0 : 0 ≤ i) (h : 0 < j) : EvD K (tOp (rI (fun _ j => j ≠ 0) fun i j => .int (i.fmod j)) ta tb') σ H (.int (i % j)) := ed_i ha hb (by omega) fun _ => by
  show V.int _ = V.int _
  rw [Int.fmod_eq_emod_of_nonneg i (by omega)]
theorem ed_div {i j : Int} (ha : EvD K ta σ H (.int i)) (hb : EvD K tb' σ H (.int j)) (h : 0 < j) : EvD K (tOp (rI (fun _ j => j ≠ 0) fun i j => .int (i.fdiv j)) ta tb') σ H (.int (i / j)) := ed_i ha hb (by omega) fun _ => by
  show V.int _ = V.int _
  rw [Int.fdiv_eq_ediv_of_nonneg i (by omega)]
theorem ed_pow {i j : Int} (ha : EvD K ta σ H (.int i)) (hb : EvD K tb' σ H (.int j)) (hc : CPow i j) : EvD K (tOp (rI CPow fun i j => .int (i ^ j.toNat)) ta tb') σ H (.int (i ^ j.toNat)) := ed_i ha hb hc fun _ => rfl
end
theorem nat_lt_of {i : Int} {n : Nat} (h0 : 0 ≤ i) (h : i < 2 ^ n) : i.natAbs < 2 ^ n := by
  have : ((2 ^ n : Nat) : Int) = 2 ^ n := by norm_cast
  omega
section
variable {P : Program} {w : World} {K : PySem.W.Frag} {mg : Str → Option Value} {base : Heap}
abbrev spDraw (K : PySem.W.Frag) : Sp := spDi K 1 1 fun ds post => ∃ m : Nat, 0 < m ∧ m ≤ 1000000 ∧ ds = [.int (m : Nat)] ∧ post = fun d => ∃ i : Nat, i < m ∧ d = .int (i : Nat)
theorem ok_L_draw (W : Wd P K mg base) (F : Df K mg "_law_draw" s_L_draw) : C8.Cal P w K mg base 33 "_law_draw" (spDraw K) [] := by
  refine cal_sp F sc_L_draw (fun _ _ _ _ _ _ us hl => match us, hl with | [_, _], _ => rfl) (fun vs H Q E ⟨p, xs, ds, post, c, L, e, hl, _⟩ => by rw [e, List.length_cons, hl]; rfl) fun f cdv A outer s H vs Q E hr ⟨p, xs, ds, post, c, L, e, hl, ⟨m, hm, hm2, e2, e3⟩, ⟨i, dig, seed, cnt, hp, sq, r1, r2, r3, r4, r5, r6, r7⟩, hc, hd, q⟩ => ?_
  subst e2 e3
  obtain ⟨x, _, rfl, hx, hxr⟩ := hd
  obtain rfl : _ = [] := hxr
  obtain rfl : x = .int (m : Nat) := hx
  subst e
  have hcm : c + 1 ≤ 100000 := hc
  have sqL : ∀ {H' : Hp}, Same (hide H p) H' → SqL K (hide H' p) L.1 (L.2.map V.int) := fun s => (same_hide s hide_none).seq sq
  refine ⟨_, (pss_cons (ps_if (PW.pt (pw_and (pt_cmpR op_eq (pe_ix ix_list (pv 0) pe_int (fun _ _ => rfl)) pe_int (nomark _)) (pw_and1 (pt_cmpR op_lt (pe_ix ix_list (pv 0) pe_int (fun _ _ => rfl)) (pe_callB call_len_seq (by rfl) W.len b_len (pa_cons (pe_ix ix_list (pv 0) pe_int (fun _ _ => rfl)) pa_nil)) (nomark _))))) (pss_cons (ps_set (i := 2) sc_L_draw.nd rfl (by first | exact Or.inl rfl | exact Or.inr rfl) (pe_ix ix_list (pe_ix ix_list (pv 0) pe_int (fun _ _ => rfl)) (pe_ix ix_list (pv 0) pe_int (fun _ _ => rfl)) (fun _ _ => rfl)))
    (pss_cons (ps_asg (pe_op op_add (pe_ix ix_list (pv 0) pe_int (fun _ _ => rfl)) pe_int) (pg_sub (pv 0) pe_int set_list))
    (pss_one (ps_if (pt_cmpR op_ge (pv 2) (pe_op op_pow pe_int pe_int) (nomark _)) (pss_one (ps_asg (pv 2) (pg_sub (pv 0) pe_int set_list))) (pss_one (ps_asg (pe_op op_modN (pe_callTy call_int1 (by rfl) W.int b_int (pa_cons (pe_op op_add (pe_op op_add (pe_op op_mulX (pe_ix ix_list (pv 0) pe_int (fun _ _ => rfl)) pe_int) (pe_op op_mulX (pv 2) pe_int)) (pe_ix ix_list (pv 0) pe_int (fun _ _ => rfl))) pa_nil)) pe_int) (pg_sub (pv 0) pe_int set_list))))))) pss_nil)
    (pss_cons (ps_if (pt_cmpR op_gt (pe_ix ix_list (pv 0) pe_int (fun _ _ => rfl)) pe_int (nomark _)) (pss_cons (ps_set (i := 3) sc_L_draw.nd rfl (by first | exact Or.inl rfl | exact Or.inr rfl) (pe_op op_modN (pe_callTy call_int1 (by rfl) W.int b_int (pa_cons (pe_ix ix_list (pv 0) pe_int (fun _ _ => rfl)) pa_nil)) (pv 1)))
    (pss_cons (ps_asg (pe_op (op_fdivX W.seer W.tree (depth_of hr (by omega)) rfl rfl rfl) (pe_callTy call_int1 (by rfl) W.int b_int (pa_cons (pe_ix ix_list (pv 0) pe_int (fun _ _ => rfl)) pa_nil)) (pv 1)) (pg_sub (pv 0) pe_int set_list))
    (pss_one (ps_ret (pv 3))))) pss_nil)
    (pss_cons (ps_asg (pe_op op_add (pe_ix ix_list (pv 0) pe_int (fun _ _ => rfl)) pe_int) (pg_sub (pv 0) pe_int set_list))
    (pss_cons (ps_asg (pe_op op_modN (pe_callTy call_int1 (by rfl) W.int b_int (pa_cons (pe_op op_add (pe_op op_add (pe_op op_mulX (pe_ix ix_list (pv 0) pe_int (fun _ _ => rfl)) pe_int) (pe_op op_mulX (pe_ix ix_list (pv 0) pe_int (fun _ _ => rfl)) pe_int)) pe_int) pa_nil)) pe_int) (pg_sub (pv 0) pe_int set_list))
    (pss_cons (ps_set (i := 4) sc_L_draw.nd rfl (by first | exact Or.inl rfl | exact Or.inr rfl) (pe_op op_modN (pe_callTy call_int1 (by rfl) W.int b_int (pa_cons (pe_op op_mulX (pe_ix ix_list (pv 0) pe_int (fun _ _ => rfl)) (pe_op op_add (pe_op (op_fdivX W.seer W.tree (depth_of hr (by omega)) rfl rfl rfl) (pe_ix ix_list (pv 0) pe_int (fun _ _ => rfl)) pe_int) pe_int)) pa_nil)) pe_int))
    (pss_cons (ps_set (i := 4) sc_L_draw.nd rfl (by first | exact Or.inl rfl | exact Or.inr rfl) (pe_op op_modN (pe_callTy call_int1 (by rfl) W.int b_int (pa_cons (pe_op op_mulX (pv 4) (pe_op op_add (pe_op (op_fdivX W.seer W.tree (depth_of hr (by omega)) rfl rfl rfl) (pv 4) pe_int) pe_int)) pa_nil)) pe_int))
    (pss_one (ps_ret (pe_op op_modN (pe_callTy call_int1 (by rfl) W.int b_int (pa_cons (pe_op (op_fdivX W.seer W.tree (depth_of hr (by omega)) rfl rfl rfl) (pv 4) pe_int) pa_nil)) (pv 1)))))))))), ?_⟩
  refine seq_mid (fun σ H' => ∃ y i' dig' seed', σ = [some (.ref p), some (.int (m : Nat)), y, none, none] ∧ H' p = some (.lst [.ref L.1, .int i', .int dig', .int seed', .int cnt]) ∧ Same (hide H p) H' ∧ 0 ≤ i' ∧ 0 ≤ dig' ∧ 0 ≤ seed' ∧ seed' < 2147483647) ?rest fun k => ?first
  case first =>
    have dd := dice_dat hp sq
    refine q_if (et_and (et_test (ed_eqI (ed_ixL (d := .int dig) (i := 2) (ed_var rfl dd) ed_int rfl) ed_int)) (fun _ => et_test (ed_lt (ed_ixL (d := .int i) (i := 1) (ed_var rfl dd) ed_int rfl) (ed_lenL (ed_ixL (d := .lst (L.2.map D.int)) (i := 0) (ed_var rfl dd) ed_int rfl))))) (Same.refl _) (fun e H1 s1 => ?_) (fun e H1 s1 => ?_)
    · rw [Bool.and_eq_true] at e
      have e2 := of_decide_eq_true e.2
      rw [List.length_map] at e2
      obtain ⟨j, rfl⟩ : ∃ j : Nat, i = (j : Nat) := ⟨i.toNat, by omega⟩
      have hj : j < L.2.length := by omega
      have hcell := List.getElem?_eq_getElem hj
      generalize L.2[j] = cell at hcell
      have hc0 : 0 ≤ cell := r1 _ (List.mem_of_getElem? hcell)
      have dd1 := Dat.same s1 dd
      refine q_setD (K := K) (d := .int cell) (ed_ixL (ed_ixL (d := .lst (L.2.map D.int)) (i := 0) (ed_var rfl dd1) ed_int rfl) (ed_ixL (d := .int (j : Nat)) (i := 1) (ed_var rfl dd1) ed_int rfl) (atI_nat (by rw [List.getElem?_map, hcell]; rfl))) (Same.refl _) fun v H2 s2 hv => ?_
      obtain rfl : v = .int cell := hv
      have s02 : Same (hide H p) H2 := (hide_same.trans s1).trans s2
      have hp2 := s2 _ _ (s1 _ _ hp)
      have dd2 := dice_dat hp2 (sqL s02)
      refine q_dput (K := K) (v := (j : Int) + 1) (ed_add (ed_ixL (d := .int (j : Nat)) (i := 1) (ed_var rfl dd2) ed_int rfl) ed_int) (Same.refl _) rfl hp2 (by show 1 < 5; decide) fun H3 s3 hp3 => ?_
      have s03 : Same (hide H p) (upd H3 p (.lst [.ref L.1, .int ((j : Int) + 1), .int dig, .int seed, .int cnt])) := off_upd s02 s3
      have hp4 : upd H3 p (.lst [.ref L.1, .int ((j : Int) + 1), .int dig, .int seed, .int cnt]) p = some (.lst [.ref L.1, .int ((j : Int) + 1), .int dig, .int seed, .int cnt]) := upd_same
      show tIfS _ _ _ _ _ (upd H3 p (.lst [.ref L.1, .int ((j : Int) + 1), .int dig, .int seed, .int cnt]))
      generalize upd H3 p (.lst [.ref L.1, .int ((j : Int) + 1), .int dig, .int seed, .int cnt]) = H4 at s03 hp4 ⊢
      have dd4 := dice_dat hp4 (sqL s03)
      refine q_if1 (et_test (K := K) (ed_ge (ed_var (d := .int cell) rfl rfl) (ed_pow (i := 10) (j := 18) ed_int ed_int ⟨by decide, by decide, by decide⟩))) (Same.refl _) (fun e H5 s5 => ?_) (fun e H5 s5 => ?_)
      · refine q_dput1 (K := K) (v := cell) (ed_var rfl rfl) (Same.refl _) rfl (s5 _ _ hp4) (by show 2 < 5; decide) fun H6 s6 hp6 => k _ _ ⟨_, _, _, _, rfl, upd_same, off_upd (s03.trans s5) s6, by omega, hc0, r4, r5⟩
      · have e := of_decide_eq_false e
        have hc1 : cell < 10 ^ 18 := by
          have : (10 : Int) ^ (18 : Int).toNat = 10 ^ 18 := rfl
          rw [this] at e; omega
        have dd5 := Dat.same s5 dd4
        refine q_dput1 (K := K) (v := (seed * 69621 + cell * 40692 + ((j : Int) + 1)) % 2147483647) (ed_mod (ed_int1 (ed_add (ed_add (ed_mul (ed_ixL (d := .int seed) (i := 3) (ed_var rfl dd5) ed_int rfl) ed_int (mulOk_of (a := 31) (b := 17) (nat_lt_of r4 (by omega)) (by decide) (by decide))) (ed_mul (ed_var (d := .int cell) rfl rfl) ed_int (mulOk_of (a := 60) (b := 16) (nat_lt_of hc0 (by omega)) (by decide) (by decide)))) (ed_ixL (d := .int ((j : Int) + 1)) (i := 1) (ed_var rfl dd5) ed_int rfl))) ed_int (by omega) (by decide)) (Same.refl _) rfl (s5 _ _ hp4) (by show 3 < 5; decide) fun H6 s6 hp6 => k _ _ ⟨_, _, _, _, rfl, upd_same, off_upd (s03.trans s5) s6, by omega, r3, Int.emod_nonneg _ (by decide), Int.emod_lt_of_pos _ (by decide)⟩
    · exact k _ _ ⟨_, _, _, _, rfl, s1 _ _ hp, hide_same.trans s1, r2, r3, r4, r5⟩
  case rest =>
    rintro σ H1 ⟨y, i, dig, seed, rfl, hp1, s1, r2, r3, r4, r5⟩
    have dd1 := dice_dat hp1 (sqL s1)
    refine q_if (et_test (K := K) (ed_gt (ed_ixL (d := .int dig) (i := 2) (ed_var rfl dd1) ed_int rfl) ed_int)) (Same.refl _) (fun e H2 s2 => ?_) (fun e H2 s2 => ?_)
    · have e := of_decide_eq_true e
      have dd2 := Dat.same s2 dd1
      refine q_setD (K := K) (d := .int (dig % (m : Int))) (ed_mod (ed_int1 (ed_ixL (d := .int dig) (i := 2) (ed_var rfl dd2) ed_int rfl)) (ed_var rfl rfl) r3 (by omega)) (Same.refl _) fun v H3 s3 hv => ?_
      obtain rfl : v = .int (dig % (m : Int)) := hv
      have hp3 := s3 _ _ (s2 _ _ hp1)
      have dd3 := Dat.same s3 dd2
      refine q_dput (K := K) (v := dig / (m : Int)) (ed_div (ed_int1 (ed_ixL (d := .int dig) (i := 2) (ed_var rfl dd3) ed_int rfl)) (ed_var (d := .int (m : Nat)) rfl rfl) (by omega)) (Same.refl _) rfl hp3 (by show 2 < 5; decide) fun H4 s4 hp4 => ?_
      have s5 : Same (hide H p) (upd H4 p (.lst [.ref L.1, .int i, .int (dig / (m : Int)), .int seed, .int cnt])) := off_upd ((s1.trans s2).trans s3) s4
      refine q_retD (K := K) (d := .int (dig % (m : Int))) (ed_var rfl rfl) (Same.refl _) fun r H5 s6 h5 => q r H5 (.int (dig % (m : Int))) (s5.trans s6) ⟨i, dig / (m : Int), seed, cnt, s6 _ _ upd_same, sqL (s5.trans s6), r1, r2, Int.ediv_nonneg r3 (by omega), r4, r5, r6, by omega⟩ ⟨(dig % (m : Int)).toNat, ?_, ?_⟩ h5
      · have h1 := Int.emod_nonneg dig (show (m : Int) ≠ 0 by omega)
        have h2 := Int.emod_lt_of_pos dig (show (0 : Int) < m by omega)
        omega
      · have h1 := Int.emod_nonneg dig (show (m : Int) ≠ 0 by omega)
        congr 1; omega
    · have hp2 := s2 _ _ hp1
      have dd2 := Dat.same s2 dd1
      refine q_dput (K := K) (v := cnt + 1) (ed_add (ed_ixL (d := .int cnt) (i := 4) (ed_var rfl dd2) ed_int rfl) ed_int) (Same.refl _) rfl hp2 (by show 4 < 5; decide) fun H3 s3 hp3 => ?_
      have s4 : Same (hide H p) (upd H3 p (.lst [.ref L.1, .int i, .int dig, .int seed, .int (cnt + 1)])) := off_upd (s1.trans s2) s3
      have hp4 : upd H3 p (.lst [.ref L.1, .int i, .int dig, .int seed, .int (cnt + 1)]) p = some (.lst [.ref L.1, .int i, .int dig, .int seed, .int (cnt + 1)]) := upd_same
      show tSeq _ _ _ _ (upd H3 p (.lst [.ref L.1, .int i, .int dig, .int seed, .int (cnt + 1)]))
      generalize upd H3 p (.lst [.ref L.1, .int i, .int dig, .int seed, .int (cnt + 1)]) = H4 at s4 hp4 ⊢
      have dd4 := dice_dat hp4 (sqL s4)
      refine q_dput (K := K) (v := (seed * 48271 + (cnt + 1) * 7919 + 1) % 2147483647) (ed_mod (ed_int1 (ed_add (ed_add (ed_mul (ed_ixL (d := .int seed) (i := 3) (ed_var rfl dd4) ed_int rfl) ed_int (mulOk_of (a := 31) (b := 17) (nat_lt_of r4 (by omega)) (by decide) (by decide))) (ed_mul (ed_ixL (d := .int (cnt + 1)) (i := 4) (ed_var rfl dd4) ed_int rfl) ed_int (mulOk_of (a := 31) (b := 16) (nat_lt_of (by omega) (by omega)) (by decide) (by decide)))) ed_int)) ed_int (by omega) (by decide)) (Same.refl _) rfl hp4 (by show 3 < 5; decide) fun H5 s5 hp5 => ?_
      have hs0 := Int.emod_nonneg (seed * 48271 + (cnt + 1) * 7919 + 1) (show (2147483647 : Int) ≠ 0 by decide)
      have hs1 := Int.emod_lt_of_pos (seed * 48271 + (cnt + 1) * 7919 + 1) (show (0 : Int) < 2147483647 by decide)
      generalize (seed * 48271 + (cnt + 1) * 7919 + 1) % 2147483647 = se at hs0 hs1 ⊢
      have s6 : Same (hide H p) (upd H5 p (.lst [.ref L.1, .int i, .int dig, .int se, .int (cnt + 1)])) := off_upd s4 s5
      have hp6 : upd H5 p (.lst [.ref L.1, .int i, .int dig, .int se, .int (cnt + 1)]) p = some (.lst [.ref L.1, .int i, .int dig, .int se, .int (cnt + 1)]) := upd_same
      show tSeq _ _ _ _ (upd H5 p (.lst [.ref L.1, .int i, .int dig, .int se, .int (cnt + 1)]))
      generalize upd H5 p (.lst [.ref L.1, .int i, .int dig, .int se, .int (cnt + 1)]) = H6 at s6 hp6 ⊢
      have dd6 := dice_dat hp6 (sqL s6)
      have d0 : 0 ≤ se / 1009 := Int.ediv_nonneg hs0 (by decide)
      have d1 : se / 1009 ≤ se := Int.ediv_le_self _ hs0
      refine q_setD (K := K) (d := .int ((se * (se / 1009 + 69623)) % 2147483399)) (ed_mod (ed_int1 (ed_mul (ed_ixL (d := .int se) (i := 3) (ed_var rfl dd6) ed_int rfl) (ed_add (ed_div (ed_ixL (d := .int se) (i := 3) (ed_var rfl dd6) ed_int rfl) ed_int (by decide)) ed_int) (mulOk_of (a := 31) (b := 33) (nat_lt_of hs0 (by omega)) (nat_lt_of (by omega) (by omega)) (by decide)))) ed_int (Int.mul_nonneg hs0 (by omega)) (by decide)) (Same.refl _) fun v H7 s7 hv => ?_
      obtain rfl : v = .int ((se * (se / 1009 + 69623)) % 2147483399) := hv
      have m0 := Int.emod_nonneg (se * (se / 1009 + 69623)) (show (2147483399 : Int) ≠ 0 by decide)
      have m1 := Int.emod_lt_of_pos (se * (se / 1009 + 69623)) (show (0 : Int) < 2147483399 by decide)
      generalize (se * (se / 1009 + 69623)) % 2147483399 = mx at m0 m1 ⊢
      have d2 : 0 ≤ mx / 2003 := Int.ediv_nonneg m0 (by decide)
      have d3 : mx / 2003 ≤ mx := Int.ediv_le_self _ m0
      refine q_setD (K := K) (d := .int ((mx * (mx / 2003 + 40693)) % 2147483563)) (ed_mod (ed_int1 (ed_mul (ed_var rfl rfl) (ed_add (ed_div (ed_var rfl rfl) ed_int (by decide)) ed_int) (mulOk_of (a := 31) (b := 33) (nat_lt_of m0 (by omega)) (nat_lt_of (by omega) (by omega)) (by decide)))) ed_int (Int.mul_nonneg m0 (by omega)) (by decide)) (Same.refl _) fun v H8 s8 hv => ?_
      obtain rfl : v = .int ((mx * (mx / 2003 + 40693)) % 2147483563) := hv
      have n0 := Int.emod_nonneg (mx * (mx / 2003 + 40693)) (show (2147483563 : Int) ≠ 0 by decide)
      generalize (mx * (mx / 2003 + 40693)) % 2147483563 = my at n0 ⊢
      have d4 : 0 ≤ my / 16 := Int.ediv_nonneg n0 (by decide)
      have sA : Same (hide H p) H8 := (s6.trans s7).trans s8
      refine q_retD (K := K) (d := .int (my / 16 % (m : Int))) (ed_mod (ed_int1 (ed_div (ed_var rfl rfl) ed_int (by decide))) (ed_var rfl rfl) d4 (by omega)) (Same.refl _) fun r H9 s9 h9 => q r H9 (.int (my / 16 % (m : Int))) (sA.trans s9) ⟨i, dig, se, cnt + 1, s9 _ _ (s8 _ _ (s7 _ _ hp6)), sqL (sA.trans s9), r1, r2, r3, hs0, hs1, by omega, by omega⟩ ⟨(my / 16 % (m : Int)).toNat, ?_, ?_⟩ h9
      · have h1 := Int.emod_nonneg (my / 16) (show (m : Int) ≠ 0 by omega)
        have h2 := Int.emod_lt_of_pos (my / 16) (show (0 : Int) < m by omega)
        omega
      · have h1 := Int.emod_nonneg (my / 16) (show (m : Int) ≠ 0 by omega)
        congr 1; omega
end
end Cb
set_option Elab.async false
set_option linter.all false
set_option maxRecDepth 100000
set_option maxHeartbeats 1000000
/-! walks of the law: drawn numbers -/
namespace Cb
open PySem PySem.Spec PyProof.Rows L2
section
variable {K : PySem.W.Frag} {σ : L2.St} {B H : Hp} {p : Addr} {te ta tb' : TE} {k : Nat} {R : List D → Prop}
theorem elf_lst {t : TA} {ds : List D} (h : EvA K t σ H ds) (hz : ds.length ≤ 1000000) : EvLF K (tLst t) σ H (fun e => e = ds) := fun H0 s Q q =>
  h H0 s _ fun vs H1 s1 hd => ⟨Nat.le_of_lt (small1M (by rw [← hd.length]; exact hz)), fun p hp => q p vs _ ds (s1.trans (same_upd hp)) (s1.free hp) upd_same (Dats.same (same_upd hp) hd) rfl⟩
theorem ex_tupOf (h : EvX K te σ p B k (fun d => ∃ ds, d = .lst ds ∧ R ds)) : EvX K (tCB (fun xs H Q => ∃ p ys, xs = [.ref p] ∧ ((SqL K H p ys ∧ ∀ l, H l = none → Q (.ref l) (upd H l (.tup ys))) ∨ (SqT K H p ys ∧ Q (.ref p) H))) (tCons te tNil)) σ p B k (fun d => ∃ ds, d = .tup ds ∧ R ds) := fun H0 c L s D hc Q q =>
  h H0 c L s D hc _ fun x H1 d s1 D1 ⟨ds, e, r⟩ hx => by
    subst e
    obtain ⟨a, xs, e, sq, hx⟩ := hx
    refine ⟨a, xs, by rw [e], .inl ⟨hide_same.seq sq, fun l hl => ?_⟩⟩
    have ne := D1.ne hl
    have hf : hide H1 p l = none := by show (if l = p then none else H1 l) = _; rw [if_neg ne]; exact hl
    refine q _ _ (.tup ds) (s1.trans (same_upd hl)) (D1.same (same_upd hl)) ⟨ds, rfl, r⟩ ?_
    rw [hide_upd_new ne]
    exact ⟨l, xs, rfl, .inl (.inl upd_same), Dats.same (same_upd hf) hx⟩
/-- a drawn number below m -/
theorem ex_draw {i : Nat} {m : Nat} {E : XK} (hB : B p = none) (hv : σ[i]? = some (some (.ref p))) (h : EvD K te σ B (.int (m : Nat))) (hm : 0 < m) (hm2 : m ≤ 1000000) : EvX K (tCall (spDi K 1 1 fun ds post => ∃ m : Nat, 0 < m ∧ m ≤ 1000000 ∧ ds = [.int (m : Nat)] ∧ post = fun d => ∃ i : Nat, i < m ∧ d = .int (i : Nat)) [] E (tCons (tVar i) (tCons te tNil))) σ p B 1 (fun d => ∃ i : Nat, i < m ∧ d = .int (i : Nat)) :=
  (ex_dice hv (xa_cons hB (ex_ofD h) xa_nil) fun ds ⟨d, r, e1, e2, e3⟩ => by
    subst e1 e2 e3
    exact ⟨rfl, _, ⟨m, hm, hm2, rfl, rfl⟩, fun d h => h⟩).le (by omega)
/-- 1 + a drawn number -/
theorem ex_draw1 {m : Nat} {t2 : TE} (hB : B p = none) (h : EvX K te σ p B k (fun d => ∃ i : Nat, i < m ∧ d = .int (i : Nat))) : EvX K (tOp (rI0 fun i j => .int (i + j)) (tC (.int 1)) te) σ p B k (fun d => ∃ i : Nat, 1 ≤ i ∧ i ≤ m ∧ d = .int (i : Nat)) :=
  ((ex_add hB (ex_ofD (ed_int (i := 1))) h (fun d e => ⟨1, e⟩) (fun d ⟨i, _, e⟩ => ⟨i, e⟩)).imp fun d ⟨i, j, e1, ⟨j', hj, e2⟩, e3⟩ => by
    cases e1
    cases e2
    exact ⟨1 + j', by omega, by omega, by rw [e3]; congr 1⟩).le (by omega)
end
abbrev L0 : Nat := 119997960
theorem nm_div {a b : Nat} (h : a ≤ b) (hb : 0 < b) (hd : b ∣ L0) : Nm L0 (Rat.divInt (a : Nat) (b : Nat)) := by
  have hb' : (0 : Rat) < ((b : Nat) : Rat) := by exact_mod_cast hb
  have h0 : Rat.divInt (a : Nat) (b : Nat) * ((b : Nat) : Rat) = (((a : Nat) : Int) : Rat) := by
    rw [Rat.divInt_eq_div]
    have : (((b : Nat) : Int) : Rat) = ((b : Nat) : Rat) := by norm_cast
    rw [this]
    exact Rat.div_mul_cancel (fun z => by rw [z] at hb'; exact Rat.lt_irrefl hb')
  refine ⟨Rat.divInt_nonneg (by omega) (by omega), Rat.le_of_mul_le_mul_right (c := ((b : Nat) : Rat)) ?_ hb', Nat.dvd_trans (den_dvd hb h0) hd⟩
  rw [h0, Rat.one_mul]
  exact_mod_cast h
section
variable {P : Program} {w : World} {K : PySem.W.Frag} {mg : Str → Option Value} {base : Heap}
abbrev spSome (K : PySem.W.Frag) : Sp := spDi K 1 1 fun ds post => ∃ fs : List D, fs ≠ [] ∧ fs.length ≤ 1000 ∧ nls fs = true ∧ ds = [.lst fs] ∧ post = fun d => d ∈ fs
theorem ok_L_some (W : Wd P K mg base) (F : Df K mg "_law_some" s_L_some) (G_L_draw : C8.Cal P w K mg base 33 "_law_draw" (spDraw K) []) : C8.Cal P w K mg base 34 "_law_some" (spSome K) [] := by
  refine cal_sp F sc_L_some (fun _ _ _ _ _ _ us hl => match us, hl with | [_, _], _ => rfl) (fun vs H Q E ⟨p, xs, ds, post, c, L, e, hl, _⟩ => by rw [e, List.length_cons, hl]; rfl) fun f cdv A outer s H vs Q E hr ⟨p, xs, ds, post, c, L, e, hl, ⟨fs, hne, hz, hn, e2, e3⟩, hD, hc, hd, q⟩ => ?_
  subst e2 e3
  obtain ⟨x, _, rfl, hx, hxr⟩ := hd
  obtain rfl : _ = [] := hxr
  subst e
  refine ⟨_, (pss_one (ps_ret (pe_ix ix_list (pv 1) (C8.pe_c G_L_draw hr (by omega) (by rfl) (pa_cons (pv 0) (pa_cons (pe_callB call_len_seq (by rfl) W.len b_len (pa_cons (pv 1) pa_nil)) pa_nil))) (fun _ _ => rfl)))), ?_⟩
  have lp : 0 < fs.length := List.length_pos_iff.mpr hne
  exact q_retX (B := hide H p) (k := 0 + 1) (post := fun d => d ∈ fs) (ex_ixL hide_none (ex_var hide_none rfl hx) (ex_draw hide_none rfl (ed_lenL (ed_var rfl hx)) lp (by omega)) fun d e ed ⟨i, hi, ee⟩ => ⟨fs, i, fs[i], ed, ee, atI_nat (List.getElem?_eq_getElem hi), nls_mem hn (List.getElem_mem hi), List.getElem_mem hi⟩) hide_same hD (by omega) q
abbrev spNum (K : PySem.W.Frag) : Sp := spDi K 0 2 fun ds post => ds = [] ∧ post = fun d => ∃ q, d = fr q ∧ Nm L0 q
abbrev botL : List Nat := [1, 2, 3, 4, 5, 6, 8, 10, 12, 60, 999983]
theorem bot_ok : ∀ b ∈ botL, 0 < b ∧ b ≤ 999983 ∧ b ∣ L0 := by decide +kernel
theorem ok_L_number (W : Wd P K mg base) (F : Df K mg "_law_number" s_L_number) (G_L_draw : C8.Cal P w K mg base 33 "_law_draw" (spDraw K) []) (G_L_lowest : C8.Cal P w K mg base 33 "_law_lowest" (spLowestL K) []) : C8.Cal P w K mg base 34 "_law_number" (spNum K) [] := by
  refine cal_sp F sc_L_number (fun _ _ _ _ _ _ us hl => match us, hl with | [_], _ => rfl) (fun vs H Q E ⟨p, xs, ds, post, c, L, e, hl, _⟩ => by rw [e, List.length_cons, hl]; rfl) fun f cdv A outer s H vs Q E hr ⟨p, xs, ds, post, c, L, e, hl, ⟨e2, e3⟩, hD, hc, hd, q⟩ => ?_
  subst e2 e3
  obtain rfl : xs = [] := hd
  subst e
  refine ⟨_, (pss_cons (ps_set (i := 1) sc_L_number.nd rfl (by first | exact Or.inl rfl | exact Or.inr rfl) (pe_ix ix_list (pe_lst (pa_cons pe_int (pa_cons pe_int (pa_cons pe_int (pa_cons pe_int (pa_cons pe_int (pa_cons pe_int (pa_cons pe_int (pa_cons pe_int (pa_cons pe_int (pa_cons pe_int (pa_cons pe_int pa_nil)))))))))))) (C8.pe_c G_L_draw hr (by omega) (by rfl) (pa_cons (pv 0) (pa_cons pe_int pa_nil))) (fun _ _ => rfl)))
    (pss_one (ps_ret (C8.pe_c G_L_lowest hr (by omega) (by rfl) (pa_cons (C8.pe_c G_L_draw hr (by omega) (by rfl) (pa_cons (pv 0) (pa_cons (pe_op op_add (pv 1) pe_int) pa_nil))) (pa_cons (pv 1) pa_nil)))))), ?_⟩
  refine q_setX (B := hide H p) (k := 0 + 1) (post := fun d => ∃ b : Nat, d = .int (b : Nat) ∧ b ∈ botL) (ex_ixL hide_none (ex_ofL (l := natsD botL) (elf_lst (ea_cons ed_int (ea_cons ed_int (ea_cons ed_int (ea_cons ed_int (ea_cons ed_int (ea_cons ed_int (ea_cons ed_int (ea_cons ed_int (ea_cons ed_int (ea_cons ed_int (ea_cons ed_int ea_nil))))))))))) (by decide)) (by decide)) (ex_draw (m := 11) hide_none rfl ed_int (by omega) (by omega)) fun d e ed ⟨i, hi, ee⟩ => ⟨natsD botL, i, .int (botL[i] : Nat), ed, ee, atI_nat (by unfold natsD; rw [List.getElem?_map, List.getElem?_eq_getElem (show i < botL.length from hi)]; rfl), rfl, _, rfl, List.getElem_mem _⟩) hide_same hD (by omega) fun v H1 d s1 D1 ⟨b, ed, hb⟩ hv => ?_
  subst ed
  obtain rfl : v = .int (b : Nat) := hv
  obtain ⟨b0, b1, b2⟩ := bot_ok b hb
  refine q_retX (B := hide H1 p) (k := 1 + 0) (post := fun d => ∃ q, d = fr q ∧ Nm L0 q) (ex_call (xa_cons hide_none (ex_draw (m := b + 1) hide_none rfl ((ed_add (ed_var (d := .int (b : Nat)) rfl rfl) ed_int).to (d := _) (e' := .int ((b + 1 : Nat) : Int)) rfl) (by omega) (by omega)) (xa_cons hide_none (ex_ofD (d := .int (b : Nat)) (ed_var rfl rfl)) xa_nil)) fun ds ⟨d, r, e1, ⟨i, hi, e2⟩, d2, r2, e3, e4, e5⟩ => by
    subst e1 e2 e3 e4 e5
    exact ⟨rfl, _, ⟨(i : Nat), (b : Nat), by omega, rfl, rfl⟩, fun d hd => by
      subst hd
      exact ⟨⟨_, rfl, nm_div (by omega) b0 b2⟩, nl_fr _⟩⟩) hide_same D1 (by omega) fun v H2 d s2 D2 pd hd => q v H2 d (off_trans s1 s2) D2 pd hd
theorem all2_nums {F : Rat → Prop} {ds es : List D} (h : All2 (fun _ e => ∃ q, e = fr q ∧ F q) ds es) : ∃ ws, es = frs ws ∧ ws.length = ds.length ∧ ∀ x ∈ ws, F x := by
  induction h with
  | nil => exact ⟨[], rfl, rfl, fun x hx => nomatch hx⟩
  | snoc _ h ih =>
    obtain ⟨ws, rfl, hl, hw⟩ := ih
    obtain ⟨q, rfl, hq⟩ := h
    refine ⟨ws ++ [q], by unfold frs; rw [List.map_append]; rfl, by rw [List.length_append, List.length_append, hl]; rfl, fun x hx => ?_⟩
    rcases List.mem_append.mp hx with hx | hx
    · exact hw x hx
    · rw [List.mem_singleton.mp hx]; exact hq
theorem nls_range {lo : Int} {n : Nat} : nls (rangeD lo n) = true := nls_all fun d hd => by
  obtain ⟨i, _, rfl⟩ := List.mem_map.mp hd
  rfl
abbrev spNums (K : PySem.W.Frag) : Sp := spDi K 1 12 fun ds post => ∃ n : Nat, n ≤ 6 ∧ ds = [.int (n : Nat)] ∧ post = fun d => ∃ ws : List Rat, d = .tup (frs ws) ∧ ws.length = n ∧ ∀ x ∈ ws, Nm L0 x
theorem ok_L_numbers (W : Wd P K mg base) (F : Df K mg "_law_numbers" s_L_numbers) (G_L_number : C8.Cal P w K mg base 34 "_law_number" (spNum K) []) : C8.Cal P w K mg base 35 "_law_numbers" (spNums K) [] := by
  refine cal_sp F sc_L_numbers (fun _ _ _ _ _ _ us hl => match us, hl with | [_, _], _ => rfl) (fun vs H Q E ⟨p, xs, ds, post, c, L, e, hl, _⟩ => by rw [e, List.length_cons, hl]; rfl) fun f cdv A outer s H vs Q E hr ⟨p, xs, ds, post, c, L, e, hl, ⟨n, hn, e2, e3⟩, hD, hc, hd, q⟩ => ?_
  subst e2 e3
  obtain ⟨x, _, rfl, hx, hxr⟩ := hd
  obtain rfl : _ = [] := hxr
  obtain rfl : x = .int (n : Nat) := hx
  subst e
  refine ⟨_, (pss_one (ps_ret (pe_callTy call_tuple_of (by rfl) W.tuple b_tuple (pa_cons (pe_lc (own := [("_law_k", 2)]) (g := gName 2) (tt := tYes) rfl sc_L_numbers.nd (pi_range1 (by rfl) W.range (pa_cons (pv 1) pa_nil)) (blkOk_by (N := n_L_numbers) (sc := defScope s_L_numbers) (by decide +kernel)) (fun _ _ _ _ _ => (pg_name (i := 2) sc_L_numbers.nd rfl (by first | exact Or.inl rfl | exact Or.inr rfl))) (fun _ _ _ _ _ => pts_nil) (fun _ _ _ _ _ => (C8.pe_c G_L_number hr (by omega) (by rfl) (pa_cons (pv 0) pa_nil)))) pa_nil)))), ?_⟩
  refine q_retX (B := hide H p) (k := 0 + 6 * 2) (post := fun d => ∃ ds, d = .tup ds ∧ ∃ ws : List Rat, ds = frs ws ∧ ws.length = n ∧ ∀ x ∈ ws, Nm L0 x)
    (ex_tupOf ((ex_lc (kk := 2) (N := 6) (F := fun _ e => ∃ q, e = fr q ∧ Nm L0 q) (eix_range (post := fun d => d = .int (n : Nat)) hide_none (ex_ofD (ed_var rfl rfl)) fun d e => ⟨n, e, by omega⟩) (fun _ => rfl) (fun ds ⟨m, em, ed⟩ => by cases em; rw [ed, rangeD_len]; exact hn) (by omega) (fun ds ⟨m, em, ed⟩ => by rw [ed]; exact nls_range) (fun d e ⟨q, hq, _⟩ => by rw [hq]; exact nl_fr q)
      fun ds d x Hb hR hd sb hb hx => (ex_dice (j := 2) rfl xa_nil fun ds e => by subst e; exact ⟨rfl, _, ⟨rfl, rfl⟩, fun d h => h⟩).le (by omega)).imp fun d ⟨ds, es, ed, ⟨m, em, e4⟩, h2⟩ => by
        cases em
        obtain ⟨ws, e5, e6, e7⟩ := all2_nums h2
        exact ⟨es, ed, ws, e5, by rw [e6, e4, rangeD_len], e7⟩)) hide_same hD (by omega) fun v H1 d s1 D1 ⟨ds, ed, ws, e1, e2, e3⟩ hd => q v H1 d s1 D1 ⟨ws, by rw [ed, e1], e2, e3⟩ hd
end
end Cb
set_option Elab.async false
set_option linter.all false
set_option maxRecDepth 100000
set_option maxHeartbeats 1000000
/-! walks of the law: drawn terms -/
namespace Cb
open PySem PySem.Spec PyProof.Rows L2
mutual
/-- how many terms a term is made of -/
def nt : Term → Nat
  | .bid _ => 1
  | .fix _ => 1
  | .node _ ts => 1 + nts ts
def nts : List Term → Nat
  | [] => 0
  | t :: r => nt t + nts r
end
def LBd : Nat → Nat
  | 0 => 0
  | 1 => 2
  | d + 2 => 12 * LBd (d + 1)
def NTd : Nat → Nat
  | 0 => 0
  | d + 1 => 1 + 3 * NTd d
def WPd : Nat → Nat
  | 0 => 1
  | d + 1 => 15 * WPd d ^ 3
def TKd : Nat → Nat
  | 0 => 0
  | d + 1 => 6 + 3 * TKd d
theorem LBd_two : ∀ d, 2 ≤ LBd (d + 1)
  | 0 => Nat.le_refl _
  | d + 1 => by
    have := LBd_two d
    show 2 ≤ 12 * LBd (d + 1)
    omega
theorem WPd_pos : ∀ d, 0 < WPd d
  | 0 => by decide
  | d + 1 => Nat.mul_pos (by decide) (Nat.pow_pos (WPd_pos d))
theorem NTd_pos : ∀ d, 1 ≤ NTd (d + 1) := fun d => Nat.le_add_right _ _
structure TermOk (n d : Nat) (t : Term) : Prop where
  wf : Wf n L0 d t
  lz : lb t ≤ LBd d
  tz : nt t ≤ NTd d
  pz : wp t ≤ WPd d
theorem lbs_le {m : Nat} : ∀ {ts : List Term}, (∀ t ∈ ts, lb t ≤ m) → lbs ts ≤ ts.length * m
  | [], _ => Nat.zero_le _
  | t :: r, h => by
    show lb t + lbs r ≤ (r.length + 1) * m
    have h1 := h t List.mem_cons_self
    have h2 := lbs_le fun x hx => h x (List.mem_cons_of_mem _ hx)
    rw [Nat.succ_mul]; omega
theorem nts_le {m : Nat} : ∀ {ts : List Term}, (∀ t ∈ ts, nt t ≤ m) → nts ts ≤ ts.length * m
  | [], _ => Nat.zero_le _
  | t :: r, h => by
    show nt t + nts r ≤ (r.length + 1) * m
    have h1 := h t List.mem_cons_self
    have h2 := nts_le fun x hx => h x (List.mem_cons_of_mem _ hx)
    rw [Nat.succ_mul]; omega
theorem wps_le {m : Nat} : ∀ {ts : List Term}, (∀ t ∈ ts, wp t ≤ m) → wps ts ≤ m ^ ts.length
  | [], _ => Nat.le_refl _
  | t :: r, h => by
    show wp t * wps r ≤ m ^ (r.length + 1)
    rw [Nat.pow_succ, Nat.mul_comm]
    exact Nat.mul_le_mul (wps_le fun x hx => h x (List.mem_cons_of_mem _ hx)) (h t List.mem_cons_self)
theorem leaf_ok {n d : Nat} {t : Term} (h : Wf n L0 (d + 1) t) (h1 : lb t = 2) (h2 : nt t = 1) (h3 : wp t = 1) : TermOk n (d + 1) t :=
  ⟨h, by rw [h1]; exact LBd_two d, by rw [h2]; exact NTd_pos d, by rw [h3]; exact WPd_pos _⟩
theorem sum_le5 {m : Nat} : ∀ {ws : List Nat}, (∀ w ∈ ws, w ≤ m) → ws.sum ≤ ws.length * m
  | [], _ => Nat.zero_le _
  | w :: r, h => by
    rw [List.sum_cons, List.length_cons, Nat.succ_mul]
    have h1 := h w List.mem_cons_self
    have h2 := sum_le5 fun x hx => h x (List.mem_cons_of_mem _ hx)
    omega
theorem node_ok {n d : Nat} {o : Op} {ts : List Term} (h0 : ts ≠ []) (h3 : ts.length ≤ 3) (ho : OpOk L0 o ts.length) (hw : oww o ≤ 15) (h : ∀ t ∈ ts, TermOk n (d + 1) t) : TermOk n (d + 2) (.node o ts) := by
  have hl := lbs_le fun t ht => (h t ht).lz
  have hn := nts_le fun t ht => (h t ht).tz
  have hp := wps_le fun t ht => (h t ht).pz
  have two := LBd_two d
  have hl3 : lbs ts ≤ 3 * LBd (d + 1) := Nat.le_trans hl (Nat.mul_le_mul_right _ h3)
  refine ⟨⟨h0, by omega, ho, fun t ht => (h t ht).wf⟩, ?_, ?_, ?_⟩
  · show nb o (lbs ts) ts.length ≤ 12 * LBd (d + 1)
    have tri3 : tri ts.length ≤ 3 := by
      have : ∀ k, k ≤ 3 → tri k ≤ 3 := by decide
      exact this _ h3
    have key : lbs ts + lbs ts * tri ts.length ≤ 12 * LBd (d + 1) := by
      have := Nat.mul_le_mul_left (lbs ts) tri3
      omega
    cases o with
    | mean ws => show lbs ts ≤ _; omega
    | least => exact key
    | greatest => exact key
    | ranked k => exact key
    | between lo hi =>
      show (lbs ts + 4) * 4 ≤ _
      have e1 : ts.length = 1 := ho.1
      rw [e1] at hl
      omega
  · show 1 + nts ts ≤ 1 + 3 * NTd (d + 1)
    have := Nat.mul_le_mul_right (NTd (d + 1)) h3
    omega
  · show oww o * wps ts ≤ 15 * WPd (d + 1) ^ 3
    exact Nat.mul_le_mul hw (Nat.le_trans hp (Nat.pow_le_pow_right (WPd_pos _) h3))
section
variable {K : PySem.W.Frag} {σ : L2.St} {B H : Hp} {p : Addr} {te ta tb' : TE} {k c : Nat} {R : List D → Prop} {L : Addr × List Int}
theorem Dat.hideL {ds : List D} {v : V} (h : Dice K H p c L) (hn : nls ds = true) (h5 : ds.length ≠ 5) (hd : Dat K H (.lst ds) v) : Dat K (hide H p) (.lst ds) v := by
  obtain ⟨a, xs, rfl, sq, hx⟩ := hd
  obtain ⟨_, _, _, _, e, _⟩ := id h
  refine ⟨a, xs, rfl, ?_, Dats.tk h.tk hn hx⟩
  rcases sq with sq | sq
  · have ne : a ≠ p := fun z => by
      subst z
      rcases sq with sq | ⟨o, sq⟩
      · rw [e] at sq
        cases sq
        exact h5 hx.length
      · rw [e] at sq; cases sq
    have e2 : hide H p a = H a := if_neg ne
    rcases sq with sq | ⟨o, sq⟩
    · exact .inl (.inl (by rw [e2]; exact sq))
    · exact .inl (.inr ⟨o, by rw [e2]; exact sq⟩)
  · exact .inr sq
/-- .. that answers a list -/
theorem ex_callL {n : Nat} {post : D → Prop} {pre : List D → (D → Prop) → Prop} {t : TA} {E : XK} (h : EvXA K t σ p B k R) (hp : ∀ ds, R ds → ds.length = n ∧ ∃ post', pre ds post' ∧ ∀ d, post' d → post d ∧ ∃ es, d = .lst es ∧ nls es = true ∧ es.length ≠ 5) : EvX K (tCall (spP K n pre) [] E t) σ p B k post := fun H0 c L s D hc Q q =>
  h H0 c L s D hc _ fun vs H1 ds s1 D1 hR hd => by
    rw [List.append_nil]
    obtain ⟨hn, post', hp, hi⟩ := hp ds hR
    refine ⟨by rw [← hd.length]; exact hn, ds, post', hp, Dats.same hide_same hd, fun v H' d s2 hpo hv => ?_⟩
    obtain ⟨i1, es, i2, i3, i4⟩ := hi d hpo
    subst i2
    exact q v H' _ (s1.trans s2) (D1.same s2) i1 (Dat.hideL (D1.same s2) i3 i4 hv)
/-- a drawn number -/
theorem ex_num {i : Nat} {E : XK} (hv : σ[i]? = some (some (.ref p))) : EvX K (tCall (spDi K 0 2 fun ds post => ds = [] ∧ post = fun d => ∃ q, d = fr q ∧ Nm L0 q) [] E (tCons (tVar i) tNil)) σ p B 2 (fun d => ∃ q, d = fr q ∧ Nm L0 q) :=
  (ex_dice (j := 2) hv xa_nil fun ds e => by subst e; exact ⟨rfl, _, ⟨rfl, rfl⟩, fun d h => h⟩).le (by omega)
end
theorem all2_terms {n d : Nat} {ds es : List D} (h : All2 (fun _ e => ∃ t, e = tD t ∧ TermOk n d t) ds es) : ∃ ts : List Term, es = ts.map tD ∧ ts.length = ds.length ∧ ∀ t ∈ ts, TermOk n d t := by
  induction h with
  | nil => exact ⟨[], rfl, rfl, fun x hx => nomatch hx⟩
  | snoc _ h ih =>
    obtain ⟨ts, rfl, hl, hw⟩ := ih
    obtain ⟨q, rfl, hq⟩ := h
    refine ⟨ts ++ [q], by rw [List.map_append]; rfl, by rw [List.length_append, List.length_append, hl]; rfl, fun x hx => ?_⟩
    rcases List.mem_append.mp hx with hx | hx
    · exact hw x hx
    · rw [List.mem_singleton.mp hx]; exact hq
theorem all2_mean {m : Nat} {ds es : List D} (h : All2 (fun d e => nl d = true ∧ ∃ w : Nat, e = .tup [.int (w : Nat), d] ∧ 1 ≤ w ∧ w ≤ m) ds es) : ∃ ws : List Nat, es = mpD ws ds ∧ ws.length = ds.length ∧ ∀ w ∈ ws, 1 ≤ w ∧ w ≤ m := by
  induction h with
  | nil => exact ⟨[], rfl, rfl, fun x hx => nomatch hx⟩
  | snoc _ h ih =>
    obtain ⟨ws, rfl, hl, hw⟩ := ih
    obtain ⟨_, q, rfl, hq⟩ := h
    refine ⟨ws ++ [q], ?_, by rw [List.length_append, List.length_append, hl]; rfl, fun x hx => ?_⟩
    · unfold mpD
      rw [List.zipWith_append hl]; rfl
    · rcases List.mem_append.mp hx with hx | hx
      · exact hw x hx
      · rw [List.mem_singleton.mp hx]; exact hq
section
variable {P : Program} {w : World} {K : PySem.W.Frag} {mg : Str → Option Value} {base : Heap}
abbrev spTerm (K : PySem.W.Frag) (dp : Nat) : Sp := spDi K 3 (TKd dp) fun ds post => ∃ n e : Nat, 0 < n ∧ n ≤ 6 ∧ 0 < e ∧ e ≤ dp ∧ dp ≤ 3 ∧ ds = [.int (n : Nat), .int (e : Nat), .bl true] ∧ post = fun d => ∃ t, d = tD t ∧ TermOk n e t
theorem ok_L_term (W : Wd P K mg base) (F : Df K mg "_law_term" s_L_term) (G_L_draw : C8.Cal P w K mg base 33 "_law_draw" (spDraw K) []) (G_L_number : C8.Cal P w K mg base 34 "_law_number" (spNum K) []) (G_L_sorted : C8.Cal P w K mg base 34 "_law_sorted" (spAsc K) []) : ∀ dp, C8.Cal P w K mg base (36 + dp) "_law_term" (spTerm K dp) [] := by
  intro dp
  induction dp with
  | zero => exact cal_sp (k := 35) F sc_L_term (fun _ _ _ _ _ _ us hl => match us, hl with | [_, _, _, _], _ => rfl) (fun vs H Q E ⟨p, xs, ds, post, c, L, e, hl, _⟩ => by rw [e, List.length_cons, hl]; rfl) fun f cdv A outer s H vs Q E hr ⟨p, xs, ds, post, c, L, e, hl, ⟨n, e', hn, hn6, hd0, hd1, _⟩, _⟩ => absurd hd0 (by omega)
  | succ dp IH =>
    have G_L_term := IH
    refine cal_sp (k := 36 + dp) F sc_L_term (fun _ _ _ _ _ _ us hl => match us, hl with | [_, _, _, _], _ => rfl) (fun vs H Q E ⟨p, xs, ds, post, c, L, e, hl, _⟩ => by rw [e, List.length_cons, hl]; rfl) fun f cdv A outer s H vs Q E hr ⟨p, xs, ds, post, c, L, e, hl, ⟨n, de0, hn, hn6, hde0, hdeD, hd3, e2, e3⟩, hD, hc, hd, q⟩ => ?_
    obtain ⟨de, rfl⟩ : ∃ de, de0 = de + 1 := ⟨de0 - 1, by omega⟩
    subst e2 e3
    obtain ⟨x, y, z, rfl, hx, hy, hz⟩ := dats3 hd
    obtain rfl : x = .int (n : Nat) := hx
    obtain rfl : y = .int ((de + 1 : Nat) : Int) := hy
    obtain rfl : z = .bl true := hz
    subst e
    have hc : c + (6 + 3 * TKd dp) ≤ CM := hc
    have q : ∀ (v : V) (H' : Hp) (d : D) (k : Nat), k ≤ 6 + 3 * TKd dp → Same (hide H p) H' → Dice K H' p (c + k) L → (∃ t, d = tD t ∧ TermOk n (de + 1) t) → Dat K (hide H' p) d v → Q v H' := fun v H' d k hk s' D' => q v H' d s' (D'.le (by show c + k ≤ c + (6 + 3 * TKd dp); omega))
    refine ⟨_, (pss_cons (ps_set (i := 4) sc_L_term.nd rfl (by first | exact Or.inl rfl | exact Or.inr rfl) (C8.pe_c G_L_draw hr (by omega) (by rfl) (pa_cons (pv 0) (pa_cons pe_int pa_nil))))
    (pss_cons (ps_if (PW.pt (pw_or (pt_cmpR op_eq (pv 2) pe_int (nomark _)) (pw_or1 (pt_cmpR op_eq (pv 4) pe_int (nomark _))))) (pss_cons (ps_if (pt_cmpR op_eq (C8.pe_c G_L_draw hr (by omega) (by rfl) (pa_cons (pv 0) (pa_cons pe_int pa_nil))) pe_int (nomark _)) (pss_one (ps_ret (pe_tup (pa_cons pe_str (pa_cons (C8.pe_c G_L_number hr (by omega) (by rfl) (pa_cons (pv 0) pa_nil)) pa_nil))))) pss_nil)
    (pss_one (ps_ret (pe_tup (pa_cons pe_str (pa_cons (C8.pe_c G_L_draw hr (by omega) (by rfl) (pa_cons (pv 0) (pa_cons (pv 1) pa_nil))) pa_nil)))))) pss_nil)
    (pss_cons (ps_setLc (i := 5) (own := [("_law_k", 7)]) (g := gName 7) (tt := tYes) (by rfl) sc_L_term.nd rfl rfl (sw_true rfl rfl rfl (by decide +kernel)) (pi_range1 (by rfl) W.range (pa_cons (pe_op op_add pe_int (C8.pe_c G_L_draw hr (by omega) (by rfl) (pa_cons (pv 0) (pa_cons pe_int pa_nil)))) pa_nil)) (blkOk_by (N := n_L_term) (sc := defScope s_L_term) (by decide +kernel)) (fun _ _ _ _ _ => (pg_name (i := 7) sc_L_term.nd rfl (by first | exact Or.inl rfl | exact Or.inr rfl))) (fun _ _ _ _ _ => pts_nil) (fun _ _ _ _ _ => (C8.pe_c G_L_term hr (by omega) (by rfl) (pa_cons (pv 0) (pa_cons (pv 1) (pa_cons (pe_op op_sub (pv 2) pe_int) (pa_cons (pv 3) pa_nil)))))))
    (pss_cons (ps_if (pt_cmpR op_eq (pv 4) pe_int (nomark _)) (pss_cons (ps_set (i := 6) sc_L_term.nd rfl (by first | exact Or.inl rfl | exact Or.inr rfl) (C8.pe_c G_L_sorted hr (by omega) (by rfl) (pa_cons (pe_lst (pa_cons (C8.pe_c G_L_number hr (by omega) (by rfl) (pa_cons (pv 0) pa_nil)) (pa_cons (C8.pe_c G_L_number hr (by omega) (by rfl) (pa_cons (pv 0) pa_nil)) pa_nil))) pa_nil)))
    (pss_one (ps_ret (pe_tup (pa_cons pe_str (pa_cons (pe_ix ix_list (pv 6) pe_int (fun _ _ => rfl)) (pa_cons (pe_ix ix_list (pv 6) pe_int (fun _ _ => rfl)) (pa_cons (pe_ix ix_list (pv 5) pe_int (fun _ _ => rfl)) pa_nil)))))))) pss_nil)
    (pss_cons (ps_if (pt_cmpR op_eq (pv 4) pe_int (nomark _)) (pss_one (ps_ret (pe_tup (pa_cons pe_str (pa_cons (pe_callTy call_tuple_of (by rfl) W.tuple b_tuple (pa_cons (pv 5) pa_nil)) pa_nil))))) pss_nil)
    (pss_cons (ps_if (pt_cmpR op_eq (pv 4) pe_int (nomark _)) (pss_one (ps_ret (pe_tup (pa_cons pe_str (pa_cons (pe_callTy call_tuple_of (by rfl) W.tuple b_tuple (pa_cons (pv 5) pa_nil)) pa_nil))))) pss_nil)
    (pss_cons (ps_if (PW.pt (pw_or (pt_cmpR op_eq (pv 4) pe_int (nomark _)) (pw_or1 (pt_not (pt_val (pv 3)))))) (pss_one (ps_ret (pe_tup (pa_cons pe_str (pa_cons (pe_op op_add pe_int (C8.pe_c G_L_draw hr (by omega) (by rfl) (pa_cons (pv 0) (pa_cons (pe_callB call_len_seq (by rfl) W.len b_len (pa_cons (pv 5) pa_nil)) pa_nil)))) (pa_cons (pe_callTy call_tuple_of (by rfl) W.tuple b_tuple (pa_cons (pv 5) pa_nil)) pa_nil)))))) pss_nil)
    (pss_one (ps_ret (pe_tup (pa_cons pe_str (pa_cons (pe_callTy call_tuple_of (by rfl) W.tuple b_tuple (pa_cons (pe_lc (own := [("_law_part", 8)]) (g := gName 8) (tt := tYes) rfl sc_L_term.nd (pi_list (pv 5)) (blkOk_by (N := n_L_term) (sc := defScope s_L_term) (by decide +kernel)) (fun _ _ _ _ _ => (pg_name (i := 8) sc_L_term.nd rfl (by first | exact Or.inl rfl | exact Or.inr rfl))) (fun _ _ _ _ _ => pts_nil) (fun _ _ _ _ _ => (pe_tup (pa_cons (pe_op op_add pe_int (C8.pe_c G_L_draw hr (by omega) (by rfl) (pa_cons (pv 0) (pa_cons pe_int pa_nil)))) (pa_cons (pv 8) pa_nil))))) pa_nil)) pa_nil)))))))))))), ?_⟩
    refine q_setX (B := hide H p) (ex_draw (m := 8) hide_none rfl ed_int (by omega) (by omega)) hide_same hD (by omega) fun v H1 d s1 D1 ⟨kd, hk8, ed⟩ hv => ?_
    subst ed
    obtain rfl : v = .int (kd : Nat) := hv
    refine q_if (H := hide H1 p) (et_or (et_test (ed_eqI (K := K) (ed_var (d := .int ((de + 1 : Nat) : Int)) rfl rfl) ed_int)) fun _ => et_test (K := K) (ed_eqI (K := K) (ed_var (d := .int (kd : Nat)) rfl rfl) ed_int)) hide_same (fun e H2 s2 => ?_) (fun e H2 s2 => ?_)
    · have s02 : Same (hide H p) H2 := s1.trans s2
      have D2 := D1.same s2
      refine q_ifX (B := hide H2 p) (P := fun _ => True) ((xt_test ((ex_eqI hide_none (ex_draw (m := 5) hide_none rfl ed_int (by omega) (by omega)) (ex_ofD (ed_int (i := 0))) (fun d ⟨i, _, e⟩ => ⟨i, e⟩) (fun d e => ⟨0, e⟩)).imp fun d ⟨i, j, _, _, e⟩ => ⟨_, e, trivial⟩))) hide_same D2 (by omega) (fun _ H3 s3 D3 => ?_) (fun _ H3 s3 D3 => ?_)
      · refine q_retX (B := hide H3 p) (ex_tup (xa_cons hide_none (ex_ofD (ed_str (i := "fixed"))) (xa_cons hide_none (ex_num rfl) xa_nil)) fun ds ⟨d, r, e1, _, d2, r2, e3, _, e5⟩ => by subst e5 e3 e1; exact Nat.le_of_ble_eq_true rfl) hide_same D3 (by omega) fun v H4 d s4 D4 ⟨ds, e1, d1, r1, e2, e3, d2, r2, e4, ⟨q', e5, hq⟩, e6⟩ hv => q v H4 d 4 (by omega) (off_trans (off_trans s02 s3) s4) (D4.le (by omega)) ⟨.fix q', by subst e6 e5 e4 e3 e2 e1; rfl, leaf_ok (show Nm L0 q' from hq) rfl rfl rfl⟩ hv
      · refine q_retX (B := hide H3 p) (ex_tup (xa_cons hide_none (ex_ofD (ed_str (i := "bid"))) (xa_cons hide_none (ex_draw (m := n) hide_none rfl (ed_var rfl rfl) hn (by omega)) xa_nil)) fun ds ⟨d, r, e1, _, d2, r2, e3, _, e5⟩ => by subst e5 e3 e1; exact Nat.le_of_ble_eq_true rfl) hide_same D3 (by omega) fun v H4 d s4 D4 ⟨ds, e1, d1, r1, e2, e3, d2, r2, e4, ⟨i, hi, e5⟩, e6⟩ hv => q v H4 d 3 (by omega) (off_trans (off_trans s02 s3) s4) (D4.le (by omega)) ⟨.bid i, by subst e6 e5 e4 e3 e2 e1; rfl, leaf_ok (show i < n from hi) rfl rfl rfl⟩ hv
    · rw [Bool.or_eq_false_iff] at e
      have e1 := of_decide_eq_false e.1
      obtain ⟨d', rfl⟩ : ∃ d', de = d' + 1 := ⟨de - 1, by omega⟩
      have s02 : Same (hide H p) H2 := s1.trans s2
      have D2 := D1.same s2
      refine q_setX (B := hide H2 p) (ex_lc (kk := TKd dp) (N := 3) (F := fun _ e => ∃ t, e = tD t ∧ TermOk n (d' + 1) t) (eix_range (k := 1) hide_none (ex_draw1 (t2 := tVar 0) hide_none (ex_draw (m := 3) hide_none rfl ed_int (by omega) (by omega))) fun d ⟨i, _, _, e⟩ => ⟨i, e, by omega⟩) (fun _ => rfl) (fun ds ⟨m, ⟨i, _, _, em⟩, ed⟩ => by cases em; rw [ed, rangeD_len]; omega) (by omega) (fun ds ⟨m, em, ed⟩ => by rw [ed]; exact nls_range) (fun d e ⟨q, hq, hk⟩ => by rw [hq]; exact nl_tD hk.wf)
        fun ds d x Hb hR hd sb hb hx => (ex_dice (j := TKd dp) rfl (xa_cons hb (ex_ofD (d := .int (n : Nat)) (ed_var rfl rfl)) (xa_cons hb (ex_ofD (d := .int ((d' + 1 : Nat) : Int)) ((ed_sub (ed_var (d := .int ((d' + 1 + 1 : Nat) : Int)) rfl rfl) ed_int).to (by congr 1; omega))) (xa_cons hb (ex_ofD (d := .bl true) (ed_var rfl rfl)) xa_nil))) fun ds ⟨d1, r1, e1, e2, d2, r2, e3, e4, d3, r3, e5, e6, e7⟩ => by subst e7 e6 e5 e4 e3 e2 e1; exact ⟨rfl, _, ⟨n, d' + 1, hn, hn6, by omega, by omega, by omega, rfl, rfl⟩, fun d h => h⟩).le (by omega)) hide_same D2 (by omega) fun v H3 d s3 D3 ⟨ds, es, ed, ⟨m, ⟨i, i1, i3, em⟩, ed2⟩, h2⟩ hv => ?_
      cases em
      subst ed2
      obtain ⟨ts, e5, tl, hts⟩ := all2_terms h2
      rw [rangeD_len] at tl
      subst e5 ed
      have tne : ts ≠ [] := fun z => by rw [z] at tl; simp at tl; omega
      have tle : ts.length ≤ 3 := by omega
      have s03 : Same (hide H p) H3 := off_trans s02 s3
      have e6 : ts.map tD = tDs ts := (tDs_map ts).symm
      have nlts : nls (ts.map tD) = true := nls_all fun x hx => by
        obtain ⟨t, ht, rfl⟩ := List.mem_map.mp hx
        exact nl_tD (hts t ht).wf
      have hv3 : Dat K (hide H3 p) (.lst (ts.map tD)) v := hv
      refine q_if (H := hide H3 p) (et_test (ed_eqI (K := K) (ed_var (d := .int (kd : Nat)) rfl rfl) ed_int)) hide_same (fun e H4 s4 => ?_) (fun _ H4 s4 => ?_)
      · have D4 := D3.same s4
        have hv4 : Dat K (hide H4 p) (.lst (ts.map tD)) v := Dat.same (hide_mono s4) hv3
        refine q_setX (B := hide H4 p) (k := 4) (post := fun d => ∃ a b, d = .lst (frs (srt [a, b])) ∧ Nm L0 a ∧ Nm L0 b) (ex_callL (xa_cons hide_none (ex_lst (xa_cons hide_none (ex_num rfl) (xa_cons hide_none (ex_num rfl) xa_nil)) (fun ds ⟨d, r, e1, _, d2, r2, e3, _, e5⟩ => by subst e5 e3 e1; exact Nat.le_of_ble_eq_true rfl)) xa_nil) fun ds ⟨d, r, e1, ⟨es, e2, d1, r1, e3, ⟨a, e4, ha⟩, d2, r2, e5, ⟨b, e6, hb⟩, e7⟩, e8⟩ => by
          subst e8 e7 e6 e5 e4 e3 e2 e1
          refine ⟨rfl, _, ⟨[a, b], 27, Nat.le_of_ble_eq_true rfl, fun x hx => ?_, by decide, rfl, rfl⟩, fun d hd => ⟨⟨a, b, hd, ha, hb⟩, _, hd, nls_map fun _ => rfl, by rw [frs_len, srt_len]; exact fun z => nomatch z⟩⟩
          rcases List.mem_cons.mp hx with rfl | hx
          · exact ha.sz (by decide) (by decide)
          · rw [List.mem_singleton.mp hx]; exact hb.sz (by decide) (by decide)) hide_same D4 (by omega) fun v2 H5 d s5 D5 ⟨a, b, ed, ha, hb⟩ hv2 => ?_
        subst ed
        have r0 : 0 < [a, b].length := Nat.le_of_ble_eq_true rfl
        have r1 : 1 < [a, b].length := Nat.le_of_ble_eq_true rfl
        have hr2 : ∀ i, i < [a, b].length → Nm L0 (rk [a, b] i) := fun i hi => by
          rcases List.mem_cons.mp (rk_mem hi) with h | h
          · rw [h]; exact ha
          · rw [List.mem_singleton.mp h]; exact hb
        have hle : rk [a, b] 0 ≤ rk [a, b] 1 := (le_least (xs := [a, b]) (List.cons_ne_nil _ _)).mp Rat.le_refl _ (rk_mem r1)
        cases ts with
        | nil => exact absurd rfl tne
        | cons t0 tr =>
          have hv5 : Dat K (hide H5 p) (.lst ((t0 :: tr).map tD)) v := Dat.same (same_hide s5 hide_none) hv4
          have okb : TermOk n (d' + 2) (.node (.between (rk [a, b] 0) (rk [a, b] 1)) [t0]) := node_ok (by simp) (by simp) ⟨rfl, hr2 0 r0, hr2 1 r1, hle⟩ (by show 1 ≤ 15; decide) fun t ht => by rw [List.mem_singleton.mp ht]; exact hts _ List.mem_cons_self
          refine q_retD (K := K) (d := tD (.node (.between (rk [a, b] 0) (rk [a, b] 1)) [t0])) (H := hide H5 p) (ed_tup (ds := [.str "between", fr (rk [a, b] 0), fr (rk [a, b] 1), tD t0]) (ea_cons (ed_str (i := "between")) (ea_cons (ed_ixL (ed_var rfl hv2) ed_int (atI_frs (i := 0) (rk_get r0))) (ea_cons (ed_ixL (ed_var rfl hv2) ed_int (atI_frs (i := 1) (rk_get r1))) (ea_cons (ed_ixL (d := tD t0) (ed_var rfl hv5) ed_int (atI_nat (j := 0) rfl)) ea_nil))))) hide_same fun r H6 s6 h6 => q r H6 _ (1 + (1 + 3 * TKd dp) + 4) (by omega) ((off_trans (s03.trans s4) s5).trans s6) ((D5.same s6).le (by omega)) ⟨_, rfl, okb⟩ (Dat.hideN (D5.same s6) (nl_tD okb.wf) h6)
      · have D4 := D3.same s4
        have s04 := s03.trans s4
        have hv4 : Dat K (hide H4 p) (.lst (ts.map tD)) v := Dat.same (hide_mono s4) hv3
        have fin : ∀ (o : Op) (r : V) (H5 : Hp) (s5 : Same H4 H5), OpOk L0 o ts.length → oww o ≤ 15 → Dat K H5 (tD (.node o ts)) r → Q r H5 := fun o r H5 s5 h1 h2 h3 => q r H5 _ (1 + (1 + 3 * TKd dp)) (by omega) (s04.trans s5) ((D4.same s5).le (by omega)) ⟨_, rfl, node_ok tne tle h1 h2 hts⟩ (Dat.hideN (D4.same s5) (nl_tD (node_ok tne tle h1 h2 hts).wf) h3)
        refine q_if (H := hide H4 p) (et_test (ed_eqI (K := K) (ed_var (d := .int (kd : Nat)) rfl rfl) ed_int)) hide_same (fun _ H5 s5 => ?_) (fun _ H5 s5 => ?_)
        · refine q_retD (K := K) (d := tD (.node .least ts)) (H := hide H4 p) ((ed_tup (ea_cons (ed_str (i := "least")) (ea_cons (ed_tupOf (ed_var rfl hv4)) ea_nil))).to (by rw [e6]; rfl)) (hide_same.trans s5) fun r H6 s6 h6 => fin .least r H6 (s5.trans s6) trivial (by show 1 ≤ 15; decide) h6
        · refine q_if (H := hide H4 p) (et_test (ed_eqI (K := K) (ed_var (d := .int (kd : Nat)) rfl rfl) ed_int)) (hide_same.trans s5) (fun _ H6 s6 => ?_) (fun _ H6 s6 => ?_)
          · refine q_retD (K := K) (d := tD (.node .greatest ts)) (H := hide H4 p) ((ed_tup (ea_cons (ed_str (i := "greatest")) (ea_cons (ed_tupOf (ed_var rfl hv4)) ea_nil))).to (by rw [e6]; rfl)) (hide_same.trans (s5.trans s6)) fun r H7 s7 h7 => fin .greatest r H7 ((s5.trans s6).trans s7) trivial (by show 1 ≤ 15; decide) h7
          · refine q_if (H := hide H4 p) (et_or (et_test (ed_eqI (K := K) (ed_var (d := .int (kd : Nat)) rfl rfl) ed_int)) fun _ => et_not (et_val (K := K) (ed_var (d := .bl true) rfl rfl))) (hide_same.trans (s5.trans s6)) (fun _ H7 s7 => ?_) (fun _ H7 s7 => ?_)
            · have s47 := (s5.trans s6).trans s7
              have D7 := D4.same s47
              have hv7 : Dat K (hide H7 p) (.lst (ts.map tD)) v := Dat.same (hide_mono s47) hv4
              refine q_retX (B := hide H7 p) (ex_tup (xa_cons hide_none (ex_ofD (ed_str (i := "ranked"))) (xa_cons hide_none (ex_draw1 (t2 := tVar 0) hide_none (ex_draw (m := ts.length) hide_none rfl ((ed_lenL (ed_var rfl hv7)).to (by rw [List.length_map])) (by omega) (by omega))) (xa_cons hide_none (ex_ofD (d := .tup (ts.map tD)) (ed_tupOf (ed_var rfl hv7)) nlts) xa_nil))) fun ds ⟨d, r, e1, _, d2, r2, e3, _, d3, r3, e5, _, e7⟩ => by subst e7 e5 e3 e1; exact Nat.le_of_ble_eq_true rfl) hide_same D7 (by omega) fun r H8 d s8 D8 ⟨ds, e1, d1, r1, e2, e3, d2, r2, e4, ⟨k, k1, k2, e5⟩, d3, r3, e8, e9, e10⟩ hv => q r H8 d (1 + (1 + 3 * TKd dp) + 1) (by omega) (off_trans (s04.trans s47) s8) (D8.le (by omega)) ⟨.node (.ranked k) ts, by subst e10 e9 e8 e5 e4 e3 e2 e1; rw [e6]; rfl, node_ok tne tle ⟨k1, k2⟩ (by show 1 ≤ 15; decide) hts⟩ hv
            · have s47 := (s5.trans s6).trans s7
              have D7 := D4.same s47
              have hv7 : Dat K (hide H7 p) (.lst (ts.map tD)) v := Dat.same (hide_mono s47) hv4
              refine q_retX (B := hide H7 p) (ex_tup (xa_cons hide_none (ex_ofD (ed_str (i := "mean"))) (xa_cons hide_none (ex_tupOf (R := fun es => All2 (fun d e => nl d = true ∧ ∃ w : Nat, e = .tup [.int (w : Nat), d] ∧ 1 ≤ w ∧ w ≤ 5) (ts.map tD) es) ((ex_lc (kk := 1) (N := 3) (F := fun d e => nl d = true ∧ ∃ w : Nat, e = .tup [.int (w : Nat), d] ∧ 1 ≤ w ∧ w ≤ 5) (eix_list hide_none rfl hv7) (fun _ => rfl) (fun ds e => by rw [e, List.length_map]; exact tle) (by omega) (fun ds e => by rw [e]; exact nlts) (fun d e ⟨nd, w, he, _⟩ => by rw [he]; show (nl d && true) = true; rw [nd]; rfl)
                fun ds d x Hb hR hd sb hb hx => ((ex_tup (xa_cons hb (ex_draw1 (t2 := tVar 0) hb (ex_draw (m := 5) hb rfl ed_int (by omega) (by omega))) (xa_cons hb (ex_var hb rfl hx) xa_nil)) fun ds ⟨d, r, e1, _, d2, r2, e3, _, e5⟩ => by subst e5 e3 e1; exact Nat.le_of_ble_eq_true rfl).imp fun e ⟨ds', e1, d1, r1, e2, ⟨w, w1, w2, e3⟩, d2, r2, e4, e5, e6⟩ => by
                  subst hR e6 e5 e4 e3 e2 e1
                  exact ⟨nls_mem nlts hd, w, rfl, w1, w2⟩).le (by omega)).imp fun d ⟨ds, es, ed, er, h2⟩ => ⟨es, ed, er ▸ h2⟩)) xa_nil)) fun ds ⟨d, r, e1, _, d2, r2, e3, _, e5⟩ => by subst e5 e3 e1; exact Nat.le_of_ble_eq_true rfl) hide_same D7 (by omega) fun r H8 d s8 D8 ⟨ds, e1, d1, r1, e2, e3, d2, r2, e4, ⟨es, e5, h2⟩, e9⟩ hv => ?_
              subst e9 e5 e4 e3 e2 e1
              obtain ⟨ws, e10, wl, hw⟩ := all2_mean h2
              rw [List.length_map] at wl
              refine q r H8 _ (1 + (1 + 3 * TKd dp) + 3) (by omega) (off_trans (s04.trans s47) s8) (D8.le (by omega)) ⟨.node (.mean ws) ts, by rw [e10, e6]; rfl, node_ok tne tle ⟨wl, fun w hw' => by have := hw w hw'; omega⟩ (Nat.le_trans (sum_le5 (m := 5) fun w hw' => (hw w hw').2) (by rw [wl]; omega)) hts⟩ hv
end
end Cb
set_option Elab.async false
set_option linter.all false
set_option maxRecDepth 100000
set_option maxHeartbeats 1000000
/-! walks of the law: a drawn rule -/
namespace Cb
open PySem PySem.Spec PyProof.Rows L2
theorem wf_up {n D : Nat} : ∀ {d : Nat} {t : Term}, Wf n D d t → Wf n D (d + 1) t
  | 0, _, h => h.elim
  | d + 1, .bid p, h => h
  | d + 1, .fix q, h => h
  | d + 1, .node o ts, ⟨h1, h2, h3, h4⟩ => ⟨h1, h2, h3, fun t ht => wf_up (h4 t ht)⟩
structure SmallOk (n : Nat) (t : Term) : Prop where
  wf : Wf n L0 3 t
  lz : lb t ≤ 288
  tz : nt t ≤ 60
  pz : wp t < 2 ^ 51
theorem TermOk.small {n d : Nat} {t : Term} (h : TermOk n d t) (hd : d ≤ 3) : SmallOk n t := by
  have hd0 : d ≠ 0 := fun z => by
    subst z
    exact h.wf.elim
  obtain rfl | rfl | rfl : d = 1 ∨ d = 2 ∨ d = 3 := by omega
  · exact ⟨wf_up (wf_up h.wf), Nat.le_trans h.lz (by decide), Nat.le_trans h.tz (by decide), Nat.lt_of_le_of_lt h.pz (by decide)⟩
  · exact ⟨wf_up h.wf, Nat.le_trans h.lz (by decide), Nat.le_trans h.tz (by decide), Nat.lt_of_le_of_lt h.pz (by decide)⟩
  · exact ⟨h.wf, Nat.le_trans h.lz (by decide), Nat.le_trans h.tz (by decide), Nat.lt_of_le_of_lt h.pz (by decide)⟩
abbrev bidT (n : Nat) : List Term := (List.range n).map Term.bid
theorem lbs_bids : ∀ (l : List Nat), lbs (l.map Term.bid) = 2 * l.length
  | [] => rfl
  | a :: r => by
    show 2 + lbs (r.map Term.bid) = 2 * (r.length + 1)
    rw [lbs_bids r]; omega
theorem nts_bids : ∀ (l : List Nat), nts (l.map Term.bid) = l.length
  | [] => rfl
  | a :: r => by
    show 1 + nts (r.map Term.bid) = r.length + 1
    rw [nts_bids r]; omega
theorem wps_bids : ∀ (l : List Nat), wps (l.map Term.bid) = 1
  | [] => rfl
  | a :: r => by
    show 1 * wps (r.map Term.bid) = 1
    rw [wps_bids r]
theorem mean_bids_wf {n : Nat} {ws : List Nat} (hn : 0 < n) (hn6 : n ≤ 6) (wl : ws.length = n) (hw : ∀ w ∈ ws, 1 ≤ w ∧ w ≤ 3) : Wf n L0 2 (.node (.mean ws) (bidT n)) := by
  have lr : (List.range n).length = n := List.length_range
  refine ⟨fun z => ?_, by rw [List.length_map, lr]; omega, ⟨by rw [List.length_map, lr, wl], fun w h => by have := hw w h; omega⟩, fun t ht => ?_⟩
  · have := congrArg List.length z
    rw [List.length_map, lr] at this
    simp at this; omega
  · obtain ⟨p, hp, rfl⟩ := List.mem_map.mp ht
    exact (show p < n from List.mem_range.mp hp)
theorem len2 {P Q : D → Prop} : ∀ ds, (∃ d r, ds = d :: r ∧ P d ∧ ∃ d2 r2, r = d2 :: r2 ∧ Q d2 ∧ r2 = []) → ds.length ≤ 1000 := by
  rintro _ ⟨d, r, rfl, _, d2, r2, rfl, _, rfl⟩
  exact Nat.le_of_ble_eq_true rfl
theorem q_setX1 {K : PySem.W.Frag} {σ : L2.St} {B : Hp} {p : Addr} {te : TE} {k : Nat} {post : D → Prop} {D' : Ends} {H0 : Hp} {L : Addr × List Int} {i c : Nat} (h : EvX K te σ p B k post) (s : Same B H0) (hD : Dice K H0 p c L) (hc : c + k ≤ CM) (q : ∀ v H1 d, Same (hide H0 p) H1 → Dice K H1 p (c + k) L → post d → Dat K (hide H1 p) d v → D'.nx (σ.set i (some v)) H1) : tAsg te (gName i) D' σ H0 := h H0 c L s hD hc _ q
theorem small_mean {n w1 : Nat} {ws : List Nat} {t2 : Term} (hn : 0 < n) (hn6 : n ≤ 6) (w0 : 1 ≤ w1) (w3 : w1 ≤ 3) (wl : ws.length = n) (hw : ∀ w ∈ ws, 1 ≤ w ∧ w ≤ 3) (h2 : TermOk n 2 t2) : SmallOk n (.node (.mean [w1, 1]) [.node (.mean ws) (bidT n), t2]) := by
  have lr : (List.range n).length = n := List.length_range
  have hs := sum_le5 (m := 3) fun w h => (hw w h).2
  have l2 : lb t2 ≤ 24 := h2.lz
  have n2 : nt t2 ≤ 4 := h2.tz
  have p2 : wp t2 ≤ 50625 := h2.pz
  refine ⟨⟨List.cons_ne_nil _ _, by show 2 ≤ 8; omega, ⟨rfl, fun w h => ?_⟩, fun t ht => ?_⟩, ?_, ?_, ?_⟩
  · rcases List.mem_cons.mp h with rfl | h
    · omega
    · rw [List.mem_singleton.mp h]; omega
  · rcases List.mem_cons.mp ht with rfl | ht
    · exact mean_bids_wf hn hn6 wl hw
    · rw [List.mem_singleton.mp ht]; exact h2.wf
  · show lbs (bidT n) + (lb t2 + 0) ≤ 288
    rw [lbs_bids, lr]; omega
  · show 1 + ((1 + nts (bidT n)) + (nt t2 + 0)) ≤ 60
    rw [nts_bids, lr]; omega
  · show (w1 + (1 + 0)) * ((ws.sum * wps (bidT n)) * (wp t2 * 1)) < 2 ^ 51
    rw [wps_bids, Nat.mul_one, Nat.mul_one]
    have a1 : w1 + (1 + 0) ≤ 4 := by omega
    have a2 : ws.sum ≤ 18 := by rw [wl] at hs; omega
    have a3 := Nat.mul_le_mul a1 (Nat.mul_le_mul a2 p2)
    exact Nat.lt_of_le_of_lt a3 (by decide)
theorem all2_bids {m : Nat} {ds es : List D} (h : All2 (fun d e => nl d = true ∧ ∃ w : Nat, e = .tup [.int (w : Nat), .tup [.str "bid", d]] ∧ 1 ≤ w ∧ w ≤ m) ds es) : ∃ ws : List Nat, es = mpD ws (ds.map fun d => D.tup [.str "bid", d]) ∧ ws.length = ds.length ∧ ∀ w ∈ ws, 1 ≤ w ∧ w ≤ m := by
  induction h with
  | nil => exact ⟨[], rfl, rfl, fun x hx => nomatch hx⟩
  | snoc _ h ih =>
    obtain ⟨ws, rfl, hl, hw⟩ := ih
    obtain ⟨_, q, rfl, hq⟩ := h
    refine ⟨ws ++ [q], ?_, by rw [List.length_append, List.length_append, hl]; rfl, fun x hx => ?_⟩
    · unfold mpD
      rw [List.map_append, List.zipWith_append (by rw [List.length_map]; exact hl)]; rfl
    · rcases List.mem_append.mp hx with hx | hx
      · exact hw x hx
      · rw [List.mem_singleton.mp hx]; exact hq
theorem bids_data (n : Nat) : (rangeD 0 n).map (fun d => D.tup [.str "bid", d]) = tDs (bidT n) := by
  rw [tDs_map]
  unfold rangeD
  rw [List.map_map, List.map_map]
  refine List.map_congr_left fun i _ => ?_
  show D.tup [.str "bid", .int (0 + (i : Int))] = D.tup [.str "bid", .int (i : Nat)]
  rw [Int.zero_add]
section
variable {P : Program} {w : World} {K : PySem.W.Frag} {mg : Str → Option Value} {base : Heap}
abbrev spSmall (K : PySem.W.Frag) : Sp := spDi K 1 200 fun ds post => ∃ m : Nat, 0 < m ∧ m ≤ 6 ∧ ds = [.int (m : Nat)] ∧ post = fun d => ∃ (n : Nat) (t : Term), d = .tup [.int (n : Nat), tD t] ∧ 0 < n ∧ n ≤ m ∧ SmallOk n t
theorem ok_L_small (W : Wd P K mg base) (F : Df K mg "_law_small" s_L_small) (G_L_draw : C8.Cal P w K mg base 33 "_law_draw" (spDraw K) []) (G_L_term : C8.Cal P w K mg base 39 "_law_term" (spTerm K 3) []) : C8.Cal P w K mg base 40 "_law_small" (spSmall K) [] := by
  refine cal_sp F sc_L_small (fun _ _ _ _ _ _ us hl => match us, hl with | [_, _], _ => rfl) (fun vs H Q E ⟨p, xs, ds, post, c, L, e, hl, _⟩ => by rw [e, List.length_cons, hl]; rfl) fun f cdv A outer s H vs Q E hr ⟨p, xs, ds, post, c, L, e, hl, ⟨m, hm, hm6, e2, e3⟩, hD, hc, hd, q⟩ => ?_
  subst e2 e3
  obtain ⟨x, _, rfl, hx, hxr⟩ := hd
  obtain rfl : _ = [] := hxr
  obtain rfl : x = .int (m : Nat) := hx
  subst e
  refine ⟨_, (pss_cons (ps_set (i := 2) sc_L_small.nd rfl (by first | exact Or.inl rfl | exact Or.inr rfl) (pe_op op_add pe_int (C8.pe_c G_L_draw hr (by omega) (by rfl) (pa_cons (pv 0) (pa_cons (pv 1) pa_nil)))))
    (pss_cons (ps_set (i := 3) sc_L_small.nd rfl (by first | exact Or.inl rfl | exact Or.inr rfl) (C8.pe_c G_L_term hr (by omega) (by rfl) (pa_cons (pv 0) (pa_cons (pv 2) (pa_cons (pe_op op_add pe_int (C8.pe_c G_L_draw hr (by omega) (by rfl) (pa_cons (pv 0) (pa_cons pe_int pa_nil)))) (pa_cons pe_bl pa_nil))))))
    (pss_cons (ps_if (pt_cmpR op_eq (C8.pe_c G_L_draw hr (by omega) (by rfl) (pa_cons (pv 0) (pa_cons pe_int pa_nil))) pe_int (nomark _)) (pss_cons (ps_set (i := 4) sc_L_small.nd rfl (by first | exact Or.inl rfl | exact Or.inr rfl) (pe_callTy call_tuple_of (by rfl) W.tuple b_tuple (pa_cons (pe_lc (own := [("_law_person", 5)]) (g := gName 5) (tt := tYes) rfl sc_L_small.nd (pi_range1 (by rfl) W.range (pa_cons (pv 2) pa_nil)) (blkOk_by (N := n_L_small) (sc := defScope s_L_small) (by decide +kernel)) (fun _ _ _ _ _ => (pg_name (i := 5) sc_L_small.nd rfl (by first | exact Or.inl rfl | exact Or.inr rfl))) (fun _ _ _ _ _ => pts_nil) (fun _ _ _ _ _ => (pe_tup (pa_cons (pe_op op_add pe_int (C8.pe_c G_L_draw hr (by omega) (by rfl) (pa_cons (pv 0) (pa_cons pe_int pa_nil)))) (pa_cons (pe_tup (pa_cons pe_str (pa_cons (pv 5) pa_nil))) pa_nil))))) pa_nil)))
    (pss_one (ps_set (i := 3) sc_L_small.nd rfl (by first | exact Or.inl rfl | exact Or.inr rfl) (pe_tup (pa_cons pe_str (pa_cons (pe_tup (pa_cons (pe_tup (pa_cons (pe_op op_add pe_int (C8.pe_c G_L_draw hr (by omega) (by rfl) (pa_cons (pv 0) (pa_cons pe_int pa_nil)))) (pa_cons (pe_tup (pa_cons pe_str (pa_cons (pv 4) pa_nil))) pa_nil))) (pa_cons (pe_tup (pa_cons pe_int (pa_cons (C8.pe_c G_L_term hr (by omega) (by rfl) (pa_cons (pv 0) (pa_cons (pv 2) (pa_cons pe_int (pa_cons pe_bl pa_nil))))) pa_nil))) pa_nil))) pa_nil)))))) pss_nil)
    (pss_one (ps_ret (pe_tup (pa_cons (pv 2) (pa_cons (pv 3) pa_nil)))))))), ?_⟩
  refine q_setX (B := hide H p) (ex_draw1 (t2 := tVar 0) hide_none (ex_draw (m := m) hide_none rfl (ed_var rfl rfl) hm (by omega))) hide_same hD (by omega) fun v H1 d s1 D1 ⟨n, hn, hnm, ed⟩ hv => ?_
  subst ed
  obtain rfl : v = .int (n : Nat) := hv
  refine q_setX (B := hide H1 p) (k := 79) (post := fun d => ∃ t, d = tD t ∧ SmallOk n t) ((ex_dice (j := 78) rfl (xa_cons hide_none (ex_ofD (d := .int (n : Nat)) (ed_var rfl rfl)) (xa_cons hide_none (ex_draw1 (t2 := tVar 0) hide_none (ex_draw (m := 3) hide_none rfl ed_int (by omega) (by omega))) (xa_cons hide_none (ex_ofD (ed_bl (i := true))) xa_nil))) fun ds ⟨d1, r1, e1, e2, d2, r2, e3, ⟨e, h1, h3, e4⟩, d3, r3, e5, e6, e7⟩ => by
    subst e7 e6 e5 e4 e3 e2 e1
    exact ⟨rfl, _, ⟨n, e, hn, by omega, h1, h3, by decide, rfl, rfl⟩, fun d ⟨t, ht, h⟩ => ⟨t, ht, h.small h3⟩⟩).le (by omega)) hide_same D1 (by omega) fun v H2 d s2 D2 ⟨t, ed, ht⟩ hv => ?_
  subst ed
  have s02 : Same (hide H p) H2 := off_trans s1 s2
  refine seq_mid (fun σ H' => ∃ t v y, σ = [some (.ref p), some (.int (m : Nat)), some (.int (n : Nat)), some v, y, none] ∧ Same (hide H p) H' ∧ Dice K H' p (c + 200) L ∧ SmallOk n t ∧ Dat K (hide H' p) (tD t) v) ?rest fun k => ?first
  case rest =>
    rintro σ H3 ⟨t, v, y, rfl, s3, D3, ht, hv⟩
    exact q_retD (K := K) (d := .tup [.int (n : Nat), tD t]) (H := hide H3 p) (ed_tup (ea_cons (ed_var rfl rfl) (ea_cons (ed_var rfl hv) ea_nil))) hide_same fun r H4 s4 h4 => q r H4 _ (s3.trans s4) (D3.same s4) ⟨n, t, rfl, hn, hnm, ht⟩ (Dat.hideN (D3.same s4) (by show (true && (nl (tD t) && true)) = true; rw [nl_tD ht.wf]; rfl) h4)
  case first =>
    refine q_ifX (B := hide H2 p) (P := fun _ => True) ((xt_test ((ex_eqI hide_none (ex_draw (m := 2) hide_none rfl ed_int (by omega) (by omega)) (ex_ofD (ed_int (i := 0))) (fun d ⟨i, _, e⟩ => ⟨i, e⟩) (fun d e => ⟨0, e⟩)).imp fun d ⟨i, j, _, _, e⟩ => ⟨_, e, trivial⟩))) hide_same D2 (by omega) (fun _ H3 s3 D3 => ?_) (fun _ H3 s3 D3 => ?_)
    · refine q_setX (B := hide H3 p) (k := 6) (post := fun d => ∃ ds, d = .tup ds ∧ ∃ ws : List Nat, ds = mpD ws (tDs (bidT n)) ∧ ws.length = n ∧ ∀ w ∈ ws, 1 ≤ w ∧ w ≤ 3) ((ex_tupOf ((ex_lc (kk := 1) (N := 6) (F := fun d e => nl d = true ∧ ∃ w : Nat, e = .tup [.int (w : Nat), .tup [.str "bid", d]] ∧ 1 ≤ w ∧ w ≤ 3) (eix_range (post := fun d => d = .int (n : Nat)) hide_none (ex_ofD (ed_var rfl rfl)) fun d e => ⟨n, e, by omega⟩) (fun _ => rfl) (fun ds ⟨m', em, ed⟩ => by cases em; rw [ed, rangeD_len]; omega) (by omega) (fun ds ⟨m', em, ed⟩ => by rw [ed]; exact nls_range) (fun d e ⟨nd, w, he, _⟩ => by rw [he]; show (true && ((true && (nl d && true)) && true)) = true; rw [nd]; rfl)
        fun ds d x Hb hR hd sb hb hx => ((ex_tup (xa_cons hb (ex_draw1 (t2 := tVar 0) hb (ex_draw (m := 3) hb rfl ed_int (by omega) (by omega))) (xa_cons hb (ex_ofD (ed_tup (ea_cons (ed_str (i := "bid")) (ea_cons (ed_var rfl hx) ea_nil))) (by
          obtain ⟨m', em, ed⟩ := hR
          show (true && (nl d && true)) = true
          rw [nls_mem (by rw [ed]; exact nls_range) hd]; rfl)) xa_nil)) fun ds ⟨d, r, e1, _, d2, r2, e3, _, e5⟩ => by subst e5 e3 e1; exact Nat.le_of_ble_eq_true rfl).imp fun e ⟨ds', e1, d1, r1, e2, ⟨w, w1, w2, e3⟩, d2, r2, e4, e5, e6⟩ => by
            obtain ⟨m', em, ed⟩ := hR
            subst e6 e5 e4 e3 e2 e1
            exact ⟨nls_mem (by rw [ed]; exact nls_range) hd, w, rfl, w1, w2⟩).le (by omega)).imp fun d ⟨ds, es, ed, ⟨m', em, er⟩, h2⟩ => by
              cases em
              subst er
              obtain ⟨ws, e5, e6, e7⟩ := all2_bids h2
              rw [bids_data] at e5
              rw [rangeD_len] at e6
              exact ⟨es, ed, ws, e5, e6, e7⟩)).le (by omega)) hide_same D3 (by omega) fun v2 H4 d s4 D4 ⟨ds, ed, ws, e1, wl, hw⟩ hv2 => ?_
      subst e1 ed
      refine q_setX1 (B := hide H4 p) (k := 80) (post := fun d => ∃ t, d = tD t ∧ SmallOk n t) (((ex_tup (xa_cons hide_none (ex_ofD (ed_str (i := "mean"))) (xa_cons hide_none (ex_tup (xa_cons hide_none (ex_tup (xa_cons hide_none (ex_draw1 (t2 := tVar 0) hide_none (ex_draw (m := 3) hide_none rfl ed_int (by omega) (by omega))) (xa_cons hide_none (ex_ofD (d := .tup [.str "mean", .tup (mpD ws (tDs (bidT n)))]) (ed_tup (ea_cons ed_str (ea_cons (ed_var rfl hv2) ea_nil))) (nl_tD (mean_bids_wf hn (by omega) wl hw))) xa_nil)) len2) (xa_cons hide_none (ex_tup (xa_cons hide_none (ex_ofD (ed_int (i := 1))) (xa_cons hide_none (ex_dice (j := 78) (post := fun d => ∃ t, d = tD t ∧ TermOk n 2 t) rfl (xa_cons hide_none (ex_ofD (d := .int (n : Nat)) (ed_var rfl rfl)) (xa_cons hide_none (ex_ofD (ed_int (i := 2))) (xa_cons hide_none (ex_ofD (ed_bl (i := true))) xa_nil))) fun ds ⟨d1, r1, e1, e2, d2, r2, e3, e4, d3, r3, e5, e6, e7⟩ => by
          subst e7 e6 e5 e4 e3 e2 e1
          exact ⟨rfl, _, ⟨n, 2, hn, by omega, by decide, by decide, by decide, rfl, rfl⟩, fun d h => h⟩) xa_nil)) len2) xa_nil)) len2) xa_nil)) len2).imp fun d ⟨ds, ed, d1, r1, e1, e2, d2, r2, e3, ⟨ds2, e4, a1, q1, e5, ⟨ds3, e6, b1, s1, e7, ⟨w1, w10, w13, e8⟩, b2, s2, e9, e10, e11⟩, a2, q2, e12, ⟨ds4, e13, c1, t1, e14, e15, c2, t2, e16, ⟨t', e17, ht'⟩, e18⟩, e19⟩, e20⟩ => by
            subst e20 e19 e18 e17 e16 e15 e14 e13 e12 e11 e10 e9 e8 e7 e6 e5 e4 e3 e2 e1 ed
            exact ⟨.node (.mean [w1, 1]) [.node (.mean ws) (bidT n), t'], rfl, small_mean hn (by omega) w10 w13 wl hw ht'⟩).le (by omega)) hide_same D4 (by omega) fun v3 H5 d s5 D5 ⟨t', ed, ht'⟩ hv3 => ?_
      subst ed
      exact k _ _ ⟨t', v3, some v2, rfl, off_trans (off_trans (off_trans s02 s3) s4) s5, D5.le (by omega), ht', hv3⟩
    · exact k _ _ ⟨t, v, none, rfl, off_trans s02 s3, D3.le (by omega), ht, Dat.same (same_hide s3 hide_none) hv⟩
end
end Cb
set_option Elab.async false
set_option linter.all false
set_option maxRecDepth 100000
set_option maxHeartbeats 1000000
/-! walks of the law: a drawn schedule -/
namespace Cb
open PySem PySem.Spec PyProof.Rows L2
section
variable {K : PySem.W.Frag} {σ : L2.St} {B H H' : Hp} {p : Addr} {te ta tb' : TE} {k c : Nat} {post : D → Prop} {L : Addr × List Int}
theorem Dice.put {r : Addr} {o : HO} {c0 : Nat} (h0 : Dice K H p c0 L) (h : Dice K H' p c L) (ne : r ≠ p) (s : Same (hide H p) (upd H' r o)) : Dice K (upd H' r o) p c L := by
  obtain ⟨_, _, _, _, _, sq, _⟩ := h0
  obtain ⟨i, dig, seed, cnt, e, _, r1⟩ := h
  exact ⟨i, dig, seed, cnt, by rw [upd_ne (Ne.symm ne)]; exact e, (same_hide s hide_none).seq sq, r1⟩
theorem q_forRX {g : TG} {tb u : TS} {D' : Ends} {H0 : Hp} (hB : B p = none) (h : EvX K te σ p B k post) (hp : ∀ d, post d → ∃ n : Nat, d = .int n ∧ n ≤ 1000000) (s : Same B H0) (hD : Dice K H0 p c L) (hc : c + k ≤ CM)
    (q : ∀ (n : Nat) (H1 : Hp), post (.int n) → Same (hide H0 p) H1 → Dice K H1 p (c + k) L → ∃ Pv : Nat → L2.St → Hp → Prop, Pv 0 σ H1 ∧ (∀ i σ H, Pv i σ H → Same B H) ∧
      (∀ i d x σ H H', (rangeD 0 n)[i]? = some d → Pv i σ H → Same H H' → Dat K H' d x → g x σ H' fun σ2 H2 => tb { D' with nx := Pv (i + 1), ct := Pv (i + 1), bk := u D' } σ2 H2) ∧ ∀ σ H, Pv (rangeD 0 n).length σ H → u D' σ H) :
    tSeq (tFor (iRng1 (tCons te tNil)) g tb) u D' σ H0 := h H0 c L s hD hc _ fun v H1 d s1 D1 pd hd => by
  obtain ⟨n, rfl, hn⟩ := hp d pd
  obtain rfl : v = .int (n : Nat) := hd
  obtain ⟨Pv, k1, k2, k3, k4⟩ := q n H1 pd s1 D1
  exact ⟨n, rfl, by omega, by omega, for_data (D' := { D' with nx := u D' }) walks_range Pv k1 k2 k3 k4⟩
end
theorem map_eraseIdx {α β : Type} (f : α → β) : ∀ (l : List α) (k : Nat), (l.map f).eraseIdx k = (l.eraseIdx k).map f
  | [], _ => rfl
  | a :: r, 0 => rfl
  | a :: r, k + 1 => by
    show f a :: (r.map f).eraseIdx k = f a :: (r.eraseIdx k).map f
    rw [map_eraseIdx f r k]
theorem mem_erase {α : Type} : ∀ {l : List α} {k : Nat} {y x : α}, l[k]? = some y → (x ∈ l ↔ x = y ∨ x ∈ l.eraseIdx k)
  | [], _, _, _, h => nomatch h
  | a :: r, 0, y, x, h => by
    have : a = y := by simpa using h
    subst this
    exact List.mem_cons
  | a :: r, k + 1, y, x, h => by
    have ih := mem_erase (x := x) (show r[k]? = some y by simpa using h)
    show x ∈ a :: r ↔ x = y ∨ x ∈ a :: r.eraseIdx k
    rw [List.mem_cons, List.mem_cons, ih]
    constructor
    · rintro (h | h | h)
      · exact .inr (.inl h)
      · exact .inl h
      · exact .inr (.inr h)
    · rintro (h | h | h)
      · exact .inr (.inl h)
      · exact .inl h
      · exact .inr (.inr h)
abbrev vN (l : List Nat) : List V := l.map fun q => V.int (q : Nat)
theorem dats_nat {K : PySem.W.Frag} {H : Hp} : ∀ l : List Nat, Dats K H (natsD l) (vN l)
  | [] => rfl
  | a :: r => ⟨_, _, rfl, rfl, dats_nat r⟩
section
variable {P : Program} {w : World} {K : PySem.W.Frag} {mg : Str → Option Value} {base : Heap}
abbrev spSched (K : PySem.W.Frag) : Sp := spDi K 2 60 fun ds post => ∃ n m : Nat, 0 < n ∧ n ≤ 6 ∧ n + m ≤ 12 ∧ ds = [.int (n : Nat), .int (m : Nat)] ∧ post = fun d => ∃ sch : List Nat, d = .tup (natsD sch) ∧ (∀ q ∈ sch, q < n) ∧ (∀ q, q < n → q ∈ sch) ∧ sch.length ≤ 12
theorem ok_L_schedule (W : Wd P K mg base) (F : Df K mg "_law_schedule" s_L_schedule) (G_L_draw : C8.Cal P w K mg base 33 "_law_draw" (spDraw K) []) : C8.Cal P w K mg base 34 "_law_schedule" (spSched K) [] := by
  refine cal_sp F sc_L_schedule (fun _ _ _ _ _ _ us hl => match us, hl with | [_, _, _], _ => rfl) (fun vs H Q E ⟨p, xs, ds, post, c, L, e, hl, _⟩ => by rw [e, List.length_cons, hl]; rfl) fun f cdv A outer s H vs Q E hr ⟨p, xs, ds, post, c, L, e, hl, ⟨n, m, hn, hn6, hnm, e2, e3⟩, hD, hc, hd, q⟩ => ?_
  subst e2 e3
  obtain ⟨x, y, rfl, hx, hy⟩ := dats2 hd
  obtain rfl : x = .int (n : Nat) := hx
  obtain rfl : y = .int (m : Nat) := hy
  subst e
  refine ⟨_, (pss_cons (ps_set (i := 3) sc_L_schedule.nd rfl (by first | exact Or.inl rfl | exact Or.inr rfl) (pe_listRg rfl (by rfl) W.list (prg_1 (by rfl) W.range (pv 1))))
    (pss_cons (ps_set (i := 4) sc_L_schedule.nd rfl (by first | exact Or.inl rfl | exact Or.inr rfl) (pe_lst pa_nil))
    (pss_cons (ps_for PassesOwn.never rfl (pi_range1 (by rfl) W.range (pa_cons (pv 1) pa_nil)) (pg_name (i := 5) sc_L_schedule.nd rfl (by first | exact Or.inl rfl | exact Or.inr rfl))
    (pss_one (ps_expr (pe_bm PySem.F.plainAttrs_list PySem.F.slot_list_append PySem.F.type_list_append mt_append (pv 4) (pa_cons (pe_bm PySem.F.plainAttrs_list PySem.F.slot_list_pop PySem.F.type_list_pop mt_popAt (pv 3) (pa_cons (C8.pe_c G_L_draw hr (by omega) (by rfl) (pa_cons (pv 0) (pa_cons (pe_callB call_len_seq (by rfl) W.len b_len (pa_cons (pv 3) pa_nil)) pa_nil))) pa_nil)) pa_nil)))))
    (pss_cons (ps_for PassesOwn.never rfl (pi_range1 (by rfl) W.range (pa_cons (C8.pe_c G_L_draw hr (by omega) (by rfl) (pa_cons (pv 0) (pa_cons (pe_op op_add (pv 2) pe_int) pa_nil))) pa_nil)) (pg_name (i := 5) sc_L_schedule.nd rfl (by first | exact Or.inl rfl | exact Or.inr rfl))
    (pss_one (ps_expr (pe_bm PySem.F.plainAttrs_list PySem.F.slot_list_insert PySem.F.type_list_insert mt_insert (pv 4) (pa_cons (C8.pe_c G_L_draw hr (by omega) (by rfl) (pa_cons (pv 0) (pa_cons (pe_op op_add (pe_callB call_len_seq (by rfl) W.len b_len (pa_cons (pv 4) pa_nil)) pe_int) pa_nil))) (pa_cons (C8.pe_c G_L_draw hr (by omega) (by rfl) (pa_cons (pv 0) (pa_cons (pv 1) pa_nil))) pa_nil))))))
    (pss_one (ps_ret (pe_callTy call_tuple_of (by rfl) W.tuple b_tuple (pa_cons (pv 4) pa_nil)))))))), ?_⟩
  refine ⟨_, rfl, n, rfl, RgOk.of_le (by omega) (by omega) (by omega) (by omega), fun r hr0 => ?_⟩
  have er : rgV 0 (n : Int) = vN (List.range n) := by
    unfold rgV vN
    rw [show ((n : Int) - 0).toNat = n by omega]
    exact List.map_congr_left fun i _ => by rw [Int.zero_add]
  rw [er]
  have rp : r ≠ p := hD.ne hr0
  refine ⟨Nat.zero_le _, fun a ha0 => ?_⟩
  have ar : a ≠ r := fun z => by rw [z, upd_same] at ha0; cases ha0
  have hFa : H a = none := by rw [upd_ne ar] at ha0; exact ha0
  have ap : a ≠ p := hD.ne hFa
  have b0 : hide H p p = none := hide_none
  have br : hide H p r = none := by show (if r = p then none else H r) = _; rw [if_neg rp]; exact hr0
  have ba : hide H p a = none := by show (if a = p then none else H a) = _; rw [if_neg ap]; exact hFa
  have s0 : Same (hide H p) (upd (upd H r (.lst (vN (List.range n)))) a (.lst [])) := fun b o e => by
    rw [upd_ne (ne_of_none e ba), upd_ne (ne_of_none e br)]
    exact hide_same b o e
  have s0' : Same (hide H p) (upd H r (.lst (vN (List.range n)))) := fun b o e => by
    rw [upd_ne (ne_of_none e br)]
    exact hide_same b o e
  have D0 : Dice K (upd (upd H r (.lst (vN (List.range n)))) a (.lst [])) p c L := hD.put (hD.put hD rp s0') ap s0
  have hra : upd (upd H r (.lst (vN (List.range n)))) a (.lst []) r = some (.lst (vN (List.range n))) := by rw [upd_ne (Ne.symm ar), upd_same]
  have haa : upd (upd H r (.lst (vN (List.range n)))) a (.lst []) a = some (.lst []) := upd_same
  generalize upd (upd H r (.lst (vN (List.range n)))) a (.lst []) = H0 at s0 D0 hra haa ⊢
  refine q_forB (K := K) (H := hide H p) (ei_range1 (n := n) (vv_var rfl) (by omega)) s0 fun Hb H1 sb s1 hnp sb1 => ?_
  have hbp : Hb p = none := hnp p (by obtain ⟨xs, e⟩ := D0.at; rw [e]; exact fun z => nomatch z) b0
  have hbr : Hb r = none := hnp r (by rw [hra]; exact fun z => nomatch z) br
  have hba : Hb a = none := hnp a (by rw [haa]; exact fun z => nomatch z) ba
  have memR : ∀ q, q < n ↔ q ∈ List.range n := fun q => List.mem_range.symm
  refine ⟨fun i σ H' => ∃ y lf fd, σ = [some (.ref p), some (.int (n : Nat)), some (.int (m : Nat)), some (.ref r), some (.ref a), y] ∧ Same Hb H' ∧ Dice K H' p (c + i) L ∧ H' r = some (.lst (vN lf)) ∧ H' a = some (.lst (vN fd)) ∧ fd.length = i ∧ lf.length + i = n ∧ ∀ q, q < n ↔ q ∈ lf ∨ q ∈ fd,
    ⟨none, List.range n, [], rfl, sb1, D0.same s1, s1 _ _ hra, s1 _ _ haa, rfl, List.length_range, fun q => by rw [memR q]; simp⟩, fun i σ H' ⟨_, _, _, _, h, _⟩ => h, ?_, ?_⟩
  · rintro i d x σ H2 H3 hi ⟨y, lf, fd, rfl, b2, D2, hr2, ha2, fl, ll, hm⟩ s3 hx
    obtain ⟨hin, rfl⟩ := rangeD_get hi
    obtain rfl : x = .int (0 + (i : Int)) := hx
    have b3 : Same Hb H3 := b2.trans s3
    have D3 := D2.same s3
    have hr3 := s3 _ _ hr2
    have ha3 := s3 _ _ ha2
    have dl : Dat K (hide H3 p) (.lst (natsD lf)) (.ref r) := ⟨r, _, rfl, SqL.of (by show (if r = p then none else H3 r) = _; rw [if_neg rp]; exact hr3), dats_nat _⟩
    refine ⟨_, rfl, .inl ⟨rfl, _, SqL.of ha3⟩, _, rfl, .inl ⟨rfl, _, SqL.of hr3⟩, ?_⟩
    refine ex_draw (m := lf.length) hide_none rfl ((ed_lenL (ed_var rfl dl)).to (by unfold natsD; rw [List.length_map])) (by omega) (by omega) H3 (c + i) L hide_same D3 (by omega) _ fun v H4 d s4 D4 ⟨j, hj, ed⟩ hv => ?_
    subst ed
    obtain rfl : v = .int (j : Nat) := hv
    have b4 : Same Hb H4 := off_base hbp b3 s4
    have hr4 : H4 r = some (.lst (vN lf)) := s4 _ _ (by show (if r = p then none else H3 r) = _; rw [if_neg rp]; exact hr3)
    have ha4 : H4 a = some (.lst (vN fd)) := s4 _ _ (by show (if a = p then none else H3 a) = _; rw [if_neg ap]; exact ha3)
    have hg := List.getElem?_eq_getElem hj
    generalize lf[j] = z at hg
    refine ⟨r, vN lf, j, j, .int (z : Nat), rfl, rfl, hr4, by omega, by omega, ?_, by rw [List.getElem?_map, hg]; rfl, ?_⟩
    · rw [seqIndex_of (by omega) (by rw [List.length_map]; omega)]
      rfl
    · rw [map_eraseIdx]
      have s5 : Same (hide H p) (upd H4 r (.lst (vN (lf.eraseIdx j)))) := fun b o e => by
        rw [upd_ne (ne_of_none e br)]
        exact b4 _ _ (sb _ _ e)
      have s6 : Same (hide H p) (upd (upd H4 r (.lst (vN (lf.eraseIdx j)))) a (.lst (vN (fd ++ [z])))) := fun b o e => by
        rw [upd_ne (ne_of_none e ba)]
        exact s5 _ _ e
      refine ⟨a, vN fd, .int (z : Nat), rfl, rfl, by rw [upd_ne ar]; exact ha4, small1M (by rw [List.length_map]; omega), some (.int (0 + (i : Int))), lf.eraseIdx j, fd ++ [z], rfl, fun b o e => ?_, ?_, ?_, ?_, ?_, ?_, fun q => ?_⟩
      · rw [upd_ne (ne_of_none e hba), upd_ne (ne_of_none e hbr)]
        exact b4 _ _ e
      · have e1 : vN fd ++ [V.int (z : Nat)] = vN (fd ++ [z]) := by unfold vN; rw [List.map_append]; rfl
        show Dice K (upd _ a (.lst (vN fd ++ [V.int (z : Nat)]))) p (c + (i + 1)) L
        rw [e1]
        exact hD.put (hD.put D4 rp s5) ap s6
      · rw [upd_ne (Ne.symm ar), upd_same]
      · rw [upd_same]
        show some (HO.lst (vN fd ++ [V.int (z : Nat)])) = _
        unfold vN; rw [List.map_append]; rfl
      · rw [List.length_append, fl]; rfl
      · rw [List.length_eraseIdx, if_pos hj]; omega
      · rw [hm q, mem_erase hg, List.mem_append, List.mem_singleton]
        constructor
        · rintro ((h | h) | h)
          · exact .inr (.inr h)
          · exact .inl h
          · exact .inr (.inl h)
        · rintro (h | h | h)
          · exact .inl (.inr h)
          · exact .inr h
          · exact .inl (.inl h)
  · rintro σ H2 ⟨y, lf, fd, rfl, b2, D2, hr2, ha2, fl, ll, hm⟩
    rw [rangeD_len] at D2 fl ll
    have lf0 : lf = [] := List.length_eq_zero_iff.mp (by omega)
    subst lf0
    have s2 : Same (hide H p) H2 := sb.trans b2
    refine q_forRX (B := hide H p) hide_none (ex_draw (m := m + 1) hide_none rfl ((ed_add (ed_var (d := .int (m : Nat)) rfl rfl) ed_int).to (d := _) (e' := .int ((m + 1 : Nat) : Int)) rfl) (by omega) (by omega)) (fun d ⟨i, hi, e⟩ => ⟨i, e, by omega⟩) s2 D2 (by omega) fun M H3 ⟨M', hM, eM⟩ s3 D3 => ?_
    cases eM
    have ha3 : H3 a = some (.lst (vN fd)) := s3 _ _ (by show (if a = p then none else H2 a) = _; rw [if_neg ap]; exact ha2)
    refine ⟨fun i σ H' => ∃ y fd, σ = [some (.ref p), some (.int (n : Nat)), some (.int (m : Nat)), some (.ref r), some (.ref a), y] ∧ Same (hide H p) H' ∧ Dice K H' p (c + n + 1 + i * 2) L ∧ H' a = some (.lst (vN fd)) ∧ fd.length = n + i ∧ ∀ q, q < n ↔ q ∈ fd,
      ⟨y, fd, rfl, off_base hide_none s2 s3, D3, ha3, by omega, fun q => by rw [hm q]; simp⟩, fun i σ H' ⟨_, _, _, h, _⟩ => h, ?_, ?_⟩
    · rintro i d x σ H4 H5 hi ⟨y, fd, rfl, b4, D4, ha4, fl, hm⟩ s5 hx
      obtain ⟨hin, rfl⟩ := rangeD_get hi
      obtain rfl : x = .int (0 + (i : Int)) := hx
      have b5 : Same (hide H p) H5 := b4.trans s5
      have D5 := D4.same s5
      have ha5 := s5 _ _ ha4
      have dl : Dat K (hide H5 p) (.lst (natsD fd)) (.ref a) := ⟨a, _, rfl, SqL.of (by show (if a = p then none else H5 a) = _; rw [if_neg ap]; exact ha5), dats_nat _⟩
      refine ⟨_, rfl, .inl ⟨rfl, _, SqL.of ha5⟩, ?_⟩
      refine xa_cons hide_none (ex_draw (m := fd.length + 1) hide_none rfl ((ed_add (ed_lenL (ed_var rfl dl)) ed_int).to (d := _) (e' := .int ((fd.length + 1 : Nat) : Int)) (by unfold natsD; rw [List.length_map]; rfl)) (by omega) (by omega)) (xa_cons hide_none (ex_draw (m := n) hide_none rfl (ed_var rfl rfl) hn (by omega)) xa_nil) H5 _ L hide_same D5 (by omega) _ fun vs H6 ds s6 D6 ⟨d1, r1, e1, ⟨j, hj, e2⟩, d2, r2, e3, ⟨z, hz, e4⟩, e5⟩ hvs => ?_
      subst e5 e4 e3 e2 e1
      obtain ⟨v1, v2, rfl, hv1, hv2⟩ := dats2 hvs
      obtain rfl : v1 = .int (j : Nat) := hv1
      obtain rfl : v2 = .int (z : Nat) := hv2
      have ha6 : H6 a = some (.lst (vN fd)) := s6 _ _ (by show (if a = p then none else H5 a) = _; rw [if_neg ap]; exact ha5)
      have e6 : (vN fd).take j ++ [V.int (z : Nat)] ++ (vN fd).drop j = vN (fd.take j ++ [z] ++ fd.drop j) := by
        unfold vN
        rw [List.map_append, List.map_append, List.map_take, List.map_drop]; rfl
      have s7 : Same (hide H p) (upd H6 a (.lst (vN (fd.take j ++ [z] ++ fd.drop j)))) := fun b o e => by
        rw [upd_ne (ne_of_none e ba)]
        exact off_base hide_none b5 s6 _ _ e
      refine ⟨a, vN fd, j, .int (z : Nat), rfl, rfl, ha6, small1M (by rw [List.length_map]; omega), by omega, by omega, some (.int (0 + (i : Int))), fd.take j ++ [z] ++ fd.drop j, rfl, ?_, ?_, ?_, ?_, fun q => ?_⟩
      · rw [show (j : Int).toNat = j by omega, e6]
        exact s7
      · rw [show (j : Int).toNat = j by omega, e6]
        have := hD.put D6 ap s7
        refine this.le ?_
        rw [Nat.succ_mul]; omega
      · rw [show (j : Int).toNat = j by omega, e6, upd_same]
      · rw [List.length_append, List.length_append, List.length_take, List.length_drop, List.length_singleton]; omega
      · rw [hm q, List.mem_append, List.mem_append, List.mem_singleton]
        constructor
        · intro h
          rw [← List.take_append_drop j fd, List.mem_append] at h
          exact h.elim (fun h => .inl (.inl h)) .inr
        · rintro ((h | h) | h)
          · exact List.mem_of_mem_take h
          · rw [h]; exact (hm z).mp hz
          · exact List.mem_of_mem_drop h
    · rintro σ H4 ⟨y, fd, rfl, b4, D4, ha4, fl, hm⟩
      rw [rangeD_len] at D4 fl
      have dl : Dat K H4 (.lst (natsD fd)) (.ref a) := ⟨a, _, rfl, SqL.of ha4, dats_nat _⟩
      exact q_retD (K := K) (d := .tup (natsD fd)) (ed_tupOf (ed_var rfl dl)) (Same.refl _) fun rr H5 s5 h5 => q rr H5 _ (b4.trans s5) ((D4.same s5).le (by omega)) ⟨fd, rfl, fun q hq => (hm q).mpr hq, fun q hq => (hm q).mp hq, by omega⟩ (Dat.hideN (D4.same s5) (nls_map fun _ => rfl) h5)
end
end Cb
set_option Elab.async false
set_option linter.all false
set_option maxRecDepth 100000
set_option maxHeartbeats 1000000
/-! walks: what a rule checks -/
namespace Cb
open PySem PySem.Spec PyProof.Rows L2
theorem dats_strs {K : PySem.W.Frag} {H : Hp} : ∀ {ns : List Str} {xs : List V}, Dats K H (ns.map D.str) xs → xs = ns.map V.str
  | [], _, e => e
  | n :: r, _, ⟨x, xr, e, h1, h2⟩ => by
    rw [e, dats_strs h2, show x = .str n from h1]; rfl
section
variable {K : PySem.W.Frag} {σ : L2.St} {H : Hp} {te ta tb' : TE} {d : D}
theorem ed_inS {i : Str} {ns : List Str} (ha : EvD K ta σ H (.str i)) (hb : EvD K tb' σ H (.tup (ns.map D.str))) : EvD K (tOp (rIn K false) ta tb') σ H (.bl (inV (.str i) (ns.map V.str))) :=
  ed_op ha hb fun x y H1 s hx ⟨a, xs, e, sq, hy⟩ Q q => by
    have e2 := dats_strs hy
    subst e2
    rw [show x = .str i from hx]
    refine ⟨a, _, e, .inr sq, rfl, ?_, q _ _ (Same.refl _) rfl⟩
    rw [List.all_eq_true]
    intro v hv
    obtain ⟨n, _, rfl⟩ := List.mem_map.mp hv
    rfl
end
section
variable {P : Program} {w : World} {K : PySem.W.Frag} {mg : Str → Option Value} {base : Heap}
abbrev spParts8 (K : PySem.W.Frag) : Sp := spP K 1 fun ds post => ∃ es : List D, es ≠ [] ∧ es.length ≤ 8 ∧ ds = [.tup es] ∧ post = fun d => d = .bl true
theorem ok_are_parts (W : Wd P K mg base) (F : Df K mg "are_parts" s_are_parts) : C8.Cal P w K mg base 33 "are_parts" (spParts8 K) [] := by
  obtain ⟨tk, mA⟩ := W.mostA
  refine cal_of F sc_are_parts (fun _ _ _ _ _ _ us hl => match us, hl with | [_], _ => rfl) rfl fun f cdv A outer s H vs Q E ds post hr hp hd q => ?_
  obtain ⟨es, h0, h8, rfl, rfl⟩ := hp
  obtain ⟨u, rfl, hu⟩ := dats1 hd
  refine ⟨_, (pss_one (ps_ret (pe_and (pe_callB call_isi (by rfl) W.isi b_isinstance (pa_cons (pv 0) (pa_cons (pe_bltn (v := .ty "tuple") (by rfl) W.tuple b_tuple rfl) pa_nil))) (pe_one (pe_chain op_le op_le pe_int (pe_callB call_len_seq (by rfl) W.len b_len (pa_cons (pv 0) pa_nil)) (pe_glob (v := .int 8) (by rfl) mA ⟨_, rfl⟩)))))), ?_⟩
  have hp := List.length_pos_iff.mpr h0
  refine q_retD (d := .bl true) ((ed_andV (ed_isi (ed_var rfl hu) k_tt) fun _ => ed_leLe ed_int (ed_lenT (ed_var rfl hu)) (ed_c (d := .int 8) rfl)).to ?_) (Same.refl _) fun r H1 s1 h1 => q r H1 _ s1 rfl h1
  rw [decide_eq_true (show (1 : Int) ≤ es.length by omega), decide_eq_true (show (es.length : Int) ≤ 8 by omega)]
  rfl
abbrev spWeighted (K : PySem.W.Frag) : Sp := spP K 1 fun ds post => ∃ (k : Nat) (e : D), 1 ≤ k ∧ k ≤ 99 ∧ ds = [.tup [.int (k : Nat), e]] ∧ post = fun d => d = .bl true
theorem ok_is_weighted (W : Wd P K mg base) (F : Df K mg "is_weighted" s_is_weighted) (G_is_within : C8.Cal P w K mg base 36 "is_within" (spWithin K) []) : C8.Cal P w K mg base 37 "is_weighted" (spWeighted K) [] := by
  obtain ⟨tk, mW⟩ := W.mostW
  refine cal_of F sc_is_weighted (fun _ _ _ _ _ _ us hl => match us, hl with | [_], _ => rfl) rfl fun f cdv A outer s H vs Q E ds post hr hp hd q => ?_
  obtain ⟨k, e, h1, h9, rfl, rfl⟩ := hp
  obtain ⟨u, rfl, hu⟩ := dats1 hd
  refine ⟨_, (pss_one (ps_ret (pe_and (pe_callB call_isi (by rfl) W.isi b_isinstance (pa_cons (pv 0) (pa_cons (pe_bltn (v := .ty "tuple") (by rfl) W.tuple b_tuple rfl) pa_nil))) (pe_and (pe_cmpR op_eq (pe_callB call_len_seq (by rfl) W.len b_len (pa_cons (pv 0) pa_nil)) pe_int (nomark _)) (pe_one (C8.pe_c G_is_within hr (by omega) (by rfl) (pa_cons (pe_ix ix_tup (pv 0) pe_int (fun _ _ => rfl)) (pa_cons pe_int (pa_cons (pe_glob (v := .int 99) (by rfl) mW ⟨_, rfl⟩) pa_nil))))))))), ?_⟩
  refine q_retD (d := .bl true) ((ed_andV (ed_isi (ed_var rfl hu) k_tt) fun _ => ed_andV (ed_eqI (ed_lenT (ed_var rfl hu)) ed_int) fun _ => ed_call (ea_cons (ed_ixT (d := .int (k : Nat)) (i := 0) (ed_var rfl hu) ed_int rfl) (ea_cons ed_int (ea_cons (ed_c (d := .int 99) rfl) ea_nil))) ⟨k, 1, 99, rfl, rfl⟩ rfl).to ?_) (Same.refl _) fun r H1 s1 h1 => q r H1 _ s1 rfl h1
  rw [decide_eq_true (show (1 : Int) ≤ k by omega), decide_eq_true (show (k : Int) ≤ 99 by omega)]
  rfl
abbrev spBound (K : PySem.W.Frag) : Sp := spP K 1 fun ds post => ∃ (lo hi : Rat) (e : D) (Dn n : Nat), Nm Dn lo ∧ Nm Dn hi ∧ lo ≤ hi ∧ 0 < Dn ∧ Dn < 2 ^ n ∧ n ≤ LIM ∧ ds = [.tup [.str "between", fr lo, fr hi, e]] ∧ post = fun d => d = .bl true
theorem ok_is_bound (W : Wd P K mg base) (F : Df K mg "is_bound" s_is_bound) (G_is_number : C8.Cal P w K mg base 37 "is_number" (spIsNum K) []) (G_is_less : C8.Cal P w K mg base 35 "is_less" (spLess K) []) : C8.Cal P w K mg base 38 "is_bound" (spBound K) [] := by
  refine cal_of F sc_is_bound (fun _ _ _ _ _ _ us hl => match us, hl with | [_], _ => rfl) rfl fun f cdv A outer s H vs Q E ds post hr hp hd q => ?_
  obtain ⟨lo, hi, e, Dn, n, h1, h2, hle, hD, hDn, hn, rfl, rfl⟩ := hp
  obtain ⟨u, rfl, hu⟩ := dats1 hd
  refine ⟨_, (pss_cons (ps_if (PW.pt (pw_or (pt_cmpR op_ne (pe_callB call_len_seq (by rfl) W.len b_len (pa_cons (pv 0) pa_nil)) pe_int (nomark _)) (pw_or (pt_not (pt_val (C8.pe_c G_is_number hr (by omega) (by rfl) (pa_cons (pe_ix ix_tup (pv 0) pe_int (fun _ _ => rfl)) pa_nil)))) (pw_or1 (pt_not (pt_val (C8.pe_c G_is_number hr (by omega) (by rfl) (pa_cons (pe_ix ix_tup (pv 0) pe_int (fun _ _ => rfl)) pa_nil)))))))) (pss_one (ps_ret pe_bl)) pss_nil)
    (pss_one (ps_ret (pe_not (C8.pe_c G_is_less hr (by omega) (by rfl) (pa_cons (pe_ix ix_tup (pv 0) pe_int (fun _ _ => rfl)) (pa_cons (pe_ix ix_tup (pv 0) pe_int (fun _ _ => rfl)) pa_nil))))))), ?_⟩
  refine q_if (b := false) (et_or (b := false) (et_test (ed_neI (ed_lenT (ed_var rfl hu)) ed_int)) fun _ => et_or (b := false) (c := false) (et_not (b := true) (et_val (ed_call (ea_cons (ed_ixT (d := fr lo) (i := 1) (ed_var rfl hu) ed_int rfl) ea_nil) ⟨lo, h1.1, h1.2.1, rfl, rfl⟩ rfl))) fun _ => et_not (b := true) (et_val (ed_call (ea_cons (ed_ixT (d := fr hi) (i := 2) (ed_var rfl hu) ed_int rfl) ea_nil) ⟨hi, h2.1, h2.2.1, rfl, rfl⟩ rfl))) (Same.refl _) (fun e => nomatch e) fun _ H1 s1 => ?_
  refine q_retD (K := K) (d := .bl true) ((ed_notV (ed_call (ea_cons (ed_ixT (d := fr hi) (i := 2) (ed_var rfl (Dat.same s1 hu)) ed_int rfl) (ea_cons (ed_ixT (d := fr lo) (i := 1) (ed_var rfl (Dat.same s1 hu)) ed_int rfl) ea_nil)) ⟨hi, lo, n, h2.sz hD hDn, h1.sz hD hDn, hn, rfl, rfl⟩ rfl)).to ?_) (Same.refl _) fun r H2 s2 h2 => q r H2 _ (s1.trans s2) rfl h2
  rw [decide_eq_false (by grind)]
  rfl
abbrev spPartsT (K : PySem.W.Frag) : Sp := spP K 1 fun ds post => ∃ (n Dn d m : Nat) (o : Op) (ts : List Term), Wf n Dn d (.node o ts) ∧ 0 < Dn ∧ Dn < 2 ^ m ∧ m ≤ LIM ∧ ds = [tD (.node o ts)] ∧ post = fun e => e = .lst (tDs ts)
theorem vv_ixTi {K : PySem.W.Frag} {σ : L2.St} {H : Hp} {ta : TE} {u : V} {ds : List D} {d : D} {i : Int} (h : EvV ta σ H u) (hd : Dat K H (.tup ds) u) (hi : atI ds i = some d) : ∃ z, Dat K H d z ∧ EvV (tOp (rIxT K) ta (tC (.int i))) σ H z := by
  obtain ⟨a, xs, rfl, sq, hx⟩ := hd
  obtain ⟨z, hz, hzd⟩ := hx.atI hi
  exact ⟨z, hzd, fun H0 s Q q => h H0 s _ ⟨a, xs, i, z, rfl, rfl, sqT_same s sq, hz, q⟩⟩
theorem ok_parts_told (W : Wd P K mg base) (F : Df K mg "parts_told" s_parts_told) (G_are_parts : C8.Cal P w K mg base 33 "are_parts" (spParts8 K) []) (G_is_weighted : C8.Cal P w K mg base 37 "is_weighted" (spWeighted K) []) (G_is_within : C8.Cal P w K mg base 36 "is_within" (spWithin K) []) (G_is_bound : C8.Cal P w K mg base 38 "is_bound" (spBound K) []) : C8.Cal P w K mg base 39 "parts_told" (spPartsT K) [] := by
  refine cal_of F sc_parts_told (fun _ _ _ _ _ _ us hl => match us, hl with | [_], _ => rfl) rfl fun f cdv A outer s H vs Q E ds post hr hp hd q => ?_
  obtain ⟨n, Dn, dp, m, o, ts, hw, hD, hDm, hm, rfl, rfl⟩ := hp
  obtain ⟨u, rfl, hu⟩ := dats1 hd
  refine ⟨_, (pss_cons (ps_set (i := 1) sc_parts_told.nd rfl (by first | exact Or.inl rfl | exact Or.inr rfl) (pe_ix ix_tup (pv 0) pe_int (fun _ _ => rfl)))
    (pss_cons (ps_if (PW.pt (pw_and (pt_cmpR op_eq (pv 1) pe_str (nomark _)) (pw_and (pt_cmpR op_eq (pe_callB call_len_seq (by rfl) W.len b_len (pa_cons (pv 0) pa_nil)) pe_int (nomark _)) (pw_and1 (pt_val (C8.pe_c G_are_parts hr (by omega) (by rfl) (pa_cons (pe_ix ix_tup (pv 0) pe_int (fun _ _ => rfl)) pa_nil))))))) (pss_one (ps_ret (pe_ifExp (pt_val (pe_callB (cr_all rfl) (by rfl) W.all b_all (pa_cons (pe_lc (own := [("part", 2)]) (g := gName 2) (tt := tYes) rfl sc_parts_told.nd (pi_tup (pe_ix ix_tup (pv 0) pe_int (fun _ _ => rfl))) (blkOk_by (N := n_parts_told) (sc := defScope s_parts_told) (by decide +kernel)) (fun _ _ _ _ _ => (pg_name (i := 2) sc_parts_told.nd rfl (by first | exact Or.inl rfl | exact Or.inr rfl))) (fun _ _ _ _ _ => pts_nil) (fun _ _ _ _ _ => (C8.pe_c G_is_weighted hr (by omega) (by rfl) (pa_cons (pv 2) pa_nil)))) pa_nil))) (pe_lc (own := [("part", 2)]) (g := gName 2) (tt := tYes) rfl sc_parts_told.nd (pi_tup (pe_ix ix_tup (pv 0) pe_int (fun _ _ => rfl))) (blkOk_by (N := n_parts_told) (sc := defScope s_parts_told) (by decide +kernel)) (fun _ _ _ _ _ => (pg_name (i := 2) sc_parts_told.nd rfl (by first | exact Or.inl rfl | exact Or.inr rfl))) (fun _ _ _ _ _ => pts_nil) (fun _ _ _ _ _ => (pe_ix (ixT_K rfl) (pv 2) pe_int (fun _ _ => rfl)))) pe_non))) pss_nil)
    (pss_cons (ps_if (PW.pt (pw_and (pt_cmpR op_in_seq (pv 1) (pe_tup (pa_cons pe_str (pa_cons pe_str pa_nil))) (by rfl)) (pw_and (pt_cmpR op_eq (pe_callB call_len_seq (by rfl) W.len b_len (pa_cons (pv 0) pa_nil)) pe_int (nomark _)) (pw_and1 (pt_val (C8.pe_c G_are_parts hr (by omega) (by rfl) (pa_cons (pe_ix ix_tup (pv 0) pe_int (fun _ _ => rfl)) pa_nil))))))) (pss_one (ps_ret (pe_callTy call_list_of (by rfl) W.list b_list (pa_cons (pe_ix ix_tup (pv 0) pe_int (fun _ _ => rfl)) pa_nil)))) pss_nil)
    (pss_cons (ps_if (PW.pt (pw_and (pt_cmpR op_eq (pv 1) pe_str (nomark _)) (pw_and (pt_cmpR op_eq (pe_callB call_len_seq (by rfl) W.len b_len (pa_cons (pv 0) pa_nil)) pe_int (nomark _)) (pw_and1 (pt_val (C8.pe_c G_are_parts hr (by omega) (by rfl) (pa_cons (pe_ix ix_tup (pv 0) pe_int (fun _ _ => rfl)) pa_nil))))))) (pss_one (ps_ret (pe_ifExp (pt_val (C8.pe_c G_is_within hr (by omega) (by rfl) (pa_cons (pe_ix ix_tup (pv 0) pe_int (fun _ _ => rfl)) (pa_cons pe_int (pa_cons (pe_callB call_len_seq (by rfl) W.len b_len (pa_cons (pe_ix ix_tup (pv 0) pe_int (fun _ _ => rfl)) pa_nil)) pa_nil))))) (pe_callTy call_list_of (by rfl) W.list b_list (pa_cons (pe_ix ix_tup (pv 0) pe_int (fun _ _ => rfl)) pa_nil)) pe_non))) pss_nil)
    (pss_cons (ps_if (PW.pt (pw_and (pt_cmpR op_eq (pv 1) pe_str (nomark _)) (pw_and1 (pt_val (C8.pe_c G_is_bound hr (by omega) (by rfl) (pa_cons (pv 0) pa_nil)))))) (pss_one (ps_ret (pe_lst (pa_cons (pe_ix ix_tup (pv 0) pe_int (fun _ _ => rfl)) pa_nil)))) pss_nil)
    (pss_one (ps_ret pe_non))))))), ?_⟩
  cases dp with
  | zero => exact hw.elim
  | succ dp =>
  obtain ⟨h0, h8, ho, hts⟩ := hw
  have tl : (tDs ts).length = ts.length := by rw [tDs_map, List.length_map]
  have t0 : tDs ts ≠ [] := fun z => h0 (List.length_eq_zero_iff.mp (by rw [← tl, z]; rfl))
  have nlt : nls (tDs ts) = true := by
    rw [tDs_map]
    exact nls_all fun x hx => by
      obtain ⟨t, ht, rfl⟩ := List.mem_map.mp hx
      exact nl_tD (hts t ht)
  have e0 : tDs ts = ts.map tD := tDs_map ts
  have h2 := (show 2 ≤ 8 by decide)
  cases o with
  | mean ws =>
    have hu : Dat K H (.tup [.str "mean", .tup (mpD ws (tDs ts))]) u := hu
    have wl : ws.length = (tDs ts).length := by rw [tl]; exact ho.1
    have ml : (mpD ws (tDs ts)).length = ts.length := by rw [e0]; exact mpD_len ho.1
    refine q_setD (K := K) (d := .str "mean") (ed_ixT (i := 0) (ed_var rfl hu) ed_int rfl) (Same.refl _) fun x H1 s1 hx => ?_
    obtain rfl : x = .str "mean" := hx
    have hu1 := Dat.same s1 hu
    refine q_if (b := true) (et_and (b := true) (c := true) (et_word (K := K) rfl (by decide +kernel)) fun _ => et_and (b := true) (c := true) (et_test (ed_eqI (ed_lenT (ed_var rfl hu1)) ed_int)) fun _ => et_val (ed_call (ea_cons (ed_ixT (d := .tup (mpD ws (tDs ts))) (i := 1) (ed_var rfl hu1) ed_int rfl) ea_nil) ⟨_, fun z => h0 (List.length_eq_zero_iff.mp (by rw [← ml, z]; rfl)), by rw [ml]; exact h8, rfl, rfl⟩ rfl)) (Same.refl _) (fun _ H2 s2 => ?_) fun e => nomatch e
    have hu2 := Dat.same s2 hu1
    obtain ⟨z, hz, hzv⟩ := vv_ixTi (ta := tVar 0) (σ := [some u, some (.str "mean"), none]) (i := 1) (d := .tup (mpD ws (tDs ts))) (vv_var rfl) hu2 rfl
    refine q_retD (K := K) (d := .lst (tDs ts)) (ed_ifE (b := true) (et_val ((ed_all (bs := (mpD ws (tDs ts)).map fun _ => true) (ed_lc (p := fun _ => true) (F := fun _ => .bl true) (ei_tup hzv hz) (fun _ => rfl) (fun _ _ => rfl) (by rw [ml]; omega) (fun d x H3 hd s3 hx => ⟨et_yes, fun _ => ?w⟩) (by rw [filt_true, List.map_map]; rfl))).to (by rw [all_true])))
      (fun _ => ed_lc (p := fun _ => true) (F := sndD) (ei_tup hzv hz) (fun _ => rfl) (fun d hd => ?nn) (by rw [ml]; omega) (fun d x H3 hd s3 hx => ⟨et_yes, fun _ => ?e⟩) (by rw [filt_true]; have := mpD_snd (F := id) wl; rw [List.map_id] at this; exact this.symm)) (fun e => nomatch e)) (Same.refl _) fun r H3 s3 h3 => q r H3 _ ((s1.trans s2).trans s3) rfl h3
    case w =>
      rw [e0] at hd
      obtain ⟨w', t, h1, _, rfl⟩ := mpD_mem hd
      exact ed_call (ea_cons (ed_var rfl hx) ea_nil) ⟨w', tD t, (ho.2 _ h1).1, (ho.2 _ h1).2, rfl, rfl⟩ rfl
    case nn =>
      rw [e0] at hd
      obtain ⟨w', t, h1, h2, rfl⟩ := mpD_mem hd
      exact nl_tD (hts t h2)
    case e =>
      rw [e0] at hd
      obtain ⟨w', t, h1, _, rfl⟩ := mpD_mem hd
      exact ed_ixT (i := 1) (ed_var rfl hx) ed_int rfl
  | least =>
    have hu : Dat K H (.tup [.str "least", .tup (tDs ts)]) u := hu
    refine q_setD (K := K) (d := .str "least") (ed_ixT (i := 0) (ed_var rfl hu) ed_int rfl) (Same.refl _) fun x H1 s1 hx => ?_
    obtain rfl : x = .str "least" := hx
    refine q_if (b := false) (et_and (b := false) (c := false) (et_word (K := K) rfl (by decide +kernel)) fun e => nomatch e) (Same.refl _) (fun e => nomatch e) fun _ H2 s2 => ?_
    have hu2 := Dat.same (s1.trans s2) hu
    refine q_if (b := true) (et_and (b := true) (c := true) (et_test (K := K) ((ed_inS (i := "least") (ns := ["least", "greatest"]) (ed_var rfl rfl) (ed_tup (ea_cons ed_str (ea_cons ed_str ea_nil)))).to (congrArg D.bl (by decide +kernel)))) fun _ => et_and (b := true) (c := true) (et_test (ed_eqI (ed_lenT (ed_var rfl hu2)) ed_int)) fun _ => et_val (ed_call (ea_cons (ed_ixT (d := .tup (tDs ts)) (i := 1) (ed_var rfl hu2) ed_int rfl) ea_nil) ⟨_, t0, by rw [tl]; exact h8, rfl, rfl⟩ rfl)) (Same.refl _) (fun _ H3 s3 => ?_) fun e => nomatch e
    exact q_retD (K := K) (d := .lst (tDs ts)) (ed_listOf (ed_ixT (i := 1) (ed_var rfl (Dat.same s3 hu2)) ed_int rfl)) (Same.refl _) fun r H4 s4 h4 => q r H4 _ (((s1.trans s2).trans s3).trans s4) rfl h4
  | greatest =>
    have hu : Dat K H (.tup [.str "greatest", .tup (tDs ts)]) u := hu
    refine q_setD (K := K) (d := .str "greatest") (ed_ixT (i := 0) (ed_var rfl hu) ed_int rfl) (Same.refl _) fun x H1 s1 hx => ?_
    obtain rfl : x = .str "greatest" := hx
    refine q_if (b := false) (et_and (b := false) (c := false) (et_word (K := K) rfl (by decide +kernel)) fun e => nomatch e) (Same.refl _) (fun e => nomatch e) fun _ H2 s2 => ?_
    have hu2 := Dat.same (s1.trans s2) hu
    refine q_if (b := true) (et_and (b := true) (c := true) (et_test (K := K) ((ed_inS (i := "greatest") (ns := ["least", "greatest"]) (ed_var rfl rfl) (ed_tup (ea_cons ed_str (ea_cons ed_str ea_nil)))).to (congrArg D.bl (by decide +kernel)))) fun _ => et_and (b := true) (c := true) (et_test (ed_eqI (ed_lenT (ed_var rfl hu2)) ed_int)) fun _ => et_val (ed_call (ea_cons (ed_ixT (d := .tup (tDs ts)) (i := 1) (ed_var rfl hu2) ed_int rfl) ea_nil) ⟨_, t0, by rw [tl]; exact h8, rfl, rfl⟩ rfl)) (Same.refl _) (fun _ H3 s3 => ?_) fun e => nomatch e
    exact q_retD (K := K) (d := .lst (tDs ts)) (ed_listOf (ed_ixT (i := 1) (ed_var rfl (Dat.same s3 hu2)) ed_int rfl)) (Same.refl _) fun r H4 s4 h4 => q r H4 _ (((s1.trans s2).trans s3).trans s4) rfl h4
  | ranked k =>
    have hu : Dat K H (.tup [.str "ranked", .int (k : Nat), .tup (tDs ts)]) u := hu
    refine q_setD (K := K) (d := .str "ranked") (ed_ixT (i := 0) (ed_var rfl hu) ed_int rfl) (Same.refl _) fun x H1 s1 hx => ?_
    obtain rfl : x = .str "ranked" := hx
    refine q_if (b := false) (et_and (b := false) (c := false) (et_word (K := K) rfl (by decide +kernel)) fun e => nomatch e) (Same.refl _) (fun e => nomatch e) fun _ H2 s2 => ?_
    refine q_if (b := false) (et_and (b := false) (c := false) (et_test (K := K) ((ed_inS (i := "ranked") (ns := ["least", "greatest"]) (ed_var rfl rfl) (ed_tup (ea_cons ed_str (ea_cons ed_str ea_nil)))).to (congrArg D.bl (by decide +kernel)))) fun e => nomatch e) (Same.refl _) (fun e => nomatch e) fun _ H3 s3 => ?_
    have hu3 := Dat.same ((s1.trans s2).trans s3) hu
    refine q_if (b := true) (et_and (b := true) (c := true) (et_word (K := K) rfl (by decide +kernel)) fun _ => et_and (b := true) (c := true) (et_test (ed_eqI (ed_lenT (ed_var rfl hu3)) ed_int)) fun _ => et_val (ed_call (ea_cons (ed_ixT (d := .tup (tDs ts)) (i := 2) (ed_var rfl hu3) ed_int rfl) ea_nil) ⟨_, t0, by rw [tl]; exact h8, rfl, rfl⟩ rfl)) (Same.refl _) (fun _ H4 s4 => ?_) fun e => nomatch e
    have hu4 := Dat.same s4 hu3
    have hk : 1 ≤ k ∧ k ≤ ts.length := ho
    refine q_retD (K := K) (d := .lst (tDs ts)) (ed_ifE (b := true) (et_val ((ed_call (ea_cons (ed_ixT (d := .int (k : Nat)) (i := 1) (ed_var rfl hu4) ed_int rfl) (ea_cons ed_int (ea_cons (ed_lenT (ed_ixT (d := .tup (tDs ts)) (i := 2) (ed_var rfl hu4) ed_int rfl)) ea_nil))) ⟨k, 1, (tDs ts).length, rfl, rfl⟩ rfl).to (by rw [decide_eq_true (show (1 : Int) ≤ k by omega), decide_eq_true (show (k : Int) ≤ (tDs ts).length by rw [tl]; omega)]; rfl))) (fun _ => ed_listOf (ed_ixT (i := 2) (ed_var rfl hu4) ed_int rfl)) (fun e => nomatch e)) (Same.refl _) fun r H5 s5 h5 => q r H5 _ ((((s1.trans s2).trans s3).trans s4).trans s5) rfl h5
  | between lo hi =>
    obtain ⟨t1, rfl⟩ : ∃ t1, ts = [t1] := List.length_eq_one_iff.mp ho.1
    have hu : Dat K H (.tup [.str "between", fr lo, fr hi, tD t1]) u := hu
    refine q_setD (K := K) (d := .str "between") (ed_ixT (i := 0) (ed_var rfl hu) ed_int rfl) (Same.refl _) fun x H1 s1 hx => ?_
    obtain rfl : x = .str "between" := hx
    refine q_if (b := false) (et_and (b := false) (c := false) (et_word (K := K) rfl (by decide +kernel)) fun e => nomatch e) (Same.refl _) (fun e => nomatch e) fun _ H2 s2 => ?_
    refine q_if (b := false) (et_and (b := false) (c := false) (et_test (K := K) ((ed_inS (i := "between") (ns := ["least", "greatest"]) (ed_var rfl rfl) (ed_tup (ea_cons ed_str (ea_cons ed_str ea_nil)))).to (congrArg D.bl (by decide +kernel)))) fun e => nomatch e) (Same.refl _) (fun e => nomatch e) fun _ H3 s3 => ?_
    refine q_if (b := false) (et_and (b := false) (c := false) (et_word (K := K) rfl (by decide +kernel)) fun e => nomatch e) (Same.refl _) (fun e => nomatch e) fun _ H4 s4 => ?_
    have hu4 := Dat.same (((s1.trans s2).trans s3).trans s4) hu
    refine q_if (b := true) (et_and (b := true) (c := true) (et_word (K := K) rfl (by decide +kernel)) fun _ => et_val (ed_call (ea_cons (ed_var rfl hu4) ea_nil) ⟨lo, hi, tD t1, Dn, m, ho.2.1, ho.2.2.1, ho.2.2.2, hD, hDm, hm, rfl, rfl⟩ rfl)) (Same.refl _) (fun _ H5 s5 => ?_) fun e => nomatch e
    exact q_retD (K := K) (d := .lst [tD t1]) (ed_lst (ea_cons (ed_ixT (i := 3) (ed_var rfl (Dat.same s5 hu4)) ed_int rfl) ea_nil)) (Same.refl _) fun r H6 s6 h6 => q r H6 _ (((((s1.trans s2).trans s3).trans s4).trans s5).trans s6) rfl h6
abbrev spLeaf (K : PySem.W.Frag) : Sp := spP K 2 fun ds post => ∃ (n Dn d : Nat) (t : Term), Wf n Dn d t ∧ ds = [.int (n : Nat), tD t] ∧ post = fun e => e = .bl (match t with | .node _ _ => false | _ => true)
theorem leaf_no {H : Hp} {a : Str} {b : D} {v u : V} {tb1 td1 : TE} (e1 : decide (a = "bid") = false) (e2 : decide (a = "fixed") = false) (hu : Dat K H (.tup [.str a, b]) u) : EvD K (tOrV (tAndV (tOp rEq (tOp (rIxT K) (tVar 1) (tC (.int 0))) (tC (.str "bid"))) tb1) (tAndV (tOp rEq (tOp (rIxT K) (tVar 1) (tC (.int 0))) (tC (.str "fixed"))) td1)) [some v, some u] H (.bl false) :=
  ed_orV (b := false) (c := false) (ed_andV (b := false) (c := false) ((ed_eqS (ed_ixT (d := .str a) (i := 0) (ed_var rfl hu) ed_int rfl) ed_str).to (by rw [e1])) (fun e => nomatch e)) (fun _ => ed_andV (b := false) (c := false) ((ed_eqS (ed_ixT (d := .str a) (i := 0) (ed_var rfl hu) ed_int rfl) ed_str).to (by rw [e2])) (fun e => nomatch e))
theorem ok_is_leaf (W : Wd P K mg base) (F : Df K mg "is_leaf" s_is_leaf) (G_is_within : C8.Cal P w K mg base 36 "is_within" (spWithin K) []) (G_is_number : C8.Cal P w K mg base 37 "is_number" (spIsNum K) []) : C8.Cal P w K mg base 38 "is_leaf" (spLeaf K) [] := by
  refine cal_of F sc_is_leaf (fun _ _ _ _ _ _ us hl => match us, hl with | [_, _], _ => rfl) rfl fun f cdv A outer s H vs Q E ds post hr hp hd q => ?_
  obtain ⟨n, Dn, dp, t, hw, rfl, rfl⟩ := hp
  obtain ⟨v, u, rfl, hv, hu⟩ := dats2 hd
  obtain rfl : v = .int (n : Nat) := hv
  refine ⟨_, (pss_cons (ps_if (pt_cmpR op_ne (pe_callB call_len_seq (by rfl) W.len b_len (pa_cons (pv 1) pa_nil)) pe_int (nomark _)) (pss_one (ps_ret pe_bl)) pss_nil)
    (pss_one (ps_ret (pe_or (pe_and (pe_cmpR op_eq (pe_ix ix_tup (pv 1) pe_int (fun _ _ => rfl)) pe_str (nomark _)) (pe_one (C8.pe_c G_is_within hr (by omega) (by rfl) (pa_cons (pe_ix ix_tup (pv 1) pe_int (fun _ _ => rfl)) (pa_cons pe_int (pa_cons (pe_op op_sub (pv 0) pe_int) pa_nil)))))) (pe_one (pe_and (pe_cmpR op_eq (pe_ix ix_tup (pv 1) pe_int (fun _ _ => rfl)) pe_str (nomark _)) (pe_one (C8.pe_c G_is_number hr (by omega) (by rfl) (pa_cons (pe_ix ix_tup (pv 1) pe_int (fun _ _ => rfl)) pa_nil))))))))), ?_⟩
  cases dp with
  | zero => exact hw.elim
  | succ dp =>
  cases t with
  | bid p =>
    have hu : Dat K H (.tup [.str "bid", .int (p : Nat)]) u := hu
    have hw : p < n := hw
    refine q_if (b := false) (et_test (ed_neI (ed_lenT (ed_var rfl hu)) ed_int)) (Same.refl _) (fun e => nomatch e) fun _ H1 s1 => ?_
    have hu1 := Dat.same s1 hu
    refine q_retD (K := K) (d := .bl true) ((ed_orV (b := true) (c := true) (ed_andV (b := true) (c := true) ((ed_eqS (ed_ixT (d := .str "bid") (i := 0) (ed_var rfl hu1) ed_int rfl) ed_str).to (congrArg D.bl (by decide +kernel))) (fun _ => (ed_call (ea_cons (ed_ixT (d := .int (p : Nat)) (i := 1) (ed_var rfl hu1) ed_int rfl) (ea_cons ed_int (ea_cons (ed_sub (ed_var (d := .int (n : Nat)) rfl rfl) ed_int) ea_nil))) ⟨p, 0, (n : Int) - 1, rfl, rfl⟩ rfl).to (by rw [decide_eq_true (show (0 : Int) ≤ p by omega), decide_eq_true (show (p : Int) ≤ (n : Int) - 1 by omega)]; rfl))) (fun e => nomatch e))) (Same.refl _) fun r H2 s2 h2 => q r H2 _ (s1.trans s2) rfl h2
  | fix x =>
    have hu : Dat K H (.tup [.str "fixed", fr x]) u := hu
    have hw : Nm Dn x := hw
    refine q_if (b := false) (et_test (ed_neI (ed_lenT (ed_var rfl hu)) ed_int)) (Same.refl _) (fun e => nomatch e) fun _ H1 s1 => ?_
    have hu1 := Dat.same s1 hu
    refine q_retD (K := K) (d := .bl true) ((ed_orV (b := false) (c := true) (ed_andV (b := false) (c := false) ((ed_eqS (ed_ixT (d := .str "fixed") (i := 0) (ed_var rfl hu1) ed_int rfl) ed_str).to (congrArg D.bl (by decide +kernel))) (fun e => nomatch e)) (fun _ => ed_andV (b := true) (c := true) ((ed_eqS (ed_ixT (d := .str "fixed") (i := 0) (ed_var rfl hu1) ed_int rfl) ed_str).to (congrArg D.bl (by decide +kernel))) (fun _ => ed_call (ea_cons (ed_ixT (d := fr x) (i := 1) (ed_var rfl hu1) ed_int rfl) ea_nil) ⟨x, hw.1, hw.2.1, rfl, rfl⟩ rfl)))) (Same.refl _) fun r H2 s2 h2 => q r H2 _ (s1.trans s2) rfl h2
  | node o ts =>
    have qf : ∀ (r : V) (H' : Hp), Same H H' → Dat K H' (.bl false) r → Q r H' := fun r H' s' h' => q r H' _ s' rfl h'
    cases o with
    | mean ws =>
      have hu : Dat K H (.tup [.str "mean", .tup (mpD ws (tDs ts))]) u := hu
      refine q_if (b := false) (et_test (ed_neI (ed_lenT (ed_var rfl hu)) ed_int)) (Same.refl _) (fun e => nomatch e) fun _ H1 s1 => ?_
      exact q_retD (K := K) (leaf_no (by decide +kernel) (by decide +kernel) (Dat.same s1 hu)) (Same.refl _) fun r H2 s2 h2 => qf r H2 (s1.trans s2) h2
    | least =>
      have hu : Dat K H (.tup [.str "least", .tup (tDs ts)]) u := hu
      refine q_if (b := false) (et_test (ed_neI (ed_lenT (ed_var rfl hu)) ed_int)) (Same.refl _) (fun e => nomatch e) fun _ H1 s1 => ?_
      exact q_retD (K := K) (leaf_no (by decide +kernel) (by decide +kernel) (Dat.same s1 hu)) (Same.refl _) fun r H2 s2 h2 => qf r H2 (s1.trans s2) h2
    | greatest =>
      have hu : Dat K H (.tup [.str "greatest", .tup (tDs ts)]) u := hu
      refine q_if (b := false) (et_test (ed_neI (ed_lenT (ed_var rfl hu)) ed_int)) (Same.refl _) (fun e => nomatch e) fun _ H1 s1 => ?_
      exact q_retD (K := K) (leaf_no (by decide +kernel) (by decide +kernel) (Dat.same s1 hu)) (Same.refl _) fun r H2 s2 h2 => qf r H2 (s1.trans s2) h2
    | ranked k =>
      have hu : Dat K H (.tup [.str "ranked", .int (k : Nat), .tup (tDs ts)]) u := hu
      refine q_if (b := true) (et_test (ed_neI (ed_lenT (ed_var rfl hu)) ed_int)) (Same.refl _) (fun _ H1 s1 => ?_) fun e => nomatch e
      exact q_retD (K := K) (d := .bl false) ed_bl (Same.refl _) fun r H2 s2 h2 => qf r H2 (s1.trans s2) h2
    | between lo hi =>
      have h1 : ts.length = 1 := hw.2.2.1.1
      obtain ⟨t1, rfl⟩ : ∃ t1, ts = [t1] := List.length_eq_one_iff.mp h1
      have hu : Dat K H (.tup [.str "between", fr lo, fr hi, tD t1]) u := hu
      refine q_if (b := true) (et_test (ed_neI (ed_lenT (ed_var rfl hu)) ed_int)) (Same.refl _) (fun _ H1 s1 => ?_) fun e => nomatch e
      exact q_retD (K := K) (d := .bl false) ed_bl (Same.refl _) fun r H2 s2 h2 => qf r H2 (s1.trans s2) h2
abbrev spTold (K : PySem.W.Frag) (d : Nat) : Sp := spP K 3 fun ds post => ∃ (n Dn m k : Nat) (t : Term), Wf n Dn d t ∧ 0 < Dn ∧ Dn < 2 ^ m ∧ m ≤ LIM ∧ d ≤ k ∧ ds = [.int (n : Nat), tD t, .int (k : Nat)] ∧ post = fun e => e = .int (nt t : Nat)
theorem nts_take {ts : List Term} {i : Nat} {t : Term} (h : ts[i]? = some t) : nts (ts.take (i + 1)) = nts (ts.take i) + nt t := by
  have key : ∀ (a : List Term), nts (a ++ [t]) = nts a + nt t := fun a => by
    induction a with
    | nil => show nt t + 0 = 0 + nt t; omega
    | cons x r ih => show nt x + nts (r ++ [t]) = nt x + nts r + nt t; rw [ih]; omega
  rw [List.take_succ, h]
  exact key _
theorem tD_shape {n Dn d : Nat} {t : Term} (h : Wf n Dn d t) : ∃ a r, tD t = .tup (.str a :: r) := by
  cases t with
  | bid p => exact ⟨_, _, rfl⟩
  | fix q => exact ⟨_, _, rfl⟩
  | node o ts =>
    obtain ⟨r, hr⟩ := node_word o (tDs ts)
    exact ⟨_, r, hr⟩
theorem ok_terms_told (W : Wd P K mg base) (F : Df K mg "terms_told" s_terms_told) (G_is_leaf : C8.Cal P w K mg base 38 "is_leaf" (spLeaf K) []) (G_parts_told : C8.Cal P w K mg base 39 "parts_told" (spPartsT K) []) : ∀ d, C8.Cal P w K mg base (40 + d) "terms_told" (spTold K d) [] := by
  intro d
  induction d with
  | zero =>
    refine cal_of (k := 39) F sc_terms_told (fun _ _ _ _ _ _ us hl => match us, hl with | [_, _, _], _ => rfl) rfl fun f cdv A outer s H vs Q E ds post hr hp hd q => ?_
    obtain ⟨n, Dn, m, k, t, hw, _⟩ := hp
    exact hw.elim
  | succ d IH =>
    have G_terms_told := IH
    refine cal_of (k := 40 + d) F sc_terms_told (fun _ _ _ _ _ _ us hl => match us, hl with | [_, _, _], _ => rfl) rfl fun f cdv A outer s H vs Q E ds post hr hp hd q => ?_
    obtain ⟨n, Dn, m, k, t, hw, hD, hDm, hm, hk, rfl, rfl⟩ := hp
    obtain ⟨v, u, y, rfl, hv, hu, hy⟩ := dats3 hd
    obtain rfl : v = .int (n : Nat) := hv
    obtain rfl : y = .int (k : Nat) := hy
    have hr : Room (40 + d) _ := hr
    refine ⟨_, (pss_cons (ps_if (PW.pt (pw_or (pt_cmpR op_eq (pv 2) pe_int (nomark _)) (pw_or (pt_not (pt_val (pe_callB call_isi (by rfl) W.isi b_isinstance (pa_cons (pv 1) (pa_cons (pe_bltn (v := .ty "tuple") (by rfl) W.tuple b_tuple rfl) pa_nil))))) (pw_or (pt_cmpR op_eq (pe_callB call_len_seq (by rfl) W.len b_len (pa_cons (pv 1) pa_nil)) pe_int (nomark _)) (pw_or1 (pt_not (pt_val (pe_callB call_isi (by rfl) W.isi b_isinstance (pa_cons (pe_ix ix_tup (pv 1) pe_int (fun _ _ => rfl)) (pa_cons (pe_bltn (v := .ty "str") (by rfl) W.str b_str rfl) pa_nil)))))))))) (pss_one (ps_ret pe_non)) pss_nil)
    (pss_cons (ps_if (pt_val (C8.pe_c G_is_leaf hr (by omega) (by rfl) (pa_cons (pv 0) (pa_cons (pv 1) pa_nil)))) (pss_one (ps_ret pe_int)) pss_nil)
    (pss_cons (ps_set (i := 3) sc_terms_told.nd rfl (by first | exact Or.inl rfl | exact Or.inr rfl) (C8.pe_c G_parts_told hr (by omega) (by rfl) (pa_cons (pv 1) pa_nil)))
    (pss_cons (ps_if (pt_cmpR op_isN (pv 3) pe_non (nomark _)) (pss_one (ps_ret pe_non)) pss_nil)
    (pss_cons (ps_set (i := 4) sc_terms_told.nd rfl (by first | exact Or.inl rfl | exact Or.inr rfl) pe_int)
    (pss_cons (ps_for PassesOwn.never rfl (pi_list (pv 3)) (pg_name (i := 5) sc_terms_told.nd rfl (by first | exact Or.inl rfl | exact Or.inr rfl))
    (pss_cons (ps_set (i := 6) sc_terms_told.nd rfl (by first | exact Or.inl rfl | exact Or.inr rfl) (C8.pe_c G_terms_told hr (by omega) (by rfl) (pa_cons (pv 0) (pa_cons (pv 5) (pa_cons (pe_op op_sub (pv 2) pe_int) pa_nil)))))
    (pss_cons (ps_if (pt_cmpR op_isN (pv 6) pe_non (nomark _)) (pss_one (ps_ret pe_non)) pss_nil)
    (pss_one (ps_aug (i := 4) sc_terms_told.nd rfl (by first | exact Or.inl rfl | exact Or.inr rfl) (pv 6) ip_add)))))
    (pss_one (ps_ret (pv 4))))))))), ?_⟩
    obtain ⟨a, rr, et⟩ := tD_shape hw
    have hu0 : Dat K H (.tup (.str a :: rr)) u := et ▸ hu
    refine q_if (b := false) (et_or (b := false) (c := false) ((et_test (ed_eqI (K := K) (ed_var (d := .int (k : Nat)) rfl rfl) ed_int)).to (decide_eq_false (by omega))) fun _ => et_or (b := false) (c := false) (et_not (b := true) (et_val (ed_isi (ed_var rfl hu0) k_tt))) fun _ => et_or (b := false) (c := false) ((et_test (ed_eqI (ed_lenT (ed_var rfl hu0)) ed_int)).to (decide_eq_false (by rw [List.length_cons]; omega))) fun _ => et_not (b := true) (et_val (ed_isi (ed_ixT (d := .str a) (ed_var rfl hu0) ed_int (atI_nat (j := 0) rfl)) k_ss))) (Same.refl _) (fun e => nomatch e) fun _ H1 s1 => ?_
    have hu1 := Dat.same s1 hu
    have isn : isNonD (.int ((nt t : Nat) : Int)) = false := rfl
    cases t with
    | bid p =>
      refine q_if (b := true) (et_val (ed_call (ea_cons (ed_var (d := .int (n : Nat)) rfl rfl) (ea_cons (ed_var rfl hu1) ea_nil)) ⟨n, Dn, d + 1, .bid p, hw, rfl, rfl⟩ rfl)) (Same.refl _) (fun _ H2 s2 => ?_) fun e => nomatch e
      exact q_retD (K := K) (d := .int 1) ed_int (Same.refl _) fun r H3 s3 h3 => q r H3 _ ((s1.trans s2).trans s3) rfl h3
    | fix x =>
      refine q_if (b := true) (et_val (ed_call (ea_cons (ed_var (d := .int (n : Nat)) rfl rfl) (ea_cons (ed_var rfl hu1) ea_nil)) ⟨n, Dn, d + 1, .fix x, hw, rfl, rfl⟩ rfl)) (Same.refl _) (fun _ H2 s2 => ?_) fun e => nomatch e
      exact q_retD (K := K) (d := .int 1) ed_int (Same.refl _) fun r H3 s3 h3 => q r H3 _ ((s1.trans s2).trans s3) rfl h3
    | node o ts =>
      refine q_if (b := false) (et_val (ed_call (ea_cons (ed_var (d := .int (n : Nat)) rfl rfl) (ea_cons (ed_var rfl hu1) ea_nil)) ⟨n, Dn, d + 1, .node o ts, hw, rfl, rfl⟩ rfl)) (Same.refl _) (fun e => nomatch e) fun _ H2 s2 => ?_
      have hu2 := Dat.same s2 hu1
      refine q_setD (K := K) (d := .lst (tDs ts)) (ed_call (ea_cons (ed_var rfl hu2) ea_nil) ⟨n, Dn, d + 1, m, o, ts, hw, hD, hDm, hm, rfl, rfl⟩ rfl) (Same.refl _) fun v H3 s3 hv => ?_
      refine q_if (b := false) (et_test (ed_isN (ed_var rfl hv))) (Same.refl _) (fun e => nomatch e) fun _ H4 s4 => ?_
      refine q_setD (K := K) (d := .int 1) ed_int (Same.refl _) fun w1 H5 s5 hw1 => ?_
      obtain rfl : w1 = .int 1 := hw1
      have s05 := (((s1.trans s2).trans s3).trans s4).trans s5
      have hts := hw.2.2.2
      refine q_forB (K := K) (ei_list (vv_var rfl) (Dat.same (s4.trans s5) hv)) (Same.refl _) fun Hb H6 sb s6 _ sb6 => ?_
      refine ⟨fun i σ H' => ∃ y5 y6, σ = [some (.int (n : Nat)), some u, some (.int (k : Nat)), some v, some (.int ((1 + nts (ts.take i) : Nat) : Int)), y5, y6] ∧ Same Hb H', ⟨none, none, rfl, sb6⟩, fun i σ H' ⟨_, _, _, h⟩ => h, ?_, ?_⟩
      · rintro i dd x σ H7 H8 hi ⟨y5, y6, rfl, b7⟩ s8 hx
        rw [tDs_map, List.getElem?_map, Option.map_eq_some_iff] at hi
        obtain ⟨t', ht', rfl⟩ := hi
        refine q_setD (K := K) (d := .int (nt t' : Nat)) (ed_call (ea_cons (ed_var (d := .int (n : Nat)) rfl rfl) (ea_cons (ed_var rfl hx) (ea_cons ((ed_sub (ed_var (d := .int (k : Nat)) rfl rfl) ed_int).to (d := _) (e' := .int ((k - 1 : Nat) : Int)) (by congr 1; omega)) ea_nil))) ⟨n, Dn, m, k - 1, t', hts t' (List.mem_of_getElem? ht'), hD, hDm, hm, by omega, rfl, rfl⟩ rfl) (Same.refl _) fun z H9 s9 hz => ?_
        obtain rfl : z = .int (nt t' : Nat) := hz
        refine q_if (b := false) (et_test (K := K) (ed_isN (d := .int (nt t' : Nat)) (ed_var rfl rfl))) (Same.refl _) (fun e => nomatch e) fun _ H10 s10 => ?_
        refine ⟨_, rfl, _, rfl, _, _, rfl, rfl, some x, some (.int (nt t' : Nat)), ?_, (((b7.trans s8).trans s9).trans s10)⟩
        rw [nts_take ht']
        show [_, _, _, _, some (V.int (((1 + nts (ts.take i) : Nat) : Int) + ((nt t' : Nat) : Int))), _, _] = [_, _, _, _, some (V.int ((1 + (nts (ts.take i) + nt t') : Nat) : Int)), _, _]
        congr 5
        simp only [List.cons.injEq, Option.some.injEq, V.int.injEq, and_true]
        omega
      · rintro σ H7 ⟨y5, y6, rfl, b7⟩
        rw [tDs_map, List.length_map, List.take_length]
        exact q_retD (K := K) (d := .int ((1 + nts ts : Nat) : Int)) (ed_var rfl rfl) (Same.refl _) fun r H8 s8 h8 => q r H8 _ (((s05.trans sb).trans b7).trans s8) rfl h8
end
end Cb
set_option Elab.async false
set_option linter.all false
set_option maxRecDepth 100000
set_option maxHeartbeats 1000000
/-! walks: the two classes -/
namespace Cb
open PySem PySem.Spec PyProof.Rows L2
/-- a method, an __init__, as the top has left them -/
structure DfM (K : PySem.W.Frag) (C : Addr) (m qn : Str) (st : Stmt) : Prop where
  ex : ∃ f fd, FunD K m qn (defArgs st) (defBody st) (defScope st) [] [] f fd ∧ Meth K C m f
structure DfI (K : PySem.W.Frag) (mg : Str → Option Value) (x : Str) (C : Addr) (qn : Str) (st : Stmt) : Prop where
  ex : ∃ f fd, FunD K "__init__" qn (defArgs st) (defBody st) (defScope st) [] [] f fd ∧ Mk K C f ∧ mg x = some (.ref C)
abbrev BindOkM (m qn : Str) (st : Stmt) (ps : List Str) : Prop := ∀ (kV doc pm : Value) (an : Option Addr) (cdv ct : Value) (us : List Value), us.length = ps.length → bindArgs (PySem.W.fnOf m qn (defArgs st) (defBody st) (defScope st) .none kV doc pm an cdv ct) ⟨us, []⟩ = pure (ps.zip us)
section
variable {P : Program} {w : World} {K : PySem.W.Frag} {mg : Str → Option Value} {base : Heap}
theorem met_sp {C : Addr} {m qn : Str} {st : Stmt} {N ps : List Str} {k : Nat} {sp : Sp} (F : DfM K C m qn st) (hc : Cls K C) (S : FnScope N ps (defScope st)) (hb : BindOkM m qn st ps) (hl : ∀ vs H Q E, sp vs H Q E → vs.length = ps.length)
    (hbody : ∀ (f : Addr) (cdv : Value) (A : Around) (outer : List Env) (s : Shared) (H : Hp) (vs : List V) (Q : VK) (E : XK), Room k (A.deeper (envOfC qn (defScope st) s.heap.objs.size f cdv)) → sp vs H Q E →
      ∃ t, PSs (cxOf CX0 P w K mg base N qn (defScope st) f cdv A outer s H E).nox (defBody st) t ∧ t { nx := fun _ H' => Q .non H', rt := Q } (start N vs) H) :
    C8.Met P w K mg base (k + 1) C m sp [] := by
  obtain ⟨f, fd, F, hm⟩ := F.ex
  exact ⟨f, fd, ps, [], hc, hm, F.ok S hl fun cdv A outer s H vs Q E hr h => (by
    obtain ⟨t, h1, h2⟩ := hbody f cdv A outer s H vs Q E hr h
    exact ⟨t, h1.nox, h2⟩), F.bindsN hb, .nil⟩
theorem mak_sp {C : Addr} {x qn : Str} {st : Stmt} {N ps : List Str} {k : Nat} {sp : Sp} (F : DfI K mg x C qn st) (S : FnScope N ps (defScope st)) (hb : BindOkM "__init__" qn st ps) (hl : ∀ vs H Q E, sp vs H Q E → vs.length = ps.length)
    (hbody : ∀ (f : Addr) (cdv : Value) (A : Around) (outer : List Env) (s : Shared) (H : Hp) (vs : List V) (Q : VK) (E : XK), Room k (A.deeper (envOfC qn (defScope st) s.heap.objs.size f cdv)) → sp vs H Q E →
      ∃ t, PSs (cxOf CX0 P w K mg base N qn (defScope st) f cdv A outer s H E).nox (defBody st) t ∧ t { nx := fun _ H' => Q .non H', rt := Q } (start N vs) H) :
    C8.Mak P w K mg base (k + 1) x C sp [] := by
  obtain ⟨f, fd, F, hm, hx⟩ := F.ex
  exact ⟨f, fd, ps, [], hm, F.ok S hl fun cdv A outer s H vs Q E hr h => (by
    obtain ⟨t, h1, h2⟩ := hbody f cdv A outer s H vs Q E hr h
    exact ⟨t, h1.nox, h2⟩), hx, F.bindsN hb, .nil⟩
/-- Rule.__init__ -/
def spRuleI (K : PySem.W.Frag) (C : Addr) : Sp := fun vs H Q _ => ∃ (p dx : Addr) (n Dn m : Nat) (t : Term) (u : V),
  vs = [.ref p, .int (n : Nat), u] ∧ H p = some (.ins C dx []) ∧ Dat K (hide H p) (tD t) u ∧ 1 ≤ n ∧ n ≤ 6 ∧ Wf n Dn 3 t ∧ 0 < Dn ∧ Dn < 2 ^ m ∧ m ≤ LIM ∧ nt t ≤ 60 ∧ ∀ H' : Hp, Same (hide H p) H' → Dat K H' (.rule C n (tD t)) (.ref p) → Q .non H'
theorem put1 (x : V) : putF "people" x [] = ([("people", x)] : List (Str × V)) := rfl
theorem put2 (x y : V) : putF "term" y [("people", x)] = ([("people", x), ("term", y)] : List (Str × V)) := by
  show (if ("people" : Str) = "term" then [(("people" : Str), y)] else (("people" : Str), x) :: putF "term" y []) = _
  rw [if_neg (by decide +kernel)]
  all_goals rfl
theorem ok_Rule_init {C : Addr} (W : Wd P K mg base) (R : RCls K C) (F : DfI K mg "Rule" C "Rule.__init__" s_Rule_init) (G_is_within : C8.Cal P w K mg base 36 "is_within" (spWithin K) []) (G_terms_told : C8.Cal P w K mg base 43 "terms_told" (spTold K 3) []) : C8.Mak P w K mg base 44 "Rule" C (spRuleI K C) [] := by
  obtain ⟨_, mP⟩ := W.mostP
  obtain ⟨_, mD⟩ := W.mostD
  obtain ⟨_, mE⟩ := W.mostE
  refine mak_sp F sc_Rule_init (fun _ _ _ _ _ _ us hl => match us, hl with | [_, _, _], _ => rfl) (fun vs H Q E ⟨p, dx, n, Dn, m, t, u, e, _⟩ => by rw [e]; rfl) fun f cdv A outer s H vs Q E hr ⟨p, dx, n, Dn, m, t, u, e, hp, hu, h1, h6, hw, hD, hDm, hm, h60, q⟩ => ?_
  subst e
  refine ⟨_, (pss_cons (ps_if (pt_not (pt_val (C8.pe_c G_is_within hr (by omega) (by rfl) (pa_cons (pv 1) (pa_cons pe_int (pa_cons (pe_glob (v := .int 6) (by rfl) mP ⟨_, rfl⟩) pa_nil)))))) pss_never pss_nil)
    (pss_cons (ps_set (i := 3) sc_Rule_init.nd rfl (by first | exact Or.inl rfl | exact Or.inr rfl) (C8.pe_c G_terms_told hr (by omega) (by rfl) (pa_cons (pv 1) (pa_cons (pv 2) (pa_cons (pe_glob (v := .int 8) (by rfl) mD ⟨_, rfl⟩) pa_nil)))))
    (pss_cons (ps_if (PW.pt (pw_or (pt_cmpR op_isN (pv 3) pe_non (nomark _)) (pw_or1 (pt_cmpR op_gt (pv 3) (pe_glob (v := .int 60) (by rfl) mE ⟨_, rfl⟩) (nomark _))))) pss_never pss_nil)
    (pss_cons (ps_fld (pv 0) (pv 1) rfl)
    (pss_one (ps_fld (pv 0) (pv 2) rfl)))))), ?_⟩
  refine q_if (b := false) (H := H) (et_not (b := true) (et_val ((ed_call (K := K) (ea_cons (ed_var (d := .int (n : Nat)) rfl rfl) (ea_cons ed_int (ea_cons (ed_c (d := .int 6) rfl) ea_nil))) ⟨n, 1, 6, rfl, rfl⟩ rfl).to (by rw [decide_eq_true (show (1 : Int) ≤ n by omega), decide_eq_true (show (n : Int) ≤ 6 by omega)]; rfl)))) (Same.refl _) (fun e => nomatch e) fun _ H1 s1 => ?_
  have hu1 : Dat K H1 (tD t) u := Dat.same (hide_same.trans s1) hu
  refine q_setD (K := K) (d := .int (nt t : Nat)) (ed_call (ea_cons (ed_var (d := .int (n : Nat)) rfl rfl) (ea_cons (ed_var rfl hu1) (ea_cons (ed_c (d := .int 8) rfl) ea_nil))) ⟨n, Dn, m, 8, t, hw, hD, hDm, hm, by omega, rfl, rfl⟩ rfl) (Same.refl _) fun v H2 s2 hv => ?_
  obtain rfl : v = .int (nt t : Nat) := hv
  refine q_if (b := false) (et_or (b := false) (c := false) (et_test (K := K) (ed_isN (d := .int (nt t : Nat)) (ed_var rfl rfl))) fun _ => (et_test (K := K) (ed_gt (ed_var (d := .int (nt t : Nat)) rfl rfl) (ed_c (d := .int 60) rfl))).to (decide_eq_false (by omega))) (Same.refl _) (fun e => nomatch e) fun _ H3 s3 => ?_
  have s03 := (s1.trans s2).trans s3
  have hp3 := s03 _ _ hp
  refine ⟨_, rfl, _, rfl, p, C, dx, [], rfl, hp3, R.cl, R.np, by decide, _, rfl, _, rfl, p, C, dx, _, rfl, upd_same, R.cl, R.nt, (by rw [put1]; show 1 < 1000; decide), ?_⟩
  rw [put1, put2]
  have sx : Same (hide H p) (upd (upd H3 p (.ins C dx [("people", .int (n : Nat))])) p (.ins C dx [("people", .int (n : Nat)), ("term", u)])) := fun b o e => by
    rw [upd_ne (ne_of_none e hide_none), upd_ne (ne_of_none e hide_none)]
    exact s03 _ _ (hide_same b o e)
  exact q _ sx ⟨p, dx, u, rfl, upd_same, Dat.same sx hu⟩
theorem ed_mkRule {C : Addr} {σ : L2.St} {H : Hp} {ta : TA} {E : XK} {n Dn m : Nat} {t : Term} (h : EvA K ta σ H [.int (n : Nat), tD t]) (h1 : 1 ≤ n) (h6 : n ≤ 6) (hw : Wf n Dn 3 t) (hD : 0 < Dn) (hDm : Dn < 2 ^ m) (hm : m ≤ LIM) (h60 : nt t ≤ 60) : EvD K (tMake C (spRuleI K C) [] E ta) σ H (.rule C n (tD t)) := EvD.mk fun H0 s Q q =>
  h H0 s _ fun vs H1 s1 hd => fun x dx hx hdx ne => by
    obtain ⟨v, u, rfl, hv, hu⟩ := dats2 hd
    obtain rfl : v = .int (n : Nat) := hv
    have sx : Same H1 (hide (upd (upd H1 dx (.own x)) x (.ins C dx [])) x) := same_hide (fun b o e => by rw [upd_ne (ne_of_none e hx), upd_ne (ne_of_none e hdx)]; exact e) hx
    exact ⟨x, dx, n, Dn, m, t, u, rfl, upd_same, Dat.same sx hu, h1, h6, hw, hD, hDm, hm, h60, fun H' s' hr => ⟨rfl, q _ H' ((s1.trans sx).trans s') hr⟩⟩
/-- a sitting at a -/
def Sit (K : PySem.W.Frag) (CS CR : Addr) (H : Hp) (a : Addr) (n : Nat) (t : Term) (ws : List Rat) (sch : List Nat) (pl : List Rat) : Prop := ∃ (dx : Addr) (vr vw vs vp : V),
  H a = some (.ins CS dx [("rule", vr), ("wishes", vw), ("schedule", vs), ("said", vp)]) ∧ Dat K (hide H a) (.rule CR n (tD t)) vr ∧ Dat K (hide H a) (.tup (frs ws)) vw ∧ Dat K (hide H a) (.tup (natsD sch)) vs ∧ Dat K (hide H a) (.tup (frs pl)) vp
theorem Sit.same {CS CR : Addr} {H H' : Hp} {a : Addr} {n : Nat} {t : Term} {ws : List Rat} {sch : List Nat} {pl : List Rat} (s : Same H H') (h : Sit K CS CR H a n t ws sch pl) : Sit K CS CR H' a n t ws sch pl := by
  obtain ⟨dx, vr, vw, vs, vp, h1, h2, h3, h4, h5⟩ := h
  exact ⟨dx, vr, vw, vs, vp, s _ _ h1, Dat.same (hide_mono s) h2, Dat.same (hide_mono s) h3, Dat.same (hide_mono s) h4, Dat.same (hide_mono s) h5⟩
structure SCls (K : PySem.W.Frag) (C : Addr) : Prop where
  cl : Cls K C
  nr : NoAttr K C "rule"
  nw : NoAttr K C "wishes"
  ns : NoAttr K C "schedule"
  nd : NoAttr K C "said"
section
variable {σ : L2.St} {H : Hp} {te : TE} {CS CR a : Addr} {n : Nat} {t : Term} {ws : List Rat} {sch : List Nat} {pl : List Rat}
theorem lkS (a b c d : V) (f : Str) : ([("rule", a), ("wishes", b), ("schedule", c), ("said", d)] : List (Str × V)).lookup f = if f == "rule" then some a else if f == "wishes" then some b else if f == "schedule" then some c else if f == "said" then some d else none := by
  simp only [List.lookup]
  split <;> rename_i h1 <;> simp only [h1, if_true, if_false, Bool.false_eq_true]
  split <;> rename_i h2 <;> simp only [h2, if_true, if_false, Bool.false_eq_true]
  split <;> rename_i h3 <;> simp only [h3, if_true, if_false, Bool.false_eq_true]
  split <;> rename_i h4 <;> simp only [h4, if_true, if_false, Bool.false_eq_true]
theorem ed_sRule (S : Sit K CS CR H a n t ws sch pl) (C : SCls K CS) (h : σ[i]? = some (some (.ref a))) : EvD K (tFld K (tVar i) "rule") σ H (.rule CR n (tD t)) := EvD.mk fun H0 s Q q => by
  obtain ⟨dx, vr, vw, vs, vp, h1, h2, h3, h4, h5⟩ := S.same s
  exact ⟨_, h, a, CS, dx, _, vr, rfl, h1, C.cl, C.nr, by rw [lkS, if_pos (by decide +kernel)], q _ _ (Same.refl _) (Dat.same hide_same h2)⟩
theorem ed_sWish (S : Sit K CS CR H a n t ws sch pl) (C : SCls K CS) (h : σ[i]? = some (some (.ref a))) : EvD K (tFld K (tVar i) "wishes") σ H (.tup (frs ws)) := EvD.mk fun H0 s Q q => by
  obtain ⟨dx, vr, vw, vs, vp, h1, h2, h3, h4, h5⟩ := S.same s
  exact ⟨_, h, a, CS, dx, _, vw, rfl, h1, C.cl, C.nw, by rw [lkS, if_neg (by decide +kernel), if_pos (by decide +kernel)], q _ _ (Same.refl _) (Dat.same hide_same h3)⟩
theorem ed_sSch (S : Sit K CS CR H a n t ws sch pl) (C : SCls K CS) (h : σ[i]? = some (some (.ref a))) : EvD K (tFld K (tVar i) "schedule") σ H (.tup (natsD sch)) := EvD.mk fun H0 s Q q => by
  obtain ⟨dx, vr, vw, vs, vp, h1, h2, h3, h4, h5⟩ := S.same s
  exact ⟨_, h, a, CS, dx, _, vs, rfl, h1, C.cl, C.ns, by rw [lkS, if_neg (by decide +kernel), if_neg (by decide +kernel), if_pos (by decide +kernel)], q _ _ (Same.refl _) (Dat.same hide_same h4)⟩
theorem ed_sSaid (S : Sit K CS CR H a n t ws sch pl) (C : SCls K CS) (h : σ[i]? = some (some (.ref a))) : EvD K (tFld K (tVar i) "said") σ H (.tup (frs pl)) := EvD.mk fun H0 s Q q => by
  obtain ⟨dx, vr, vw, vs, vp, h1, h2, h3, h4, h5⟩ := S.same s
  exact ⟨_, h, a, CS, dx, _, vp, rfl, h1, C.cl, C.nd, by rw [lkS, if_neg (by decide +kernel), if_neg (by decide +kernel), if_neg (by decide +kernel), if_pos (by decide +kernel)], q _ _ (Same.refl _) (Dat.same hide_same h5)⟩
end
/-- a method without arguments that changes nothing -/
def spMet (K : PySem.W.Frag) (CS CR : Addr) (pre : Nat → Term → List Rat → List Nat → List Rat → (D → Prop) → Prop) : Sp := fun vs H Q _ => ∃ (a : Addr) (n : Nat) (t : Term) (ws : List Rat) (sch : List Nat) (pl : List Rat) (post : D → Prop),
  vs = [.ref a] ∧ Sit K CS CR H a n t ws sch pl ∧ pre n t ws sch pl post ∧ ∀ v H' d, Same H H' → post d → Dat K H' d v → Q v H'
theorem ep_met {CS CR : Addr} {σ : L2.St} {H : Hp} {i : Nat} {m : Str} {E : XK} {pre : Nat → Term → List Rat → List Nat → List Rat → (D → Prop) → Prop} {a : Addr} {n : Nat} {t : Term} {ws : List Rat} {sch : List Nat} {pl : List Rat} {post : D → Prop} (S : Sit K CS CR H a n t ws sch pl) (h : σ[i]? = some (some (.ref a))) (hp : pre n t ws sch pl post)
    (h1 : (m == "rule") = false := by decide +kernel) (h2 : (m == "wishes") = false := by decide +kernel) (h3 : (m == "schedule") = false := by decide +kernel) (h4 : (m == "said") = false := by decide +kernel) : EvP K (tMeth CS m (spMet K CS CR pre) [] E (tVar i) tNil) σ H post := fun H0 s Q q => by
  have S0 := S.same s
  obtain ⟨dx, vr, vw, vs, vp, e1, _⟩ := id S0
  refine ⟨_, h, a, dx, _, rfl, e1, ?_, a, n, t, ws, sch, pl, post, rfl, S0, hp, q⟩
  rw [lkS, h1, h2, h3, h4]
  rfl
theorem ed_met {CS CR : Addr} {σ : L2.St} {H : Hp} {i : Nat} {m : Str} {E : XK} {pre : Nat → Term → List Rat → List Nat → List Rat → (D → Prop) → Prop} {a : Addr} {n : Nat} {t : Term} {ws : List Rat} {sch : List Nat} {pl : List Rat} {d : D} (S : Sit K CS CR H a n t ws sch pl) (h : σ[i]? = some (some (.ref a))) (hp : pre n t ws sch pl (fun e => e = d))
    (h1 : (m == "rule") = false := by decide +kernel) (h2 : (m == "wishes") = false := by decide +kernel) (h3 : (m == "schedule") = false := by decide +kernel) (h4 : (m == "said") = false := by decide +kernel) : EvD K (tMeth CS m (spMet K CS CR pre) [] E (tVar i) tNil) σ H d := ep_met S h hp h1 h2 h3 h4
theorem len1 {K : PySem.W.Frag} {CS CR : Addr} {pre : Nat → Term → List Rat → List Nat → List Rat → (D → Prop) → Prop} (vs : List V) (H : Hp) (Q : VK) (E : XK) : spMet K CS CR pre vs H Q E → vs.length = 1 := fun ⟨a, n, t, ws, sch, pl, post, e, _⟩ => by rw [e]; rfl
abbrev spOverM (K : PySem.W.Frag) (CS CR : Addr) : Sp := spMet K CS CR fun n t ws sch pl post => post = fun d => d = .bl (decide (pl.length = sch.length))
theorem ok_is_over {CS CR : Addr} (W : Wd P K mg base) (C : SCls K CS) (F : DfM K CS "is_over" "Sitting.is_over" s_Sitting_is_over) : C8.Met P w K mg base 33 CS "is_over" (spOverM K CS CR) [] := by
  refine met_sp F C.cl sc_Sitting_is_over (fun _ _ _ _ _ _ us hl => match us, hl with | [_], _ => rfl) len1 fun f cdv A outer s H vs Q E hr ⟨a, n, t, ws, sch, pl, post, e, S, e2, q⟩ => ?_
  subst e e2
  refine ⟨_, (pss_one (ps_ret (pe_cmpR op_eq (pe_callB call_len_seq (by rfl) W.len b_len (pa_cons (pe_fld (pv 0) rfl) pa_nil)) (pe_callB call_len_seq (by rfl) W.len b_len (pa_cons (pe_fld (pv 0) rfl) pa_nil)) (nomark _)))), ?_⟩
  refine q_retD (K := K) (H := H) (d := .bl (decide (pl.length = sch.length))) ((ed_eqI (ed_lenT (ed_sSaid S C rfl)) (ed_lenT (ed_sSch S C rfl))).to ?_) (Same.refl _) fun r H1 s1 h1 => q r H1 _ s1 rfl h1
  rw [frs_len]
  unfold natsD
  rw [List.length_map]
  exact congrArg D.bl (decide_eq_decide.mpr (by omega))
def spkD (sch : List Nat) (k : Nat) : D := match sch[k]? with
  | some p => .int (p : Nat)
  | none => .non
abbrev spSpk (K : PySem.W.Frag) (CS CR : Addr) : Sp := spMet K CS CR fun n t ws sch pl post => pl.length ≤ sch.length ∧ post = fun d => d = spkD sch pl.length
theorem ok_speaker {CS CR : Addr} (W : Wd P K mg base) (C : SCls K CS) (F : DfM K CS "speaker" "Sitting.speaker" s_Sitting_speaker) (M_is_over : C8.Met P w K mg base 33 CS "is_over" (spOverM K CS CR) []) : C8.Met P w K mg base 34 CS "speaker" (spSpk K CS CR) [] := by
  refine met_sp F C.cl sc_Sitting_speaker (fun _ _ _ _ _ _ us hl => match us, hl with | [_], _ => rfl) len1 fun f cdv A outer s H vs Q E hr ⟨a, n, t, ws, sch, pl, post, e, S, ⟨hl, e2⟩, q⟩ => ?_
  subst e e2
  refine ⟨_, (pss_one (ps_ret (pe_ifExp (pt_val (C8.pe_mt0 M_is_over hr (by omega) (pv 0))) pe_non (pe_ix ix_tup (pe_fld (pv 0) rfl) (pe_callB call_len_seq (by rfl) W.len b_len (pa_cons (pe_fld (pv 0) rfl) pa_nil)) (fun _ _ => rfl))))), ?_⟩
  refine q_retD (K := K) (H := H) (d := spkD sch pl.length) (ed_ifE (et_val (ed_met (m := "is_over") (d := .bl (decide (pl.length = sch.length))) S rfl rfl)) (fun e => ?_) fun e => ?_) (Same.refl _) fun r H1 s1 h1 => q r H1 _ s1 rfl h1
  · have e := of_decide_eq_true e
    have : spkD sch pl.length = .non := by
      unfold spkD
      rw [List.getElem?_eq_none (by omega)]
    rw [this]
    exact ed_non
  · have e := of_decide_eq_false e
    have hlt : pl.length < sch.length := by omega
    have hg := List.getElem?_eq_getElem hlt
    have : spkD sch pl.length = .int ((sch[pl.length] : Nat) : Int) := by
      unfold spkD
      rw [hg]
    rw [this]
    exact ed_ixT (ed_sSch S C rfl) ((ed_lenT (ed_sSaid S C rfl)).to (by rw [frs_len])) (atI_nat (by unfold natsD; rw [List.getElem?_map, hg]; rfl))
abbrev spPlay (K : PySem.W.Frag) (CS CR : Addr) : Sp := spMet K CS CR fun n t ws sch pl post => post = fun d => d = .tup (frs pl)
theorem ok_play {CS CR : Addr} (W : Wd P K mg base) (C : SCls K CS) (F : DfM K CS "play" "Sitting.play" s_Sitting_play) : C8.Met P w K mg base 33 CS "play" (spPlay K CS CR) [] := by
  refine met_sp F C.cl sc_Sitting_play (fun _ _ _ _ _ _ us hl => match us, hl with | [_], _ => rfl) len1 fun f cdv A outer s H vs Q E hr ⟨a, n, t, ws, sch, pl, post, e, S, e2, q⟩ => ?_
  subst e e2
  refine ⟨_, (pss_one (ps_ret (pe_fld (pv 0) rfl))), ?_⟩
  exact q_retD (K := K) (H := H) (ed_sSaid S C rfl) (Same.refl _) fun r H1 s1 h1 => q r H1 _ s1 rfl h1
abbrev spBidsM (K : PySem.W.Frag) (CS CR : Addr) : Sp := spMet K CS CR fun n t ws sch pl post => n ≤ 900 ∧ (∀ p ∈ sch, p < n) ∧ post = fun d => d = .tup (frs (bidsOf n sch pl))
theorem ok_bids {CS CR : Addr} (W : Wd P K mg base) (C : SCls K CS) (F : DfM K CS "bids" "Sitting.bids" s_Sitting_bids) (G_bids_of : C8.Cal P w K mg base 33 "bids_of" (spBidsOf K CR) []) : C8.Met P w K mg base 34 CS "bids" (spBidsM K CS CR) [] := by
  refine met_sp F C.cl sc_Sitting_bids (fun _ _ _ _ _ _ us hl => match us, hl with | [_], _ => rfl) len1 fun f cdv A outer s H vs Q E hr ⟨a, n, t, ws, sch, pl, post, e, S, ⟨hn, hs, e2⟩, q⟩ => ?_
  subst e e2
  refine ⟨_, (pss_one (ps_ret (C8.pe_c G_bids_of hr (by omega) (by rfl) (pa_cons (pe_fld (pv 0) rfl) (pa_cons (pe_fld (pv 0) rfl) (pa_cons (pe_fld (pv 0) rfl) pa_nil)))))), ?_⟩
  exact q_retD (K := K) (H := H) (ed_call (ea_cons (ed_sRule S C rfl) (ea_cons (ed_sSch S C rfl) (ea_cons (ed_sSaid S C rfl) ea_nil))) ⟨n, tD t, sch, pl, hn, hs, rfl, rfl⟩ rfl) (Same.refl _) fun r H1 s1 h1 => q r H1 _ s1 rfl h1
abbrev spForeM (K : PySem.W.Frag) (CS CR : Addr) : Sp := spMet K CS CR fun n t ws sch pl post => ∃ Dn m, Pl3 n Dn m t ws sch pl ∧ post = fun d => ∃ A, d = fr A ∧ IsLeft t (bN ws) (bN (bidsOf n sch pl)) (openL sch pl.length) A
theorem ok_foreseen {CS CR : Addr} (W : Wd P K mg base) (C : SCls K CS) (F : DfM K CS "foreseen" "Sitting.foreseen" s_Sitting_foreseen) (G_foreseen_behind : C8.Cal P w K mg base 44 "foreseen_behind" (spFore K CR) []) : C8.Met P w K mg base 45 CS "foreseen" (spForeM K CS CR) [] := by
  refine met_sp F C.cl sc_Sitting_foreseen (fun _ _ _ _ _ _ us hl => match us, hl with | [_], _ => rfl) len1 fun f cdv A outer s H vs Q E hr ⟨a, n, t, ws, sch, pl, post, e, S, ⟨Dn, m, P3, e2⟩, q⟩ => ?_
  subst e e2
  refine ⟨_, (pss_one (ps_ret (C8.pe_c G_foreseen_behind hr (by omega) (by rfl) (pa_cons (pe_fld (pv 0) rfl) (pa_cons (pe_fld (pv 0) rfl) (pa_cons (pe_fld (pv 0) rfl) (pa_cons (pe_fld (pv 0) rfl) pa_nil))))))), ?_⟩
  exact q_ret (K := K) (H := H) (ep_call (ea_cons (ed_sRule S C rfl) (ea_cons (ed_sWish S C rfl) (ea_cons (ed_sSch S C rfl) (ea_cons (ed_sSaid S C rfl) ea_nil)))) ⟨n, Dn, m, t, ws, sch, pl, P3, rfl, rfl⟩ rfl) (Same.refl _) fun r H1 d s1 hd h1 => q r H1 d s1 hd h1
abbrev bestPost (n Dn : Nat) (t : Term) (ws : List Rat) (sch : List Nat) (pl : List Rat) (p : Nat) : D → Prop := fun d => ∃ e0 e1, d = .tup [fr e0, fr e1] ∧ if p ∈ sch.drop (pl.length + 1) then e0 = 0 ∧ e1 = 1 else ∃ L F, Ln (Dn * wp t) F L ∧ (∀ x, IsLeft t (bN ws) (putB (bN (bidsOf n sch pl)) p x) (openL sch (pl.length + 1)) (F x)) ∧ BestAt (Dn * wp t) F (bN ws p) e0 e1
abbrev spBestM (K : PySem.W.Frag) (CS CR : Addr) : Sp := spMet K CS CR fun n t ws sch pl post => ∃ Dn m p, Pl3 n Dn m t ws sch pl ∧ sch[pl.length]? = some p ∧ post = bestPost n Dn t ws sch pl p
theorem ok_best {CS CR : Addr} (W : Wd P K mg base) (C : SCls K CS) (F : DfM K CS "best" "Sitting.best" s_Sitting_best) (M_is_over : C8.Met P w K mg base 33 CS "is_over" (spOverM K CS CR) []) (G_best_ends : C8.Cal P w K mg base 48 "best_ends" (spBestE K CR) []) : C8.Met P w K mg base 49 CS "best" (spBestM K CS CR) [] := by
  refine met_sp F C.cl sc_Sitting_best (fun _ _ _ _ _ _ us hl => match us, hl with | [_], _ => rfl) len1 fun f cdv A outer s H vs Q E hr ⟨a, n, t, ws, sch, pl, post, e, S, ⟨Dn, m, p, P3, hp, e2⟩, q⟩ => ?_
  subst e e2
  refine ⟨_, (pss_cons (ps_if (pt_val (C8.pe_mt0 M_is_over hr (by omega) (pv 0))) pss_never pss_nil)
    (pss_one (ps_ret (C8.pe_c G_best_ends hr (by omega) (by rfl) (pa_cons (pe_fld (pv 0) rfl) (pa_cons (pe_fld (pv 0) rfl) (pa_cons (pe_fld (pv 0) rfl) (pa_cons (pe_fld (pv 0) rfl) pa_nil)))))))), ?_⟩
  have hlt : pl.length < sch.length := (List.getElem?_eq_some_iff.mp hp).1
  refine q_if (b := false) (et_val (EvD.to (ed_met (m := "is_over") (d := .bl (decide (pl.length = sch.length))) S rfl rfl) (congrArg D.bl (decide_eq_false (by omega))))) (Same.refl _) (fun e => nomatch e) fun _ H1 s1 => ?_
  have S1 := S.same s1
  exact q_ret (K := K) (H := H1) (ep_call (ea_cons (ed_sRule S1 C rfl) (ea_cons (ed_sWish S1 C rfl) (ea_cons (ed_sSch S1 C rfl) (ea_cons (ed_sSaid S1 C rfl) ea_nil)))) ⟨n, Dn, m, t, ws, sch, pl, p, P3, hp, rfl, rfl⟩ rfl) (Same.refl _) fun r H2 d s2 hd h1 => q r H2 d (s1.trans s2) hd h1
abbrev spToldM (K : PySem.W.Frag) (CS CR : Addr) : Sp := spMet K CS CR fun n t ws sch pl post => ∃ Dn m, Pl3 n Dn m t ws sch pl ∧ post = fun d => d = fr (val (bN (bidsOf n sch pl)) t)
theorem ok_told {CS CR : Addr} (W : Wd P K mg base) (R : RCls K CR) (C : SCls K CS) (F : DfM K CS "told" "Sitting.told" s_Sitting_told) (M_bids : C8.Met P w K mg base 34 CS "bids" (spBidsM K CS CR) []) (G_value_of : C8.Cal P w K mg base 41 "value_of" (spVal3 K) []) : C8.Met P w K mg base 42 CS "told" (spToldM K CS CR) [] := by
  refine met_sp F C.cl sc_Sitting_told (fun _ _ _ _ _ _ us hl => match us, hl with | [_], _ => rfl) len1 fun f cdv A outer s H vs Q E hr ⟨a, n, t, ws, sch, pl, post, e, S, ⟨Dn, m, P3, e2⟩, q⟩ => ?_
  subst e e2
  refine ⟨_, (pss_one (ps_ret (C8.pe_c G_value_of hr (by omega) (by rfl) (pa_cons (pe_fld (pe_fld (pv 0) rfl) rfl) (pa_cons (C8.pe_mt0 M_bids hr (by omega) (pv 0)) pa_nil))))), ?_⟩
  have hn := P3.hn
  have bl := bidsOf_len n sch pl
  exact q_retD (K := K) (H := H) (ed_call (ea_cons (ed_term (ed_sRule S C rfl) R.cl R.nt) (ea_cons (ed_met (m := "bids") (d := .tup (frs (bidsOf n sch pl))) S rfl ⟨by omega, P3.sl, rfl⟩) ea_nil)) ⟨t, bidsOf n sch pl, Dn, m, by rw [bl]; exact P3.T.wf, bidsOf_mem P3.np, P3.T.pos, P3.T.sz, P3.T.hm, rfl, rfl⟩ rfl) (Same.refl _) fun r H1 s1 h1 => q r H1 _ s1 rfl h1
/-- Sitting.bid -/
def spBidM (K : PySem.W.Frag) (CS CR : Addr) : Sp := fun vs H Q _ => ∃ (a : Addr) (n : Nat) (t : Term) (ws : List Rat) (sch : List Nat) (pl : List Rat) (x : Rat) (v : V),
  vs = [.ref a, v] ∧ Sit K CS CR H a n t ws sch pl ∧ Dat K (hide H a) (fr x) v ∧ 0 ≤ x ∧ x ≤ 1 ∧ pl.length < sch.length ∧ pl.length ≤ 900 ∧ ∀ H' : Hp, Same (hide H a) H' → Sit K CS CR H' a n t ws sch (pl ++ [x]) → Q .non H'
theorem put4 (r w s d d' : V) : putF "said" d' ([("rule", r), ("wishes", w), ("schedule", s), ("said", d)] : List (Str × V)) = ([("rule", r), ("wishes", w), ("schedule", s), ("said", d')] : List (Str × V)) := by
  have e1 : ¬ (("rule" : Str) = "said") := by decide +kernel
  have e2 : ¬ (("wishes" : Str) = "said") := by decide +kernel
  have e3 : ¬ (("schedule" : Str) = "said") := by decide +kernel
  simp only [putF, if_neg e1, if_neg e2, if_neg e3, if_true]
theorem ok_bid {CS CR : Addr} (W : Wd P K mg base) (C : SCls K CS) (F : DfM K CS "bid" "Sitting.bid" s_Sitting_bid) (M_is_over : C8.Met P w K mg base 33 CS "is_over" (spOverM K CS CR) []) (G_check_number : C8.Cal P w K mg base 38 "check_number" (spChkNum K) []) : C8.Met P w K mg base 39 CS "bid" (spBidM K CS CR) [] := by
  refine met_sp F C.cl sc_Sitting_bid (fun _ _ _ _ _ _ us hl => match us, hl with | [_, _], _ => rfl) (fun vs H Q E ⟨a, n, t, ws, sch, pl, x, v, e, _⟩ => by rw [e]; rfl) fun f cdv A outer s H vs Q E hr ⟨a, n, t, ws, sch, pl, x, v, e, S, hv, h0, h1, hlt, hz, q⟩ => ?_
  subst e
  refine ⟨_, (pss_cons (ps_if (pt_val (C8.pe_mt0 M_is_over hr (by omega) (pv 0))) pss_never pss_nil)
    (pss_cons (ps_expr (C8.pe_c G_check_number hr (by omega) (by rfl) (pa_cons (pv 1) pa_nil)))
    (pss_one (ps_fld (pv 0) (pe_op op_catA (pe_fld (pv 0) rfl) (pe_tup (pa_cons (pv 1) pa_nil))) rfl)))), ?_⟩
  refine q_if (b := false) (et_val (EvD.to (ed_met (m := "is_over") (d := .bl (decide (pl.length = sch.length))) S rfl rfl) (congrArg D.bl (decide_eq_false (by omega))))) (Same.refl _) (fun e => nomatch e) fun _ H1 s1 => ?_
  have hv1 : Dat K H1 (fr x) v := Dat.same (hide_same.trans s1) hv
  refine EvD.use (K := K) (d := .non) (ed_call (ea_cons (ed_var rfl hv1) ea_nil) ⟨x, h0, h1, rfl, rfl⟩ rfl) (Same.refl _) fun _ H2 s2 _ => ?_
  have S2 := (S.same s1).same s2
  refine EvD.use (K := K) (d := .tup (frs (pl ++ [x]))) ((ed_catT (ed_sSaid S2 C rfl) (ed_tup (ea_cons (ed_var rfl (Dat.same s2 hv1)) ea_nil)) (by rw [frs_len]; show _ + 1 ≤ _; omega)).to (by unfold frs; rw [List.map_append]; rfl)) (Same.refl _) fun y H3 s3 hy => ?_
  obtain ⟨dx, vr, vw, vs, vp, e1, e2, e3, e4, e5⟩ := S2.same s3
  have s03 := (s1.trans s2).trans s3
  refine ⟨_, rfl, a, CS, dx, _, rfl, e1, C.cl, C.nd, (by show 4 < 1000; decide), ?_⟩
  rw [put4]
  have hi : hide (upd H3 a (.ins CS dx [("rule", vr), ("wishes", vw), ("schedule", vs), ("said", y)])) a = hide H3 a := by
    funext b
    show (if b = a then none else upd H3 a _ b) = if b = a then none else H3 b
    by_cases hb : b = a
    · rw [if_pos hb, if_pos hb]
    · rw [if_neg hb, if_neg hb, upd_ne hb]
  have tk : Tk H3 (hide H3 a) := fun c u r => by
    have ne : c ≠ a := fun z => by
      subst z
      rcases r with r | ⟨o, r⟩
      · rw [e1] at r; cases r
      · rw [e1] at r; cases r
    rcases r with r | ⟨o, r⟩
    · exact .inl (by show (if c = a then none else H3 c) = _; rw [if_neg ne]; exact r)
    · exact .inr ⟨o, by show (if c = a then none else H3 c) = _; rw [if_neg ne]; exact r⟩
  exact q _ (fun b o e => by rw [upd_ne (ne_of_none e hide_none)]; exact s03 _ _ (hide_same b o e)) ⟨dx, vr, vw, vs, y, upd_same, by rw [hi]; exact e2, by rw [hi]; exact e3, by rw [hi]; exact e4, by rw [hi]; exact Dat.tk tk (nls_map fun _ => rfl) hy⟩
/-- Sitting.__init__ -/
def spSitI (K : PySem.W.Frag) (CS CR : Addr) : Sp := fun vs H Q _ => ∃ (a dx : Addr) (n : Nat) (t : Term) (ws : List Rat) (sch : List Nat) (v1 v2 v3 : V),
  vs = [.ref a, v1, v2, v3] ∧ H a = some (.ins CS dx []) ∧ Dat K (hide H a) (.rule CR n (tD t)) v1 ∧ Dat K (hide H a) (.tup (frs ws)) v2 ∧ Dat K (hide H a) (.tup (natsD sch)) v3 ∧ ws.length = n ∧ n ≤ 900 ∧ (∀ x ∈ ws, 0 ≤ x ∧ x ≤ 1) ∧ sch.length ≤ 12 ∧ (∀ p ∈ sch, p < n) ∧ (∀ p, p < n → p ∈ sch) ∧
  ∀ H' : Hp, Same (hide H a) H' → Sit K CS CR H' a n t ws sch [] → Q .non H'
theorem put3 (r w s d : V) : putF "said" d (putF "schedule" s (putF "wishes" w (putF "rule" r []))) = ([("rule", r), ("wishes", w), ("schedule", s), ("said", d)] : List (Str × V)) := by
  have e1 : ¬ (("rule" : Str) = "said") := by decide +kernel
  have e2 : ¬ (("wishes" : Str) = "said") := by decide +kernel
  have e3 : ¬ (("schedule" : Str) = "said") := by decide +kernel
  have e4 : ¬ (("rule" : Str) = "schedule") := by decide +kernel
  have e5 : ¬ (("wishes" : Str) = "schedule") := by decide +kernel
  have e6 : ¬ (("rule" : Str) = "wishes") := by decide +kernel
  simp only [putF, if_neg e1, if_neg e2, if_neg e3, if_neg e4, if_neg e5, if_neg e6]
theorem putF_len (f : Str) (v : V) : ∀ fs : List (Str × V), (putF f v fs).length ≤ fs.length + 1
  | [] => Nat.le_refl _
  | (g, x) :: r => by
    show (if g = f then (g, v) :: r else (g, x) :: putF f v r).length ≤ _
    split
    · rw [List.length_cons, List.length_cons]; omega
    · rw [List.length_cons, List.length_cons]
      have := putF_len f v r
      omega
theorem ok_Sitting_init {CS CR : Addr} (W : Wd P K mg base) (C : SCls K CS) (F : DfI K mg "Sitting" CS "Sitting.__init__" s_Sitting_init) (G_check_wishes : C8.Cal P w K mg base 39 "check_wishes" (spChkW K CR) []) (G_check_schedule : C8.Cal P w K mg base 39 "check_schedule" (spChkS K CR) []) : C8.Mak P w K mg base 40 "Sitting" CS (spSitI K CS CR) [] := by
  refine mak_sp F sc_Sitting_init (fun _ _ _ _ _ _ us hl => match us, hl with | [_, _, _, _], _ => rfl) (fun vs H Q E ⟨a, dx, n, t, ws, sch, v1, v2, v3, e, _⟩ => by rw [e]; rfl) fun f cdv A outer s H vs Q E hr ⟨a, dx, n, t, ws, sch, v1, v2, v3, e, ha, h1, h2, h3, lw, hn, hw, l12, sl, sa, q⟩ => ?_
  subst e
  refine ⟨_, (pss_cons (ps_expr (C8.pe_c G_check_wishes hr (by omega) (by rfl) (pa_cons (pv 1) (pa_cons (pv 2) pa_nil))))
    (pss_cons (ps_expr (C8.pe_c G_check_schedule hr (by omega) (by rfl) (pa_cons (pv 1) (pa_cons (pv 3) pa_nil))))
    (pss_cons (ps_fld (pv 0) (pv 1) rfl)
    (pss_cons (ps_fld (pv 0) (pv 2) rfl)
    (pss_cons (ps_fld (pv 0) (pv 3) rfl)
    (pss_one (ps_fld (pv 0) (pe_tup pa_nil) rfl))))))), ?_⟩
  have hrng : ∀ p ∈ (sch.map fun (p : Nat) => (p : Int)), 0 ≤ p ∧ p < (n : Int) := fun p hp => by
    obtain ⟨r, hr', rfl⟩ := List.mem_map.mp hp
    have := sl r hr'
    omega
  refine EvD.use (K := K) (H := hide H a) (d := .non) (ed_call (ea_cons (ed_var rfl h1) (ea_cons (ed_var rfl h2) ea_nil)) ⟨ws, tD t, by omega, hw, by rw [lw], rfl⟩ rfl) hide_same fun _ H1 s1 _ => ?_
  refine EvD.use (K := K) (H := hide H a) (d := .non) (ed_call (ea_cons (ed_var rfl h1) (ea_cons (ed_var rfl h3) ea_nil)) ⟨n, sch.map fun (p : Nat) => (p : Int), tD t, by omega, ⟨by rw [List.length_map]; exact l12, hrng, fun p hp => List.mem_map.mpr ⟨p, sa p hp, rfl⟩⟩, by unfold natsD intsD; rw [List.map_map]; rfl, rfl⟩ rfl) (hide_same.trans s1) fun _ H2 s2 _ => ?_
  have s02 : Same (hide H a) H2 := (hide_same.trans s1).trans s2
  have ha2 : H2 a = some (.ins CS dx []) := s2 _ _ (s1 _ _ ha)
  refine ⟨_, rfl, _, rfl, a, CS, dx, [], rfl, ha2, C.cl, C.nr, by decide, _, rfl, _, rfl, a, CS, dx, _, rfl, upd_same, C.cl, C.nw, (by show 1 < 1000; decide), _, rfl, _, rfl, a, CS, dx, _, rfl, upd_same, C.cl, C.ns, ?_, ?_⟩
  · have := putF_len "wishes" v2 (putF "rule" v1 [])
    exact Nat.lt_of_le_of_lt this (by show 1 + 1 < 1000; decide)
  generalize hH : upd (upd (upd H2 a (.ins CS dx (putF "rule" v1 []))) a (.ins CS dx (putF "wishes" v2 (putF "rule" v1 [])))) a (.ins CS dx (putF "schedule" v3 (putF "wishes" v2 (putF "rule" v1 [])))) = H3
  have ha3 : H3 a = some (.ins CS dx (putF "schedule" v3 (putF "wishes" v2 (putF "rule" v1 [])))) := by rw [← hH, upd_same]
  have s3 : Same (hide H a) H3 := fun b o e => by
    rw [← hH, upd_ne (ne_of_none e hide_none), upd_ne (ne_of_none e hide_none), upd_ne (ne_of_none e hide_none)]
    exact s02 b o e
  show sFld _ (tVar 0) (tTup tNil) "said" _ _ H3
  unfold sFld
  refine EvD.use (K := K) (H := H3) (d := .tup []) (ed_tup ea_nil) (Same.refl _) fun y H4 s4 hy => ?_
  refine ⟨_, rfl, a, CS, dx, _, rfl, s4 _ _ ha3, C.cl, C.nd, ?_, ?_⟩
  · have h1 := putF_len "schedule" v3 (putF "wishes" v2 (putF "rule" v1 []))
    have h2 := putF_len "wishes" v2 (putF "rule" v1 [])
    have h3 := putF_len "rule" v1 []
    have h4 : ([] : List (Str × V)).length = 0 := rfl
    omega
  rw [put3]
  have s5 : Same (hide H a) (upd H4 a (.ins CS dx [("rule", v1), ("wishes", v2), ("schedule", v3), ("said", y)])) := fun b o e => by
    rw [upd_ne (ne_of_none e hide_none)]
    exact s4 _ _ (s3 _ _ e)
  have s6 := same_hide s5 hide_none
  have ha4 := s4 _ _ ha3
  refine q _ s5 ⟨dx, v1, v2, v3, y, upd_same, Dat.same s6 h1, Dat.same s6 h2, Dat.same s6 h3, ?_⟩
  obtain ⟨b, xs, rfl, sq, hx⟩ := hy
  obtain rfl : xs = [] := hx
  refine ⟨b, [], rfl, ?_, rfl⟩
  rcases sq with sq | sq
  · have ne : b ≠ a := fun z => by
      subst z
      rcases sq with sq | ⟨o, sq⟩
      · rw [ha4] at sq; cases sq
      · rw [ha4] at sq; cases sq
    have e : hide (upd H4 a (.ins CS dx [("rule", v1), ("wishes", v2), ("schedule", v3), ("said", V.ref b)])) a b = H4 b := by
      show (if b = a then none else upd H4 a _ b) = _
      rw [if_neg ne, upd_ne ne]
    rcases sq with sq | ⟨o, sq⟩
    · exact .inl (.inl (e.trans sq))
    · exact .inl (.inr ⟨o, e.trans sq⟩)
  · exact .inr sq
end
end Cb
set_option Elab.async false
set_option linter.all false
set_option maxRecDepth 100000
set_option maxHeartbeats 1000000
/-! walks of the law: whether a sitting tells the account -/
namespace Cb
open PySem PySem.Spec PyProof.Rows L2
theorem shaped_frs (xs : List Rat) : SeqAt.shaped (pyD (.tup (frs xs))) = true := by
  have h1 : ∀ xs : List Rat, PyData.canLayAll0 (pyDs (frs xs)) = true := fun xs => by
    induction xs with
    | nil => simp [frs, pyDs, PyData.canLayAll0]
    | cons x r ih =>
      show PyData.canLayAll0 (pyD (fr x) :: pyDs (frs r)) = true
      simp only [PyData.canLayAll0, ih, Bool.and_true]
      rfl
  have h2 : ∀ xs : List Rat, PyData.depthAll (pyDs (frs xs)) ≤ 1 := fun xs => by
    induction xs with
    | nil => simp [frs, pyDs, PyData.depthAll]
    | cons x r ih =>
      show PyData.depthAll (pyD (fr x) :: pyDs (frs r)) ≤ 1
      simp only [PyData.depthAll]
      refine Nat.max_le.mpr ⟨?_, ih⟩
      exact Nat.le_of_eq rfl
  unfold SeqAt.shaped
  rw [Bool.and_eq_true]
  constructor
  · show PyData.canLay0 (.tuple (pyDs (frs xs))) = true
    simp only [PyData.canLay0]
    exact h1 xs
  · show decide (PyData.depth (.tuple (pyDs (frs xs))) ≤ 64) = true
    simp only [PyData.depth]
    have := h2 xs
    exact decide_eq_true (by omega)
theorem noR_frs (xs : List Rat) : noR (.tup (frs xs)) = true := by
  show noRs (frs xs) = true
  induction xs with
  | nil => rfl
  | cons x r ih =>
    show (noR (fr x) && noRs (frs r)) = true
    rw [ih]; rfl
theorem eqv_frs (xs : List Rat) : PyData.eqv (pyD (.tup (frs xs))) (pyD (.tup (frs xs))) = true := by
  show PyData.eqv (.tuple (pyDs (frs xs))) (.tuple (pyDs (frs xs))) = true
  simp only [PyData.eqv]
  induction xs with
  | nil => simp [frs, pyDs, PyData.eqvAll]
  | cons x r ih =>
    show PyData.eqvAll (pyD (fr x) :: pyDs (frs r)) (pyD (fr x) :: pyDs (frs r)) = true
    simp only [PyData.eqvAll, ih, Bool.and_true]
    rw [eqv_fr]
    exact decide_eq_true rfl
section
variable {K : PySem.W.Frag} {σ : L2.St} {H : Hp} {ta tb' : TE} {d e : D}
theorem ed_neD (ha : EvD K ta σ H d) (hb : EvD K tb' σ H e) (nd : noR d = true) (ne : noR e = true) (sd : SeqAt.shaped (pyD d) = true) (se : SeqAt.shaped (pyD e) = true) : EvD K (tOp (rNeD K) ta tb') σ H (.bl (!PyData.eqv (pyD d) (pyD e))) :=
  ed_op ha hb fun x y H1 s hx hy Q q => ⟨_, _, dat_dp nd hx, dat_dp ne hy, sd, se, q _ _ (Same.refl _) rfl⟩
theorem ed_neFs {xs : List Rat} (ha : EvD K ta σ H (.tup (frs xs))) (hb : EvD K tb' σ H (.tup (frs xs))) : EvD K (tOp (rNeD K) ta tb') σ H (.bl false) :=
  (ed_neD ha hb (noR_frs xs) (noR_frs xs) (shaped_frs xs) (shaped_frs xs)).to (by rw [eqv_frs]; rfl)
theorem ed_neF {x : Rat} (ha : EvD K ta σ H (fr x)) (hb : EvD K tb' σ H (fr x)) : EvD K (tOp (rNeD K) ta tb') σ H (.bl false) :=
  (ed_neD ha hb rfl rfl rfl rfl).to (by rw [eqv_fr, decide_eq_true rfl]; rfl)
theorem ed_neSpk {sch : List Nat} {k : Nat} (ha : EvD K ta σ H (spkD sch k)) (hb : EvD K tb' σ H (spkD sch k)) : EvD K (tOp (rNeD K) ta tb') σ H (.bl false) := by
  unfold spkD at ha hb
  cases h : sch[k]? with
  | none =>
    rw [h] at ha hb
    exact (ed_neD ha hb rfl rfl rfl rfl).to rfl
  | some p =>
    rw [h] at ha hb
    refine (ed_neD ha hb rfl rfl rfl rfl).to (congrArg D.bl ?_)
    show (!((p : Int) == (p : Int))) = false
    rw [beq_self_eq_true]; rfl
theorem ed_eqP {P1 P2 : Rat → Prop} (ha : EvP K ta σ H (fun d => ∃ A, d = fr A ∧ P1 A)) (hb : EvP K tb' σ H (fun d => ∃ A, d = fr A ∧ P2 A)) (h : ∀ A B, P1 A → P2 B → A = B) : EvD K (tOp (rEqD K) ta tb') σ H (.bl true) := EvD.mk fun H0 s Q q =>
  ha H0 s _ fun x H1 d s1 ⟨A, e1, p1⟩ hx => hb H1 (s.trans s1) _ fun y H2 e s2 ⟨B, e2, p2⟩ hy => by
    subst e1 e2
    obtain rfl := h A B p1 p2
    refine ⟨_, _, dat_dp (d := fr A) rfl (Dat.same s2 hx), dat_dp (d := fr A) rfl hy, rfl, rfl, q _ H2 (s1.trans s2) ?_⟩
    show V.bl _ = V.bl _
    rw [eqv_fr, decide_eq_true rfl]
end
section
variable {P : Program} {w : World} {K : PySem.W.Frag} {mg : Str → Option Value} {base : Heap}
/-- _law_is_account: it does -/
def spAcct (K : PySem.W.Frag) (CS CR : Addr) : Sp := fun vs H Q _ => ∃ (a : Addr) (n Dn m : Nat) (t : Term) (ws : List Rat) (sch : List Nat) (pl : List Rat) (us : List V),
  vs = .ref a :: us ∧ Sit K CS CR H a n t ws sch pl ∧ Pl3 n Dn m t ws sch pl ∧ Dats K H [tD t, .tup (frs ws), .tup (natsD sch), .tup (frs pl)] us ∧ ∀ H', Same H H' → Q (.bl true) H'
theorem ok_L_is_account {CS CR : Addr} (W : Wd P K mg base) (C : SCls K CS) (F : Df K mg "_law_is_account" s_L_is_account) (G_L_bids : C8.Cal P w K mg base 33 "_law_bids" (spBidsL K) []) (G_L_value : C8.Cal P w K mg base 38 "_law_value" (spValL3 K) []) (G_L_left : C8.Cal P w K mg base 39 "_law_left" (spLeftL K) []) (G_L_later : C8.Cal P w K mg base 33 "_law_later" (spLaterLw K) [])
    (M_speaker : C8.Met P w K mg base 34 CS "speaker" (spSpk K CS CR) []) (M_play : C8.Met P w K mg base 33 CS "play" (spPlay K CS CR) []) (M_bids : C8.Met P w K mg base 34 CS "bids" (spBidsM K CS CR) []) (M_told : C8.Met P w K mg base 42 CS "told" (spToldM K CS CR) []) (M_foreseen : C8.Met P w K mg base 45 CS "foreseen" (spForeM K CS CR) []) :
    C8.Cal P w K mg base 46 "_law_is_account" (spAcct K CS CR) [] := by
  refine cal_sp F sc_L_is_account (fun _ _ _ _ _ _ us hl => match us, hl with | [_, _, _, _, _], _ => rfl) (fun vs H Q E ⟨a, n, Dn, m, t, ws, sch, pl, us, e, _, _, hd, _⟩ => by rw [e, List.length_cons, ← hd.length]; rfl) fun f cdv A outer s H vs Q E hr ⟨a, n, Dn, m, t, ws, sch, pl, us, e, S, P3, hd, q⟩ => ?_
  obtain ⟨u1, u2, u3, u4, rfl, hu1, hu2, hu3, hu4⟩ := dats4 hd
  subst e
  refine ⟨_, (pss_cons (ps_set (i := 5) sc_L_is_account.nd rfl (by first | exact Or.inl rfl | exact Or.inr rfl) (C8.pe_c G_L_bids hr (by omega) (by rfl) (pa_cons (pe_callB call_len_seq (by rfl) W.len b_len (pa_cons (pv 2) pa_nil)) (pa_cons (pv 3) (pa_cons (pv 4) pa_nil)))))
    (pss_cons (ps_set (i := 6) sc_L_is_account.nd rfl (by first | exact Or.inl rfl | exact Or.inr rfl) (pe_ifExp (pt_cmpR op_lt (pe_callB call_len_seq (by rfl) W.len b_len (pa_cons (pv 4) pa_nil)) (pe_callB call_len_seq (by rfl) W.len b_len (pa_cons (pv 3) pa_nil)) (nomark _)) (pe_ix ix_tup (pv 3) (pe_callB call_len_seq (by rfl) W.len b_len (pa_cons (pv 4) pa_nil)) (fun _ _ => rfl)) pe_non))
    (pss_cons (ps_set (i := 7) sc_L_is_account.nd rfl (by first | exact Or.inl rfl | exact Or.inr rfl) (C8.pe_mt0 M_speaker hr (by omega) (pv 0)))
    (pss_cons (ps_if (PW.pt (pw_or (pt_cmpR (op_neD (hu64 hr)) (pv 7) (pv 6) (nomark _)) (pw_or (pt_val (pe_callB call_isi (by rfl) W.isi b_isinstance (pa_cons (pv 7) (pa_cons (pe_bltn (v := .ty "bool") (by rfl) W.bool b_bool rfl) pa_nil)))) (pw_or (pt_cmpR (op_neD (hu64 hr)) (C8.pe_mt0 M_play hr (by omega) (pv 0)) (pv 4) (nomark _)) (pw_or1 (pt_cmpR (op_neD (hu64 hr)) (C8.pe_mt0 M_bids hr (by omega) (pv 0)) (pv 5) (nomark _))))))) (pss_one (ps_ret pe_bl)) pss_nil)
    (pss_cons (ps_if (PW.pt (pw_or (pt_not (pt_val (pe_callB call_isi (by rfl) W.isi b_isinstance (pa_cons (C8.pe_mt0 M_play hr (by omega) (pv 0)) (pa_cons (pe_bltn (v := .ty "tuple") (by rfl) W.tuple b_tuple rfl) pa_nil))))) (pw_or1 (pt_cmpR (op_neD (hu64 hr)) (C8.pe_mt0 M_told hr (by omega) (pv 0)) (C8.pe_c G_L_value hr (by omega) (by rfl) (pa_cons (pv 1) (pa_cons (pv 5) pa_nil))) (nomark _))))) (pss_one (ps_ret pe_bl)) pss_nil)
    (pss_one (ps_ret (pe_cmpR (op_eqD (hu64 hr)) (C8.pe_mt0 M_foreseen hr (by omega) (pv 0)) (C8.pe_c G_L_left hr (by omega) (by rfl) (pa_cons (pv 1) (pa_cons (pv 2) (pa_cons (pv 5) (pa_cons (C8.pe_c G_L_later hr (by omega) (by rfl) (pa_cons (pv 3) (pa_cons (pe_callB call_len_seq (by rfl) W.len b_len (pa_cons (pv 4) pa_nil)) pa_nil))) pa_nil))))) (nomark _))))))))), ?_⟩
  have hn := P3.hn
  have lw := P3.lw
  have lp := P3.lp
  have s64 := P3.s64
  have T := P3.T
  have bl := bidsOf_len n sch pl
  obtain ⟨lf1, lf2⟩ := laterL_facts (k := pl.length) P3.sl
  refine q_setD (K := K) (d := .tup (frs (bidsOf n sch pl))) (ed_call (ea_cons ((ed_lenT (ed_var rfl hu2)).to (d := _) (e' := .int ((n : Nat) : Int)) (by rw [frs_len, lw])) (ea_cons (ed_var rfl hu3) (ea_cons (ed_var rfl hu4) ea_nil))) ⟨n, sch, pl, by omega, P3.sl, lp, by omega, rfl, rfl⟩ rfl) (Same.refl _) fun vb H1 s1 hvb => ?_
  have len1 : ∀ {σ : L2.St} {H' : Hp} {x : Nat} {u : V}, σ[x]? = some (some u) → Dat K H' (.tup (frs pl)) u → EvD K (tCB (fun xs H Q => ∃ p ys, xs = [.ref p] ∧ (SqL K H p ys ∨ SqT K H p ys) ∧ Q (.int ys.length) H) (tCons (tVar x) tNil)) σ H' (.int (pl.length : Nat)) := fun h hd => (ed_lenT (ed_var h hd)).to (by rw [frs_len])
  have len2 : ∀ {σ : L2.St} {H' : Hp} {x : Nat} {u : V}, σ[x]? = some (some u) → Dat K H' (.tup (natsD sch)) u → EvD K (tCB (fun xs H Q => ∃ p ys, xs = [.ref p] ∧ (SqL K H p ys ∨ SqT K H p ys) ∧ Q (.int ys.length) H) (tCons (tVar x) tNil)) σ H' (.int (sch.length : Nat)) := fun h hd => (ed_lenT (ed_var h hd)).to (by unfold natsD; rw [List.length_map])
  refine q_setD (K := K) (d := spkD sch pl.length) (ed_ifE (et_test (K := K) (ed_lt (len1 rfl (Dat.same s1 hu4)) (len2 rfl (Dat.same s1 hu3)))) (fun e => ?_) (fun e => ?_)) (Same.refl _) fun vs2 H2 s2 hvs2 => ?_
  · have e := of_decide_eq_true e
    have hlt : pl.length < sch.length := by omega
    have hg := List.getElem?_eq_getElem hlt
    have : spkD sch pl.length = .int ((sch[pl.length] : Nat) : Int) := by
      unfold spkD
      rw [hg]
    rw [this]
    exact ed_ixT (ed_var rfl (Dat.same s1 hu3)) (len1 rfl (Dat.same s1 hu4)) (atI_nat (by unfold natsD; rw [List.getElem?_map, hg]; rfl))
  · have e := of_decide_eq_false e
    have : spkD sch pl.length = .non := by
      unfold spkD
      rw [List.getElem?_eq_none (by omega)]
    rw [this]
    exact ed_non
  have S2 := (S.same s1).same s2
  refine q_setD (K := K) (d := spkD sch pl.length) (ed_met (m := "speaker") S2 rfl ⟨lp, rfl⟩) (Same.refl _) fun vt H3 s3 hvt => ?_
  have S3 := S2.same s3
  have s03 := (s1.trans s2).trans s3
  have notbool : kitB (tyD (spkD sch pl.length)) "bool" = some false ∧ notR (spkD sch pl.length) = true := by
    unfold spkD
    cases sch[pl.length]? with
    | none => exact ⟨by decide +kernel, rfl⟩
    | some p => exact ⟨k_ib, rfl⟩
  have hvb3 := Dat.same (s2.trans s3) hvb
  refine q_if (H := H3) (b := false) (et_or (b := false) (c := false) (et_test (K := K) (ed_neSpk (ed_var rfl hvt) (ed_var rfl (Dat.same s3 hvs2)))) fun _ => et_or (b := false) (c := false) (et_val (ed_isi (ed_var rfl hvt) notbool.1 notbool.2)) fun _ => et_or (b := false) (c := false) (et_test (K := K) (ed_neFs (ed_met (m := "play") S3 rfl rfl) (ed_var rfl (Dat.same s03 hu4)))) fun _ => et_test (K := K) (ed_neFs (ed_met (m := "bids") S3 rfl ⟨by omega, P3.sl, rfl⟩) (ed_var rfl hvb3))) (Same.refl _) (fun e => nomatch e) fun _ H4 s4 => ?_
  have S4 := S3.same s4
  have s04 := s03.trans s4
  have hvb4 := Dat.same s4 hvb3
  refine q_if (H := H4) (b := false) (et_or (b := false) (c := false) (et_not (b := true) (et_val (ed_isi (d := .tup (frs pl)) (ed_met (m := "play") S4 rfl rfl) k_tt))) fun _ => et_test (K := K) (ed_neF (x := val (bN (bidsOf n sch pl)) t) (ed_met (m := "told") S4 rfl ⟨Dn, m, P3, rfl⟩) (ed_call (ea_cons (ed_var rfl (Dat.same s04 hu1)) (ea_cons (ed_var rfl hvb4) ea_nil)) ⟨t, bidsOf n sch pl, Dn, m, false, by rw [bl]; exact T.wf, bidsOf_mem P3.np, T.pos, T.sz, T.hm, rfl, rfl⟩ rfl))) (Same.refl _) (fun e => nomatch e) fun _ H5 s5 => ?_
  have S5 := S4.same s5
  have s05 := s04.trans s5
  refine q_retD (K := K) (H := H5) (d := .bl true) (ed_eqP (ep_met (m := "foreseen") S5 rfl ⟨Dn, m, P3, rfl⟩) (ep_call (post := fun d => ∃ A, d = fr A ∧ IsLeft t (bN ws) (bN (bidsOf n sch pl)) (inL ((asc n sch).filter fun i => decide (i ∈ sch.drop pl.length))) A ∧ Sz m A) (ea_cons (ed_var rfl (Dat.same s05 hu1)) (ea_cons (ed_var rfl (Dat.same s05 hu2)) (ea_cons (ed_var rfl (Dat.same s5 hvb4)) (ea_cons (ed_call (d := .lst (natsD ((asc n sch).filter fun i => decide (i ∈ sch.drop pl.length)))) (ea_cons (ed_var rfl (Dat.same s05 hu3)) (ea_cons (len1 rfl (Dat.same s05 hu4)) ea_nil)) ⟨n, sch, pl.length, P3.sl, by omega, s64, rfl, rfl⟩ rfl) ea_nil)))) ⟨n, Dn, m, t, ws, bidsOf n sch pl, _, P3.op _, by omega, fun q hq => P3.sl q (List.mem_of_mem_drop ((lf2 q).mp hq)), rfl, rfl⟩ rfl)
    fun A B hA hB => hA.uniq (hB.1.congr T.wf (fun r _ => decide_eq_decide.mpr (lf2 r)) (fun _ _ _ => rfl))) (Same.refl _) fun r H6 s6 h6 => ?_
  obtain rfl : r = .bl true := h6
  exact q H6 (s05.trans s6)
end
end Cb
set_option Elab.async false
set_option linter.all false
set_option maxRecDepth 100000
set_option maxHeartbeats 1000000
/-! the plain law: best ends, sizes, what stays foreseen -/
namespace Cb
open PySem PySem.Spec PyProof.Rows L2
theorem zip_snoc {α β : Type} : ∀ {l1 : List α} {l2 : List β} {p : α} {x : β}, l1[l2.length]? = some p → l1.zip (l2 ++ [x]) = l1.zip l2 ++ [(p, x)]
  | [], _, _, _, h => nomatch h
  | a :: r, [], p, x, h => by
    have : a = p := by simpa using h
    subst this
    simp
  | a :: r, b :: s, p, x, h => by
    show (a, b) :: r.zip (s ++ [x]) = (a, b) :: (r.zip s ++ [(p, x)])
    rw [zip_snoc (by simpa using h)]
theorem bids_snoc {n : Nat} {sch : List Nat} {pl : List Rat} {p : Nat} {x : Rat} (h : sch[pl.length]? = some p) : bidsOf n sch (pl ++ [x]) = (bidsOf n sch pl).set p x := by
  unfold bidsOf
  rw [zip_snoc h, List.foldl_append]
  rfl
theorem bids_put {n : Nat} {sch : List Nat} {pl : List Rat} {p q : Nat} {x : Rat} (h : sch[pl.length]? = some p) (hq : q < n) : bN (bidsOf n sch (pl ++ [x])) q = putB (bN (bidsOf n sch pl)) p x q := by
  rw [bids_snoc h, bN_set (by rw [bidsOf_len]; exact hq)]
  rfl
theorem drop_step {sch : List Nat} {k p : Nat} (h : sch[k]? = some p) : sch.drop k = p :: sch.drop (k + 1) := by
  obtain ⟨hk, e⟩ := List.getElem?_eq_some_iff.mp h
  rw [List.drop_eq_getElem_cons hk, e]
/-- just the bids between the ends bring it as near as any -/
theorem best_all {M : Nat} {F : Rat → Rat} {L : List (Rat × Rat)} {w e0 e1 x : Rat} (h : Ln M F L) (B : BestAt M F w e0 e1) (h0 : 0 ≤ x) (h1 : x ≤ 1) :
    ¬ dist (F x) w < dist (F e0) w ∧ ((e0 ≤ x ∧ x ≤ e1) ↔ dist (F x) w = dist (F e0) w) ∧ (e0 ≤ x → x ≤ e1 → F x = rk [w, F 0, F 1] 1) := by
  obtain ⟨B0, B1⟩ := B
  have m01 : F 0 ≤ F 1 := h.mono Rat.le_refl (by decide) Rat.le_refl
  have m0 : F 0 ≤ F x := h.mono Rat.le_refl h0 h1
  have m1 : F x ≤ F 1 := h.mono h0 h1 Rat.le_refl
  obtain ⟨n1, n2⟩ := near_mid (v := F x) m01 rfl m0 m1
  have mid : e0 ≤ x → x ≤ e1 → F x = rk [w, F 0, F 1] 1 := fun a b => by
    have a1 := h.mono B0.ge a h1
    have a2 := h.mono h0 b B1.le
    rw [B0.eq] at a1
    rw [B1.eq] at a2
    exact Rat.le_antisymm a2 a1
  rw [B0.eq]
  refine ⟨n1, ?_, mid⟩
  rw [n2]
  constructor
  · rintro ⟨a, b⟩
    exact mid a b
  · intro e
    exact ⟨B0.fst x h0 h1 (by rw [e]; exact Rat.le_refl), B1.lst x h0 h1 (by rw [e]; exact Rat.le_refl)⟩
theorem Nm.up {D D' : Nat} {q : Rat} (h : Nm D q) (hd : D ∣ D') : Nm D' q := ⟨h.1, h.2.1, Nat.dvd_trans h.2.2 hd⟩
theorem wf_dvd {n D D' : Nat} (hd : D ∣ D') : ∀ {d : Nat} {t : Term}, Wf n D d t → Wf n D' d t
  | 0, _, h => h.elim
  | d + 1, .bid p, h => h
  | d + 1, .fix q, h => Nm.up h hd
  | d + 1, .node o ts, ⟨h1, h2, h3, h4⟩ => ⟨h1, h2, by
      cases o with
      | mean ws => exact h3
      | least => exact h3
      | greatest => exact h3
      | ranked k => exact h3
      | between lo hi => exact ⟨h3.1, Nm.up h3.2.1 hd, Nm.up h3.2.2.1 hd, h3.2.2.2⟩, fun t ht => wf_dvd hd (h4 t ht)⟩
/-- a sitting and its sizes -/
structure Bg (n Dn a : Nat) (t : Term) (ws : List Rat) (sch : List Nat) (pl : List Rat) : Prop where
  wf : Wf n Dn 3 t
  l0 : L0 ∣ Dn
  pos : 0 < Dn
  da : Dn < 2 ^ a
  lz : lb t ≤ 288
  pz : wp t < 2 ^ 51
  hn : n ≤ 6
  lw : ws.length = n
  nw : ∀ x ∈ ws, Nm L0 x
  np : ∀ x ∈ pl, Nm Dn x
  sl : ∀ p ∈ sch, p < n
  s12 : sch.length ≤ 12
  lp : pl.length ≤ sch.length
section
variable {n Dn a : Nat} {t : Term} {ws : List Rat} {sch : List Nat} {pl : List Rat} {p : Nat} {x : Rat}
theorem Bg.wsz (B : Bg n Dn a t ws sch pl) : Dn * wp t < 2 ^ (a + 51) := by
  rw [Nat.pow_add]
  exact Nat.mul_lt_mul'' B.da B.pz
theorem Bg.pl3 (B : Bg n Dn a t ws sch pl) (ha : a + 51 ≤ MX) : Pl3 n Dn (a + 51) t ws sch pl :=
  ⟨⟨B.wf, B.pos, B.wsz, ha, B.lz⟩, B.hn, B.lw, fun x hx => (B.nw x hx).up B.l0, B.np, B.sl, by have := B.s12; omega, B.lp⟩
/-- one bid more -/
theorem Bg.more {b : Nat} (B : Bg n Dn a t ws sch pl) (hl : pl.length < sch.length) (h0 : 0 ≤ x) (h1 : x ≤ 1) (hx : x.den < 2 ^ b) : Bg n (Dn * x.den) (a + b) t ws sch (pl ++ [x]) where
  wf := wf_dvd (Nat.dvd_mul_right _ _) B.wf
  l0 := Nat.dvd_trans B.l0 (Nat.dvd_mul_right _ _)
  pos := Nat.mul_pos B.pos x.den_pos
  da := by
    rw [Nat.pow_add]
    exact Nat.mul_lt_mul'' B.da hx
  lz := B.lz
  pz := B.pz
  hn := B.hn
  lw := B.lw
  nw := B.nw
  np := fun y hy => by
    rcases List.mem_append.mp hy with hy | hy
    · exact (B.np y hy).up (Nat.dvd_mul_right _ _)
    · rw [List.mem_singleton.mp hy]
      exact ⟨h0, h1, Nat.dvd_mul_left _ _⟩
  sl := B.sl
  s12 := B.s12
  lp := by rw [List.length_append]; exact hl
/-- .. over the same bottom -/
theorem Bg.same (B : Bg n Dn a t ws sch pl) (hl : pl.length < sch.length) (hx : Nm Dn x) : Bg n Dn a t ws sch (pl ++ [x]) where
  wf := B.wf
  l0 := B.l0
  pos := B.pos
  da := B.da
  lz := B.lz
  pz := B.pz
  hn := B.hn
  lw := B.lw
  nw := B.nw
  np := fun y hy => by
    rcases List.mem_append.mp hy with hy | hy
    · exact B.np y hy
    · rw [List.mem_singleton.mp hy]
      exact hx
  sl := B.sl
  s12 := B.s12
  lp := by rw [List.length_append]; exact hl
theorem Bg.up {a' : Nat} (B : Bg n Dn a t ws sch pl) (h : a ≤ a') : Bg n Dn a' t ws sch pl := { B with da := Nat.lt_of_lt_of_le B.da (Nat.pow_le_pow_right (by decide) h) }
end
/-- the ends of best bids, as told -/
def EndsOk (n Dn : Nat) (t : Term) (ws : List Rat) (sch : List Nat) (pl : List Rat) (p : Nat) (e0 e1 : Rat) : Prop :=
  if p ∈ sch.drop (pl.length + 1) then e0 = 0 ∧ e1 = 1 else ∃ L F, Ln (Dn * wp t) F L ∧ (∀ x, IsLeft t (bN ws) (putB (bN (bidsOf n sch pl)) p x) (openL sch (pl.length + 1)) (F x)) ∧ BestAt (Dn * wp t) F (bN ws p) e0 e1
section
variable {n Dn a : Nat} {t : Term} {ws : List Rat} {sch : List Nat} {pl : List Rat} {p : Nat} {e0 e1 x : Rat}
theorem EndsOk.rng (E : EndsOk n Dn t ws sch pl p e0 e1) (hD : 0 < Dn * wp t) : (0 ≤ e0 ∧ e0 ≤ 1 ∧ e0.den ≤ Dn * wp t) ∧ (0 ≤ e1 ∧ e1 ≤ 1 ∧ e1.den ≤ Dn * wp t) := by
  unfold EndsOk at E
  split at E
  · obtain ⟨rfl, rfl⟩ := E
    exact ⟨⟨by decide, by decide, hD⟩, by decide, by decide, hD⟩
  · obtain ⟨L, F, hL, hF, B0, B1⟩ := E
    exact ⟨⟨B0.ge, B0.le, B0.dn⟩, B1.ge, B1.le, B1.dn⟩
/-- what a tried bid brings -/
theorem EndsOk.test (E : EndsOk n Dn t ws sch pl p e0 e1) (hw : Wf n Dn 3 t) (hp : sch[pl.length]? = some p) {A0 A : Rat} (h0 : 0 ≤ x) (h1 : x ≤ 1)
    (hA0 : IsLeft t (bN ws) (bN (bidsOf n sch (pl ++ [e0]))) (openL sch (pl.length + 1)) A0) (hA : IsLeft t (bN ws) (bN (bidsOf n sch (pl ++ [x]))) (openL sch (pl.length + 1)) A) :
    ¬ dist A (bN ws p) < dist A0 (bN ws p) ∧ ((e0 ≤ x ∧ x ≤ e1) ↔ dist A (bN ws p) = dist A0 (bN ws p)) := by
  unfold EndsOk at E
  split at E
  · rename_i hm
    obtain ⟨rfl, rfl⟩ := E
    have e : A = A0 := hA.uniq (hA0.congr hw (fun _ _ => rfl) fun q hq hS => by
      rw [bids_put hp hq, bids_put hp hq]
      unfold putB
      by_cases hqp : q = p
      · subst hqp
        have := of_decide_eq_false hS
        exact absurd hm this
      · rw [if_neg hqp, if_neg hqp])
    subst e
    exact ⟨Rat.lt_irrefl, ⟨fun _ => rfl, fun _ => ⟨h0, h1⟩⟩⟩
  · obtain ⟨L, F, hL, hF, B⟩ := E
    have key : ∀ {y A : Rat}, IsLeft t (bN ws) (bN (bidsOf n sch (pl ++ [y]))) (openL sch (pl.length + 1)) A → A = F y := fun {y A} h => (h.congr hw (fun _ _ => rfl) fun q hq _ => bids_put hp hq).uniq (hF y)
    rw [key hA0, key hA]
    obtain ⟨b1, b2, _⟩ := best_all hL B h0 h1
    exact ⟨b1, b2⟩
/-- a best bid leaves what is foreseen -/
theorem EndsOk.keeps (E : EndsOk n Dn t ws sch pl p e0 e1) (hw : Wf n Dn 3 t) (hp : sch[pl.length]? = some p) {A : Rat} (h0 : 0 ≤ x) (h1 : x ≤ 1) (hx0 : e0 ≤ x) (hx1 : x ≤ e1)
    (hA : IsLeft t (bN ws) (bN (bidsOf n sch pl)) (openL sch pl.length) A) : IsLeft t (bN ws) (bN (bidsOf n sch (pl ++ [x]))) (openL sch (pl ++ [x]).length) A := by
  have ds := drop_step hp
  have hop : ∀ q, q ≠ p → openL sch pl.length q = openL sch (pl.length + 1) q := fun q hq => by
    unfold openL
    rw [ds]
    exact decide_eq_decide.mpr ⟨fun h => (List.mem_cons.mp h).elim (fun z => absurd z hq) id, List.mem_cons_of_mem _⟩
  have hop2 : openL sch pl.length p = true := by
    unfold openL
    rw [ds]
    exact decide_eq_true List.mem_cons_self
  rw [show (pl ++ [x]).length = pl.length + 1 by rw [List.length_append]; rfl]
  unfold EndsOk at E
  split at E
  · rename_i hm
    refine hA.congr hw (fun q _ => ?_) fun q hq hS => ?_
    · by_cases hqp : q = p
      · subst hqp
        rw [hop2]
        exact (decide_eq_true hm).symm
      · exact hop q hqp
    · rw [bids_put hp hq]
      unfold putB
      rw [if_neg]
      intro z
      subst z
      rw [hop2] at hS; cases hS
  · rename_i hm
    obtain ⟨L, F, hL, hF, B⟩ := E
    have hop3 : openL sch (pl.length + 1) p = false := decide_eq_false hm
    obtain ⟨_, eA⟩ := left_step hw hop2 hop3 hop hA (hF 0) (hF 1)
    obtain ⟨_, _, b3⟩ := best_all hL B h0 h1
    have := hF x
    rw [b3 hx0 hx1, ← eA] at this
    exact this.congr hw (fun _ _ => rfl) fun q hq _ => (bids_put hp hq).symm
end
/-! how many are still to bid -/
def opens (n : Nat) (sch : List Nat) (k : Nat) : Nat := (List.range n).countP fun q => decide (q ∈ sch.drop k)
theorem countP_lt {f g : Nat → Bool} {p : Nat} (hfg : ∀ q, f q = true → g q = true) (hf : f p = false) (hg : g p = true) : ∀ {l : List Nat}, p ∈ l → l.countP f + 1 ≤ l.countP g
  | a :: r, h => by
    rw [List.countP_cons, List.countP_cons]
    have mono : r.countP f ≤ r.countP g := List.countP_mono_left fun q _ => hfg q
    rcases List.mem_cons.mp h with e | h
    · subst e
      rw [hf, hg]
      simp only [if_true, Bool.false_eq_true, if_false]
      omega
    · have ih := countP_lt hfg hf hg h
      cases e : f a with
      | true =>
        rw [hfg a e]
        simp only [if_true]
        omega
      | false =>
        simp only [Bool.false_eq_true, if_false]
        omega
theorem opens_le (n : Nat) (sch : List Nat) (k : Nat) : opens n sch k ≤ n := by
  have := List.countP_le_length (p := fun q => decide (q ∈ sch.drop k)) (l := List.range n)
  rw [List.length_range] at this
  exact this
theorem opens_fin {n : Nat} {sch : List Nat} {k p : Nat} (h : sch[k]? = some p) (hp : p < n) (hm : p ∉ sch.drop (k + 1)) : opens n sch (k + 1) + 1 ≤ opens n sch k := by
  have ds := drop_step h
  refine countP_lt (p := p) (fun q hq => ?_) (decide_eq_false hm) ?_ (List.mem_range.mpr hp)
  · rw [ds]
    exact decide_eq_true (List.mem_cons_of_mem _ (of_decide_eq_true hq))
  · rw [ds]
    exact decide_eq_true List.mem_cons_self
theorem opens_mono {n : Nat} {sch : List Nat} {k p : Nat} (h : sch[k]? = some p) : opens n sch (k + 1) ≤ opens n sch k := by
  have ds := drop_step h
  refine List.countP_mono_left fun q _ hq => ?_
  rw [ds]
  exact decide_eq_true (List.mem_cons_of_mem _ (of_decide_eq_true hq))
/-- how long a bottom may be behind so many last bids -/
def EX : Nat → Nat
  | 0 => 27
  | c + 1 => 2 * EX c + 218
theorem EX_mono {c d : Nat} (h : c ≤ d) : EX c ≤ EX d := by
  induction h with
  | refl => exact Nat.le_refl _
  | step _ ih => refine Nat.le_trans ih ?_; show EX _ ≤ 2 * EX _ + 218; omega
theorem EX_le {c : Nat} (h : c ≤ 6) : EX c ≤ 20000 := Nat.le_trans (EX_mono h) (by decide)
def hf : Rat := ⟨1, 2, by decide, by decide⟩
theorem fr_hf : fr hf = .tup [.int 1, .int 2] := rfl
theorem hf_two : hf * 2 = 1 := by decide +kernel
theorem half_facts {x y : Rat} (hx0 : 0 ≤ x) (hx1 : x ≤ 1) (hy0 : 0 ≤ y) (hy1 : y ≤ 1) : 0 ≤ (x + y) * hf ∧ (x + y) * hf ≤ 1 ∧ (x ≤ y → x ≤ (x + y) * hf ∧ (x + y) * hf ≤ y) := by
  have h : (x + y) * hf * 2 = x + y := by rw [Rat.mul_assoc, hf_two, Rat.mul_one]
  generalize (x + y) * hf = z at h
  refine ⟨by grind, by grind, fun _ => ⟨by grind, by grind⟩⟩
theorem half_den {x : Rat} {k : Nat} (hx : x.den ≤ k) : (x * hf).den ≤ 2 * k ∧ ((x + 1) * hf).den ≤ 2 * k := by
  have h : x * (x.den : Rat) = (x.num : Rat) := by exact_mod_cast mul_den x
  have h2 := hf_two
  have hp : 0 < 2 * x.den := by have := x.den_pos; omega
  have c2 : ((2 * x.den : Nat) : Rat) = 2 * (x.den : Rat) := by norm_cast
  constructor
  · refine Nat.le_trans (den_le (n := 2 * x.den) (z := x.num) hp ?_) (by omega)
    rw [c2]
    calc x * hf * (2 * (x.den : Rat)) = (hf * 2) * (x * (x.den : Rat)) := by grind
      _ = (x.num : Rat) := by rw [h2, h, Rat.one_mul]
  · refine Nat.le_trans (den_le (n := 2 * x.den) (z := x.num + x.den) hp ?_) (by omega)
    rw [c2]
    have c3 : ((x.num + (x.den : Int) : Int) : Rat) = (x.num : Rat) + (x.den : Rat) := by norm_cast
    rw [c3]
    calc (x + 1) * hf * (2 * (x.den : Rat)) = (hf * 2) * (x * (x.den : Rat) + (x.den : Rat)) := by grind
      _ = (x.num : Rat) + (x.den : Rat) := by rw [h2, h, Rat.one_mul]
end Cb
set_option Elab.async false
set_option linter.all false
set_option maxRecDepth 100000
set_option maxHeartbeats 1000000
/-! walks of the law: whether just the bids between the ends are best -/
namespace Cb
open PySem PySem.Spec PyProof.Rows L2
section
variable {K : PySem.W.Frag} {σ : L2.St} {H B : Hp} {p : Addr} {ta tb' : TE} {k c : Nat} {R : List D → Prop} {L : Addr × List Int}
theorem ed_neB {i j : Bool} (ha : EvD K ta σ H (.bl i)) (hb : EvD K tb' σ H (.bl j)) : EvD K (tOp rNe ta tb') σ H (.bl (!decide (i = j))) :=
  ed_op ha hb fun x y H1 s hx hy Q q => by
    rw [show x = .bl i from hx, show y = .bl j from hy]
    refine ⟨rfl, q _ _ (Same.refl _) ?_⟩
    show V.bl _ = V.bl _
    rw [show decide (V.bl i = V.bl j) = decide (i = j) from decide_eq_decide.mpr ⟨fun e => V.bl.inj e, fun e => by rw [e]⟩]
/-- a written list of drawn things, a list of one's own -/
theorem q_lstX {t : TA} {D' : Ends} {H0 : Hp} {i : Nat} {u : TS} (h : EvXA K t σ p B k R) (s : Same B H0) (hD : Dice K H0 p c L) (hc : c + k ≤ CM) (hz : ∀ ds, R ds → ds.length ≤ 1000)
    (q : ∀ r vs H1 ds, Same (hide H0 p) H1 → Dice K H1 p (c + k) L → H1 r = none → R ds → Dats K (hide H1 p) ds vs → u D' (σ.set i (some (.ref r))) (upd H1 r (.lst vs))) : tSeq (tAsg (tLst t) (gName i)) u D' σ H0 :=
  h H0 c L s hD hc _ fun vs H1 ds s1 D1 hR hd => ⟨Nat.le_of_lt (small1000 (by rw [← hd.length]; exact hz ds hR)), fun r hr => q r vs H1 ds s1 D1 hr hR hd⟩
end
theorem dist_sz {m : Nat} {A w : Rat} (h1 : Sz m A) (h2 : Sz m w) : Sz (m + m + 1) (dist A w) := by
  unfold dist
  split
  · exact h2.sub h1
  · exact h1.sub h2
section
variable {P : Program} {w : World} {K : PySem.W.Frag} {mg : Str → Option Value} {base : Heap}
abbrev spIsBest (K : PySem.W.Frag) : Sp := spDi K 5 2 fun ds post => ∃ (n Dn a : Nat) (t : Term) (ws : List Rat) (sch : List Nat) (pl : List Rat) (p : Nat) (e0 e1 : Rat), Bg n Dn a t ws sch pl ∧ a ≤ 20000 ∧ sch[pl.length]? = some p ∧ EndsOk n Dn t ws sch pl p e0 e1 ∧ ds = [tD t, .tup (frs ws), .tup (natsD sch), .tup (frs pl), .tup [fr e0, fr e1]] ∧ post = fun d => d = .bl true
theorem ok_L_is_best (W : Wd P K mg base) (F : Df K mg "_law_is_best" s_L_is_best) (G_L_near : C8.Cal P w K mg base 40 "_law_near" (spNearL K) []) (G_L_number : C8.Cal P w K mg base 34 "_law_number" (spNum K) []) (G_L_product : C8.Cal P w K mg base 34 "_law_product" (spProdL K) []) (G_L_sum : C8.Cal P w K mg base 34 "_law_sum" (spSumL K) []) (G_L_less : C8.Cal P w K mg base 33 "_law_less" (spLess K) []) : C8.Cal P w K mg base 41 "_law_is_best" (spIsBest K) [] := by
  refine cal_sp F sc_L_is_best (fun _ _ _ _ _ _ us hl => match us, hl with | [_, _, _, _, _, _], _ => rfl) (fun vs H Q E ⟨p, xs, ds, post, c, L, e, hl, _⟩ => by rw [e, List.length_cons, hl]; rfl) fun f cdv A outer s H vs Q E hr ⟨r, xs, ds, post, c, L, e, hl, ⟨n, Dn, a, t, ws, sch, pl, p, e0, e1, B, ha, hp, EO, e2, e3⟩, hD, hc, hd, q⟩ => ?_
  subst e2 e3
  obtain ⟨u1, u2, u3, u4, u5, rfl, hu1, hu2, hu3, hu4, hu5⟩ := dats5 hd
  subst e
  refine ⟨_, (pss_cons (ps_if (PW.pt (pw_or (pt_not (pt_val (pe_callB call_isi (by rfl) W.isi b_isinstance (pa_cons (pv 5) (pa_cons (pe_bltn (v := .ty "tuple") (by rfl) W.tuple b_tuple rfl) pa_nil))))) (pw_or1 (pt_cmpR op_ne (pe_callB call_len_seq (by rfl) W.len b_len (pa_cons (pv 5) pa_nil)) pe_int (nomark _))))) (pss_one (ps_ret pe_bl)) pss_nil)
    (pss_cons (ps_set (i := 6) sc_L_is_best.nd rfl (by first | exact Or.inl rfl | exact Or.inr rfl) (C8.pe_c G_L_near hr (by omega) (by rfl) (pa_cons (pv 1) (pa_cons (pv 2) (pa_cons (pv 3) (pa_cons (pv 4) (pa_cons (pe_ix ix_tup (pv 5) pe_int (fun _ _ => rfl)) pa_nil)))))))
    (pss_cons (ps_set (i := 7) sc_L_is_best.nd rfl (by first | exact Or.inl rfl | exact Or.inr rfl) (pe_lst (pa_cons (pe_tup (pa_cons pe_int (pa_cons pe_int pa_nil))) (pa_cons (pe_tup (pa_cons pe_int (pa_cons pe_int pa_nil))) (pa_cons (pe_ix ix_tup (pv 5) pe_int (fun _ _ => rfl)) (pa_cons (pe_ix ix_tup (pv 2) (pe_ix ix_tup (pv 3) (pe_callB call_len_seq (by rfl) W.len b_len (pa_cons (pv 4) pa_nil)) (fun _ _ => rfl)) (fun _ _ => rfl)) (pa_cons (C8.pe_c G_L_number hr (by omega) (by rfl) (pa_cons (pv 0) pa_nil)) pa_nil)))))))
    (pss_cons (ps_expr (pe_bm PySem.F.plainAttrs_list PySem.F.slot_list_append PySem.F.type_list_append mt_append (pv 7) (pa_cons (C8.pe_c G_L_product hr (by omega) (by rfl) (pa_cons (pe_ix ix_tup (pv 5) pe_int (fun _ _ => rfl)) (pa_cons (pe_tup (pa_cons pe_int (pa_cons pe_int pa_nil))) pa_nil))) pa_nil)))
    (pss_cons (ps_expr (pe_bm PySem.F.plainAttrs_list PySem.F.slot_list_append PySem.F.type_list_append mt_append (pv 7) (pa_cons (C8.pe_c G_L_product hr (by omega) (by rfl) (pa_cons (C8.pe_c G_L_sum hr (by omega) (by rfl) (pa_cons (pe_ix ix_tup (pv 5) pe_int (fun _ _ => rfl)) (pa_cons (pe_tup (pa_cons pe_int (pa_cons pe_int pa_nil))) (pa_cons pe_int pa_nil)))) (pa_cons (pe_tup (pa_cons pe_int (pa_cons pe_int pa_nil))) pa_nil))) pa_nil)))
    (pss_cons (ps_for PassesOwn.never rfl (pi_list (pv 7)) (pg_name (i := 8) sc_L_is_best.nd rfl (by first | exact Or.inl rfl | exact Or.inr rfl))
    (pss_cons (ps_set (i := 9) sc_L_is_best.nd rfl (by first | exact Or.inl rfl | exact Or.inr rfl) (C8.pe_c G_L_near hr (by omega) (by rfl) (pa_cons (pv 1) (pa_cons (pv 2) (pa_cons (pv 3) (pa_cons (pv 4) (pa_cons (pv 8) pa_nil)))))))
    (pss_cons (ps_set (i := 10) sc_L_is_best.nd rfl (by first | exact Or.inl rfl | exact Or.inr rfl) (pe_and (pe_not (C8.pe_c G_L_less hr (by omega) (by rfl) (pa_cons (pv 8) (pa_cons (pe_ix ix_tup (pv 5) pe_int (fun _ _ => rfl)) pa_nil)))) (pe_one (pe_not (C8.pe_c G_L_less hr (by omega) (by rfl) (pa_cons (pe_ix ix_tup (pv 5) pe_int (fun _ _ => rfl)) (pa_cons (pv 8) pa_nil)))))))
    (pss_one (ps_if (PW.pt (pw_or (pt_val (C8.pe_c G_L_less hr (by omega) (by rfl) (pa_cons (pv 9) (pa_cons (pv 6) pa_nil)))) (pw_or1 (pt_cmpR op_ne (pv 10) (pe_cmpR (op_eqD (hu64 hr)) (pv 9) (pv 6) (nomark _)) (nomark _))))) (pss_one (ps_ret pe_bl)) pss_nil)))))
    (pss_one (ps_ret pe_bl)))))))), ?_⟩
  have hlt : pl.length < sch.length := (List.getElem?_eq_some_iff.mp hp).1
  have hpn : p < n := B.sl p (List.mem_of_getElem? hp)
  have lw := B.lw
  have hM : 0 < Dn * wp t := Nat.mul_pos B.pos (wp_pos B.wf)
  have hMl := B.wsz
  obtain ⟨⟨g0, g1, g2⟩, k0, k1, k2⟩ := EO.rng hM
  have h53 : 2 ^ (a + 51) * 4 = 2 ^ (a + 53) := (Nat.pow_add 2 (a + 51) 2).symm
  have hbig : 2 ^ 51 ≤ 2 ^ (a + 51) := Nat.pow_le_pow_right (by decide) (by omega)
  have hD27 : Dn < 2 ^ (a + 51) := Nat.lt_of_lt_of_le B.da (Nat.pow_le_pow_right (by decide) (by omega))
  have hL0 : L0 < 2 ^ (a + 51) := Nat.lt_of_le_of_lt (Nat.le_of_dvd B.pos B.l0) hD27
  have mmx : a + (a + 53) + 51 ≤ MX := by unfold MX; omega
  have p3 : ∀ {x : Rat}, 0 ≤ x → x ≤ 1 → x.den < 2 ^ (a + 53) → Pl3 n (Dn * x.den) (a + (a + 53) + 51) t ws sch (pl ++ [x]) := fun h0 h1 hx => (B.more hlt h0 h1 hx).pl3 mmx
  have wsz : Sz (a + (a + 53) + 51) (bN ws p) := (B.nw _ (bN_mem (by omega))).sz (by decide) (Nat.lt_of_lt_of_le hL0 (Nat.pow_le_pow_right (by decide) (by omega)))
  have lenE : EvD K (tCB (fun xs H Q => ∃ p ys, xs = [.ref p] ∧ (SqL K H p ys ∨ SqT K H p ys) ∧ Q (.int ys.length) H) (tCons (tVar 4) tNil)) (L2.start n_L_is_best [.ref r, u1, u2, u3, u4, u5]) (hide H r) (.int (pl.length : Nat)) := (ed_lenT (ed_var rfl hu4)).to (by rw [frs_len])
  refine q_if (H := hide H r) (b := false) (et_or (b := false) (c := false) (et_not (b := true) (et_val (ed_isi (ed_var rfl hu5) k_tt))) fun _ => et_test (ed_neI (ed_lenT (ed_var rfl hu5)) ed_int)) hide_same (fun e => nomatch e) fun _ H1 s1 => ?_
  have s01 : Same (hide H r) H1 := hide_same.trans s1
  refine q_set (K := K) (H := hide H r) (post := fun d => ∃ A0, d = fr (dist A0 (bN ws p)) ∧ IsLeft t (bN ws) (bN (bidsOf n sch (pl ++ [e0]))) (openL sch (pl.length + 1)) A0 ∧ Sz (a + (a + 53) + 51) A0) (ep_call (ea_cons (ed_var rfl hu1) (ea_cons (ed_var rfl hu2) (ea_cons (ed_var rfl hu3) (ea_cons (ed_var rfl hu4) (ea_cons (ed_ixT (d := fr e0) (i := 0) (ed_var rfl hu5) ed_int rfl) ea_nil))))) ⟨n, _, _, t, ws, sch, pl, e0, p, p3 g0 g1 (by omega), hp, rfl, rfl⟩ rfl) s01 fun v6 H2 d s2 ⟨A0, ed, hA0, zA0⟩ hv6 => ?_
  subst ed
  have s02 : Same (hide H r) H2 := s01.trans s2
  have D2 := hD.same (s1.trans s2)
  have hv6' : Dat K (hide H2 r) (fr (dist A0 (bN ws p))) v6 := Dat.hideN D2 rfl hv6
  have sB : Same (hide H r) (hide H2 r) := same_hide s02 hide_none
  have b1 := Dat.same sB hu1
  have b2 := Dat.same sB hu2
  have b3 := Dat.same sB hu3
  have b4 := Dat.same sB hu4
  have b5 := Dat.same sB hu5
  refine q_lstX (B := hide H2 r) (R := fun ds => ∃ z, ds = [fr 0, fr 1, fr e1, fr (bN ws p), fr z] ∧ Nm L0 z) ((xa_cons hide_none (ex_ofD (d := fr 0) (ed_tup (ea_cons ed_int (ea_cons ed_int ea_nil)))) (xa_cons hide_none (ex_ofD (d := fr 1) (ed_tup (ea_cons ed_int (ea_cons ed_int ea_nil)))) (xa_cons hide_none (ex_ofD (d := fr e1) (ed_ixT (i := 1) (ed_var rfl b5) ed_int rfl)) (xa_cons hide_none (ex_ofD (d := fr (bN ws p)) (ed_ixT (ed_var rfl b2) (ed_ixT (d := .int (p : Nat)) (ed_var rfl b3) ((ed_lenT (ed_var rfl b4)).to (by rw [frs_len])) (atI_nat (by unfold natsD; rw [List.getElem?_map, hp]; rfl))) (atI_frs (bN_get (by omega))))) (xa_cons hide_none (ex_num rfl) xa_nil))))).imp fun ds ⟨d1, r1, q1, q2, d2, r2, q3, q4, d3, r3, q5, q6, d4, r4, q7, q8, d5, r5, q9, ⟨z, q10, hz⟩, q11⟩ => ⟨z, by subst q11 q10 q9 q8 q7 q6 q5 q4 q3 q2 q1; rfl, hz⟩) hide_same D2 (by omega) (fun ds ⟨z, ed, _⟩ => by rw [ed]; exact Nat.le_of_ble_eq_true rfl) fun l vs H3 ds s3 D3 hl ⟨z, ed, hz⟩ hvs => ?_
  subst ed
  have lr : l ≠ r := D3.ne hl
  have hlb : hide H3 r l = none := by show (if l = r then none else H3 l) = _; rw [if_neg lr]; exact hl
  have sC : Same (hide H2 r) (hide H3 r) := same_hide s3 hide_none
  -- all that is wanted stands at this base
  have c1 := Dat.same sC b1
  have c2 := Dat.same sC b2
  have c3 := Dat.same sC b3
  have c4 := Dat.same sC b4
  have c5 := Dat.same sC b5
  have c6 := Dat.same sC hv6'
  have sD : Same (hide H3 r) (upd H3 l (.lst vs)) := hide_same.trans (same_upd hl)
  have D4 := D3.same (same_upd (o := .lst vs) hl)
  refine q_append (post := fun d => d = fr (e0 * hf)) (vv_var rfl) (ed_call (ea_cons (ed_ixT (d := fr e0) (i := 0) (ed_var rfl c5) ed_int rfl) (ea_cons (ed_tup (ds := [.int 1, .int 2]) (ea_cons ed_int (ea_cons ed_int ea_nil))) ea_nil)) ⟨e0, hf, a + 51, Sz.unit g0 g1 (by omega), Sz.unit (by decide +kernel) (by decide +kernel) (by show 2 < _; omega), by unfold LIM; omega, trivial, rfl, rfl⟩ rfl) sD ⟨vs, upd_same, by rw [← hvs.length]; exact Nat.le_of_ble_eq_true rfl⟩ fun H4 xs d v s4 h4 h4' pd hv => ?_
  subst pd
  rw [upd_same] at h4'
  obtain rfl : vs = xs := by
    have := Option.some.inj h4'
    cases this; rfl
  have s34 : Same (hide H3 r) H4 := sD.trans s4
  have sE : Same (hide H3 r) (upd H4 l (.lst (vs ++ [v]))) := fun b o e => by
    rw [upd_ne (ne_of_none e hlb)]
    exact s34 _ _ e
  have D5 : Dice K (upd H4 l (.lst (vs ++ [v]))) r (c + 2) L := D3.put (D4.same s4) lr sE
  have tk4 : Tk H4 (upd H4 l (.lst (vs ++ [v]))) := tk_upd h4
  have hvs4 : Dats K (upd H4 l (.lst (vs ++ [v]))) [fr 0, fr 1, fr e1, fr (bN ws p), fr z, fr (e0 * hf)] (vs ++ [v]) := (Dats.tk tk4 (nls_frs [0, 1, e1, bN ws p, z]) (Dats.same (hide_same.trans ((same_upd hl).trans s4)) hvs)).snoc (Dat.tk tk4 rfl hv)
  have h5a : upd H4 l (.lst (vs ++ [v])) l = some (.lst (vs ++ [v])) := upd_same
  generalize upd H4 l (.lst (vs ++ [v])) = H5 at sE D5 hvs4 h5a ⊢
  refine q_append (post := fun d => d = fr ((e1 + 1) * hf)) (vv_var rfl) (ed_call (ea_cons (ed_call (d := fr (e1 + 1)) (ea_cons (ed_ixT (d := fr e1) (i := 1) (ed_var rfl c5) ed_int rfl) (ea_cons (ed_tup (ds := [.int 1, .int 1]) (ea_cons ed_int (ea_cons ed_int ea_nil))) (ea_cons ed_int ea_nil))) ⟨e1, 1, a + 51, 1, Sz.unit k0 k1 (by omega), Sz.unit (by decide) (by decide) (by show 1 < _; omega), by unfold LIM; omega, .inl rfl, rfl, rfl⟩ rfl) (ea_cons (ed_tup (ds := [.int 1, .int 2]) (ea_cons ed_int (ea_cons ed_int ea_nil))) ea_nil)) ⟨e1 + 1, hf, a + 51 + (a + 51) + 1, (Sz.unit k0 k1 (by omega)).add (Sz.unit (by decide) (by decide) (by show 1 < _; omega)), Sz.unit (by decide +kernel) (by decide +kernel) (Nat.lt_of_lt_of_le (by decide : 2 < 2 ^ 2) (Nat.pow_le_pow_right (by decide) (by omega))), by unfold LIM; omega, trivial, rfl, rfl⟩ rfl) sE ⟨_, h5a, by rw [← hvs4.length]; exact Nat.le_of_ble_eq_true rfl⟩ fun H6 xs d v2 s6 h6 h6' pd hv2 => ?_
  subst pd
  rw [h5a] at h6'
  obtain rfl : vs ++ [v] = xs := by
    have := Option.some.inj h6'
    cases this; rfl
  have s36 : Same (hide H3 r) H6 := sE.trans s6
  have sF : Same (hide H3 r) (upd H6 l (.lst (vs ++ [v] ++ [v2]))) := fun b o e => by
    rw [upd_ne (ne_of_none e hlb)]
    exact s36 _ _ e
  have D7 : Dice K (upd H6 l (.lst (vs ++ [v] ++ [v2]))) r (c + 2) L := D3.put (D5.same s6) lr sF
  have tk6 : Tk H6 (upd H6 l (.lst (vs ++ [v] ++ [v2]))) := tk_upd h6
  have hvs6 : Dats K (upd H6 l (.lst (vs ++ [v] ++ [v2]))) (frs [0, 1, e1, bN ws p, z, e0 * hf, (e1 + 1) * hf]) (vs ++ [v] ++ [v2]) := (Dats.tk tk6 (nls_frs [0, 1, e1, bN ws p, z, e0 * hf]) (Dats.same s6 hvs4)).snoc (Dat.tk tk6 rfl hv2)
  have h7a : upd H6 l (.lst (vs ++ [v] ++ [v2])) l = some (.lst (vs ++ [v] ++ [v2])) := upd_same
  generalize upd H6 l (.lst (vs ++ [v] ++ [v2])) = H7 at sF D7 hvs6 h7a ⊢
  have okx : ∀ x ∈ [0, 1, e1, bN ws p, z, e0 * hf, (e1 + 1) * hf], 0 ≤ x ∧ x ≤ 1 ∧ x.den < 2 ^ (a + 53) := fun x hx => by
    have w0 := B.nw _ (bN_mem (bs := ws) (p := p) (by omega))
    have dle : ∀ {y : Rat}, Nm L0 y → y.den < 2 ^ (a + 53) := fun {y} hy => by
      have := Nat.le_of_dvd (by decide : 0 < L0) hy.2.2
      omega
    obtain ⟨f0, f1, _⟩ := half_facts g0 g1 (show (0 : Rat) ≤ 0 by decide) (by decide)
    obtain ⟨f2, f3, _⟩ := half_facts k0 k1 (show (0 : Rat) ≤ 1 by decide) (by decide)
    rw [Rat.add_zero] at f0 f1
    have d0 := (half_den g2).1
    have d1 := (half_den k2).2
    simp only [List.mem_cons, List.not_mem_nil, or_false] at hx
    rcases hx with rfl | rfl | rfl | rfl | rfl | rfl | rfl
    · exact ⟨by decide, by decide, by show 1 < _; omega⟩
    · exact ⟨by decide, by decide, by show 1 < _; omega⟩
    · exact ⟨k0, k1, by omega⟩
    · exact ⟨w0.1, w0.2.1, dle w0⟩
    · exact ⟨hz.1, hz.2.1, dle hz⟩
    · exact ⟨f0, f1, by omega⟩
    · exact ⟨f2, f3, by omega⟩
  have t1 := Dat.same sF c1
  have t2 := Dat.same sF c2
  have t3 := Dat.same sF c3
  have t4 := Dat.same sF c4
  have t5 := Dat.same sF c5
  have t6 := Dat.same sF c6
  refine q_forB (K := K) (H := H7) (ei_list (vv_var rfl) ⟨l, _, rfl, SqL.of h7a, hvs6⟩) (Same.refl _) fun Hb H8 sb s8 _ sb8 => ?_
  refine ⟨fun i σ H' => ∃ y8 y9 y10, σ = [some (.ref r), some u1, some u2, some u3, some u4, some u5, some v6, some (.ref l), y8, y9, y10] ∧ Same Hb H', ⟨none, none, none, rfl, sb8⟩, fun i σ H' ⟨_, _, _, _, h⟩ => h, ?_, ?_⟩
  · rintro i d x σ H9 H10 hi ⟨y8, y9, y10, rfl, b9⟩ s10 hx
    obtain ⟨xq, hxm, rfl⟩ := frs_get hi
    obtain ⟨x0, x1, xd⟩ := okx xq (List.mem_of_getElem? hxm)
    have s710 : Same H7 H10 := (sb.trans b9).trans s10
    refine q_set (K := K) (H := H10) (post := fun d => ∃ A, d = fr (dist A (bN ws p)) ∧ IsLeft t (bN ws) (bN (bidsOf n sch (pl ++ [xq]))) (openL sch (pl.length + 1)) A ∧ Sz (a + (a + 53) + 51) A) (ep_call (ea_cons (ed_var rfl (Dat.same s710 t1)) (ea_cons (ed_var rfl (Dat.same s710 t2)) (ea_cons (ed_var rfl (Dat.same s710 t3)) (ea_cons (ed_var rfl (Dat.same s710 t4)) (ea_cons (ed_var rfl hx) ea_nil))))) ⟨n, _, _, t, ws, sch, pl, xq, p, p3 x0 x1 xd, hp, rfl, rfl⟩ rfl) (Same.refl _) fun v9 H11 d s11 ⟨A, ed, hA, zA⟩ hv9 => ?_
    subst ed
    have s711 := s710.trans s11
    have hx11 := Dat.same s11 hx
    have zx : Sz (a + 53) xq := Sz.unit x0 x1 xd
    have ze0 : Sz (a + 53) e0 := Sz.unit g0 g1 (by omega)
    have ze1 : Sz (a + 53) e1 := Sz.unit k0 k1 (by omega)
    have lim1 : a + 53 ≤ LIM := by unfold LIM; omega
    obtain ⟨n1, n2⟩ := EO.test B.wf hp x0 x1 hA0 hA
    refine q_setD (K := K) (H := H11) (d := .bl (!decide (xq < e0) && !decide (e1 < xq))) (ed_andV (ed_notV (ed_call (ea_cons (ed_var rfl hx11) (ea_cons (ed_ixT (d := fr e0) (i := 0) (ed_var rfl (Dat.same s711 t5)) ed_int rfl) ea_nil)) ⟨xq, e0, a + 53, zx, ze0, lim1, rfl, rfl⟩ rfl)) fun _ => ed_notV (ed_call (ea_cons (ed_ixT (d := fr e1) (i := 1) (ed_var rfl (Dat.same s711 t5)) ed_int rfl) (ea_cons (ed_var rfl hx11) ea_nil)) ⟨e1, xq, a + 53, ze1, zx, lim1, rfl, rfl⟩ rfl)) (Same.refl _) fun v10 H12 s12 hv10 => ?_
    obtain rfl : v10 = .bl (!decide (xq < e0) && !decide (e1 < xq)) := hv10
    have hv9' := Dat.same s12 hv9
    have t6' := Dat.same (s711.trans s12) t6
    have eb : (!decide (xq < e0) && !decide (e1 < xq)) = decide (dist A (bN ws p) = dist A0 (bN ws p)) := by
      rw [Bool.eq_iff_iff, Bool.and_eq_true, Bool.not_eq_true', Bool.not_eq_true', decide_eq_false_iff_not, decide_eq_false_iff_not, decide_eq_true_eq, ← n2, Rat.not_lt, Rat.not_lt]
    refine q_if1 (H := H12) (b := false) (et_or (b := false) (c := false) (et_val ((ed_call (K := K) (ea_cons (ed_var rfl hv9') (ea_cons (ed_var rfl t6') ea_nil)) ⟨_, _, _, dist_sz zA wsz, dist_sz zA0 wsz, by unfold LIM; omega, rfl, rfl⟩ rfl).to (congrArg D.bl (decide_eq_false n1)))) fun _ => (et_test (K := K) (ed_neB (ed_var (d := .bl (!decide (xq < e0) && !decide (e1 < xq))) rfl rfl) (ed_eqF (ed_var rfl hv9') (ed_var rfl t6')))).to (by rw [eb, decide_eq_true rfl]; rfl)) (Same.refl _) (fun e => nomatch e) fun _ H13 s13 => ?_
    exact ⟨some x, some v9, some (.bl (!decide (xq < e0) && !decide (e1 < xq))), rfl, ((((b9.trans s10).trans s11).trans s12).trans s13)⟩
  · rintro σ H9 ⟨y8, y9, y10, rfl, b9⟩
    have sall : Same (hide H r) H7 := (sB.trans sC).trans sF
    exact q_retD (K := K) (d := .bl true) ed_bl (Same.refl _) fun rr H10 s10 h10 => q rr H10 _ (sall.trans ((sb.trans b9).trans s10)) (D7.same ((sb.trans b9).trans s10)) rfl (Dat.hideN (D7.same ((sb.trans b9).trans s10)) rfl h10)
end
end Cb
set_option Elab.async false
set_option linter.all false
set_option maxRecDepth 100000
set_option maxHeartbeats 1000000
/-! walks of the law: the dice are made; two at once; and, not -/
namespace Cb
open PySem PySem.Spec PyProof.Rows L2
section
variable {P : Program} {w : World} {K : PySem.W.Frag} {mg : Str → Option Value} {base : Heap}
def spMkDice (K : PySem.W.Frag) : Sp := fun vs H Q _ => ∃ (a : Addr) (ns : List Int), vs = [.ref a] ∧ SqL K H a (ns.map V.int) ∧ ns.length ≤ 1000 ∧ ∀ p H' L, H p = none → Same H H' → Dice K H' p 0 L → Q (.ref p) H'
theorem ok_L_dice (W : Wd P K mg base) (F : Df K mg "_law_dice" s_L_dice) : C8.Cal P w K mg base 33 "_law_dice" (spMkDice K) [] := by
  refine cal_sp F sc_L_dice (fun _ _ _ _ _ _ us hl => match us, hl with | [_], _ => rfl) (fun vs H Q E ⟨a, ns, e, _⟩ => by rw [e]; rfl) fun f cdv A outer s H vs Q E hr ⟨a, ns, e, hs, hl, q⟩ => ?_
  subst e
  refine ⟨_, (pss_one (ps_ret (pe_lst (pa_cons (pe_lc (own := [("_law_cell", 1)]) (g := gName 1) (tt := tYes) rfl sc_L_dice.nd (pi_list (pe_slice sl_list (pv 0) po_none (po_some pe_int))) (blkOk_by (N := n_L_dice) (sc := defScope s_L_dice) (by decide +kernel)) (fun _ _ _ _ _ => (pg_name (i := 1) sc_L_dice.nd rfl (by first | exact Or.inl rfl | exact Or.inr rfl))) (fun _ _ _ _ _ => pts_nil) (fun _ _ _ _ _ => (pe_callB call_abs (by rfl) W.abs b_abs (pa_cons (pe_callTy call_int1 (by rfl) W.int b_int (pa_cons (pv 1) pa_nil)) pa_nil)))) (pa_cons pe_int (pa_cons pe_int (pa_cons pe_int (pa_cons pe_int pa_nil)))))))), ?_⟩
  have hd : Dat K H (.lst (ns.map D.int)) (.ref a) := ⟨a, _, rfl, hs, Dats.ints ns⟩
  unfold tRet tLst
  rw [tCons]
  refine el_lcA (K := K) (l := ns.take 63) (G := D.int) (F := fun i => .int (i.natAbs : Nat)) (p := fun _ => true) (outs := ((ns.take 63).map fun i => ((i.natAbs : Nat) : Int)).map D.int) ((by rw [List.map_take]; exact ei_to (k := 63) (vv_var rfl) hd vv_c)) (fun _ => rfl) (fun _ _ => rfl) (by rw [List.length_take]; omega) (fun i x H1 hi s1 hx => ⟨et_yes, fun _ => ed_abs (ed_int1 (ed_var rfl hx))⟩) (by rw [filt_true, List.map_map]; rfl) H (Same.refl _) _ fun l xs H1 ds s1 hl1 hx e => ?_
  subst e
  obtain rfl := Dats.ints_inv hx
  refine ⟨by show 5 ≤ sizeLine; decide, fun p hp => ?_⟩
  have lp : l ≠ p := fun z => by rw [z, hp] at hl1; cases hl1
  refine q p _ (l, (ns.take 63).map fun i => ((i.natAbs : Nat) : Int)) (s1.free hp) (s1.trans (same_upd hp)) ⟨0, 0, 1, 0, upd_same, ?_, fun x hx => ?_, by decide, by decide, by decide, by decide, by decide, by decide⟩
  · refine SqL.of ?_
    show (if l = p then none else upd H1 p _ l) = _
    rw [if_neg lp, upd_ne lp]
    exact hl1
  · obtain ⟨i, _, rfl⟩ := List.mem_map.mp hx
    omega
end
section
variable {K : PySem.W.Frag} {σ : L2.St} {B H : Hp} {p : Addr} {te ta tb' : TE} {k c : Nat} {post : D → Prop} {L : Addr × List Int}
theorem q_asg2X {i j : Nat} {D' : Ends} {H0 : Hp} {u : TS} {post : D → D → Prop} (h : EvX K te σ p B k (fun d => ∃ d1 d2, d = .tup [d1, d2] ∧ post d1 d2)) (hn : ∀ d1 d2, post d1 d2 → nl d1 = true ∧ nl d2 = true) (s : Same B H0) (hD : Dice K H0 p c L) (hc : c + k ≤ CM)
    (q : ∀ x y H1 d1 d2, Same (hide H0 p) H1 → Dice K H1 p (c + k) L → post d1 d2 → Dat K (hide H1 p) d1 x → Dat K (hide H1 p) d2 y → u D' ((σ.set i (some x)).set j (some y)) H1) : tSeq (tAsg te (gTup K 2 (gCons (gName i) (gCons (gName j) gNil)))) u D' σ H0 :=
  h H0 c L s hD hc _ fun v H1 d s1 D1 ⟨d1, d2, e, hp⟩ hv => by
    subst e
    exact g_tup2 (Dat.same hide_same hv) fun u v hu hv => q u v H1 d1 d2 s1 D1 hp (Dat.hideN D1 (hn d1 d2 hp).1 hu) (Dat.hideN D1 (hn d1 d2 hp).2 hv)
theorem ex_andV {b : Bool} (h : EvX K ta σ p B k (fun d => ∃ c, d = .bl c)) (hB : B p = none) (h2 : EvD K tb' σ B (.bl b)) : EvX K (tAndV ta tb') σ p B k (fun d => ∃ c, d = .bl c ∧ (c = true → b = true)) := fun H0 c L s D hc Q q =>
  h H0 c L s D hc _ fun x H1 d s1 D1 ⟨b1, e⟩ hx => by
    subst e
    obtain rfl : x = .bl b1 := hx
    refine ⟨b1, rfl, ?_⟩
    cases b1 with
    | true => exact iteT (h2.use (off_base hB s s1) fun y H2 s2 hy => q y H2 (.bl b) (s1.trans s2) (D1.same s2) ⟨b, rfl, id⟩ hy)
    | false => exact iteF (q _ H1 (.bl false) s1 D1 ⟨false, rfl, fun z => nomatch z⟩ rfl)
theorem xt_not {t : TT} {P : Bool → Prop} (h : EvXT K t σ p B k P) : EvXT K (tNot t) σ p B k (fun b => P (!b)) := fun H0 c L s D hc Q q =>
  h H0 c L s D hc _ fun b H1 s1 D1 hb => q (!b) H1 s1 D1 (by show P (!(!b)); rw [Bool.not_not]; exact hb)
theorem xt_val {P : Bool → Prop} (h : EvX K te σ p B k (fun d => ∃ b, d = .bl b ∧ P b)) : EvXT K (tB te) σ p B k P := fun H0 c L s D hc Q q =>
  h H0 c L s D hc _ fun v H' d s1 D1 ⟨b, e, hb⟩ hd => by subst e; exact ⟨b, hd, q b H' s1 D1 hb⟩
end
end Cb
set_option Elab.async false
set_option linter.all false
set_option maxRecDepth 100000
set_option maxHeartbeats 1000000
/-! the sitting beside the dice -/
namespace Cb
open PySem PySem.Spec PyProof.Rows L2
section
variable {K : PySem.W.Frag} {σ : L2.St} {B H H' : Hp} {p a CS CR : Addr} {c : Nat} {L : Addr × List Int} {n Dn d : Nat} {t : Term} {ws : List Rat} {sch : List Nat} {pl : List Rat} {x : Rat}
theorem Sit.ne (S : Sit K CS CR H a n t ws sch pl) (D : Dice K H p c L) : a ≠ p := fun z => by
  subst z
  obtain ⟨xs, e⟩ := D.at
  obtain ⟨dx, vr, vw, vs, vp, h1, _⟩ := S
  rw [e] at h1; cases h1
theorem Sit.off (S : Sit K CS CR H a n t ws sch pl) (D : Dice K H p c L) (hw : Wf n Dn d t) : Sit K CS CR (hide H p) a n t ws sch pl := by
  have ne := S.ne D
  obtain ⟨xs, ep⟩ := D.at
  obtain ⟨dx, vr, vw, vs, vp, h1, h2, h3, h4, h5⟩ := S
  have tk : Tk (hide H a) (hide (hide H p) a) := fun c u r => by
    have go : ∀ (o : HO), hide H a c = some o → (∀ ys, o ≠ .lst ys) → hide (hide H p) a c = some o := fun o ho hn => by
      have hca : c ≠ a := fun z => by rw [z, hide_none] at ho; cases ho
      have e : hide H a c = H c := if_neg hca
      rw [e] at ho
      have hcp : c ≠ p := fun z => by
        rw [z, ep] at ho
        cases ho
        exact hn _ rfl
      show (if c = a then none else if c = p then none else H c) = _
      rw [if_neg hca, if_neg hcp]
      exact ho
    rcases r with r | ⟨o, r⟩
    · exact .inl (go _ r fun ys z => by cases z)
    · exact .inr ⟨o, go _ r fun ys z => by cases z⟩
  refine ⟨dx, vr, vw, vs, vp, by show (if a = p then none else H a) = _; rw [if_neg ne]; exact h1, ?_, Dat.tk tk (nls_frs _) h3, Dat.tk tk (nls_map fun _ => rfl) h4, Dat.tk tk (nls_frs _) h5⟩
  obtain ⟨ra, dx', tv, e, s, r⟩ := h2
  refine ⟨ra, dx', tv, e, ?_, Dat.tk tk (nl_tD hw) r⟩
  have hca : ra ≠ a := fun z => by rw [z, hide_none] at s; cases s
  have e : hide H a ra = H ra := if_neg hca
  rw [e] at s
  have hcp : ra ≠ p := fun z => by rw [z, ep] at s; cases s
  show (if ra = a then none else if ra = p then none else H ra) = _
  rw [if_neg hca, if_neg hcp]
  exact s
theorem Dice.offS (D : Dice K H p c L) (S : Sit K CS CR H a n t ws sch pl) (s : Same (hide H a) H') : Dice K H' p c L := by
  have ne := S.ne D
  obtain ⟨dx, vr, vw, vs, vp, h1, _⟩ := S
  obtain ⟨i, dig, seed, cnt, e, sq, r⟩ := D
  refine ⟨i, dig, seed, cnt, s _ _ (by show (if p = a then none else H p) = _; rw [if_neg (Ne.symm ne)]; exact e), ?_, r⟩
  rcases sq with sq | sq
  · have hL : ∀ o, hide H p L.1 = some o → (∀ C dx fs, o ≠ .ins C dx fs) → hide H' p L.1 = some o := fun o ho hn => by
      have h1p : L.1 ≠ p := fun z => by rw [z, hide_none] at ho; cases ho
      have e1 : hide H p L.1 = H L.1 := if_neg h1p
      rw [e1] at ho
      have h1a : L.1 ≠ a := fun z => by
        rw [z, h1] at ho
        cases ho
        exact hn _ _ _ rfl
      show (if L.1 = p then none else H' L.1) = _
      rw [if_neg h1p]
      exact s _ _ (by show (if L.1 = a then none else H L.1) = _; rw [if_neg h1a]; exact ho)
    rcases sq with sq | ⟨o, sq⟩
    · exact .inl (.inl (hL _ sq fun _ _ _ z => by cases z))
    · exact .inl (.inr ⟨o, hL _ sq fun _ _ _ z => by cases z⟩)
  · exact .inr sq
theorem ed_acct {i m : Nat} {ta : TA} {E : XK} (S : Sit K CS CR H a n t ws sch pl) (P3 : Pl3 n Dn m t ws sch pl) (h : σ[i]? = some (some (.ref a))) (ha : EvA K ta σ H [tD t, .tup (frs ws), .tup (natsD sch), .tup (frs pl)]) : EvD K (tCall (spAcct K CS CR) [] E (tCons (tVar i) ta)) σ H (.bl true) := EvD.mk fun H0 s Q q =>
  ⟨_, h, ha H0 s _ fun vs H1 s1 hd => ⟨a, n, Dn, m, t, ws, sch, pl, vs, by rw [List.append_nil], (S.same s).same s1, P3, hd, fun H2 s2 => q _ H2 (s1.trans s2) rfl⟩⟩
theorem et_bid {i j : Nat} {v : V} {E : XK} {Q : Bool → Hp → Prop} (S : Sit K CS CR H a n t ws sch pl) (h : σ[i]? = some (some (.ref a))) (hv : σ[j]? = some (some v)) (hx : Dat K (hide H a) (fr x) v) (h0 : 0 ≤ x) (h1 : x ≤ 1) (hlt : pl.length < sch.length) (hz : pl.length ≤ 900)
    (q : ∀ H', Same (hide H a) H' → Sit K CS CR H' a n t ws sch (pl ++ [x]) → Q false H') :
    tTest (tOp (fun x y H Q => y = .non ∧ Q (.bl (!decide (x = .non))) H) (tMeth CS "bid" (spBidM K CS CR) [] E (tVar i) (tCons (tVar j) tNil)) (tC .non)) σ H Q := by
  obtain ⟨dx, vr, vw, vs, vp, e1, _⟩ := id S
  refine ⟨_, h, a, dx, _, rfl, e1, ?_, v, hv, a, n, t, ws, sch, pl, x, v, rfl, S, hx, h0, h1, hlt, hz, fun H' s' S' => ⟨rfl, false, ?_, q H' s' S'⟩⟩
  · rw [lkS, if_neg (by decide +kernel), if_neg (by decide +kernel), if_neg (by decide +kernel), if_neg (by decide +kernel)]
  · rfl
/-- a new sitting -/
theorem te_mkSit {ta : TA} {E : XK} {Q : VK} (h : EvA K ta σ H [.rule CR n (tD t), .tup (frs ws), .tup (natsD sch)]) (lw : ws.length = n) (hn : n ≤ 900) (hw : ∀ x ∈ ws, 0 ≤ x ∧ x ≤ 1) (l12 : sch.length ≤ 12) (sl : ∀ p ∈ sch, p < n) (sa : ∀ p, p < n → p ∈ sch) {H0 : Hp} (s : Same H H0)
    (q : ∀ a H', Same H0 H' → H0 a = none → Sit K CS CR H' a n t ws sch [] → Q (.ref a) H') : tMake CS (spSitI K CS CR) [] E ta σ H0 Q :=
  h H0 s _ fun vs H1 s1 hd => fun x dx hx hdx ne => by
    obtain ⟨v1, v2, v3, rfl, h1, h2, h3⟩ := dats3 hd
    have sx : Same H1 (hide (upd (upd H1 dx (.own x)) x (.ins CS dx [])) x) := same_hide (fun b o e => by rw [upd_ne (ne_of_none e hx), upd_ne (ne_of_none e hdx)]; exact e) hx
    exact ⟨x, dx, n, t, ws, sch, v1, v2, v3, rfl, upd_same, Dat.same sx h1, Dat.same sx h2, Dat.same sx h3, lw, hn, hw, l12, sl, sa, fun H' s' S => ⟨rfl, q x H' ((s1.trans sx).trans s') (s1.free hx) S⟩⟩
end
end Cb
set_option Elab.async false
set_option linter.all false
set_option maxRecDepth 100000
set_option maxHeartbeats 2000000
/-! walks of the law: the law -/
namespace Cb
open PySem PySem.Spec PyProof.Rows L2
section
variable {K : PySem.W.Frag} {σ : L2.St} {B H H' : Hp} {p a CS CR : Addr} {c k : Nat} {L : Addr × List Int} {n Dn d : Nat} {t : Term} {ws : List Rat} {sch : List Nat} {pl : List Rat} {x : Rat}
theorem EvXT.imp {tt : TT} {P1 P2 : Bool → Prop} (h : EvXT K tt σ p B k P1) (hi : ∀ b, P1 b → P2 b) : EvXT K tt σ p B k P2 := fun H0 c L s D hc Q q => h H0 c L s D hc Q fun b H1 s1 D1 hb => q b H1 s1 D1 (hi b hb)
theorem EvXT.le {tt : TT} {k2 : Nat} {P1 : Bool → Prop} (h : EvXT K tt σ p B k P1) (hk : k ≤ k2) : EvXT K tt σ p B k2 P1 := fun H0 c L s D hc Q q => h H0 c L s D (by omega) Q fun b H1 s1 D1 hb => q b H1 s1 (D1.le (by omega)) hb
theorem q_ifX1 {D' : Ends} {H0 : Hp} {t : TT} {P : Bool → Prop} {u1 u2 : TS} (h : EvXT K t σ p B k P) (s : Same B H0) (hD : Dice K H0 p c L) (hc : c + k ≤ CM) (q1 : P true → ∀ H1, Same (hide H0 p) H1 → Dice K H1 p (c + k) L → u1 D' σ H1) (q2 : P false → ∀ H1, Same (hide H0 p) H1 → Dice K H1 p (c + k) L → u2 D' σ H1) : tIfS t u1 u2 D' σ H0 :=
  h H0 c L s hD hc _ fun b H1 s1 D1 hb => by
    cases b with
    | true => exact iteT (q1 hb H1 s1 D1)
    | false => exact iteF (q2 hb H1 s1 D1)
theorem Dat.hideS {d : D} {v : V} (S : Sit K CS CR H a n t ws sch pl) (hn : nl d = true) (h : Dat K H d v) : Dat K (hide H a) d v := by
  obtain ⟨dx, vr, vw, vs, vp, e1, _⟩ := S
  refine Dat.tk (fun c u r => ?_) hn h
  have ne : c ≠ a := fun z => by
    subst z
    rcases r with r | ⟨o, r⟩
    · rw [e1] at r; cases r
    · rw [e1] at r; cases r
  rcases r with r | ⟨o, r⟩
  · exact .inl (by show (if c = a then none else H c) = _; rw [if_neg ne]; exact r)
  · exact .inr ⟨o, by show (if c = a then none else H c) = _; rw [if_neg ne]; exact r⟩
end
theorem q_te {te : TE} {i : Nat} {u : TS} {D' : Ends} {σ : L2.St} {H0 : Hp} (h : te σ H0 (fun v H1 => u D' (σ.set i (some v)) H1)) : tSeq (tAsg te (gName i)) u D' σ H0 := h
/-- all along a play of best bids alone -/
def Keeps (t : Term) (ws : List Rat) (n : Nat) (sch : List Nat) (pl : List Rat) : Prop := ∀ V, (∀ b, IsLeft t (bN ws) b (fun _ => true) V) → IsLeft t (bN ws) (bN (bidsOf n sch pl)) (openL sch pl.length) V
structure EndF (n Dn : Nat) (t : Term) (ws : List Rat) (sch : List Nat) (pl : List Rat) (q : Nat) (ba : Bool) (e0 e1 : Rat) : Prop where
  l0 : 0 ≤ e0 ∧ e0 ≤ 1 ∧ e0.den ≤ Dn * wp t
  l1 : 0 ≤ e1 ∧ e1 ≤ 1 ∧ e1.den ≤ Dn * wp t
  z : q ∈ sch.drop (pl.length + 1) → e0 = 0 ∧ e1 = 1
  b : ba = true → EndsOk n Dn t ws sch pl q e0 e1
theorem EndsOk.le {n Dn : Nat} {t : Term} {ws : List Rat} {sch : List Nat} {pl : List Rat} {q : Nat} {e0 e1 : Rat} (E : EndsOk n Dn t ws sch pl q e0 e1) : e0 ≤ e1 := by
  unfold EndsOk at E
  split at E
  · rw [E.1, E.2]; decide
  · obtain ⟨L, F, hL, hF, B0, B1⟩ := E
    exact B0.fst e1 B1.ge B1.le (by rw [B1.eq]; exact Rat.le_refl)
structure BidF (n Dn a : Nat) (sch : List Nat) (i q : Nat) (ba : Bool) (e0 e1 x : Rat) : Prop where
  ge : 0 ≤ x
  le : x ≤ 1
  dn : x.den < 2 ^ (a + 218)
  nm : q ∈ sch.drop (i + 1) → Nm Dn x
  b : ba = true → e0 ≤ x ∧ x ≤ e1
theorem hf_nm {Dn : Nat} (h : L0 ∣ Dn) : Nm Dn hf := ⟨by decide +kernel, by decide +kernel, Nat.dvd_trans (by decide +kernel) h⟩
theorem bid_any {n Dn a q : Nat} {t : Term} {ws : List Rat} {sch : List Nat} {pl : List Rat} {ba : Bool} {e0 e1 x : Rat} (B : Bg n Dn a t ws sch pl) (E : EndF n Dn t ws sch pl q ba e0 e1) (hb : ba = false) (hx : Nm L0 x ∨ x = e0 ∨ x = e1) : BidF n Dn a sch pl.length q ba e0 e1 x := by
  have hM := B.wsz
  have h1 : 2 ^ (a + 51) ≤ 2 ^ (a + 218) := Nat.pow_le_pow_right (by decide) (by omega)
  have h2 : 2 ^ 27 ≤ 2 ^ (a + 218) := Nat.pow_le_pow_right (by decide) (by omega)
  have l0 := E.l0
  have l1 := E.l1
  rcases hx with hx | rfl | rfl
  · have : x.den ≤ 119997960 := Nat.le_of_dvd (by decide : 0 < L0) hx.2.2
    exact ⟨hx.1, hx.2.1, by omega, fun _ => hx.up B.l0, fun z => by rw [hb] at z; cases z⟩
  · exact ⟨l0.1, l0.2.1, by omega, fun hq => by rw [(E.z hq).1]; exact nm0, fun z => by rw [hb] at z; cases z⟩
  · exact ⟨l1.1, l1.2.1, by omega, fun hq => by rw [(E.z hq).2]; exact nm1, fun z => by rw [hb] at z; cases z⟩
theorem bid_best {n Dn a q : Nat} {t : Term} {ws : List Rat} {sch : List Nat} {pl : List Rat} {ba : Bool} {e0 e1 x : Rat} (B : Bg n Dn a t ws sch pl) (E : EndF n Dn t ws sch pl q ba e0 e1) (hb : ba = true) (hx : x = e0 ∨ x = e1 ∨ x = (e0 + e1) * hf ∧ x.den < 10 ^ 50) : BidF n Dn a sch pl.length q ba e0 e1 x := by
  have hM := B.wsz
  have h1 : 2 ^ (a + 51) ≤ 2 ^ (a + 218) := Nat.pow_le_pow_right (by decide) (by omega)
  have h2 : 2 ^ 218 ≤ 2 ^ (a + 218) := Nat.pow_le_pow_right (by decide) (by omega)
  have l0 := E.l0
  have l1 := E.l1
  have le := (E.b hb).le
  rcases hx with rfl | rfl | ⟨rfl, hd⟩
  · exact ⟨l0.1, l0.2.1, by omega, fun hq => by rw [(E.z hq).1]; exact nm0, fun _ => ⟨Rat.le_refl, le⟩⟩
  · exact ⟨l1.1, l1.2.1, by omega, fun hq => by rw [(E.z hq).2]; exact nm1, fun _ => ⟨le, Rat.le_refl⟩⟩
  · obtain ⟨f0, f1, f2⟩ := half_facts l0.1 l0.2.1 l1.1 l1.2.1
    refine ⟨f0, f1, by omega, fun hq => ?_, fun _ => f2 le⟩
    rw [(E.z hq).1, (E.z hq).2, Rat.zero_add, Rat.one_mul]
    exact hf_nm B.l0
section
variable {P : Program} {w : World} {K : PySem.W.Frag} {mg : Str → Option Value} {base : Heap}
theorem fok_sp {x : Str} {st : Stmt} {N ps : List Str} {k : Nat} {sp : Sp} {f : Addr} {fd : FuncData} (F : FunD K x x (defArgs st) (defBody st) (defScope st) [] [] f fd) (S : FnScope N ps (defScope st)) (hl : ∀ vs H Q E, sp vs H Q E → vs.length = ps.length)
    (hbody : ∀ (cdv : Value) (A : Around) (outer : List Env) (s : Shared) (H : Hp) (vs : List V) (Q : VK) (E : XK), Room k (A.deeper (envOfC x (defScope st) s.heap.objs.size f cdv)) → sp vs H Q E →
      ∃ t, PSs (cxOf CX0 P w K mg base N x (defScope st) f cdv A outer s H E).nox (defBody st) t ∧ t { nx := fun _ H' => Q .non H', rt := Q } (start N vs) H) : FnOk P w K mg base CX0 (k + 1) f fd ps sp :=
  F.ok S hl fun cdv A outer s H vs Q E hr h => (by
    obtain ⟨t, t1, t2⟩ := hbody cdv A outer s H vs Q E hr h
    exact ⟨t, t1.nox, t2⟩)
def spLaw (K : PySem.W.Frag) : Sp := fun vs H Q _ => ∃ (a : Addr) (ns : List Int), vs = [.ref a] ∧ SqL K H a (ns.map V.int) ∧ ns.length ≤ 63 ∧ ∀ H', Q (.bl true) H'
theorem ok_law {CS CR f : Addr} {fd : FuncData} (W : Wd P K mg base) (R : RCls K CR) (C : SCls K CS) (F : FunD K "law" "law" (defArgs s_law) (defBody s_law) (defScope s_law) [] [] f fd) (G_L_dice : C8.Cal P w K mg base 33 "_law_dice" (spMkDice K) []) (G_L_draw : C8.Cal P w K mg base 33 "_law_draw" (spDraw K) []) (G_L_small : C8.Cal P w K mg base 40 "_law_small" (spSmall K) []) (G_L_numbers : C8.Cal P w K mg base 35 "_law_numbers" (spNums K) []) (G_L_schedule : C8.Cal P w K mg base 34 "_law_schedule" (spSched K) [])
    (K_Rule : C8.Mak P w K mg base 44 "Rule" CR (spRuleI K CR) []) (K_Sitting : C8.Mak P w K mg base 40 "Sitting" CS (spSitI K CS CR) []) (G_L_is_account : C8.Cal P w K mg base 46 "_law_is_account" (spAcct K CS CR) []) (M_best : C8.Met P w K mg base 49 CS "best" (spBestM K CS CR) []) (G_L_is_best : C8.Cal P w K mg base 41 "_law_is_best" (spIsBest K) []) (M_play : C8.Met P w K mg base 33 CS "play" (spPlay K CS CR) [])
    (G_L_some : C8.Cal P w K mg base 34 "_law_some" (spSome K) []) (G_L_number : C8.Cal P w K mg base 34 "_law_number" (spNum K) []) (G_L_product : C8.Cal P w K mg base 34 "_law_product" (spProdL K) []) (G_L_sum : C8.Cal P w K mg base 34 "_law_sum" (spSumL K) []) (M_bid : C8.Met P w K mg base 39 CS "bid" (spBidM K CS CR) []) (M_told : C8.Met P w K mg base 42 CS "told" (spToldM K CS CR) []) (G_L_outcome : C8.Cal P w K mg base 40 "_law_outcome" (spOutL K) []) :
    FnOk P w K mg base CX0 51 f fd p_law (spLaw K) := by
  refine fok_sp F sc_law (fun vs H Q E ⟨a, ns, e, _⟩ => by rw [e]; rfl) fun cdv A outer s H vs Q E hr ⟨sa, ns, e, hs, hl, q⟩ => ?_
  subst e
  have hCM : CM = 100000 := rfl
  refine ⟨_, (pss_cons (ps_set (i := 1) sc_law.nd rfl (by first | exact Or.inl rfl | exact Or.inr rfl) (C8.pe_c G_L_dice hr (by omega) (by rfl) (pa_cons (pv 0) pa_nil)))
    (pss_cons (ps_set (i := 2) sc_law.nd rfl (by first | exact Or.inl rfl | exact Or.inr rfl) (pe_cmpR op_eq (C8.pe_c G_L_draw hr (by omega) (by rfl) (pa_cons (pv 1) (pa_cons pe_int pa_nil))) pe_int (nomark _)))
    (pss_cons (ps_asg (C8.pe_c G_L_small hr (by omega) (by rfl) (pa_cons (pv 1) (pa_cons (pe_ifExp (pt_val (pv 2)) pe_int pe_int) pa_nil))) (pg_tup rfl (pgs_cons (pg_name (i := 3) sc_law.nd rfl (by first | exact Or.inl rfl | exact Or.inr rfl)) (pgs_cons (pg_name (i := 4) sc_law.nd rfl (by first | exact Or.inl rfl | exact Or.inr rfl)) pgs_nil))))
    (pss_cons (ps_set (i := 5) sc_law.nd rfl (by first | exact Or.inl rfl | exact Or.inr rfl) (C8.pe_c G_L_numbers hr (by omega) (by rfl) (pa_cons (pv 1) (pa_cons (pv 3) pa_nil))))
    (pss_cons (ps_set (i := 6) sc_law.nd rfl (by first | exact Or.inl rfl | exact Or.inr rfl) (C8.pe_c G_L_schedule hr (by omega) (by rfl) (pa_cons (pv 1) (pa_cons (pv 3) (pa_cons (pe_ifExp (pt_val (pv 2)) (pe_op op_sub pe_int (pv 3)) pe_int) pa_nil)))))
    (pss_cons (ps_set (i := 7) sc_law.nd rfl (by first | exact Or.inl rfl | exact Or.inr rfl) (C8.pe_mk K_Sitting hr (by omega) (by rfl) (pa_cons (C8.pe_mk K_Rule hr (by omega) (by rfl) (pa_cons (pv 3) (pa_cons (pv 4) pa_nil))) (pa_cons (pv 5) (pa_cons (pv 6) pa_nil)))))
    (pss_cons (ps_set (i := 8) sc_law.nd rfl (by first | exact Or.inl rfl | exact Or.inr rfl) (pe_and (pe_cmpR op_eq (C8.pe_c G_L_draw hr (by omega) (by rfl) (pa_cons (pv 1) (pa_cons pe_int pa_nil))) pe_int (nomark _)) (pe_one (pe_not (pv 2)))))
    (pss_cons (ps_set (i := 9) sc_law.nd rfl (by first | exact Or.inl rfl | exact Or.inr rfl) (pe_tup pa_nil))
    (pss_cons (ps_for PassesOwn.never rfl (pi_range1 (by rfl) W.range (pa_cons (pe_callB call_len_seq (by rfl) W.len b_len (pa_cons (pv 6) pa_nil)) pa_nil)) (pg_name (i := 10) sc_law.nd rfl (by first | exact Or.inl rfl | exact Or.inr rfl))
    (pss_cons (ps_if (pt_not (pt_val (C8.pe_c G_L_is_account hr (by omega) (by rfl) (pa_cons (pv 7) (pa_cons (pv 4) (pa_cons (pv 5) (pa_cons (pv 6) (pa_cons (pv 9) pa_nil)))))))) (pss_one (ps_ret pe_bl)) pss_nil)
    (pss_cons (ps_set (i := 11) sc_law.nd rfl (by first | exact Or.inl rfl | exact Or.inr rfl) (pe_tup (pa_cons (pe_tup (pa_cons pe_int (pa_cons pe_int pa_nil))) (pa_cons (pe_tup (pa_cons pe_int (pa_cons pe_int pa_nil))) pa_nil))))
    (pss_cons (ps_if (PW.pt (pw_or (pt_not (pt_val (pv 2))) (pw_or1 (pt_cmpR op_eq (C8.pe_c G_L_draw hr (by omega) (by rfl) (pa_cons (pv 1) (pa_cons pe_int pa_nil))) pe_int (nomark _))))) (pss_cons (ps_set (i := 11) sc_law.nd rfl (by first | exact Or.inl rfl | exact Or.inr rfl) (C8.pe_mt0 M_best hr (by omega) (pv 7)))
    (pss_one (ps_if (PW.pt (pw_or (pt_not (pt_val (C8.pe_c G_L_is_best hr (by omega) (by rfl) (pa_cons (pv 1) (pa_cons (pv 4) (pa_cons (pv 5) (pa_cons (pv 6) (pa_cons (pv 9) (pa_cons (pv 11) pa_nil))))))))) (pw_or1 (pt_cmpR (op_neD (hu64 hr)) (C8.pe_mt0 M_play hr (by omega) (pv 7)) (pv 9) (nomark _))))) (pss_one (ps_ret pe_bl)) pss_nil))) pss_nil)
    (pss_cons (ps_set (i := 12) sc_law.nd rfl (by first | exact Or.inl rfl | exact Or.inr rfl) (C8.pe_c G_L_some hr (by omega) (by rfl) (pa_cons (pv 1) (pa_cons (pe_lst (pa_cons (C8.pe_c G_L_number hr (by omega) (by rfl) (pa_cons (pv 1) pa_nil)) (pa_cons (C8.pe_c G_L_number hr (by omega) (by rfl) (pa_cons (pv 1) pa_nil)) (pa_cons (pe_ix ix_tup (pv 5) (pe_ix ix_tup (pv 6) (pv 10) (fun _ _ => rfl)) (fun _ _ => rfl)) (pa_cons (pe_ix ix_tup (pv 11) pe_int (fun _ _ => rfl)) (pa_cons (pe_ix ix_tup (pv 11) pe_int (fun _ _ => rfl)) pa_nil)))))) pa_nil))))
    (pss_cons (ps_if (pt_val (pv 8)) (pss_cons (ps_set (i := 13) sc_law.nd rfl (by first | exact Or.inl rfl | exact Or.inr rfl) (C8.pe_c G_L_product hr (by omega) (by rfl) (pa_cons (C8.pe_c G_L_sum hr (by omega) (by rfl) (pa_cons (pe_ix ix_tup (pv 11) pe_int (fun _ _ => rfl)) (pa_cons (pe_ix ix_tup (pv 11) pe_int (fun _ _ => rfl)) (pa_cons pe_int pa_nil)))) (pa_cons (pe_tup (pa_cons pe_int (pa_cons pe_int pa_nil))) pa_nil))))
    (pss_one (ps_set (i := 12) sc_law.nd rfl (by first | exact Or.inl rfl | exact Or.inr rfl) (C8.pe_c G_L_some hr (by omega) (by rfl) (pa_cons (pv 1) (pa_cons (pe_lst (pa_cons (pe_ix ix_tup (pv 11) pe_int (fun _ _ => rfl)) (pa_cons (pe_ix ix_tup (pv 11) pe_int (fun _ _ => rfl)) (pa_cons (pe_ifExp (pt_cmpR op_lt (pe_ix ix_tup (pv 13) pe_int (fun _ _ => rfl)) (pe_op op_pow pe_int pe_int) (nomark _)) (pv 13) (pe_ix ix_tup (pv 11) pe_int (fun _ _ => rfl))) pa_nil)))) pa_nil)))))) pss_nil)
    (pss_cons (ps_if (pt_cmpR op_notN (C8.pe_mt M_bid hr (by omega) (pv 7) (pa_cons (pv 12) pa_nil)) pe_non (nomark _)) (pss_one (ps_ret pe_bl)) pss_nil)
    (pss_one (ps_set (i := 9) sc_law.nd rfl (by first | exact Or.inl rfl | exact Or.inr rfl) (pe_op op_catA (pv 9) (pe_tup (pa_cons (pv 12) pa_nil))))))))))))
    (pss_cons (ps_if (pt_not (pt_val (C8.pe_c G_L_is_account hr (by omega) (by rfl) (pa_cons (pv 7) (pa_cons (pv 4) (pa_cons (pv 5) (pa_cons (pv 6) (pa_cons (pv 9) pa_nil)))))))) (pss_one (ps_ret pe_bl)) pss_nil)
    (pss_one (ps_ret (pe_or (pe_not (pv 8)) (pe_one (pe_cmpR (op_eqD (hu64 hr)) (C8.pe_mt0 M_told hr (by omega) (pv 7)) (C8.pe_c G_L_outcome hr (by omega) (by rfl) (pa_cons (pv 3) (pa_cons (pv 4) (pa_cons (pv 5) pa_nil)))) (nomark _)))))))))))))))), ?_⟩
  refine ⟨_, rfl, sa, ns, rfl, hs, by omega, fun p H1 L hp0 s1 D1 => ?_⟩
  refine q_setX (B := hide H1 p) (k := 1) (post := fun d => ∃ b, d = .bl b) (((ex_eqI hide_none (ex_draw (m := 8) hide_none rfl ed_int (by omega) (by omega)) (ex_ofD (ed_int (i := 0))) (fun d ⟨i, _, e⟩ => ⟨i, e⟩) (fun d e => ⟨0, e⟩)).imp fun d ⟨i, j, _, _, e⟩ => ⟨_, e⟩).le (by omega)) hide_same D1 (by omega) fun v H2 d s2 D2 ⟨lg, ed⟩ hv => ?_
  subst ed
  obtain rfl : v = .bl lg := hv
  refine q_asg2X (B := hide H2 p) (k := 200) (post := fun d1 d2 => ∃ (n : Nat) (t : Term), d1 = .int (n : Nat) ∧ d2 = tD t ∧ 0 < n ∧ n ≤ 6 ∧ (lg = false → n ≤ 3) ∧ SmallOk n t) (((ex_dice (j := 200) (post := fun d => ∃ (n : Nat) (t : Term), d = .tup [.int (n : Nat), tD t] ∧ 0 < n ∧ n ≤ (if lg = true then 6 else 3) ∧ SmallOk n t) rfl (xa_cons hide_none (ex_ofD (d := .int ((if lg = true then 6 else 3 : Nat) : Int)) (ed_ifE (et_val (K := K) (ed_var (d := .bl lg) rfl rfl)) (fun e => by rw [if_pos e]; exact ed_int) (fun e => by rw [if_neg (by rw [e]; decide)]; exact ed_int))) xa_nil) fun ds ⟨d1, r1, e1, e2, e3⟩ => by
    subst e3 e2 e1
    exact ⟨rfl, _, ⟨if lg = true then 6 else 3, by split <;> omega, by split <;> omega, rfl, rfl⟩, fun d h => h⟩).imp fun d ⟨n, t, e1, h0, h1, h2⟩ => ⟨_, _, e1, n, t, rfl, rfl, h0, by split at h1 <;> omega, fun e => by rw [if_neg (by rw [e]; decide)] at h1; exact h1, h2⟩).le (by omega)) (fun d1 d2 ⟨n, t, e1, e2, _, _, _, ht⟩ => by subst e1 e2; exact ⟨rfl, nl_tD ht.wf⟩) hide_same D2 (by omega) fun x4 y4 H3 d1 d2 s3 D3 ⟨n, t, e1, e2, hn0, hn6, hn3, ht⟩ hx4 hy4 => ?_
  subst e1 e2
  obtain rfl : x4 = .int (n : Nat) := hx4
  refine q_setX (B := hide H3 p) (k := 12) (post := fun d => ∃ ws : List Rat, d = .tup (frs ws) ∧ ws.length = n ∧ ∀ x ∈ ws, Nm L0 x) ((ex_dice (j := 12) rfl (xa_cons hide_none (ex_ofD (d := .int (n : Nat)) (ed_var rfl rfl)) xa_nil) fun ds ⟨d1, r1, e1, e2, e3⟩ => by
    subst e3 e2 e1
    exact ⟨rfl, _, ⟨n, hn6, rfl, rfl⟩, fun d h => h⟩).le (by omega)) hide_same D3 (by omega) fun v5 H4 d s4 D4 ⟨ws, ed, lw, nw⟩ hv5 => ?_
  subst ed
  refine q_setX (B := hide H4 p) (k := 60) (post := fun d => ∃ sch : List Nat, d = .tup (natsD sch) ∧ (∀ q ∈ sch, q < n) ∧ (∀ q, q < n → q ∈ sch) ∧ sch.length ≤ 12) ((ex_dice (j := 60) rfl (xa_cons hide_none (ex_ofD (d := .int (n : Nat)) (ed_var rfl rfl)) (xa_cons hide_none (ex_ofD (d := .int ((if lg = true then 12 - n else 3 : Nat) : Int)) (ed_ifE (et_val (K := K) (ed_var (d := .bl lg) rfl rfl)) (fun e => by
      rw [if_pos e]
      exact (ed_sub ed_int (ed_var (d := .int (n : Nat)) rfl rfl)).to (by congr 1; omega)) (fun e => by rw [if_neg (by rw [e]; decide)]; exact ed_int))) xa_nil)) fun ds ⟨d1, r1, e1, e2, d2, r2, e3, e4, e5⟩ => by
    subst e5 e4 e3 e2 e1
    refine ⟨rfl, _, ⟨n, if lg = true then 12 - n else 3, hn0, hn6, ?_, rfl, rfl⟩, fun d h => h⟩
    cases lg with
    | true => rw [if_pos rfl]; omega
    | false => rw [if_neg (by decide)]; have := hn3 rfl; omega).le (by omega)) hide_same D4 (by omega) fun v6 H5 d s5 D5 ⟨sch, ed, sl, sall, s12⟩ hv6 => ?_
  subst ed
  have hy5 : Dat K (hide H5 p) (tD t) y4 := Dat.same ((same_hide s4 hide_none).trans (same_hide s5 hide_none)) hy4
  have hv5' : Dat K (hide H5 p) (.tup (frs ws)) v5 := Dat.same (same_hide s5 hide_none) hv5
  refine q_te (te_mkSit (K := K) (CS := CS) (σ := [some (.ref sa), some (.ref p), some (.bl lg), some (.int (n : Nat)), some y4, some v5, some v6, none, none, none, none, none, none, none]) (H := hide H5 p) (CR := CR) (t := t) (ea_cons (ed_mkRule (Dn := L0) (m := 27) (ea_cons (ed_var (i := 3) (d := .int (n : Nat)) rfl rfl) (ea_cons (ed_var (i := 4) rfl hy5) ea_nil)) (by omega) hn6 ht.wf (by decide) (by decide) (by unfold LIM; omega) ht.tz) (ea_cons (ed_var (i := 5) rfl hv5') (ea_cons (ed_var (i := 6) rfl hv6) ea_nil))) lw (by omega) (fun x hx => ⟨(nw x hx).1, (nw x hx).2.1⟩) s12 sl sall hide_same fun a H6 s6 ha0 S6 => ?_)
  have D6 := D5.same s6
  have ap : a ≠ p := S6.ne D6
  have h5a : hide H5 p a = none := by show (if a = p then none else H5 a) = _; rw [if_neg ap]; exact ha0
  have sBm : Same (hide H5 p) (hide (hide H6 p) a) := same_hide (same_hide (hide_same.trans s6) hide_none) h5a
  have hBp : hide (hide H6 p) a p = none := by show (if p = a then none else hide H6 p p) = none; rw [hide_none]; split <;> rfl
  have hBa : hide (hide H6 p) a a = none := hide_none
  have sBm6 : Same (hide (hide H6 p) a) (hide H6 p) := hide_same
  have m4 := Dat.same sBm hy5
  have m5 := Dat.same sBm hv5'
  have m6 := Dat.same sBm hv6
  generalize hide (hide H6 p) a = Bm at sBm hBp hBa sBm6 m4 m5 m6
  refine q_setX (B := Bm) (k := 1) (post := fun d => ∃ b, d = .bl b ∧ (b = true → (!lg) = true)) ((ex_andV (b := !lg) (((ex_eqI hBp (ex_draw (m := 2) hBp rfl ed_int (by omega) (by omega)) (ex_ofD (ed_int (i := 0))) (fun d ⟨i, _, e⟩ => ⟨i, e⟩) (fun d e => ⟨0, e⟩)).imp fun d ⟨i, j, _, _, e⟩ => ⟨_, e⟩).le (k2 := 1) (by omega)) hBp (ed_notV (ed_var (d := .bl lg) rfl rfl)))) (sBm6.trans hide_same) D6 (by omega) fun v8 H7 d s7 D7 ⟨ba, ed, hba⟩ hv8 => ?_
  subst ed
  obtain rfl : v8 = .bl ba := hv8
  have S7 := (S6.off D6 ht.wf).same s7
  refine q_setD (K := K) (H := H7) (d := .tup (frs [])) (ed_tup ea_nil) (Same.refl _) fun v9 H8 s8 hv9 => ?_
  have sB8 : Same Bm H8 := (sBm6.trans s7).trans s8
  have hvl : ∀ {σ : L2.St}, σ[6]? = some (some v6) → EvV (tCB (fun xs H Q => ∃ p ys, xs = [.ref p] ∧ (SqL K H p ys ∨ SqT K H p ys) ∧ Q (.int ys.length) H) (tCons (tVar 6) tNil)) σ Bm (.int (sch.length : Nat)) := fun h => (vv_lenT (vv_var h) m6).to (by unfold natsD; rw [List.length_map])
  refine q_forB (K := K) (H := Bm) (ei_range1 (n := sch.length) (hvl rfl) (by omega)) sB8 fun Hb H9 sb s9 hnp sb9 => ?_
  have S9 := (S7.same s8).same s9
  have D9 := (D7.same s8).same s9
  have hbp : Hb p = none := hnp p (by obtain ⟨xs, e⟩ := (D7.same s8).at; rw [e]; exact fun z => nomatch z) hBp
  have hba' : Hb a = none := hnp a (by obtain ⟨_, _, _, _, _, e, _⟩ := S7.same s8; rw [e]; exact fun z => nomatch z) hBa
  have t4 := Dat.same sb m4
  have t5 := Dat.same sb m5
  have t6 := Dat.same sb m6
  refine ⟨fun i σ H' => ∃ v9 y10 y11 y12 y13 pl Dn cc, σ = [some (.ref sa), some (.ref p), some (.bl lg), some (.int (n : Nat)), some y4, some v5, some v6, some (.ref a), some (.bl ba), some v9, y10, y11, y12, y13] ∧ Same Hb H' ∧ Dice K H' p (300 + i * 20) L ∧ Sit K CS CR H' a n t ws sch pl ∧ pl.length = i ∧ Dat K H' (.tup (frs pl)) v9 ∧ Bg n Dn (EX cc) t ws sch pl ∧ cc + opens n sch i ≤ 6 ∧ (ba = true → Keeps t ws n sch pl),
    ⟨v9, none, none, none, none, [], L0, 0, rfl, sb9, D9.le (by omega), S9, rfl, Dat.same s9 hv9, ⟨ht.wf, ⟨1, rfl⟩, by decide, by decide, ht.lz, ht.pz, hn6, lw, nw, (fun x hx => nomatch hx), sl, s12, Nat.zero_le _⟩, by have := opens_le n sch 0; omega, fun _ V hV => (hV (bN (bidsOf n sch []))).congr ht.wf (fun q hq => (decide_eq_true (show q ∈ sch.drop 0 from sall q hq)).symm) (fun _ _ z => nomatch z)⟩,
    fun i σ H' ⟨_, _, _, _, _, _, _, _, _, h, _⟩ => h, ?_, ?_⟩
  · rintro i d x σ H10 H11 hi ⟨v9, y10, y11, y12, y13, pl, Dn, cc, rfl, b10, D10, S10, pli, hp10, B, hcc, hK⟩ s11 hx
    obtain ⟨hil, rfl⟩ := rangeD_get hi
    obtain rfl : x = .int (0 + (i : Int)) := hx
    have hc6 : cc ≤ 6 := by omega
    have hEX := EX_le hc6
    have hq := List.getElem?_eq_getElem hil
    generalize sch[i] = qq at hq
    have hqn : qq < n := sl qq (List.mem_of_getElem? hq)
    have P3 := B.pl3 (by unfold MX; omega)
    have hlt : pl.length < sch.length := by omega
    have hqp : sch[pl.length]? = some qq := by rw [pli]; exact hq
    have b11 : Same Hb H11 := b10.trans s11
    have S11 := S10.same s11
    have D11 := D10.same s11
    have hp11 := Dat.same s11 hp10
    refine q_if (H := H11) (b := false) (et_not (b := true) (et_val (ed_acct (σ := [some (.ref sa), some (.ref p), some (.bl lg), some (.int (n : Nat)), some y4, some v5, some v6, some (.ref a), some (.bl ba), some v9, some (.int (0 + (i : Int))), y11, y12, y13]) S11 P3 rfl (ea_cons (ed_var rfl (Dat.same b11 t4)) (ea_cons (ed_var rfl (Dat.same b11 t5)) (ea_cons (ed_var rfl (Dat.same b11 t6)) (ea_cons (ed_var rfl hp11) ea_nil))))))) (Same.refl _) (fun e => nomatch e) fun _ H12 s12' => ?_
    refine q_setD (K := K) (H := H12) (d := .tup [fr 0, fr 1]) (ed_tup (ea_cons (ed_tup (ds := [.int 0, .int 1]) (ea_cons ed_int (ea_cons ed_int ea_nil))) (ea_cons (ed_tup (ds := [.int 1, .int 1]) (ea_cons ed_int (ea_cons ed_int ea_nil))) ea_nil))) (Same.refl _) fun v11 H13 s13 hv11 => ?_
    have b13 : Same Hb H13 := (b11.trans s12').trans s13
    have S13 := (S11.same s12').same s13
    have D13 := (D11.same s12').same s13
    have hp13 := Dat.same (s12'.trans s13) hp11
    have hp13' : Dat K (hide H13 p) (.tup (frs pl)) v9 := Dat.hideN D13 (nls_frs pl) hp13
    have hM : 0 < Dn * wp t := Nat.mul_pos B.pos (wp_pos B.wf)
    subst pli
    refine seq_mid (fun σ H' => ∃ v11 e0 e1, σ = [some (.ref sa), some (.ref p), some (.bl lg), some (.int (n : Nat)), some y4, some v5, some v6, some (.ref a), some (.bl ba), some v9, some (.int (0 + (pl.length : Int))), some v11, y12, y13] ∧ Same Hb H' ∧ Dice K H' p (300 + pl.length * 20 + 3) L ∧ Sit K CS CR H' a n t ws sch pl ∧ Dat K (hide H' p) (.tup (frs pl)) v9 ∧ Dat K (hide H' p) (.tup [fr e0, fr e1]) v11 ∧ EndF n Dn t ws sch pl qq ba e0 e1) ?rest fun k => ?first
    case first =>
      refine q_ifX (B := hide H13 p) (k := 1) (P := fun b => b = false → lg = true) (((xt_or hide_none (xt_of (et_not (et_val (K := K) (ed_var (d := .bl lg) rfl rfl)))) fun _ => xt_test (P := fun _ => True) ((ex_eqI hide_none (ex_draw (m := 5) hide_none rfl ed_int (by omega) (by omega)) (ex_ofD (ed_int (i := 0))) (fun d ⟨i, _, e⟩ => ⟨i, e⟩) (fun d e => ⟨0, e⟩)).imp fun d ⟨i, j, _, _, e⟩ => ⟨_, e, trivial⟩)).imp fun b ⟨c, hc, h⟩ hb => by
        rcases h with ⟨_, h⟩ | ⟨h, _⟩
        · rw [hb] at h; cases h
        · rw [h] at hc
          cases lg with
          | true => rfl
          | false => cases hc).le (by omega)) hide_same D13 (by omega) (fun _ H14 s14 D14 => ?_) (fun hlg H14 s14 D14 => ?_)
      · have S14 := (S13.off D13 ht.wf).same s14
        refine q_set (K := K) (H := H14) (post := bestPost n Dn t ws sch pl qq) (ep_met (m := "best") S14 rfl ⟨Dn, _, qq, P3, hqp, rfl⟩) (Same.refl _) fun v H15 d s15 ⟨e0, e1, ed, hE⟩ hve => ?_
        subst ed
        have EO : EndsOk n Dn t ws sch pl qq e0 e1 := hE
        have D15 := D14.same s15
        have S15 := S14.same s15
        have b15 : Same Hb H15 := (off_base hbp b13 s14).trans s15
        have bh15 : Same Hb (hide H15 p) := same_hide b15 hbp
        have hp15 : Dat K (hide H15 p) (.tup (frs pl)) v9 := Dat.same (same_hide (s14.trans s15) hide_none) hp13'
        have he15 : Dat K (hide H15 p) (.tup [fr e0, fr e1]) v := Dat.hideN D15 rfl hve
        obtain ⟨r0, r1⟩ := EO.rng hM
        have EF : EndF n Dn t ws sch pl qq ba e0 e1 := ⟨r0, r1, fun hm => by
          unfold EndsOk at EO
          rw [if_pos hm] at EO
          exact EO, fun _ => EO⟩
        refine q_ifX1 (B := hide H15 p) (k := 2) (P := fun b => b = false) (((xt_or hide_none (xt_not (P := fun b => b = true) (xt_val (P := fun b => b = true) ((ex_dice (j := 2) (post := fun d => d = .bl true) rfl (xa_cons hide_none (ex_var hide_none rfl (Dat.same bh15 t4)) (xa_cons hide_none (ex_var hide_none rfl (Dat.same bh15 t5)) (xa_cons hide_none (ex_var hide_none rfl (Dat.same bh15 t6)) (xa_cons hide_none (ex_var hide_none rfl hp15) (xa_cons hide_none (ex_var hide_none rfl he15) xa_nil))))) fun ds ⟨d1, r1, q1, q2, d2, r2, q3, q4, d3, r3, q5, q6, d4, r4, q7, q8, d5, r5, q9, q10, q11⟩ => by
            subst q11 q10 q9 q8 q7 q6 q5 q4 q3 q2 q1
            exact ⟨rfl, _, ⟨n, Dn, EX cc, t, ws, sch, pl, qq, e0, e1, B, hEX, hqp, EO, rfl, rfl⟩, fun d h => h⟩).imp fun d h => ⟨true, h, rfl⟩))) fun _ => xt_of (et_test (K := K) (ed_neFs (ed_met (m := "play") (S15.off D15 ht.wf) rfl rfl) (ed_var rfl hp15)))).imp fun b ⟨c, hc, h⟩ => by
              rcases h with ⟨h, _⟩ | ⟨_, h⟩
              · rw [h] at hc; cases hc
              · exact h).le (by omega)) hide_same D15 (by omega) (fun e => nomatch e) (fun _ H16 s16 D16 => ?_)
        exact k _ _ ⟨v, e0, e1, rfl, off_base hbp b15 s16, D16.le (by omega), (S15.off D15 ht.wf).same s16, Dat.same (same_hide s16 hide_none) hp15, Dat.same (same_hide s16 hide_none) he15, EF⟩
      · have hl := hlg rfl
        exact k _ _ ⟨v11, 0, 1, rfl, off_base hbp b13 s14, D14.le (by omega), (S13.off D13 ht.wf).same s14, Dat.same (same_hide s14 hide_none) hp13', Dat.same (same_hide s14 hide_none) (Dat.hideN D13 rfl hv11), ⟨by decide, by decide, hM⟩, ⟨by decide, by decide, hM⟩, fun _ => ⟨rfl, rfl⟩, fun hb => by have := hba hb; rw [hl] at this; cases this⟩
    case rest =>
      rintro σ H14 ⟨v11, e0, e1, rfl, b14, D14, S14, hp14, he14, EF⟩
      have bh14 : Same Hb (hide H14 p) := same_hide b14 hbp
      refine q_setX (B := hide H14 p) (k := 5) (post := fun d => ∃ x, d = fr x ∧ (Nm L0 x ∨ x = e0 ∨ x = e1)) ((ex_dice (j := 1) (post := fun d => ∃ x, d = fr x ∧ (Nm L0 x ∨ x = e0 ∨ x = e1)) rfl (xa_cons hide_none (ex_lst (xa_cons hide_none (ex_num rfl) (xa_cons hide_none (ex_num rfl) (xa_cons hide_none (ex_ofD (d := fr (bN ws qq)) (ed_ixT (ed_var rfl (Dat.same bh14 t5)) (ed_ixT (d := .int (qq : Nat)) (ed_var rfl (Dat.same bh14 t6)) (ed_var (d := .int (0 + (pl.length : Int))) rfl rfl) (by rw [Int.zero_add]; exact atI_nat (by unfold natsD; rw [List.getElem?_map, hqp]; rfl))) (atI_frs (bN_get (by omega))))) (xa_cons hide_none (ex_ofD (d := fr e0) (ed_ixT (i := 0) (ed_var rfl he14) ed_int rfl)) (xa_cons hide_none (ex_ofD (d := fr e1) (ed_ixT (i := 1) (ed_var rfl he14) ed_int rfl)) xa_nil))))) fun ds ⟨d1, r1, q1, _, d2, r2, q3, _, d3, r3, q5, _, d4, r4, q7, _, d5, r5, q9, _, q11⟩ => by subst q11 q9 q7 q5 q3 q1; exact Nat.le_of_ble_eq_true rfl) xa_nil) fun ds ⟨d0, r0, q0, ⟨fs, q00, d1, r1, q1, ⟨z1, q2, hz1⟩, d2, r2, q3, ⟨z2, q4, hz2⟩, d3, r3, q5, q6, d4, r4, q7, q8, d5, r5, q9, q10, q11⟩, q12⟩ => by
          subst q12 q11 q10 q9 q8 q7 q6 q5 q4 q3 q2 q1 q00 q0
          refine ⟨rfl, _, ⟨[fr z1, fr z2, fr (bN ws qq), fr e0, fr e1], List.cons_ne_nil _ _, Nat.le_of_ble_eq_true rfl, nls_frs [z1, z2, bN ws qq, e0, e1], rfl, rfl⟩, fun d h => ?_⟩
          have h : d ∈ [fr z1, fr z2, fr (bN ws qq), fr e0, fr e1] := h
          simp only [List.mem_cons, List.not_mem_nil, or_false] at h
          rcases h with h | h | h | h | h
          · exact ⟨z1, h, .inl hz1⟩
          · exact ⟨z2, h, .inl hz2⟩
          · exact ⟨_, h, .inl (nw _ (bN_mem (by omega)))⟩
          · exact ⟨_, h, .inr (.inl rfl)⟩
          · exact ⟨_, h, .inr (.inr rfl)⟩).le (by omega)) hide_same D14 (by omega) fun v12 H15 d s15 D15 ⟨x, ed, hx⟩ hv12 => ?_
      subst ed
      have S15 := (S14.off D14 ht.wf).same s15
      have b15 := off_base hbp b14 s15
      have hp15 := Dat.same (same_hide s15 hide_none) hp14
      have he15 := Dat.same (same_hide s15 hide_none) he14
      refine seq_mid (fun σ H' => ∃ v12 y13 x, σ = [some (.ref sa), some (.ref p), some (.bl lg), some (.int (n : Nat)), some y4, some v5, some v6, some (.ref a), some (.bl ba), some v9, some (.int (0 + (pl.length : Int))), some v11, some v12, y13] ∧ Same Hb H' ∧ Dice K H' p (300 + pl.length * 20 + 9) L ∧ Sit K CS CR H' a n t ws sch pl ∧ Dat K (hide H' p) (.tup (frs pl)) v9 ∧ Dat K (hide H' p) (fr x) v12 ∧ BidF n Dn (EX cc) sch pl.length qq ba e0 e1 x) ?rest2 fun k => ?first2
      case first2 =>
        refine q_if (H := hide H15 p) (b := ba) (et_val (K := K) (ed_var (d := .bl ba) rfl rfl)) hide_same (fun hb H16 s16 => ?_) (fun hb H16 s16 => ?_)
        · have D16 := D15.same s16
          have z0 : Sz (EX cc + 51) e0 := Sz.unit EF.l0.1 EF.l0.2.1 (Nat.lt_of_le_of_lt EF.l0.2.2 B.wsz)
          have z1 : Sz (EX cc + 51) e1 := Sz.unit EF.l1.1 EF.l1.2.1 (Nat.lt_of_le_of_lt EF.l1.2.2 B.wsz)
          refine q_setD (K := K) (H := hide H15 p) (d := fr ((e0 + e1) * hf)) (ed_call (ea_cons (ed_call (d := fr (e0 + e1)) (ea_cons (ed_ixT (d := fr e0) (i := 0) (ed_var rfl he15) ed_int rfl) (ea_cons (ed_ixT (d := fr e1) (i := 1) (ed_var rfl he15) ed_int rfl) (ea_cons ed_int ea_nil))) ⟨e0, e1, EX cc + 51, 1, z0, z1, by unfold LIM; omega, .inl rfl, rfl, rfl⟩ rfl) (ea_cons (ed_tup (ds := [.int 1, .int 2]) (ea_cons ed_int (ea_cons ed_int ea_nil))) ea_nil)) ⟨e0 + e1, hf, EX cc + 51 + (EX cc + 51) + 1, z0.add z1, Sz.unit (by decide +kernel) (by decide +kernel) (Nat.lt_of_lt_of_le (by decide : 2 < 2 ^ 2) (Nat.pow_le_pow_right (by decide) (by omega))), by unfold LIM; omega, trivial, rfl, rfl⟩ rfl) (hide_same.trans s16) fun v13 H17 s17 hv13 => ?_
          have D17 := D16.same s17
          have h13 : Dat K (hide H17 p) (fr ((e0 + e1) * hf)) v13 := Dat.hideN D17 rfl hv13
          have he17 : Dat K (hide H17 p) (.tup [fr e0, fr e1]) v11 := Dat.same (hide_mono (s16.trans s17)) he15
          refine q_setX1 (B := hide H17 p) (k := 1) (post := fun d => ∃ x, d = fr x ∧ (x = e0 ∨ x = e1 ∨ x = (e0 + e1) * hf ∧ x.den < 10 ^ 50)) ((ex_dice (j := 1) (post := fun d => ∃ x, d = fr x ∧ (x = e0 ∨ x = e1 ∨ x = (e0 + e1) * hf ∧ x.den < 10 ^ 50)) rfl (xa_cons hide_none (ex_lst (xa_cons hide_none (ex_ofD (d := fr e0) (ed_ixT (i := 0) (ed_var rfl he17) ed_int rfl)) (xa_cons hide_none (ex_ofD (d := fr e1) (ed_ixT (i := 1) (ed_var rfl he17) ed_int rfl)) (xa_cons hide_none (ex_ofD (d := fr (if (((e0 + e1) * hf).den : Int) < 10 ^ (50 : Int).toNat then (e0 + e1) * hf else e1)) (ed_ifE (et_test (K := K) (ed_lt (ed_bot (ed_var rfl h13)) (ed_pow (i := 10) (j := 50) ed_int ed_int ⟨by decide, by decide, by decide⟩))) (fun e => by rw [if_pos (of_decide_eq_true e)]; exact ed_var rfl h13) (fun e => by rw [if_neg (of_decide_eq_false e)]; exact ed_ixT (i := 1) (ed_var rfl he17) ed_int rfl))) xa_nil))) fun ds ⟨d1, r1, q1, _, d2, r2, q3, _, d3, r3, q5, _, q7⟩ => by subst q7 q5 q3 q1; exact Nat.le_of_ble_eq_true rfl) xa_nil) fun ds ⟨d0, r0, q0, ⟨fs, q00, d1, r1, q1, q2, d2, r2, q3, q4, d3, r3, q5, q6, q7⟩, q8⟩ => by
              subst q8 q7 q6 q5 q4 q3 q2 q1 q00 q0
              refine ⟨rfl, _, ⟨[fr e0, fr e1, _], List.cons_ne_nil _ _, Nat.le_of_ble_eq_true rfl, nls_frs [e0, e1, _], rfl, rfl⟩, fun d h => ?_⟩
              have h : d ∈ [fr e0, fr e1, fr (if (((e0 + e1) * hf).den : Int) < 10 ^ (50 : Int).toNat then (e0 + e1) * hf else e1)] := h
              simp only [List.mem_cons, List.not_mem_nil, or_false] at h
              rcases h with h | h | h
              · exact ⟨_, h, .inl rfl⟩
              · exact ⟨_, h, .inr (.inl rfl)⟩
              · by_cases hd : (((e0 + e1) * hf).den : Int) < 10 ^ (50 : Int).toNat
                · rw [if_pos hd] at h
                  exact ⟨_, h, .inr (.inr ⟨rfl, by exact_mod_cast hd⟩)⟩
                · rw [if_neg hd] at h
                  exact ⟨_, h, .inr (.inl rfl)⟩).le (by omega)) hide_same D17 (by omega) fun v12' H18 d s18 D18 ⟨x', ed, hx'⟩ hv12' => ?_
          subst ed
          have s158 : Same (hide H15 p) H18 := off_trans (hide_same.trans (s16.trans s17)) s18
          exact k _ _ ⟨v12', some v13, x', rfl, off_base hbp b15 s158, D18.le (by omega), (S15.off D15 ht.wf).same s158, Dat.same (same_hide s158 hide_none) hp15, hv12', bid_best B EF hb hx'⟩
        · exact k _ _ ⟨v12, y13, x, rfl, b15.trans s16, (D15.same s16).le (by omega), S15.same s16, Dat.same (hide_mono s16) hp15, Dat.same (hide_mono s16) hv12, bid_any B EF hb hx⟩
      case rest2 =>
        rintro σ H16 ⟨v12, y13, x, rfl, b16, D16, S16, hp16, hx16, BF⟩
        refine et_bid (K := K) S16 rfl rfl (Dat.hideS S16 rfl (Dat.same hide_same hx16)) BF.ge BF.le hlt (by omega) fun H17 s17 S17 => iteF ?_
        have b17 : Same Hb H17 := off_base hba' b16 s17
        have D17 := D16.offS S16 s17
        have hp17 : Dat K H17 (.tup (frs pl)) v9 := Dat.same s17 (Dat.hideS S16 (nls_frs pl) (Dat.same hide_same hp16))
        have hx17 : Dat K H17 (fr x) v12 := Dat.same s17 (Dat.hideS S16 rfl (Dat.same hide_same hx16))
        refine q_set1 (K := K) (H := H17) (d := .tup (frs (pl ++ [x]))) ((ed_catT (ed_var rfl hp17) (ed_tup (ea_cons (ed_var rfl hx17) ea_nil)) (by rw [frs_len]; show _ + 1 ≤ _; omega)).to (by unfold frs; rw [List.map_append]; rfl)) (Same.refl _) fun v9' H18 s18 hv9' => ?_
        have keep : ba = true → Keeps t ws n sch (pl ++ [x]) := fun hb V hV => (EF.b hb).keeps B.wf hqp BF.ge BF.le (BF.b hb).1 (BF.b hb).2 (hK hb V hV)
        have ln : (pl ++ [x]).length = pl.length + 1 := by rw [List.length_append]; rfl
        by_cases hm : qq ∈ sch.drop (pl.length + 1)
        · exact ⟨v9', some (.int (0 + (pl.length : Int))), some v11, some v12, y13, pl ++ [x], Dn, cc, rfl, b17.trans s18, (D17.same s18).le (by omega), S17.same s18, ln, hv9', B.same hlt (BF.nm hm), by have := opens_mono (n := n) hqp; omega, keep⟩
        · exact ⟨v9', some (.int (0 + (pl.length : Int))), some v11, some v12, y13, pl ++ [x], Dn * x.den, cc + 1, rfl, b17.trans s18, (D17.same s18).le (by omega), S17.same s18, ln, hv9', (B.more hlt BF.ge BF.le BF.dn).up (by show _ ≤ 2 * EX cc + 218; omega), by have := opens_fin (n := n) hqp hqn hm; omega, keep⟩
  · rintro σ H10 ⟨v9, y10, y11, y12, y13, pl, Dn, cc, rfl, b10, D10, S10, pli, hp10, B, hcc, hK⟩
    rw [rangeD_len] at pli hcc D10
    have hEX := EX_le (show cc ≤ 6 by omega)
    have P3 := B.pl3 (by unfold MX; omega)
    have b10t4 := Dat.same b10 t4
    have b10t5 := Dat.same b10 t5
    have b10t6 := Dat.same b10 t6
    refine q_if (H := H10) (b := false) (et_not (b := true) (et_val (ed_acct (σ := [some (.ref sa), some (.ref p), some (.bl lg), some (.int (n : Nat)), some y4, some v5, some v6, some (.ref a), some (.bl ba), some v9, y10, y11, y12, y13]) S10 P3 rfl (ea_cons (ed_var rfl b10t4) (ea_cons (ed_var rfl b10t5) (ea_cons (ed_var rfl b10t6) (ea_cons (ed_var rfl hp10) ea_nil))))))) (Same.refl _) (fun e => nomatch e) fun _ H11 s11 => ?_
    have S11 := S10.same s11
    have key : EvD K (tOrV (tNotV (tVar 8)) (tOp (rEqD K) (tMeth CS "told" (spToldM K CS CR) [] C8.E0 (tVar 7) tNil) (tCall (spOutL K) [] C8.E0 (tCons (tVar 3) (tCons (tVar 4) (tCons (tVar 5) tNil)))))) [some (.ref sa), some (.ref p), some (.bl lg), some (.int (n : Nat)), some y4, some v5, some v6, some (.ref a), some (.bl ba), some v9, y10, y11, y12, y13] H11 (.bl true) := by
      cases ba with
      | false => exact ed_orV (b := true) (c := true) (ed_notV (ed_var (d := .bl false) rfl rfl)) (fun e => nomatch e)
      | true =>
        refine ed_orV (b := false) (c := true) (ed_notV (ed_var (d := .bl true) rfl rfl)) (fun _ => ed_eqP (P1 := fun A => A = val (bN (bidsOf n sch pl)) t) (P2 := fun A => ∀ b, IsLeft t (bN ws) b (fun _ => true) A) ((ep_met (m := "told") (post := fun d => d = fr (val (bN (bidsOf n sch pl)) t)) S11 rfl ⟨Dn, _, P3, rfl⟩).imp fun d h => ⟨_, h, rfl⟩) (ep_call (ea_cons (ed_var (d := .int (n : Nat)) rfl rfl) (ea_cons (ed_var rfl (Dat.same s11 b10t4)) (ea_cons (ed_var rfl (Dat.same s11 b10t5)) ea_nil))) ⟨n, Dn, _, t, ws, P3.T, hn6, lw, P3.nw, rfl, rfl⟩ rfl) fun A A' hA hA' => ?_)
        have h1 := hK rfl A' hA'
        have h2 : IsLeft t (bN ws) (bN (bidsOf n sch pl)) (fun _ => false) A' := h1.congr B.wf (fun q _ => by
          unfold openL
          rw [pli, List.drop_length]
          exact decide_eq_false (fun z => nomatch z)) fun _ _ _ => rfl
        rw [hA]
        exact IsLeft.none.uniq h2
    exact q_retD key (Same.refl _) fun r H12 s12' h12 => by
      obtain rfl : r = .bl true := h12
      exact q H12
end
end Cb
set_option Elab.async false
set_option linter.all false
set_option maxRecDepth 100000
set_option maxHeartbeats 4000000
namespace Cb
open PySem PySem.Spec PyProof.Rows L2
def dOf (a : Str × Option Str) (x q : Str) (s : Stmt) : He.DefD := ⟨a, x, q, defArgs s, defBody s, defScope s, [], []⟩
def fn0 : List He.DefD := [
  dOf ("is_integer", none) "is_integer" "is_integer" s_is_integer,
  dOf ("divisor", none) "divisor" "divisor" s_divisor,
  dOf ("made", none) "made" "made" s_made,
  dOf ("plus", none) "plus" "plus" s_plus,
  dOf ("minus", none) "minus" "minus" s_minus,
  dOf ("times", none) "times" "times" s_times,
  dOf ("over", none) "over" "over" s_over,
  dOf ("is_less", none) "is_less" "is_less" s_is_less,
  dOf ("least_of", none) "least_of" "least_of" s_least_of,
  dOf ("greatest_of", none) "greatest_of" "greatest_of" s_greatest_of,
  dOf ("ascending", none) "ascending" "ascending" s_ascending,
  dOf ("middle", none) "middle" "middle" s_middle,
  dOf ("is_fraction", none) "is_fraction" "is_fraction" s_is_fraction,
  dOf ("is_within", none) "is_within" "is_within" s_is_within,
  dOf ("is_number", none) "is_number" "is_number" s_is_number,
  dOf ("check_number", none) "check_number" "check_number" s_check_number,
  dOf ("are_numbers", none) "are_numbers" "are_numbers" s_are_numbers,
  dOf ("check_wishes", none) "check_wishes" "check_wishes" s_check_wishes,
  dOf ("is_person", none) "is_person" "is_person" s_is_person,
  dOf ("is_row_of_all", none) "is_row_of_all" "is_row_of_all" s_is_row_of_all,
  dOf ("check_schedule", none) "check_schedule" "check_schedule" s_check_schedule,
  dOf ("mean_of", none) "mean_of" "mean_of" s_mean_of,
  dOf ("ranked_of", none) "ranked_of" "ranked_of" s_ranked_of,
  dOf ("value_of", none) "value_of" "value_of" s_value_of,
  dOf ("flat", none) "flat" "flat" s_flat,
  dOf ("rising", none) "rising" "rising" s_rising,
  dOf ("between_pairs", none) "between_pairs" "between_pairs" s_between_pairs,
  dOf ("at", none) "at" "at" s_at,
  dOf ("straight", none) "straight" "straight" s_straight,
  dOf ("places_of", none) "places_of" "places_of" s_places_of]
def fn1 : List He.DefD := [
  dOf ("crossing", none) "crossing" "crossing" s_crossing,
  dOf ("crossings", none) "crossings" "crossings" s_crossings,
  dOf ("mean_line", none) "mean_line" "mean_line" s_mean_line,
  dOf ("ranked_line", none) "ranked_line" "ranked_line" s_ranked_line,
  dOf ("lowest", none) "lowest" "lowest" s_lowest,
  dOf ("highest", none) "highest" "highest" s_highest,
  dOf ("within", none) "within" "within" s_within,
  dOf ("line_of", none) "line_of" "line_of" s_line_of,
  dOf ("first_at", none) "first_at" "first_at" s_first_at,
  dOf ("place_between", none) "place_between" "place_between" s_place_between,
  dOf ("last_at", none) "last_at" "last_at" s_last_at,
  dOf ("first_and_last", none) "first_and_last" "first_and_last" s_first_and_last,
  dOf ("nearest", none) "nearest" "nearest" s_nearest,
  dOf ("best_places", none) "best_places" "best_places" s_best_places,
  dOf ("ends_for", none) "ends_for" "ends_for" s_ends_for,
  dOf ("wishing", none) "wishing" "wishing" s_wishing,
  dOf ("outcome_among", none) "outcome_among" "outcome_among" s_outcome_among,
  dOf ("ends_behind", none) "ends_behind" "ends_behind" s_ends_behind,
  dOf ("outcome_left", none) "outcome_left" "outcome_left" s_outcome_left,
  dOf ("one_way", none) "one_way" "one_way" s_one_way,
  dOf ("own_line", none) "own_line" "own_line" s_own_line,
  dOf ("lots_wishing", none) "lots_wishing" "lots_wishing" s_lots_wishing,
  dOf ("later_line", none) "later_line" "later_line" s_later_line,
  dOf ("bids_of", none) "bids_of" "bids_of" s_bids_of,
  dOf ("left_of", none) "left_of" "left_of" s_left_of,
  dOf ("foreseen_behind", none) "foreseen_behind" "foreseen_behind" s_foreseen_behind,
  dOf ("best_ends", none) "best_ends" "best_ends" s_best_ends,
  dOf ("Sitting", some "__init__") "__init__" "Sitting.__init__" s_Sitting_init,
  dOf ("Sitting", some "is_over") "is_over" "Sitting.is_over" s_Sitting_is_over,
  dOf ("Sitting", some "speaker") "speaker" "Sitting.speaker" s_Sitting_speaker]
def fn2 : List He.DefD := [
  dOf ("Sitting", some "bid") "bid" "Sitting.bid" s_Sitting_bid,
  dOf ("Sitting", some "play") "play" "Sitting.play" s_Sitting_play,
  dOf ("Sitting", some "bids") "bids" "Sitting.bids" s_Sitting_bids,
  dOf ("Sitting", some "foreseen") "foreseen" "Sitting.foreseen" s_Sitting_foreseen,
  dOf ("Sitting", some "best") "best" "Sitting.best" s_Sitting_best,
  dOf ("Sitting", some "told") "told" "Sitting.told" s_Sitting_told,
  dOf ("are_parts", none) "are_parts" "are_parts" s_are_parts,
  dOf ("is_weighted", none) "is_weighted" "is_weighted" s_is_weighted,
  dOf ("is_bound", none) "is_bound" "is_bound" s_is_bound,
  dOf ("parts_told", none) "parts_told" "parts_told" s_parts_told,
  dOf ("is_leaf", none) "is_leaf" "is_leaf" s_is_leaf,
  dOf ("terms_told", none) "terms_told" "terms_told" s_terms_told,
  dOf ("Rule", some "__init__") "__init__" "Rule.__init__" s_Rule_init,
  dOf ("_law_dice", none) "_law_dice" "_law_dice" s_L_dice,
  dOf ("_law_draw", none) "_law_draw" "_law_draw" s_L_draw,
  dOf ("_law_some", none) "_law_some" "_law_some" s_L_some,
  dOf ("_law_lowest", none) "_law_lowest" "_law_lowest" s_L_lowest,
  dOf ("_law_sum", none) "_law_sum" "_law_sum" s_L_sum,
  dOf ("_law_product", none) "_law_product" "_law_product" s_L_product,
  dOf ("_law_less", none) "_law_less" "_law_less" s_L_less,
  dOf ("_law_sorted", none) "_law_sorted" "_law_sorted" s_L_sorted,
  dOf ("_law_far", none) "_law_far" "_law_far" s_L_far,
  dOf ("_law_number", none) "_law_number" "_law_number" s_L_number,
  dOf ("_law_numbers", none) "_law_numbers" "_law_numbers" s_L_numbers,
  dOf ("_law_term", none) "_law_term" "_law_term" s_L_term,
  dOf ("_law_small", none) "_law_small" "_law_small" s_L_small,
  dOf ("_law_value", none) "_law_value" "_law_value" s_L_value,
  dOf ("_law_lots", none) "_law_lots" "_law_lots" s_L_lots,
  dOf ("_law_by_size", none) "_law_by_size" "_law_by_size" s_L_by_size,
  dOf ("_law_at_ends", none) "_law_at_ends" "_law_at_ends" s_L_at_ends]
def fn3 : List He.DefD := [
  dOf ("_law_corner", none) "_law_corner" "_law_corner" s_L_corner,
  dOf ("_law_outcome", none) "_law_outcome" "_law_outcome" s_L_outcome,
  dOf ("_law_schedule", none) "_law_schedule" "_law_schedule" s_L_schedule,
  dOf ("_law_bids", none) "_law_bids" "_law_bids" s_L_bids,
  dOf ("_law_left", none) "_law_left" "_law_left" s_L_left,
  dOf ("_law_later", none) "_law_later" "_law_later" s_L_later,
  dOf ("_law_near", none) "_law_near" "_law_near" s_L_near,
  dOf ("_law_is_best", none) "_law_is_best" "_law_is_best" s_L_is_best,
  dOf ("_law_is_account", none) "_law_is_account" "_law_is_account" s_L_is_account,
  dOf ("law", none) "law" "law" s_law]
def fn : List He.DefD := fn0 ++ fn1 ++ fn2 ++ fn3
def fa0 : List He.Fa := [.glo "is_integer", .glo "divisor", .glo "made", .glo "plus", .glo "minus", .glo "times", .glo "over", .glo "is_less", .glo "least_of", .glo "greatest_of", .glo "ascending", .glo "middle", .glo "is_fraction", .glo "is_within", .glo "is_number", .glo "check_number", .glo "are_numbers", .glo "check_wishes", .glo "is_person", .glo "is_row_of_all", .glo "check_schedule", .glo "mean_of", .glo "ranked_of", .glo "value_of", .glo "flat", .glo "rising", .glo "between_pairs", .glo "at", .glo "straight", .glo "places_of"]
def fa1 : List He.Fa := [.glo "crossing", .glo "crossings", .glo "mean_line", .glo "ranked_line", .glo "lowest", .glo "highest", .glo "within", .glo "line_of", .glo "first_at", .glo "place_between", .glo "last_at", .glo "first_and_last", .glo "nearest", .glo "best_places", .glo "ends_for", .glo "wishing", .glo "outcome_among", .glo "ends_behind", .glo "outcome_left", .glo "one_way", .glo "own_line", .glo "lots_wishing", .glo "later_line", .glo "bids_of", .glo "left_of", .glo "foreseen_behind", .glo "best_ends", .glo "are_parts", .glo "is_weighted", .glo "is_bound"]
def fa2 : List He.Fa := [.glo "parts_told", .glo "is_leaf", .glo "terms_told", .glo "_law_dice", .glo "_law_draw", .glo "_law_some", .glo "_law_lowest", .glo "_law_sum", .glo "_law_product", .glo "_law_less", .glo "_law_sorted", .glo "_law_far", .glo "_law_number", .glo "_law_numbers", .glo "_law_term", .glo "_law_small", .glo "_law_value", .glo "_law_lots", .glo "_law_by_size", .glo "_law_at_ends", .glo "_law_corner", .glo "_law_outcome", .glo "_law_schedule", .glo "_law_bids", .glo "_law_left", .glo "_law_later", .glo "_law_near", .glo "_law_is_best", .glo "_law_is_account", .glo "law"]
def fa3 : List He.Fa := [.glo "Sitting", .glo "Rule", .glo "ZERO", .glo "ONE", .free "abs", .free "all", .free "bool", .free "enumerate", .free "int", .free "isinstance", .free "len", .free "list", .free "range", .free "set", .free "sorted", .free "str", .free "sum", .free "tuple", .free "zip", .int "MOST_PEOPLE" 6, .int "MOST_TURNS" 12, .int "MOST_DEEP" 8, .int "MOST_TERMS" 60, .int "MOST_PARTS" 8, .int "MOST_WEIGHT" 99, .cls "Sitting", .cls "Rule", .mkr "Sitting", .mkr "Rule", .noat "Sitting" "rule"]
def fa4 : List He.Fa := [.noat "Sitting" "wishes", .noat "Sitting" "schedule", .noat "Sitting" "said", .noat "Rule" "people", .noat "Rule" "term", .meth "Sitting" "is_over", .meth "Sitting" "speaker", .meth "Sitting" "bid", .meth "Sitting" "play", .meth "Sitting" "bids", .meth "Sitting" "foreseen", .meth "Sitting" "best", .meth "Sitting" "told"]
def fa : List He.Fa := fa0 ++ fa1 ++ fa2 ++ fa3 ++ fa4
def names0 : List Str := ["_wall", "is_integer", "divisor", "made", "plus", "minus", "times", "over", "is_less", "least_of", "greatest_of", "ascending", "middle", "is_fraction", "is_within", "is_number", "check_number", "are_numbers", "check_wishes", "is_person", "is_row_of_all", "check_schedule", "mean_of", "ranked_of", "value_of", "flat", "rising", "between_pairs", "at", "straight"]
def names1 : List Str := ["places_of", "crossing", "crossings", "mean_line", "ranked_line", "lowest", "highest", "within", "line_of", "first_at", "place_between", "last_at", "first_and_last", "nearest", "best_places", "ends_for", "wishing", "outcome_among", "ends_behind", "outcome_left", "one_way", "own_line", "lots_wishing", "later_line", "bids_of", "left_of", "foreseen_behind", "best_ends", "are_parts", "is_weighted"]
def names2 : List Str := ["is_bound", "parts_told", "is_leaf", "terms_told", "_law_dice", "_law_draw", "_law_some", "_law_lowest", "_law_sum", "_law_product", "_law_less", "_law_sorted", "_law_far", "_law_number", "_law_numbers", "_law_term", "_law_small", "_law_value", "_law_lots", "_law_by_size", "_law_at_ends", "_law_corner", "_law_outcome", "_law_schedule", "_law_bids", "_law_left", "_law_later", "_law_near", "_law_is_best", "_law_is_account"]
def names3 : List Str := ["BidError", "BadRule", "NoWishes", "NoNumber", "NoSchedule", "NoTurn", "ZERO", "ONE", "MOST_PEOPLE", "MOST_TURNS", "Sitting", "MOST_DEEP", "MOST_TERMS", "MOST_PARTS", "MOST_WEIGHT", "Rule"]
def names : List Str := names0 ++ names1 ++ names2 ++ names3
/-- the objects that a division by great numbers asks for are among those that K tells -/
def exS (K : PySem.W.Frag) : Bool := (K.lookup cStatics).isSome && (K.lookup sysModules).isSome && (K.lookup builtinsNs).isSome && (K.lookup mainGlobals).isSome && (match PySem.W.nsIn K mainGlobals "__builtins__" with
  | some (some (.ref bm)) => (K.lookup bm).isSome
  | _ => false)
def ex (K : PySem.W.Frag) : Bool := He.tupB K "ZERO" [.int 0, .int 1] && He.tupB K "ONE" [.int 1, .int 1] && exS K
abbrev R : PySem.W.OpenRow := PySem.W.OpenLaw.row PySem.Challenge.rw_cornerbids_k82_whole_sittings_by_own_acc
/-- the addresses that the facts lean on: the module's names, their codes, the classes' dicts, their methods, their codes -/
def nextA (g : Addr → Option Obj) (as : List Addr) : List Addr := as.flatMap fun a => match g a with
  | some o => (match o.data with
    | .func fd => He.refV fd.code
    | .cls cd => [cd.ns]
    | .dict es _ => es.toList.flatMap fun e => He.refV e.val
    | _ => [])
  | none => []
def asM (g : Addr → Option Obj) : List Addr :=
  let a1 := nextA g [mainGlobals]
  let a2 := nextA g a1
  let a3 := nextA g a2
  let a4 := nextA g a3
  cStatics :: sysModules :: builtinsNs :: mainGlobals :: (a1 ++ (a2 ++ (a3 ++ a4)))
/-- the list is written out before it is used -/
def force {α : Type} : List Addr → (List Addr → α) → α
  | [], k => k []
  | a :: r, k => HandSHeadRun.frNat a fun a => force r fun r => k (a :: r)
theorem force_eq {α : Type} : ∀ (l : List Addr) (k : List Addr → α), force l k = k l
  | [], _ => rfl
  | a :: r, k => by
    unfold force
    rw [HandSHeadRun.frNat_eq, force_eq r]
def forceK {α : Type} (g : Addr → Option Obj) : List Addr → (PySem.W.Frag → α) → α
  | [], k => k []
  | a :: r, k => match g a with
    | some o => forceK g r fun r => k ((a, o) :: r)
    | none => forceK g r k
theorem forceK_eq {α : Type} {g : Addr → Option Obj} : ∀ (l : List Addr) (k : PySem.W.Frag → α), forceK g l k = k (He.frG g l)
  | [], _ => rfl
  | a :: r, k => by
    unfold forceK
    cases e : g a with
    | none =>
      unfold He.frG
      rw [List.filterMap_cons, e]
      exact forceK_eq r _
    | some o =>
      unfold He.frG
      rw [List.filterMap_cons, e]
      exact forceK_eq r _
def obM (g : Addr → Option Obj) : He.AlD × Bool := force (asM g) fun as => forceK g as fun K => (He.obsD fa fn K, ex K)
def hk : PySem.W.Hook where
  α := He.AlD × Bool
  obs := fun s => obM s.heap.get?
  val := fun _ => (He.valD fn, true)
  says := fun _ h => ∃ K : PySem.W.Frag, K.In h ∧ He.SaysD fa fn K ∧ ex K = true
  of := fun _ s e => by
    have e2 : obM s.heap.get? = (He.valD fn, true) := e
    unfold obM at e2
    rw [force_eq, forceK_eq] at e2
    exact ⟨_, He.frG_in, congrArg Prod.fst e2, congrArg Prod.snd e2⟩
  keeps := fun _ _ _ ⟨K, hK, c⟩ k => ⟨K, PySem.W.Frag.In.keeps hK k, c⟩
def ob (s : PySem.W.SharedT) : He.AlD × Bool := obM (HandSHeadRun.getT s)
theorem ob_eq (s : PySem.W.SharedT) : ob s = hk.obs s.abs := by
  have e : HandSHeadRun.getT s = s.abs.heap.get? := funext (HandSHeadRun.getT_eq s)
  show obM (HandSHeadRun.getT s) = obM s.abs.heap.get?
  rw [e]
theorem run (w : World) : HandSHeadRun.RunEq R (PySem.W.view R.prog [118]) hk ob 6000 names w := by
  intro os
  kernel_rfl
end Cb
set_option Elab.async false
set_option linter.all false
set_option maxRecDepth 100000
set_option maxHeartbeats 4000000
/-! all promises together -/
namespace Cb
open PySem PySem.Spec PyProof.Rows L2
section
variable {P : Program} {w : World} {K : PySem.W.Frag} {mg : Str → Option Value} {h base : Heap}
theorem ns_move {x : Addr} {m : Str → Option Value} (X : K.In h) (Y : K.In base) (hk : (K.lookup x).isSome = true) (n : h.Ns x m) : base.Ns x m := by
  obtain ⟨o, es, ep, e, r⟩ := n
  obtain ⟨o', e'⟩ := Option.isSome_iff_exists.mp hk
  have q := X _ _ e'
  rw [e] at q
  cases q
  exact ⟨o, es, ep, Y _ _ e', r⟩
theorem seer_move (X : K.In h) (Y : K.In base) (hS : h.NoSeer) (hx : exS K = true) : base.NoSeer := by
  unfold exS at hx
  simp only [Bool.and_eq_true] at hx
  obtain ⟨⟨⟨⟨x1, x2⟩, x3⟩, x4⟩, x5⟩ := hx
  refine ⟨?_, ?_, ?_, ?_⟩
  · obtain ⟨mc, n, r⟩ := hS.statics
    exact ⟨mc, ns_move X Y x1 n, r⟩
  · obtain ⟨mm, n, r⟩ := hS.mods
    exact ⟨mm, ns_move X Y x2 n, r⟩
  · obtain ⟨mb, n, r⟩ := hS.imp
    exact ⟨mb, ns_move X Y x3 n, r⟩
  · obtain ⟨mg, bm, ob, n, r1, r2, r3, r4⟩ := hS.main
    refine ⟨mg, bm, ob, ns_move X Y x4 n, r1, ?_, r3, r4⟩
    split at x5
    · rename_i bm' e
      have := PySem.W.mg_of X n e
      rw [r1] at this
      cases this
      obtain ⟨o', e'⟩ := Option.isSome_iff_exists.mp x5
      have q := X _ _ e'
      rw [r2] at q
      cases q
      exact Y _ _ e'
    · cases x5
theorem df_of {x : Str} {st : Stmt} (X : K.In h) (G : h.Ns mainGlobals mg) (f1 : ∃ fd, FunD K x x (defArgs st) (defBody st) (defScope st) [] [] (He.ga K x) fd) (f2 : (He.Fa.glo x).ok K = true) : Df K mg x st := by
  obtain ⟨fd, F⟩ := f1
  exact ⟨_, fd, F, He.glo_ok X G f2⟩
theorem dm_of {x m qn : Str} {st : Stmt} (f1 : ∃ fd, FunD K m qn (defArgs st) (defBody st) (defScope st) [] [] (He.ma K (He.ga K x) m) fd) (f2 : (He.Fa.meth x m).ok K = true) : DfM K (He.ga K x) m qn st := by
  obtain ⟨fd, F⟩ := f1
  exact ⟨_, fd, F, He.meth_ok f2⟩
theorem di_of {x qn : Str} {st : Stmt} (X : K.In h) (G : h.Ns mainGlobals mg) (f1 : ∃ fd, FunD K "__init__" qn (defArgs st) (defBody st) (defScope st) [] [] (He.ma K (He.ga K x) "__init__") fd) (f2 : (He.Fa.mkr x).ok K = true) (f3 : (He.Fa.glo x).ok K = true) : DfI K mg x (He.ga K x) qn st := by
  obtain ⟨fd, F⟩ := f1
  exact ⟨_, fd, F, He.mkr_ok f2, He.glo_ok X G f3⟩
theorem wd_of (X : K.In h) (G : h.Ns mainGlobals mg) (c : He.SaysD fa fn K) (e : ex K = true) (ht : P.given.tree = none) (hs : base.NoSeer) : Wd P K mg base := by
  unfold ex at e
  simp only [Bool.and_eq_true] at e
  obtain ⟨⟨e1, e2⟩, _⟩ := e
  exact {
    seer := hs
    tree := ht
    abs := He.free_ok X G (c.fact 94 (f := .free "abs") rfl)
    all := He.free_ok X G (c.fact 95 (f := .free "all") rfl)
    bool := He.free_ok X G (c.fact 96 (f := .free "bool") rfl)
    enum := He.free_ok X G (c.fact 97 (f := .free "enumerate") rfl)
    int := He.free_ok X G (c.fact 98 (f := .free "int") rfl)
    isi := He.free_ok X G (c.fact 99 (f := .free "isinstance") rfl)
    len := He.free_ok X G (c.fact 100 (f := .free "len") rfl)
    list := He.free_ok X G (c.fact 101 (f := .free "list") rfl)
    range := He.free_ok X G (c.fact 102 (f := .free "range") rfl)
    set := He.free_ok X G (c.fact 103 (f := .free "set") rfl)
    sorted := He.free_ok X G (c.fact 104 (f := .free "sorted") rfl)
    str := He.free_ok X G (c.fact 105 (f := .free "str") rfl)
    sum := He.free_ok X G (c.fact 106 (f := .free "sum") rfl)
    tuple := He.free_ok X G (c.fact 107 (f := .free "tuple") rfl)
    zip := He.free_ok X G (c.fact 108 (f := .free "zip") rfl)
    zero := ⟨_, He.glo_ok X G (c.fact 92 (f := .glo "ZERO") rfl), He.tupB_ok e1⟩
    one := ⟨_, He.glo_ok X G (c.fact 93 (f := .glo "ONE") rfl), He.tupB_ok e2⟩
    mostP := He.int_ok X G (c.fact 109 (f := .int "MOST_PEOPLE" 6) rfl)
    mostT := He.int_ok X G (c.fact 110 (f := .int "MOST_TURNS" 12) rfl)
    mostD := He.int_ok X G (c.fact 111 (f := .int "MOST_DEEP" 8) rfl)
    mostE := He.int_ok X G (c.fact 112 (f := .int "MOST_TERMS" 60) rfl)
    mostA := He.int_ok X G (c.fact 113 (f := .int "MOST_PARTS" 8) rfl)
    mostW := He.int_ok X G (c.fact 114 (f := .int "MOST_WEIGHT" 99) rfl)
  }
theorem law_all (X : K.In h) (G : h.Ns mainGlobals mg) (c : He.SaysD fa fn K) (e : ex K = true) (ht : P.given.tree = none) (hs : base.NoSeer) {fd : FuncData} (FL : FunD K "law" "law" (defArgs s_law) (defBody s_law) (defScope s_law) [] [] (He.ga K "law") fd) : FnOk P w K mg base CX0 51 (He.ga K "law") fd p_law (spLaw K) := by
  have W : Wd P K mg base := wd_of X G c e ht hs
  have R : RCls K (He.ga K "Rule") := ⟨He.cls_ok (c.fact 116 (f := .cls "Rule") rfl), He.noat_ok (c.fact 123 (f := .noat "Rule" "people") rfl), He.noat_ok (c.fact 124 (f := .noat "Rule" "term") rfl)⟩
  have S : SCls K (He.ga K "Sitting") := ⟨He.cls_ok (c.fact 115 (f := .cls "Sitting") rfl), He.noat_ok (c.fact 119 (f := .noat "Sitting" "rule") rfl), He.noat_ok (c.fact 120 (f := .noat "Sitting" "wishes") rfl), He.noat_ok (c.fact 121 (f := .noat "Sitting" "schedule") rfl), He.noat_ok (c.fact 122 (f := .noat "Sitting" "said") rfl)⟩
  have c_divisor : C8.Cal P w K mg base 33 "divisor" (spP K 2 preDiv) [] := ok_divisor W (df_of X G (c.def_ 1 (d := dOf ("divisor", none) "divisor" "divisor" s_divisor) rfl) (c.fact 1 (f := .glo "divisor") rfl))
  have c_made : C8.Cal P w K mg base 34 "made" (spP K 2 preMade) [] := ok_made W (df_of X G (c.def_ 2 (d := dOf ("made", none) "made" "made" s_made) rfl) (c.fact 2 (f := .glo "made") rfl)) c_divisor
  have c_plus : C8.Cal P w K mg base 35 "plus" (spPlus K) [] := ok_plus W (df_of X G (c.def_ 3 (d := dOf ("plus", none) "plus" "plus" s_plus) rfl) (c.fact 3 (f := .glo "plus") rfl)) c_made
  have c_minus : C8.Cal P w K mg base 35 "minus" (spMinus K) [] := ok_minus W (df_of X G (c.def_ 4 (d := dOf ("minus", none) "minus" "minus" s_minus) rfl) (c.fact 4 (f := .glo "minus") rfl)) c_made
  have c_times : C8.Cal P w K mg base 35 "times" (spTimes K) [] := ok_times W (df_of X G (c.def_ 5 (d := dOf ("times", none) "times" "times" s_times) rfl) (c.fact 5 (f := .glo "times") rfl)) c_made
  have c_over : C8.Cal P w K mg base 35 "over" (spOver K) [] := ok_over W (df_of X G (c.def_ 6 (d := dOf ("over", none) "over" "over" s_over) rfl) (c.fact 6 (f := .glo "over") rfl)) c_made
  have c_is_less : C8.Cal P w K mg base 35 "is_less" (spLess K) [] := ok_is_less W (df_of X G (c.def_ 7 (d := dOf ("is_less", none) "is_less" "is_less" s_is_less) rfl) (c.fact 7 (f := .glo "is_less") rfl))
  have c_least_of : C8.Cal P w K mg base 36 "least_of" (spLeast K) [] := ok_least_of W (df_of X G (c.def_ 8 (d := dOf ("least_of", none) "least_of" "least_of" s_least_of) rfl) (c.fact 8 (f := .glo "least_of") rfl)) c_is_less
  have c_greatest_of : C8.Cal P w K mg base 36 "greatest_of" (spGreatest K) [] := ok_greatest_of W (df_of X G (c.def_ 9 (d := dOf ("greatest_of", none) "greatest_of" "greatest_of" s_greatest_of) rfl) (c.fact 9 (f := .glo "greatest_of") rfl)) c_is_less
  have c_ascending : C8.Cal P w K mg base 36 "ascending" (spAsc K) [] := ok_ascending W (df_of X G (c.def_ 10 (d := dOf ("ascending", none) "ascending" "ascending" s_ascending) rfl) (c.fact 10 (f := .glo "ascending") rfl)) c_is_less
  have c_middle : C8.Cal P w K mg base 37 "middle" (spMiddle K) [] := ok_middle W (df_of X G (c.def_ 11 (d := dOf ("middle", none) "middle" "middle" s_middle) rfl) (c.fact 11 (f := .glo "middle") rfl)) c_ascending
  have c_is_integer : C8.Cal P w K mg base 35 "is_integer" (spIsInt K) [] := ok_is_integer W (df_of X G (c.def_ 0 (d := dOf ("is_integer", none) "is_integer" "is_integer" s_is_integer) rfl) (c.fact 0 (f := .glo "is_integer") rfl))
  have c_is_fraction : C8.Cal P w K mg base 36 "is_fraction" (spIsFrac K) [] := ok_is_fraction W (df_of X G (c.def_ 12 (d := dOf ("is_fraction", none) "is_fraction" "is_fraction" s_is_fraction) rfl) (c.fact 12 (f := .glo "is_fraction") rfl)) c_is_integer c_divisor
  have c_is_within : C8.Cal P w K mg base 36 "is_within" (spWithin K) [] := ok_is_within W (df_of X G (c.def_ 13 (d := dOf ("is_within", none) "is_within" "is_within" s_is_within) rfl) (c.fact 13 (f := .glo "is_within") rfl)) c_is_integer
  have c_is_number : C8.Cal P w K mg base 37 "is_number" (spIsNum K) [] := ok_is_number W (df_of X G (c.def_ 14 (d := dOf ("is_number", none) "is_number" "is_number" s_is_number) rfl) (c.fact 14 (f := .glo "is_number") rfl)) c_is_fraction
  have c_check_number : C8.Cal P w K mg base 38 "check_number" (spChkNum K) [] := ok_check_number W (df_of X G (c.def_ 15 (d := dOf ("check_number", none) "check_number" "check_number" s_check_number) rfl) (c.fact 15 (f := .glo "check_number") rfl)) c_is_number
  have c_are_numbers : C8.Cal P w K mg base 38 "are_numbers" (spAreNum K) [] := ok_are_numbers W (df_of X G (c.def_ 16 (d := dOf ("are_numbers", none) "are_numbers" "are_numbers" s_are_numbers) rfl) (c.fact 16 (f := .glo "are_numbers") rfl)) c_is_number
  have c_check_wishes : C8.Cal P w K mg base 39 "check_wishes" (spChkW K (He.ga K "Rule")) [] := ok_check_wishes W R (df_of X G (c.def_ 17 (d := dOf ("check_wishes", none) "check_wishes" "check_wishes" s_check_wishes) rfl) (c.fact 17 (f := .glo "check_wishes") rfl)) c_are_numbers
  have c_is_person : C8.Cal P w K mg base 37 "is_person" (spIsPerson K (He.ga K "Rule")) [] := ok_is_person W R (df_of X G (c.def_ 18 (d := dOf ("is_person", none) "is_person" "is_person" s_is_person) rfl) (c.fact 18 (f := .glo "is_person") rfl)) c_is_within
  have c_is_row_of_all : C8.Cal P w K mg base 38 "is_row_of_all" (spRow K (He.ga K "Rule")) [] := ok_is_row_of_all W R (df_of X G (c.def_ 19 (d := dOf ("is_row_of_all", none) "is_row_of_all" "is_row_of_all" s_is_row_of_all) rfl) (c.fact 19 (f := .glo "is_row_of_all") rfl)) c_is_person
  have c_check_schedule : C8.Cal P w K mg base 39 "check_schedule" (spChkS K (He.ga K "Rule")) [] := ok_check_schedule W (df_of X G (c.def_ 20 (d := dOf ("check_schedule", none) "check_schedule" "check_schedule" s_check_schedule) rfl) (c.fact 20 (f := .glo "check_schedule") rfl)) c_is_row_of_all
  have c_mean_of : C8.Cal P w K mg base 36 "mean_of" (spMean K) [] := ok_mean_of W (df_of X G (c.def_ 21 (d := dOf ("mean_of", none) "mean_of" "mean_of" s_mean_of) rfl) (c.fact 21 (f := .glo "mean_of") rfl)) c_made c_plus c_times
  have c_ranked_of : C8.Cal P w K mg base 37 "ranked_of" (spRanked K) [] := ok_ranked_of W (df_of X G (c.def_ 22 (d := dOf ("ranked_of", none) "ranked_of" "ranked_of" s_ranked_of) rfl) (c.fact 22 (f := .glo "ranked_of") rfl)) c_ascending
  have c_value_of : C8.Cal P w K mg base 41 "value_of" (spP K 2 (preVal 3)) [] := ok_value_of W (df_of X G (c.def_ 23 (d := dOf ("value_of", none) "value_of" "value_of" s_value_of) rfl) (c.fact 23 (f := .glo "value_of") rfl)) c_mean_of c_middle c_ranked_of c_least_of c_greatest_of 3
  have c_flat : C8.Cal P w K mg base 33 "flat" (spFlat K) [] := ok_flat W (df_of X G (c.def_ 24 (d := dOf ("flat", none) "flat" "flat" s_flat) rfl) (c.fact 24 (f := .glo "flat") rfl))
  have c_rising : C8.Cal P w K mg base 33 "rising" (spRising K) [] := ok_rising W (df_of X G (c.def_ 25 (d := dOf ("rising", none) "rising" "rising" s_rising) rfl) (c.fact 25 (f := .glo "rising") rfl))
  have c_between_pairs : C8.Cal P w K mg base 36 "between_pairs" (spBtw K) [] := ok_between_pairs W (df_of X G (c.def_ 26 (d := dOf ("between_pairs", none) "between_pairs" "between_pairs" s_between_pairs) rfl) (c.fact 26 (f := .glo "between_pairs") rfl)) c_over c_minus c_plus c_times
  have c_at : C8.Cal P w K mg base 37 "at" (spAt K) [] := ok_at W (df_of X G (c.def_ 27 (d := dOf ("at", none) "at" "at" s_at) rfl) (c.fact 27 (f := .glo "at") rfl)) c_is_less c_between_pairs
  have c_straight : C8.Cal P w K mg base 37 "straight" (spStraight K) [] := ok_straight W (df_of X G (c.def_ 28 (d := dOf ("straight", none) "straight" "straight" s_straight) rfl) (c.fact 28 (f := .glo "straight") rfl)) c_between_pairs
  have c_crossing : C8.Cal P w K mg base 38 "crossing" (spCross K) [] := ok_crossing W (df_of X G (c.def_ 30 (d := dOf ("crossing", none) "crossing" "crossing" s_crossing) rfl) (c.fact 30 (f := .glo "crossing") rfl)) c_at c_over c_minus c_plus c_times
  have c_places_of : C8.Cal P w K mg base 37 "places_of" (spPlaces K) [] := ok_places_of W (df_of X G (c.def_ 29 (d := dOf ("places_of", none) "places_of" "places_of" s_places_of) rfl) (c.fact 29 (f := .glo "places_of") rfl)) c_ascending
  have c_crossings : C8.Cal P w K mg base 39 "crossings" (spCrossings K) [] := ok_crossings W (df_of X G (c.def_ 31 (d := dOf ("crossings", none) "crossings" "crossings" s_crossings) rfl) (c.fact 31 (f := .glo "crossings") rfl)) c_ascending c_crossing
  have c_mean_line : C8.Cal P w K mg base 38 "mean_line" (spMeanLine K) [] := ok_mean_line W (df_of X G (c.def_ 32 (d := dOf ("mean_line", none) "mean_line" "mean_line" s_mean_line) rfl) (c.fact 32 (f := .glo "mean_line") rfl)) c_places_of c_straight c_mean_of c_at
  have c_ranked_line : C8.Cal P w K mg base 40 "ranked_line" (spRankLine K) [] := ok_ranked_line W (df_of X G (c.def_ 33 (d := dOf ("ranked_line", none) "ranked_line" "ranked_line" s_ranked_line) rfl) (c.fact 33 (f := .glo "ranked_line") rfl)) c_places_of c_crossings c_straight c_ranked_of c_at
  have c_lowest : C8.Cal P w K mg base 41 "lowest" (spP K 1 (preLow fun _ => 0)) [] := ok_lowest W (df_of X G (c.def_ 34 (d := dOf ("lowest", none) "lowest" "lowest" s_lowest) rfl) (c.fact 34 (f := .glo "lowest") rfl)) c_ranked_line
  have c_highest : C8.Cal P w K mg base 41 "highest" (spP K 1 (preLow fun n => n - 1)) [] := ok_highest W (df_of X G (c.def_ 35 (d := dOf ("highest", none) "highest" "highest" s_highest) rfl) (c.fact 35 (f := .glo "highest") rfl)) c_ranked_line
  have c_within : C8.Cal P w K mg base 41 "within" (spWithinL K) [] := ok_within W (df_of X G (c.def_ 36 (d := dOf ("within", none) "within" "within" s_within) rfl) (c.fact 36 (f := .glo "within") rfl)) c_ranked_line c_flat
  have c_line_of : C8.Cal P w K mg base 45 "line_of" (spP K 2 (preLine 3)) [] := ok_line_of W (df_of X G (c.def_ 37 (d := dOf ("line_of", none) "line_of" "line_of" s_line_of) rfl) (c.fact 37 (f := .glo "line_of") rfl)) c_flat c_mean_line c_ranked_line c_within c_lowest c_highest 3
  have c_place_between : C8.Cal P w K mg base 36 "place_between" (spPb K) [] := ok_place_between W (df_of X G (c.def_ 39 (d := dOf ("place_between", none) "place_between" "place_between" s_place_between) rfl) (c.fact 39 (f := .glo "place_between") rfl)) c_over c_minus c_plus c_times
  have c_first_at : C8.Cal P w K mg base 37 "first_at" (spFirst K) [] := ok_first_at W (df_of X G (c.def_ 38 (d := dOf ("first_at", none) "first_at" "first_at" s_first_at) rfl) (c.fact 38 (f := .glo "first_at") rfl)) c_is_less c_place_between
  have c_last_at : C8.Cal P w K mg base 37 "last_at" (spLast K) [] := ok_last_at W (df_of X G (c.def_ 40 (d := dOf ("last_at", none) "last_at" "last_at" s_last_at) rfl) (c.fact 40 (f := .glo "last_at") rfl)) c_is_less c_place_between
  have c_first_and_last : C8.Cal P w K mg base 38 "first_and_last" (spFL K) [] := ok_first_and_last W (df_of X G (c.def_ 41 (d := dOf ("first_and_last", none) "first_and_last" "first_and_last" s_first_and_last) rfl) (c.fact 41 (f := .glo "first_and_last") rfl)) c_is_less c_first_at c_last_at
  have c_nearest : C8.Cal P w K mg base 38 "nearest" (spNearest K) [] := ok_nearest W (df_of X G (c.def_ 42 (d := dOf ("nearest", none) "nearest" "nearest" s_nearest) rfl) (c.fact 42 (f := .glo "nearest") rfl)) c_middle
  have c_best_places : C8.Cal P w K mg base 39 "best_places" (spBestP K) [] := ok_best_places W (df_of X G (c.def_ 43 (d := dOf ("best_places", none) "best_places" "best_places" s_best_places) rfl) (c.fact 43 (f := .glo "best_places") rfl)) c_first_and_last c_nearest
  have c_ends_for : C8.Cal P w K mg base 33 "ends_for" (spEnds K) [] := ok_ends_for W (df_of X G (c.def_ 44 (d := dOf ("ends_for", none) "ends_for" "ends_for" s_ends_for) rfl) (c.fact 44 (f := .glo "ends_for") rfl))
  have c_wishing : C8.Cal P w K mg base 36 "wishing" (spWishing K) [] := ok_wishing W (df_of X G (c.def_ 45 (d := dOf ("wishing", none) "wishing" "wishing" s_wishing) rfl) (c.fact 45 (f := .glo "wishing") rfl)) c_is_less
  have c_outcome_among : C8.Cal P w K mg base 42 "outcome_among" (spAmong K (He.ga K "Rule")) [] := ok_outcome_among W R (df_of X G (c.def_ 46 (d := dOf ("outcome_among", none) "outcome_among" "outcome_among" s_outcome_among) rfl) (c.fact 46 (f := .glo "outcome_among") rfl)) c_value_of c_ends_for c_wishing c_least_of c_greatest_of
  have c_ends_behind : C8.Cal P w K mg base 33 "ends_behind" (spBehind K (He.ga K "Rule")) [] := ok_ends_behind W (df_of X G (c.def_ 47 (d := dOf ("ends_behind", none) "ends_behind" "ends_behind" s_ends_behind) rfl) (c.fact 47 (f := .glo "ends_behind") rfl))
  have c_outcome_left : C8.Cal P w K mg base 43 "outcome_left" (spOutLeft K (He.ga K "Rule")) [] := ok_outcome_left W (df_of X G (c.def_ 48 (d := dOf ("outcome_left", none) "outcome_left" "outcome_left" s_outcome_left) rfl) (c.fact 48 (f := .glo "outcome_left") rfl)) c_ends_behind c_outcome_among
  have c_one_way : C8.Cal P w K mg base 34 "one_way" (spWay K) [] := ok_one_way W (df_of X G (c.def_ 49 (d := dOf ("one_way", none) "one_way" "one_way" s_one_way) rfl) (c.fact 49 (f := .glo "one_way") rfl)) c_rising c_flat
  have c_own_line : C8.Cal P w K mg base 46 "own_line" (spOwn K (He.ga K "Rule")) [] := ok_own_line W R (df_of X G (c.def_ 50 (d := dOf ("own_line", none) "own_line" "own_line" s_own_line) rfl) (c.fact 50 (f := .glo "own_line") rfl)) c_one_way c_line_of
  have c_lots_wishing : C8.Cal P w K mg base 37 "lots_wishing" (spLots P w K) [] := ok_lots_wishing W (df_of X G (c.def_ 51 (d := dOf ("lots_wishing", none) "lots_wishing" "lots_wishing" s_lots_wishing) rfl) (c.fact 51 (f := .glo "lots_wishing") rfl)) c_wishing
  have c_later_line : C8.Cal P w K mg base 47 "later_line" (spLaterL K (He.ga K "Rule")) [] := ok_later_line W (df_of X G (c.def_ 52 (d := dOf ("later_line", none) "later_line" "later_line" s_later_line) rfl) (c.fact 52 (f := .glo "later_line") rfl)) c_ends_behind c_own_line c_lots_wishing c_ends_for c_flat c_lowest c_highest
  have c_bids_of : C8.Cal P w K mg base 33 "bids_of" (spBidsOf K (He.ga K "Rule")) [] := ok_bids_of W R (df_of X G (c.def_ 53 (d := dOf ("bids_of", none) "bids_of" "bids_of" s_bids_of) rfl) (c.fact 53 (f := .glo "bids_of") rfl))
  have c_left_of : C8.Cal P w K mg base 33 "left_of" (spLeftOf K) [] := ok_left_of W (df_of X G (c.def_ 54 (d := dOf ("left_of", none) "left_of" "left_of" s_left_of) rfl) (c.fact 54 (f := .glo "left_of") rfl))
  have c_foreseen_behind : C8.Cal P w K mg base 44 "foreseen_behind" (spFore K (He.ga K "Rule")) [] := ok_foreseen_behind W (df_of X G (c.def_ 55 (d := dOf ("foreseen_behind", none) "foreseen_behind" "foreseen_behind" s_foreseen_behind) rfl) (c.fact 55 (f := .glo "foreseen_behind") rfl)) c_outcome_left c_bids_of c_left_of
  have c_best_ends : C8.Cal P w K mg base 48 "best_ends" (spBestE K (He.ga K "Rule")) [] := ok_best_ends W (df_of X G (c.def_ 56 (d := dOf ("best_ends", none) "best_ends" "best_ends" s_best_ends) rfl) (c.fact 56 (f := .glo "best_ends") rfl)) c_left_of c_bids_of c_later_line c_best_places
  have c_L_lowest : C8.Cal P w K mg base 33 "_law_lowest" (spLowestL K) [] := ok_L_lowest W (df_of X G (c.def_ 76 (d := dOf ("_law_lowest", none) "_law_lowest" "_law_lowest" s_L_lowest) rfl) (c.fact 66 (f := .glo "_law_lowest") rfl))
  have c_L_sum : C8.Cal P w K mg base 34 "_law_sum" (spSumL K) [] := ok_L_sum W (df_of X G (c.def_ 77 (d := dOf ("_law_sum", none) "_law_sum" "_law_sum" s_L_sum) rfl) (c.fact 67 (f := .glo "_law_sum") rfl)) c_L_lowest
  have c_L_product : C8.Cal P w K mg base 34 "_law_product" (spProdL K) [] := ok_L_product W (df_of X G (c.def_ 78 (d := dOf ("_law_product", none) "_law_product" "_law_product" s_L_product) rfl) (c.fact 68 (f := .glo "_law_product") rfl)) c_L_lowest
  have c_L_less : C8.Cal P w K mg base 33 "_law_less" (spLess K) [] := ok_L_less W (df_of X G (c.def_ 79 (d := dOf ("_law_less", none) "_law_less" "_law_less" s_L_less) rfl) (c.fact 69 (f := .glo "_law_less") rfl))
  have c_L_far : C8.Cal P w K mg base 35 "_law_far" (spFarL K) [] := ok_L_far W (df_of X G (c.def_ 81 (d := dOf ("_law_far", none) "_law_far" "_law_far" s_L_far) rfl) (c.fact 71 (f := .glo "_law_far") rfl)) c_L_sum
  have c_L_sorted : C8.Cal P w K mg base 34 "_law_sorted" (spAsc K) [] := ok_L_sorted W (df_of X G (c.def_ 80 (d := dOf ("_law_sorted", none) "_law_sorted" "_law_sorted" s_L_sorted) rfl) (c.fact 70 (f := .glo "_law_sorted") rfl)) c_L_less
  have c_L_value : C8.Cal P w K mg base 38 "_law_value" (spP K 2 (preValL 3)) [] := ok_L_value W (df_of X G (c.def_ 86 (d := dOf ("_law_value", none) "_law_value" "_law_value" s_L_value) rfl) (c.fact 76 (f := .glo "_law_value") rfl)) c_L_sum c_L_product c_L_sorted 3
  have c_L_at_ends : C8.Cal P w K mg base 33 "_law_at_ends" (spAtEnds K) [] := ok_L_at_ends W (df_of X G (c.def_ 89 (d := dOf ("_law_at_ends", none) "_law_at_ends" "_law_at_ends" s_L_at_ends) rfl) (c.fact 79 (f := .glo "_law_at_ends") rfl))
  have c_L_corner : C8.Cal P w K mg base 39 "_law_corner" (spCorner K) [] := ok_L_corner W (df_of X G (c.def_ 90 (d := dOf ("_law_corner", none) "_law_corner" "_law_corner" s_L_corner) rfl) (c.fact 80 (f := .glo "_law_corner") rfl)) c_L_value c_L_at_ends
  have c_L_later : C8.Cal P w K mg base 33 "_law_later" (spLaterLw K) [] := ok_L_later W (df_of X G (c.def_ 95 (d := dOf ("_law_later", none) "_law_later" "_law_later" s_L_later) rfl) (c.fact 85 (f := .glo "_law_later") rfl))
  have c_L_bids : C8.Cal P w K mg base 33 "_law_bids" (spBidsL K) [] := ok_L_bids W (df_of X G (c.def_ 93 (d := dOf ("_law_bids", none) "_law_bids" "_law_bids" s_L_bids) rfl) (c.fact 83 (f := .glo "_law_bids") rfl))
  have c_L_by_size : C8.Cal P w K mg base 33 "_law_by_size" (spBySize K) [] := ok_L_by_size W (df_of X G (c.def_ 88 (d := dOf ("_law_by_size", none) "_law_by_size" "_law_by_size" s_L_by_size) rfl) (c.fact 78 (f := .glo "_law_by_size") rfl))
  have c_L_lots : C8.Cal P w K mg base 34 "_law_lots" (spLotsL K) [] := ok_L_lots W (df_of X G (c.def_ 87 (d := dOf ("_law_lots", none) "_law_lots" "_law_lots" s_L_lots) rfl) (c.fact 77 (f := .glo "_law_lots") rfl)) c_L_by_size
  have c_L_outcome : C8.Cal P w K mg base 40 "_law_outcome" (spOutL K) [] := ok_L_outcome W (df_of X G (c.def_ 91 (d := dOf ("_law_outcome", none) "_law_outcome" "_law_outcome" s_L_outcome) rfl) (c.fact 81 (f := .glo "_law_outcome") rfl)) c_L_lots c_L_sorted c_L_corner
  have c_L_left : C8.Cal P w K mg base 39 "_law_left" (spLeftL K) [] := ok_L_left W (df_of X G (c.def_ 94 (d := dOf ("_law_left", none) "_law_left" "_law_left" s_L_left) rfl) (c.fact 84 (f := .glo "_law_left") rfl)) c_L_sorted c_L_value
  have c_L_near : C8.Cal P w K mg base 40 "_law_near" (spNearL K) [] := ok_L_near W (df_of X G (c.def_ 96 (d := dOf ("_law_near", none) "_law_near" "_law_near" s_L_near) rfl) (c.fact 86 (f := .glo "_law_near") rfl)) c_L_left c_L_bids c_L_later c_L_far
  have c_L_draw : C8.Cal P w K mg base 33 "_law_draw" (spDraw K) [] := ok_L_draw W (df_of X G (c.def_ 74 (d := dOf ("_law_draw", none) "_law_draw" "_law_draw" s_L_draw) rfl) (c.fact 64 (f := .glo "_law_draw") rfl))
  have c_L_some : C8.Cal P w K mg base 34 "_law_some" (spSome K) [] := ok_L_some W (df_of X G (c.def_ 75 (d := dOf ("_law_some", none) "_law_some" "_law_some" s_L_some) rfl) (c.fact 65 (f := .glo "_law_some") rfl)) c_L_draw
  have c_L_number : C8.Cal P w K mg base 34 "_law_number" (spNum K) [] := ok_L_number W (df_of X G (c.def_ 82 (d := dOf ("_law_number", none) "_law_number" "_law_number" s_L_number) rfl) (c.fact 72 (f := .glo "_law_number") rfl)) c_L_draw c_L_lowest
  have c_L_numbers : C8.Cal P w K mg base 35 "_law_numbers" (spNums K) [] := ok_L_numbers W (df_of X G (c.def_ 83 (d := dOf ("_law_numbers", none) "_law_numbers" "_law_numbers" s_L_numbers) rfl) (c.fact 73 (f := .glo "_law_numbers") rfl)) c_L_number
  have c_L_term : C8.Cal P w K mg base 39 "_law_term" (spTerm K 3) [] := ok_L_term W (df_of X G (c.def_ 84 (d := dOf ("_law_term", none) "_law_term" "_law_term" s_L_term) rfl) (c.fact 74 (f := .glo "_law_term") rfl)) c_L_draw c_L_number c_L_sorted 3
  have c_L_small : C8.Cal P w K mg base 40 "_law_small" (spSmall K) [] := ok_L_small W (df_of X G (c.def_ 85 (d := dOf ("_law_small", none) "_law_small" "_law_small" s_L_small) rfl) (c.fact 75 (f := .glo "_law_small") rfl)) c_L_draw c_L_term
  have c_L_schedule : C8.Cal P w K mg base 34 "_law_schedule" (spSched K) [] := ok_L_schedule W (df_of X G (c.def_ 92 (d := dOf ("_law_schedule", none) "_law_schedule" "_law_schedule" s_L_schedule) rfl) (c.fact 82 (f := .glo "_law_schedule") rfl)) c_L_draw
  have c_are_parts : C8.Cal P w K mg base 33 "are_parts" (spParts8 K) [] := ok_are_parts W (df_of X G (c.def_ 66 (d := dOf ("are_parts", none) "are_parts" "are_parts" s_are_parts) rfl) (c.fact 57 (f := .glo "are_parts") rfl))
  have c_is_weighted : C8.Cal P w K mg base 37 "is_weighted" (spWeighted K) [] := ok_is_weighted W (df_of X G (c.def_ 67 (d := dOf ("is_weighted", none) "is_weighted" "is_weighted" s_is_weighted) rfl) (c.fact 58 (f := .glo "is_weighted") rfl)) c_is_within
  have c_is_bound : C8.Cal P w K mg base 38 "is_bound" (spBound K) [] := ok_is_bound W (df_of X G (c.def_ 68 (d := dOf ("is_bound", none) "is_bound" "is_bound" s_is_bound) rfl) (c.fact 59 (f := .glo "is_bound") rfl)) c_is_number c_is_less
  have c_parts_told : C8.Cal P w K mg base 39 "parts_told" (spPartsT K) [] := ok_parts_told W (df_of X G (c.def_ 69 (d := dOf ("parts_told", none) "parts_told" "parts_told" s_parts_told) rfl) (c.fact 60 (f := .glo "parts_told") rfl)) c_are_parts c_is_weighted c_is_within c_is_bound
  have c_is_leaf : C8.Cal P w K mg base 38 "is_leaf" (spLeaf K) [] := ok_is_leaf W (df_of X G (c.def_ 70 (d := dOf ("is_leaf", none) "is_leaf" "is_leaf" s_is_leaf) rfl) (c.fact 61 (f := .glo "is_leaf") rfl)) c_is_within c_is_number
  have c_terms_told : C8.Cal P w K mg base 43 "terms_told" (spTold K 3) [] := ok_terms_told W (df_of X G (c.def_ 71 (d := dOf ("terms_told", none) "terms_told" "terms_told" s_terms_told) rfl) (c.fact 62 (f := .glo "terms_told") rfl)) c_is_leaf c_parts_told 3
  have k_Rule : C8.Mak P w K mg base 44 "Rule" (He.ga K "Rule") (spRuleI K (He.ga K "Rule")) [] := ok_Rule_init W R (di_of (x := "Rule") X G (c.def_ 72 (d := dOf ("Rule", some "__init__") "__init__" "Rule.__init__" s_Rule_init) rfl) (c.fact 118 (f := .mkr "Rule") rfl) (c.fact 91 (f := .glo "Rule") rfl)) c_is_within c_terms_told
  have m_is_over : C8.Met P w K mg base 33 (He.ga K "Sitting") "is_over" (spOverM K (He.ga K "Sitting") (He.ga K "Rule")) [] := ok_is_over W S (dm_of (x := "Sitting") (c.def_ 58 (d := dOf ("Sitting", some "is_over") "is_over" "Sitting.is_over" s_Sitting_is_over) rfl) (c.fact 125 (f := .meth "Sitting" "is_over") rfl))
  have m_speaker : C8.Met P w K mg base 34 (He.ga K "Sitting") "speaker" (spSpk K (He.ga K "Sitting") (He.ga K "Rule")) [] := ok_speaker W S (dm_of (x := "Sitting") (c.def_ 59 (d := dOf ("Sitting", some "speaker") "speaker" "Sitting.speaker" s_Sitting_speaker) rfl) (c.fact 126 (f := .meth "Sitting" "speaker") rfl)) m_is_over
  have m_play : C8.Met P w K mg base 33 (He.ga K "Sitting") "play" (spPlay K (He.ga K "Sitting") (He.ga K "Rule")) [] := ok_play W S (dm_of (x := "Sitting") (c.def_ 61 (d := dOf ("Sitting", some "play") "play" "Sitting.play" s_Sitting_play) rfl) (c.fact 128 (f := .meth "Sitting" "play") rfl))
  have m_bids : C8.Met P w K mg base 34 (He.ga K "Sitting") "bids" (spBidsM K (He.ga K "Sitting") (He.ga K "Rule")) [] := ok_bids W S (dm_of (x := "Sitting") (c.def_ 62 (d := dOf ("Sitting", some "bids") "bids" "Sitting.bids" s_Sitting_bids) rfl) (c.fact 129 (f := .meth "Sitting" "bids") rfl)) c_bids_of
  have m_foreseen : C8.Met P w K mg base 45 (He.ga K "Sitting") "foreseen" (spForeM K (He.ga K "Sitting") (He.ga K "Rule")) [] := ok_foreseen W S (dm_of (x := "Sitting") (c.def_ 63 (d := dOf ("Sitting", some "foreseen") "foreseen" "Sitting.foreseen" s_Sitting_foreseen) rfl) (c.fact 130 (f := .meth "Sitting" "foreseen") rfl)) c_foreseen_behind
  have m_best : C8.Met P w K mg base 49 (He.ga K "Sitting") "best" (spBestM K (He.ga K "Sitting") (He.ga K "Rule")) [] := ok_best W S (dm_of (x := "Sitting") (c.def_ 64 (d := dOf ("Sitting", some "best") "best" "Sitting.best" s_Sitting_best) rfl) (c.fact 131 (f := .meth "Sitting" "best") rfl)) m_is_over c_best_ends
  have m_told : C8.Met P w K mg base 42 (He.ga K "Sitting") "told" (spToldM K (He.ga K "Sitting") (He.ga K "Rule")) [] := ok_told W R S (dm_of (x := "Sitting") (c.def_ 65 (d := dOf ("Sitting", some "told") "told" "Sitting.told" s_Sitting_told) rfl) (c.fact 132 (f := .meth "Sitting" "told") rfl)) m_bids c_value_of
  have m_bid : C8.Met P w K mg base 39 (He.ga K "Sitting") "bid" (spBidM K (He.ga K "Sitting") (He.ga K "Rule")) [] := ok_bid W S (dm_of (x := "Sitting") (c.def_ 60 (d := dOf ("Sitting", some "bid") "bid" "Sitting.bid" s_Sitting_bid) rfl) (c.fact 127 (f := .meth "Sitting" "bid") rfl)) m_is_over c_check_number
  have k_Sitting : C8.Mak P w K mg base 40 "Sitting" (He.ga K "Sitting") (spSitI K (He.ga K "Sitting") (He.ga K "Rule")) [] := ok_Sitting_init W S (di_of (x := "Sitting") X G (c.def_ 57 (d := dOf ("Sitting", some "__init__") "__init__" "Sitting.__init__" s_Sitting_init) rfl) (c.fact 117 (f := .mkr "Sitting") rfl) (c.fact 90 (f := .glo "Sitting") rfl)) c_check_wishes c_check_schedule
  have c_L_is_account : C8.Cal P w K mg base 46 "_law_is_account" (spAcct K (He.ga K "Sitting") (He.ga K "Rule")) [] := ok_L_is_account W S (df_of X G (c.def_ 98 (d := dOf ("_law_is_account", none) "_law_is_account" "_law_is_account" s_L_is_account) rfl) (c.fact 88 (f := .glo "_law_is_account") rfl)) c_L_bids c_L_value c_L_left c_L_later m_speaker m_play m_bids m_told m_foreseen
  have c_L_is_best : C8.Cal P w K mg base 41 "_law_is_best" (spIsBest K) [] := ok_L_is_best W (df_of X G (c.def_ 97 (d := dOf ("_law_is_best", none) "_law_is_best" "_law_is_best" s_L_is_best) rfl) (c.fact 87 (f := .glo "_law_is_best") rfl)) c_L_near c_L_number c_L_product c_L_sum c_L_less
  have c_L_dice : C8.Cal P w K mg base 33 "_law_dice" (spMkDice K) [] := ok_L_dice W (df_of X G (c.def_ 73 (d := dOf ("_law_dice", none) "_law_dice" "_law_dice" s_L_dice) rfl) (c.fact 63 (f := .glo "_law_dice") rfl))
  exact ok_law W R S FL c_L_dice c_L_draw c_L_small c_L_numbers c_L_schedule k_Rule k_Sitting c_L_is_account m_best c_L_is_best m_play c_L_some c_L_number c_L_product c_L_sum m_bid m_told c_L_outcome
end
end Cb
set_option Elab.async false
set_option linter.all false
set_option maxRecDepth 100000
set_option maxHeartbeats 4000000
/-! the end -/
namespace Cb
open PySem PySem.Spec PyProof.Rows L2
theorem law_end {q : Program} {loose : List Str} {XP : (Str → Option Value) → Heap → Prop} {YP : World → Heap → Prop} {d : DefRec}
    (hn : (PySem.Challenge.rw_cornerbids_k82_whole_sittings_by_own_acc).most = some 63) (hdf : d.params.defaults = []) (hd : d.name = ("law" : Str)) (hi : importsNone q = true) (ht : (PySem.Challenge.rw_cornerbids_k82_whole_sittings_by_own_acc).prog.given.tree = none)
    (hY : ∀ w h, YP w h → ∃ K : PySem.W.Frag, K.In h ∧ He.SaysD fa fn K ∧ ex K = true) :
    PySem.W.WalkO q loose XP YP (PySem.Challenge.rw_cornerbids_k82_whole_sittings_by_own_acc).row.toRowW d [] (fun f vs => PySem.call f vs) := by
  refine Att.attach_call hn hdf fun w s0 s1 mg mb fl o pm cd doc a vs ns Gr Yw _ _ _ hmg hob hin hle hge => ?_
  obtain ⟨K, KX, c, e⟩ := hY w _ Yw
  rw [hd] at hmg
  have hseer := Gr.T.seer hi
  obtain ⟨fd, FL⟩ := c.def_ 99 (d := dOf ("law", none) "law" "law" s_law) rfl
  have hfl := hmg.symm.trans (He.glo_ok KX Gr.T.g (c.fact 89 (f := .glo "law") rfl))
  cases hfl
  have hx : exS K = true := by
    unfold ex at e
    simp only [Bool.and_eq_true] at e
    exact e.2
  refine L2.law_call (K := K) (k := 51) (CX := CX0) (sp := spLaw K) (x := "_law_script") (fd := fd) KX Gr.T.g Gr.T.b Gr.T.builtins Gr.T.nolimit hge hob hin (Nat.le_trans hle (by decide)) ⟨rfl, by decide, by decide⟩
    (fun base Kb _ => law_all KX Gr.T.g c e ht (seer_move KX Kb hseer hx) FL) (fun s u => FunD.bindsA (ps := p_law) FL (fun _ _ _ _ _ _ us hl => match us, hl with | [_], _ => rfl) s [u] rfl) (fun H _ hS => ⟨a, ns, rfl, hS, hle, fun _ => rfl⟩) fun _ _ _ z => z
end Cb
open PySem PySem.W PySem.Calls PyProof.Rows
theorem PySem.Challenge.cw_cornerbids_k82_whole_sittings_by_own_acc_holds : PySem.Challenge.rw_cornerbids_k82_whole_sittings_by_own_acc.Holds := by
  w_on; o_law
  refine HandSHeadRun.head_any (r := OpenLaw.row PySem.Challenge.rw_cornerbids_k82_whole_sittings_by_own_acc) (q := view (OpenLaw.row PySem.Challenge.rw_cornerbids_k82_whole_sittings_by_own_acc).prog [118]) (H := Cb.hk) (ob := Cb.ob) (M := 6000) (loose := Cb.names) (d := HandSHeadRun.topDef (OpenLaw.row PySem.Challenge.rw_cornerbids_k82_whole_sittings_by_own_acc).prog 118) (kwd := []) Cb.ob_eq
    (by kernel_rfl) (fun s => by kernel_rfl) Cb.run (by kernel_rfl) (by kernel_rfl) (by kernel_rfl) (by rfl) (by first | assumption | decide +kernel) (by decide +kernel) ⟨rfl, rfl, rfl, rfl, rfl, by decide +kernel⟩ ?hw ?hc
  case hw => w_witness2
  case hc => exact Cb.law_end rfl (by kernel_rfl) (by kernel_rfl) (by kernel_rfl) (by kernel_rfl) fun w h y => y
